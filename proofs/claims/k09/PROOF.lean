import PyProof.Rows.All
import Wide.All
import OpenK.AllK
import Wide.FinOn
import HandS.ForMost
import HandS.Wide
import HandS.WideMore
import HandS.TupAny
import HandS.TupMul
import HandS.Style
import HandS.Flow
import HandS.Exc
import HandS.ExcOwn
import HandS.WordsExc
import HandS.TryOnly
import HandS.Defaults
import HandS.CallSlots
import HandS.IsInst
import HandS.RaiseMore
import KE.KStateDown
import HandS.Head0
import HandS.Head1
import HandS.Head2
import HandS.HeadEnd
import HandS.HeadHook1
import HandS.HeadHook2
import KE.GoesEnum
import HandS.Walk
import HandS.Rev
import HandS.Zip
import KE.KUnpackStar
import HandS.ExcValue
import HandS.ExcIs
import PySem.Challenge.RW_manyroads_k09_sums_and_differences
set_option Elab.async false
set_option linter.all false
set_option maxRecDepth 100000
set_option maxHeartbeats 4000000
/-! xs[::-1], t[::-1]; tuple * k for any k; getItem of a list by value -/
namespace MR
open PySem PySem.Spec PyProof.Rows HT
section
variable {prog : Program} {w : World} {A : Around} {E : Value → Shared → Prop} {s : Shared}
theorem sliceApplied_rev {sl : Addr} {vl vu vs : Value} {n : Nat} {Q : Int × Int × Nat → Shared → Prop} (hs : s.heap.IsSliceOf sl vl vu vs) (pl : IsPart vl none) (pu : IsPart vu none) (ps : IsPart vs (some (-1)))
    (h : Q ((n : Int) - 1, -1, n) s) : wpAny (model prog w) A (Builtin.Slice.sliceApplied (.ref sl) (pure (n : Int))) Q E s := by
  have ⟨_, e1, _, e2⟩ := hs
  have fld : ∀ {x : Value} {j : Nat} {R : Value → Shared → Prop}, #[vl, vu, vs][j]? = some x → R x s → wpAny (model prog w) A (field (.ref sl) j) R E s := fun g r => wpAny_field e1 e2 g r
  unfold Builtin.Slice.sliceApplied
  unfold Builtin.Slice.sliceFields
  refine wpAny_bind (wpAny_bind (fld (x := vl) rfl (wpAny_bind (fld (x := vu) rfl (wpAny_bind (fld (x := vs) rfl (wpAny_pure (wpAny_bind (slicePart_ ps ?_)))))))))
  show wpAny _ _ (if ((-1 : Int) == 0) = true then _ else _) _ _ s
  rw [if_neg (by decide)]
  refine wpAny_bind (slicePart_ pl ?_)
  refine wpAny_bind (slicePart_ pu (wpAny_bind (wpAny_pure ?_)))
  have e1 : Builtin.Slice.sliceAdjust none none (-1) (n : Int) = ((n : Int) - 1, -1) := rfl
  have e2 : Builtin.Slice.slicePlaces ((n : Int) - 1) (-1) (-1) = n := by
    unfold Builtin.Slice.slicePlaces
    rw [if_neg (by decide)]
    by_cases c : (n : Int) - 1 > -1
    · rw [if_pos c]
      have hd : (- -1 : Int) = 1 := by decide
      have : ((n : Int) - 1 - -1 - 1) / (- -1) = (n : Int) - 1 := by
        rw [hd]
        omega
      rw [this]
      omega
    · rw [if_neg c]
      omega
  show wpAny _ _ (match Builtin.Slice.sliceAdjust none none (-1) (n : Int) with | (lo, hi) => pure (lo, (-1 : Int), Builtin.Slice.slicePlaces lo hi (-1))) _ _ s
  rw [e1]
  show wpAny _ _ (pure ((n : Int) - 1, (-1 : Int), Builtin.Slice.slicePlaces ((n : Int) - 1) (-1) (-1))) _ _ s
  rw [e2]
  exact wpAny_pure h
theorem fm_some {α β : Type} {f : α → Option β} {g : α → β} : ∀ {l : List α}, (∀ x ∈ l, f x = some (g x)) → l.filterMap f = l.map g
  | [], _ => rfl
  | a :: l, h => by
    rw [List.filterMap_cons, h a (List.mem_cons_self ..), List.map_cons, fm_some fun x hx => h x (List.mem_cons_of_mem _ hx)]
theorem pick_rev (xs : Array Value) : ((List.range xs.size).filterMap fun (m : Nat) => xs[(((xs.size : Nat) : Int) - 1 + (m : Int) * -1).toNat]?).toArray = xs.toList.reverse.toArray := by
  congr 1
  refine List.ext_getElem? fun i => ?_
  have e : (List.range xs.size).filterMap (fun (m : Nat) => xs[(((xs.size : Nat) : Int) - 1 + (m : Int) * -1).toNat]?) = (List.range xs.size).map (fun m => xs.toList.reverse.getD m Value.none) := by
    refine fm_some fun m hm => ?_
    have hm' := List.mem_range.mp hm
    have e1 : (((xs.size : Nat) : Int) - 1 + (m : Int) * -1).toNat = xs.size - 1 - m := by omega
    rw [e1]
    have h1 : xs.size - 1 - m < xs.size := by omega
    have h2 : m < xs.toList.reverse.length := by simp; omega
    rw [Array.getElem?_eq_getElem h1]
    rw [List.getD_eq_getElem?_getD, List.getElem?_eq_getElem h2, Option.getD_some, List.getElem_reverse]
    simp
  rw [e, List.getElem?_map]
  by_cases hi : i < xs.size
  · rw [List.getElem?_range hi]
    have h2 : i < xs.toList.reverse.length := by simp; omega
    simp only [Option.map_some]
    rw [List.getD_eq_getElem?_getD, List.getElem?_eq_getElem h2, Option.getD_some]
  · rw [List.getElem?_eq_none (by simp; omega), List.getElem?_eq_none (by simp; omega)]
    rfl
theorem getItem_tuple_rev {t sl : Addr} {items : Array Value} {vl vu vs : Value} {Q : Value → Shared → Prop} (ht : IsTup s.heap t items) (hs : s.heap.IsSliceOf sl vl vu vs) (pl : IsPart vl none) (pu : IsPart vu none) (ps : IsPart vs (some (-1)))
    (h : Q (.ref s.heap.objs.size) { s with heap := s.heap.push { cls := .type "tuple", data := .seq items.toList.reverse.toArray } }) (hsz : items.size ≤ sizeLine) : wpAny (model prog w) A (getItem (.ref t) (.ref sl)) Q E s := by
  have room : sizeOk (.seq items.toList.reverse.toArray) := by
    show items.toList.reverse.toArray.size ≤ sizeLine
    simpa using hsz
  have ⟨so, g1, g2, _⟩ := hs
  have isSl : s.TypeIs (.ref sl) "slice" := ⟨so, g1, g2⟩
  have neq : ¬ (((((items.size : Nat) : Int) - 1) == 0 && (-1 : Int) == 1 && items.size == items.size) = true) := fun q => by
    simp at q
  unfold getItem
  first
    | refine wpAny_bind (wpAny_sequenceKey ht.typeIs (by decide) ?_)
    | (refine wpAny_holding ?_; refine wpAny_bind (wpAny_sequenceKey ht.typeIs (by decide) ?_))
  have inner : ∀ {R : Option Value → Shared → Prop}, R (some (.ref s.heap.objs.size)) { s with heap := s.heap.push { cls := .type "tuple", data := .seq items.toList.reverse.toArray } } →
      wpAny (model prog w) A (callSpecial? (.ref t) (Str.ofString "__getitem__") [.ref sl] []) R E s := fun hR => by
    refine wpAny_callSpecial?_slot ht.typeIs PyProof.Rows.slot_tuple_getitem (wpAny_call_entry PyProof.Rows.slot_tuple_getitem ht.typeIs entry_tuple_getitem ?_ (args_tuple_getitem _ _))
    show wpAny _ _ (Builtin.Tuple.tupleItemsOf (.ref t) >>= _) _ _ s
    refine wpAny_bind (tupleItemsOf_ ht (wpAny_bind (wpAny_typeOf isSl ?_)))
    rw [if_pos (by decide)]
    refine wpAny_bind (sliceApplied_rev hs pl pu ps ?_)
    show wpAny _ _ (if ((((items.size : Nat) : Int) - 1) == 0 && (-1 : Int) == 1 && items.size == items.size) = true then _ else _) _ _ s
    rw [if_neg neq, pick_rev]
    first
      | exact wpAny_bind (wpAny_bind (m := Builtin.Tuple.tupleExact _) (wpAny_newObj_type (wpAny_pure (wpAny_pure ⟨_, rfl, hR⟩)) room))
      | exact wpAny_bind (m := Builtin.Tuple.tupleExact _) (wpAny_newObj_type (wpAny_pure ⟨_, rfl, hR⟩) room)
      | exact wpAny_bind (m := Builtin.Tuple.tupleExact _) (wpAny_newObj_type (wpAny_bind (wpAny_pure (wpAny_pure ⟨_, rfl, hR⟩))) room)
  first
    | exact wpAny_bind (inner (wpAny_pure h))
    | exact inner (wpAny_pure h)
    | exact wpAny_bind (inner h)
end
end MR
namespace MR
open PySem PySem.Spec L2
section
variable {X : Cx}
def rRev (K : PySem.W.Frag) : V → Hp → VK → Prop := fun x H Q => ∃ a xs, x = .ref a ∧
  ((SqT K H a xs ∧ ∀ p, H p = none → Q (.ref p) (upd H p (.tup xs.reverse))) ∨ (SqL K H a xs ∧ ∀ p, H p = none → Q (.ref p) (upd H p (.lst xs.reverse))))
/-- e[::-1], a tuple's or a list's -/
theorem pe_rev {e : Expr} {te : TE} {k : Nat} {p1 p2 p3 pos : Pos} (he : PE X e te) : PE X (.Subscript e (.Slice none none (some (.UnaryOp .USub (.Constant (.int 1) k p1) p2)) p3) pos) (tUn (rRev X.K) te) := ⟨fun pins s σ H Q I h => by
  have minus : PO X (some (.UnaryOp .USub (.Constant (.int 1) k p1) p2)) (tPart (tUn (rU fun i => .int (-i)) (tC (.int 1)))) := po_some (pe_un un_neg pe_int)
  refine PyProof.Rows.Subscript_ (thn (he.run pins s σ H _ I h) ?_)
  rintro v s1 ⟨x, H1, I1, r1, a, xs, rfl, q1⟩
  cases r1
  refine wpAny_Slice (thn (po_none.run pins s1 σ H1 (fun o H2 => o = none ∧ H2 = H1) I1 ⟨rfl, rfl⟩) ?_)
  rintro vl s2 ⟨_, _, I2, pl, rfl, rfl⟩
  refine thn (po_none.run pins s2 σ _ (fun o H3 => o = none ∧ H3 = _) I2 ⟨rfl, rfl⟩) ?_
  rintro vu s3 ⟨_, _, I3, pu, rfl, rfl⟩
  refine thn (minus.run pins s3 σ _ (fun o H4 => o = some (-1) ∧ H4 = _) I3 ⟨1, rfl, -1, rfl, rfl, rfl⟩) ?_
  rintro vs s4 ⟨_, H4, I4, ps, rfl, rfl⟩
  have isS := Heap.IsSliceOf.new s4.heap vl vu vs
  have I5 := I4.kept (h' := s4.heap.push { cls := .type "slice", data := .fields #[vl, vu, vs] }) (t' := s4.toks) fun b ob q => Heap.get?_push_of_some _ q
  refine (show wpAny (model X.prog X.w) X.A (PyProof.Rows.subscriptTail e (.Slice none none (some (.UnaryOp .USub (.Constant (.int 1) k p1) p2)) p3) (.ref a) (.ref s4.heap.objs.size)) (EP X pins σ Q) X.xe _ from ?_)
  rcases q1 with ⟨hx, q⟩ | ⟨hx, q⟩
  · obtain ⟨its, r, ht, hz⟩ := I5.tuple hx
    have hlen := r.length
    refine PyProof.Rows.tail_any (ops := [.ref a, .ref s4.heap.objs.size]) ht.typeIs PyProof.Rows.slot_tuple_getitem.lookup (getItem_tuple_rev ht isS pl pu ps ?_ (by simpa [← hlen] using hz)) (by with_unfolding_all rfl)
    refine ⟨.ref _, _, I5.laid (t' := s4.toks) (o := .tup xs.reverse) (fun b ob q => Heap.get?_push_of_some _ q) (Nat.le_refl _) ?_, rfl, q _ (I5.hok.fresh (Nat.le_refl _))⟩
    exact ⟨by simpa using hz, _, r.reverse, PyProof.Rows.IsTup.new _ _⟩
  · obtain ⟨its, r, ht, hz⟩ := I5.list hx
    have hlen := r.length
    refine PyProof.Rows.tail_any (ops := [.ref a, .ref s4.heap.objs.size]) ht.isList.typeIs PySem.slot_list_getitem.lookup (wpAny_getItem_list_slice ht.isList isS pl pu ps (by decide) ?_ (by simpa [← hlen] using hz)) (by with_unfolding_all rfl)
    rw [PySem.W.krv_pick]
    refine ⟨.ref _, _, I5.laid (t' := s4.toks) (o := .lst xs.reverse) (fun b ob q => Heap.get?_push_of_some _ q) (Nat.le_refl _) ?_, rfl, q _ (I5.hok.fresh (Nat.le_refl _))⟩
    exact ⟨by simpa using hz, _, 0, r.reverse, Heap.get?_push_size _ rfl⟩⟩
end
end MR
namespace MR
open PySem PySem.Spec L2
/-- the tuple's object as it stands -/
abbrev tupAt (h : Heap) (l : Addr) (items : Array Value) (n : Nat) (dd : Option Addr) (sl : Array (Option Value)) : Prop :=
  h.get? l = some { cls := .type "tuple", dict := dd, data := .seq items n, slots := sl }
section
open PyProof.Rows
variable {l : Addr} {items : Array Value} {n : Nat} {dd : Option Addr} {sl : Array (Option Value)} {x : Int} {u : Tok}
/-- none, or once: the tuple itself -/
theorem mul_once (c0 : (decide (x < -(2 ^ 63)) || decide (x ≥ 2 ^ 63)) = false) (c1 : (items.isEmpty || x == 1) = true) :
    Meets (Builtin.«tuple.__mul__» ⟨[.ref l, .int x u], []⟩) (fun _ R s => tupAt s.heap l items n dd sl ∧ R (.ok (.ret (Value.ref l))) s) := by
  refine .of_wp fun prog w A R s h => ?_
  cases s
  have ⟨hl, h⟩ := h
  have f1 := AutoSeq1.idx_int
  have n0 := decide_eq_false (p := (decide (x < -(2 ^ 63)) || decide (x ≥ 2 ^ 63)) = true) (fun z => by rw [c0] at z; cases z)
  wp_walk using wpAny_loadPart' hl
  repeat first
    | (refine wpAny_ite_false n0 ?_
       wp_walk using wpAny_loadPart' hl)
    | (refine wpAny_ite_true (decide_eq_true c1) ?_
       wp_walk using wpAny_loadPart' hl)
  exact ⟨_, rfl, h⟩
/-- less: a new empty one -/
theorem mul_less (c0 : (decide (x < -(2 ^ 63)) || decide (x ≥ 2 ^ 63)) = false) (c1 : (items.isEmpty || x == 1) = false) (c2 : (decide (x ≤ 0) || items.isEmpty) = true) :
    Meets (Builtin.«tuple.__mul__» ⟨[.ref l, .int x u], []⟩)
      (fun _ R s => tupAt s.heap l items n dd sl ∧ R (.ok (.ret (Value.ref s.heap.objs.size))) { s with heap := s.heap.push { cls := Value.type "tuple", data := Data.seq #[] }, toks := s.toks }) := by
  refine .of_wp fun prog w A R s h => ?_
  cases s
  have ⟨hl, h⟩ := h
  have f1 := AutoSeq1.idx_int
  have n0 := decide_eq_false (p := (decide (x < -(2 ^ 63)) || decide (x ≥ 2 ^ 63)) = true) (fun z => by rw [c0] at z; cases z)
  have n1 := decide_eq_false (p := (items.isEmpty || x == 1) = true) (fun z => by rw [c1] at z; cases z)
  wp_walk using wpAny_loadPart' hl
  repeat first
    | (refine wpAny_ite_false n0 ?_
       wp_walk using wpAny_loadPart' hl)
    | (refine wpAny_ite_false n1 ?_
       wp_walk using wpAny_loadPart' hl)
    | (refine wpAny_ite_true (decide_eq_true c2) ?_
       wp_walk using wpAny_loadPart' hl)
  exact ⟨_, rfl, h⟩
/-- t * k by the tuple's own method -/
theorem mul_by {prog : Program} {w : World} {A : Around} {E : Value → Shared → Prop} {s : Shared} {Q : Value → Shared → Prop} {S : Around → (Result → Shared → Prop) → Shared → Prop} (hl : tupAt s.heap l items n dd sl)
    (M : Meets (Builtin.«tuple.__mul__» ⟨[.ref l, .int x u], []⟩) S) (h : ∀ A' E', S A' (wants Q E') s) : wpAny (model prog w) A (binaryOp .Mult (.ref l) (.int x u)) Q E s := by
  have tT : s.TypeIs (.ref l) "tuple" := ⟨_, hl, rfl⟩
  have tI := typeIs_int s x u
  have byInt := fun (A' : Around) (Q' E' : Value → Shared → Prop) => call_meets (prog := prog) (w := w) (A := A') (E := E') (Q := Q') F.slot_int_rmul tI F.entry_int_rmul
    (F.args_int_rmul_2 _ _) (int_rmul_tuple x u l items n dd sl)
  have byTup := fun (A' : Around) (E' : Value → Shared → Prop) => call_meets (prog := prog) (w := w) (A := A') (E := E') (Q := Q) F.slot_tuple_mul tT F.entry_tuple_mul
    (F.args_tuple_mul_2 _ _) M (h A' E')
  exact wpAny_binaryOp_repeat_ref (T := "tuple") (U := "int") (by decide) tT (fun s' => typeIs_int s' x u)
    noFill_tuple_mul F.fills_int_mul F.slot_int_rmul repeat_tuple F.slot_int_index.lookup
    (byInt _ _ _ ⟨hl, rfl, tT, byTup _ _⟩)
end
def rRepA (K : PySem.W.Frag) : R2 := fun x y H Q => ∃ l k xs, x = .ref l ∧ y = .int k ∧ SqT K H l xs ∧ -(2 ^ 63) ≤ k ∧ k ≤ 1000 ∧ xs.length ≤ 1000 ∧
  ((xs = [] ∨ k = 1) → Q (.ref l) H) ∧ (xs ≠ [] → k ≤ 0 → ∀ p, H p = none → Q (.ref p) (upd H p (.tup []))) ∧ (xs ≠ [] → 2 ≤ k → ∀ p, H p = none → Q (.ref p) (upd H p (.tup (List.replicate k.toNat xs).flatten)))
section
variable {X : Cx}
theorem op_repA : OpR X (binaryOp .Mult) (rRepA X.K) := by
  rintro pins s σ H x y v u Q I rx ry ⟨l, k, xs, rfl, rfl, hT, b1, b2, hz, q1, q2, q3⟩
  by_cases hne : xs ≠ [] ∧ 2 ≤ k
  · exact op_repT pins s σ H _ _ v u Q I rx ry ⟨l, k, xs, rfl, rfl, hT, hne.1, hne.2, b2, hz, q3 hne.1 hne.2⟩
  cases rx
  obtain ⟨t, rfl⟩ := ry
  obtain ⟨its, r, ⟨⟨cls, dd, data, sl⟩, ho, rfl, n, rfl⟩, -⟩ := I.tuple hT
  have same : its = [] ↔ xs = [] := r.nil_iff
  have em : its.toArray.isEmpty = decide (xs = []) := by
    cases its with
    | nil => exact (decide_eq_true (same.mp rfl)).symm
    | cons a b => exact (decide_eq_false (fun e => nomatch same.mpr e)).symm
  have c0 : (decide (k < -(2 ^ 63)) || decide (k ≥ 2 ^ 63)) = false := by
    simp only [Bool.or_eq_false_iff, decide_eq_false_iff_not]
    omega
  by_cases h1 : xs = [] ∨ k = 1
  · refine mul_by ho (mul_once c0 ?_) fun _ _ => ⟨ho, .ref l, H, I, rfl, q1 h1⟩
    rw [em]
    rcases h1 with e | e
    · rw [decide_eq_true e]
      rfl
    · subst e
      simp
  · have hx : xs ≠ [] := fun e => h1 (.inl e)
    have hk : k ≤ 0 := by
      have a1 : ¬ 2 ≤ k := fun z => hne ⟨hx, z⟩
      have a2 : k ≠ 1 := fun z => h1 (.inr z)
      omega
    refine mul_by ho (mul_less c0 ?_ ?_) fun _ _ => ⟨ho, .ref s.heap.objs.size, _, I.laid (t' := s.toks) (o := .tup []) (fun b ob q => Heap.get?_push_of_some _ q) (Nat.le_refl _) ?_, rfl, q2 hx hk _ (I.hok.fresh (Nat.le_refl _))⟩
    · rw [em, decide_eq_false hx, Bool.false_or, beq_eq_false_iff_ne]
      omega
    · rw [decide_eq_true hk]
      rfl
    · exact ⟨Nat.zero_le _, [], .nil, PyProof.Rows.IsTup.new _ _⟩
end
end MR
/-! promises of defs where no repr is under way (guards = some []), calls with keywords -/
namespace MR
open PySem PySem.Spec PyProof.Rows L2
structure FnG (P : Program) (w : World) (K : PySem.W.Frag) (mg : Str → Option Value) (base : Heap) (CX : CXT) (k : Nat) (f : Addr) (fd : FuncData) (ps : List Str) (sp : Sp) : Prop where
  len : ∀ {vs H Q E}, sp vs H Q E → vs.length = ps.length
  run : ∀ {A : Around} {outer : List PySem.Env} {s : Shared} {H : Hp} {args : Args} {us : List Value} {vs : List V} {Q : VK} {E : XK}, Room k A → A.guards = some [] → Env0 P w K mg base A outer s H → BindsTo s fd args (ps.zip us) → Vals vs us → sp vs H Q E →
    codeAny (model P w) A (.call (.ref f) args)
      (CR CX outer P w H s Q E) s
section
variable {P : Program} {w : World} {K : PySem.W.Frag} {mg : Str → Option Value} {base : Heap} {CX : CXT} {k : Nat} {f : Addr} {fd : FuncData} {ps : List Str} {sp : Sp}
theorem FnG.mono {j : Nat} (F : FnG P w K mg base CX j f fd ps sp) (h : j ≤ k) : FnG P w K mg base CX k f fd ps sp := ⟨F.len, fun hr => F.run (hr.mono h)⟩
/-- a def by its body -/
theorem FunD.okG {x qual : Str} {params : Arguments} {body : List Stmt} {scope : Scope} {dvs : List V} {kws : List (Str × V)} {N : List Str} (F : FunD K x qual params body scope dvs kws f fd) (S : FnScope N ps scope) (len : ∀ {vs H Q E}, sp vs H Q E → vs.length = ps.length)
    (hb : ∀ (cdv : Value) (A : Around) (outer : List PySem.Env) (s : Shared) (H : Hp) (vs : List V) (Q : VK) (E : XK), Room k (cxOf CX P w K mg base N qual scope f cdv A outer s H E).A → (cxOf CX P w K mg base N qual scope f cdv A outer s H E).A.guards = some [] → sp vs H Q E →
      ∃ t, PSs (cxOf CX P w K mg base N qual scope f cdv A outer s H E) body t ∧ t ⟨fun _ H' => Q .non H', Q, fun _ _ => False, fun _ _ => False⟩ (start N vs) H) : FnG P w K mg base CX (k + 1) f fd ps sp := by
  obtain ⟨oc, od, dV, kV, doc, pm, an, cdv, ct, osl, rfl, lk, hcd, -, -⟩ := F.ex
  refine ⟨len, @fun A outer s H args us vs Q E hr hG e0 hbi r hsp => ?_⟩
  have kin := e0.mod.kin.keeps fun b o e => (e0.bs b o e).1
  have lim := e0.mod.nolimit.keeps fun b o e => (e0.bs b o e).1
  refine Att.call_fn kin lim lk hcd hr.depth hbi ?_ (fun s1 x => ?_) S.co S.gen S.kind
  · rw [List.all_eq_true]
    rintro ⟨n, v⟩ hy
    rcases S.par n (List.of_mem_zip hy).1 with q | q
    · simp only [q]; rfl
    · simp only [q]; rfl
  · obtain ⟨t, ht, hq⟩ := hb cdv A outer s H vs Q E (hr.deeper _) hG hsp
    have I := inv_start (CX := CX) (cd := cdv) (E := E) S hr.hd e0 (len hsp) r x
    refine wpAny_mono (ht.run [] s1 (start N vs) H _ I hq) (fun fl s' hs => ?_) fun _ _ z => z
    match fl, hs with
    | .ret u, ⟨v, _, H', J, rv, q⟩ => exact ⟨v, H', J.os, J.bare, J.base, J.hok, rv, q⟩
    | .next, ⟨_, H', J, q⟩ => exact ⟨.non, H', J.os, J.bare, J.base, J.hok, rfl, q⟩
    | .brk, ⟨_, _, _, q⟩ => exact q.elim
    | .cont, ⟨_, _, _, q⟩ => exact q.elim
end

/-! ### the law is called -/
section
variable {P : Program} {w : World} {K : PySem.W.Frag} {mg mb : Str → Option Value} {k : Nat} {fa a : Addr} {fd : FuncData} {x : Str} {sp : Sp} {s₁ : Shared} {vs : List Value} {ns : List Int}
/-- the script alone, where it is none of the module's own objects -/
def scr (K : PySem.W.Frag) (a : Addr) (vs : List Value) (ns : List Int) : Hp := fun b =>
  if b = a ∧ K.lookup a = none then some (.frz { cls := .type "list", data := .seq vs.toArray } (.lst (ns.map V.int))) else none
theorem scr_some {b : Addr} {o : HO} (h : scr K a vs ns b = some o) : b = a ∧ K.lookup a = none ∧ o = .frz { cls := .type "list", data := .seq vs.toArray } (.lst (ns.map V.int)) := by
  unfold scr at h
  split at h
  · rename_i c
    exact ⟨c.1, c.2, (Option.some.inj h).symm⟩
  · cases h
theorem scr_none {b : Addr} (h : ¬ (b = a ∧ K.lookup a = none)) : scr K a vs ns b = none := if_neg h
theorem called (KX : K.In s₁.heap) (hns : s₁.heap.Ns mainGlobals mg) (hb : s₁.heap.Ns builtinsNs mb) (hbb : ∀ x : Str, x ≠ "__name__" → mb x = bootBuiltins x) (hlim : s₁.heap.NoLimit) (hg : s₁.gens = #[])
    (ha : s₁.heap.get? a = some ⟨.type "list", none, .seq vs.toArray 0, #[]⟩) (hi : IntsAre vs ns) (hl : ns.length ≤ sizeLine) (hr : Room k callerA)
    (F : ∀ base : Heap, K.In base → base.Ns mainGlobals mg → FnG P w K mg base CX0 k fa fd [x] sp) (hbind : ∀ (s : Shared) (u : Value), BindsTo s fd ⟨[u], []⟩ [(x, u)])
    (hsp : ∀ H : Hp, SqL K H a (ns.map V.int) → sp [.ref a] H (fun v _ => v = .bl true) E0) :
    codeAny (model P w) callerA (.call (.ref fa) ⟨[.ref a], []⟩)
      (fun r s' => r = .ok (.ret (.bool true)) ∧ OldK s₁.heap s'.heap ∧ s'.os = s₁.os ∧ AllBare s'.gens) s₁ := by
  have rv := vals_ints hi
  have nodict : ∀ {b : Addr} {o : Obj} {es ep}, s₁.heap.get? b = some o → o.data = .dict es ep → scr K a vs ns b = none := fun {b o es ep} e d => scr_none fun c => by
    rw [c.1, ha] at e
    cases e
    cases d
  have up : ∀ {b : Addr} {m : Str → Option Value}, s₁.heap.Ns b m → (hidT s₁.heap (scr K a vs ns)).Ns b m := fun ⟨o, es, ep, e, d, r⟩ => ⟨o, es, ep, hidT_get e (nodict e d), d, r⟩
  have kb : K.In (hidT s₁.heap (scr K a vs ns)) := fun b o e => hidT_get (KX b o e) (scr_none fun c => by rw [c.1, c.2] at e; cases e)
  have md : Mod K mg (hidT s₁.heap (scr K a vs ns)) := ⟨kb, up hns, ⟨mb, up hb, hbb⟩, let ⟨mc, h1, h2⟩ := hlim; ⟨mc, up h1, h2⟩⟩
  have hok : HOk P w (scr K a vs ns) s₁.heap := fun b o e => by
    obtain ⟨rfl, -, rfl⟩ := scr_some e
    exact ⟨ha, by simpa using hl, vs, 0, rv, ha⟩
  have read : SqL K (scr K a vs ns) a (ns.map V.int) := by
    cases c : K.lookup a with
    | none => exact .inl (.inr ⟨_, if_pos ⟨rfl, c⟩⟩)
    | some o =>
      have e := KX a o c
      rw [ha] at e
      cases e
      exact .inr ⟨_, vs.toArray, _, c, rfl, rfl, rfl, by simpa [hi.length] using hl, by simpa using rv⟩
  have e0 : Env0 P w K mg (hidT s₁.heap (scr K a vs ns)) callerA [] s₁ (scr K a vs ns) :=
    ⟨rfl, md, fun b o e => of_hidT e, Nat.le_of_eq (hidT_size _ _), trivial, (fun b hb => nomatch hb), hok, .of_eq hg⟩
  refine codeAny_mono ((F _ kb (up hns)).run hr rfl e0 (us := [.ref a]) (vs := [V.ref a]) (hbind s₁ (.ref a)) (.cons rfl .nil) (hsp _ read)) fun r s' h => ?_
  match r, h with
  | .error e, h => exact h.elim
  | .ok .next, h => exact h.elim
  | .ok .brk, h => exact h.elim
  | .ok .cont, h => exact h.elim
  | .ok (.ret u), ⟨_, H', os, bare, un, hok', r', q⟩ =>
    subst q
    obtain rfl : u = Value.bool true := r'
    refine ⟨rfl, OldK.of_keep fun b o e => ?_, os, bare⟩
    cases c : scr K a vs ns b with
    | none => exact un.keep b o e c (by intro z; cases z) (by intro z; cases z)
    | some u =>
      obtain ⟨rfl, -, rfl⟩ := scr_some c
      have z := (hok' _ _ (un.frzs _ _ _ c)).1
      rw [ha] at e
      cases e
      exact z
end
/-- the goal that k_head leaves -/
theorem walk_to {l : PySem.W.OpenLaw} {n k : Nat} {q : Program} {loose : List Str} {XP : (Str → Option Value) → Heap → Prop} {YP : World → Heap → Prop} {d : DefRec} {K : Params → PySem.W.Frag} {sp : PySem.W.Frag → Sp} {x : Str}
    (hn : l.most = some n) (hn2 : n ≤ sizeLine) (hdf : d.params.defaults = []) (hr : Room k callerA) (hY : ∀ (w : World) (h : Heap), YP w h → (K w.params).In h)
    (F : ∀ (w : World) (mg : Str → Option Value) (fa : Addr) (h : Heap), (K w.params).In h → h.Ns mainGlobals mg → mg d.name = some (.ref fa) →
      ∃ fd : FuncData, (∀ (s : Shared) (u : Value), BindsTo s fd ⟨[u], []⟩ [(x, u)]) ∧
        ∀ base : Heap, (K w.params).In base → base.Ns mainGlobals mg → FnG l.prog w (K w.params) mg base CX0 k fa fd [x] (sp (K w.params)))
    (hsp : ∀ (K : PySem.W.Frag) (H : Hp) (a : Addr) (ns : List Int), ns.length ≤ n → SqL K H a (ns.map V.int) → sp K [.ref a] H (fun v _ => v = .bl true) E0) :
    PySem.W.WalkO q loose XP YP l.row.toRowW d [] (fun f vs => PySem.call f vs) :=
  Att.attach_call hn hdf fun w s₀ s₁ mg mb fa o pm cd doc a vs ns G Y ho hd hcd hmg hobj hints hlen hg =>
    let KX := hY w _ Y
    let ⟨_, hb, hF⟩ := F w mg fa _ KX G.T.g hmg
    called KX G.T.g G.T.b G.T.builtins G.T.nolimit hg hobj hints (Nat.le_trans hlen hn2) hr hF hb fun H hS => hsp (K w.params) H a ns hlen hS
end MR
/-! calls: positional and keyword arguments in the parameters' order -/
namespace MR
open PySem PySem.Spec PyProof.Rows L2
/-- by places -/
def sel {α : Type} (idx : List Nat) (xs : List α) (d : α) : List α := idx.map fun i => xs.getD i d
theorem sel_vals {vs : List V} {us : List Value} (r : Vals vs us) : ∀ idx : List Nat, Vals (sel idx vs .non) (sel idx us .none)
  | [] => .nil
  | i :: idx => by
    refine .cons ?_ (sel_vals r idx)
    show L2.RelV (vs.getD i .non) (us.getD i .none)
    rw [List.getD_eq_getElem?_getD, List.getD_eq_getElem?_getD]
    cases e : vs[i]? with
    | none =>
      rw [r.none_of e]
      rfl
    | some v =>
      obtain ⟨u, e2, q⟩ := r.get e
      rw [e2]
      exact q
section
variable {K : PySem.W.Frag} {x qual : Str} {params : Arguments} {body : List Stmt} {scope : Scope} {kws : List (Str × V)} {f : Addr} {fd : FuncData} {ps : List Str}
/-- how a call's arguments are bound: n positional ones, keywords ks, of the keyword-only ones ms lack -/
theorem kb_of (F : FunD K x qual params body scope [] kws f fd) (n : Nat) (ks : List Str) (ms : List (Str × V)) (idx : List Nat) (hms : ∀ q ∈ ms, q ∈ kws)
    (h : ∀ (kV doc pm : Value) (an : Option Addr) (cdv ct : Value) (D : Addr) (us mv ws : List Value), us.length = n → mv.length = ms.length → ws.length = ks.length → (kws ≠ [] → kV = .ref D) →
      KwChain D ((ms.map (·.1)).zip mv) (bindArgs (PySem.W.fnOf x qual params body scope .none kV doc pm an cdv ct) ⟨us, ks.zip ws⟩) (ps.zip (sel idx (us ++ ws ++ mv) .none))) :
    ∃ mv : List Value, KBn K fd ps n ks (fun us ws => sel idx (us ++ ws ++ mv) .none) (fun vs zs => sel idx (vs ++ zs ++ ms.map (·.2)) .non) := by
  obtain ⟨oc, od, dV, kV, doc, pm, an, cdv, ct, osl, rfl, lk, hcd, hD, hK⟩ := F.ex
  rcases hD with ⟨-, rfl⟩ | ⟨e, -⟩
  · rcases hK with rfl | ⟨D, rfl, hq⟩
    · have e : ms = [] := List.eq_nil_iff_forall_not_mem.mpr fun q hq => nomatch hms q hq
      subst e
      refine ⟨[], ⟨fun s us ws KI l1 l2 => ?_, fun r1 r2 => sel_vals ((r1.append r2).append .nil) idx⟩⟩
      exact .of_eq (h kV doc pm an cdv ct 0 us [] ws l1 rfl l2 fun z => absurd rfl z)
    · obtain ⟨mv, l0, rk, hks⟩ := kwd_vals (ms := ms) fun q hm => hq q (hms q hm)
      refine ⟨mv, ⟨fun s us ws KI l1 l2 => ?_, fun r1 r2 => sel_vals ((r1.append r2).append rk) idx⟩⟩
      exact BindsTo.of_looks fun M => KwChain.looks KI hks (h _ doc pm an cdv ct D us mv ws l1 l0 l2 fun _ => rfl)
  · exact absurd rfl e
end
section
variable {X : Cx} {CX : CXT} {k n : Nat} {f : Addr} {fd : FuncData} {ps ks : List Str} {sp : Sp} {x : Str} {p pos : Pos} {e : Expr} {es : List Expr} {kws : List Keyword} {t tk : TA} {g : List Value → List Value → List Value} {gV : List V → List V → List V} {E : L2.St → XK}
/-- n positional values, m by keywords -/
def tCallG (n m : Nat) (sp : Sp) (gV : List V → List V → List V) (E : L2.St → XK) (t tk : TA) : TE := fun σ H Q => t σ H fun vs H1 => tk σ H1 fun zs H2 => vs.length = n ∧ zs.length = m ∧ sp (gV vs zs) H2 Q (E σ)
theorem run_g {pins : List (Addr × Obj)} {σ : L2.St} {H : Hp} {s : Shared} {Q : VK} {us ws : List Value} {vs zs : List V} (F : FnG X.prog X.w X.K X.mg X.base CX k f fd ps sp) (hr : Room k X.A) (hG : X.A.guards = some [])
    (hb : KBn X.K fd ps n ks g gV) (hx : PassesAt CX X σ (E σ)) (I : Inv X pins σ H s) (r : Vals vs us) (rz : Vals zs ws) (h : vs.length = n ∧ zs.length = ks.length ∧ sp (gV vs zs) H Q (E σ)) :
    wpAny (model X.prog X.w) X.A (call (.ref f) us (ks.zip ws)) (EP X pins σ Q) X.xe s := by
  have b := hb.to s us ws I.kIn (r.length.symm.trans h.1) (rz.length.symm.trans h.2.1)
  refine wpAny_call (codeAny_mono (F.run hr hG I.env0 b (hb.rel r rz) h.2.2) fun q s' hq => ?_)
  match q, hq with
  | .error e, hq => exact hx pins H s e s' I hq
  | .ok (.ret u), hq => exact I.after hq
  | .ok .next, hq => exact hq.elim
  | .ok .brk, hq => exact hq.elim
  | .ok .cont, hq => exact hq.elim
variable (F : FnG X.prog X.w X.K X.mg X.base CX k f fd ps sp) (hr : Room k X.A) (hG : X.A.guards = some []) (hg : Gl X x) (hm : X.mg x = some (.ref f)) (hk : PySem.W.keepIn X.K (.ref f) = true) (hx : ∀ σ, PassesAt CX X σ (E σ))
include F hr hG hg hm hk hx
theorem pe_g0 (hb : KBn X.K fd ps 0 [] g gV) (hdb : (x == ("__debug__" : Str)) = false := by decide) : PE X (.Call (.Name x p) [] [] pos) (tCallG 0 0 sp gV E tNil tNil) := ⟨fun pins s σ H Q I h =>
  wpAny_Call_Name_kw (ld_glob I hg hm (PySem.W.callWith_K0 I.kIn hk (run_g F hr hG hb (hx σ) I (us := []) (ws := []) .nil .nil h)) hdb)⟩
theorem pe_g1 (hb : KBn X.K fd ps n [] g gV) (ha : PA X (e :: es) t) (hdb : (x == ("__debug__" : Str)) = false := by decide) (he : starEach (e :: es) X.env = (false, eval e X.env) :: starEach es X.env := by rfl)
    (hpl : (backTo pos (starEach es X.env)).any (·.1) = false := by rfl) : PE X (.Call (.Name x p) (e :: es) [] pos) (tCallG n 0 sp gV E t tNil) := ⟨fun pins s σ H Q I h =>
  wpAny_Call_Name_kw (ld_glob I hg hm (PySem.W.callWith_K (h₀ := X.base) I.ok.mod.kin hk (thn (ha.run pos pins s σ H _ I h) fun us s1 ⟨vs, H1, I1, r, q⟩ => ⟨I1.kIn, run_g F hr hG hb (hx σ) I1 (ws := []) r .nil q⟩) he hpl) hdb)⟩
theorem pe_g2 (hb : KBn X.K fd ps n ks g gV) (ha : PA X (e :: es) t) (hkw : PK X kws tk) (hall : (backToKw pos (keywordEach kws X.env)).all (·.1.isSome) = true := by rfl)
    (hks : (backToKw pos (keywordEach kws X.env)).filterMap (·.1) = ks := by rfl) (hdb : (x == ("__debug__" : Str)) = false := by decide) (he : starEach (e :: es) X.env = (false, eval e X.env) :: starEach es X.env := by rfl)
    (hpl : ((backTo pos (starEach (e :: es) X.env)).any (·.1) || (backToKw pos (keywordEach kws X.env)).any (·.1.isNone)) = false := by rfl) :
    PE X (.Call (.Name x p) (e :: es) kws pos) (tCallG n ks.length sp gV E t tk) := ⟨fun pins s σ H Q I h =>
  wpAny_Call_Name_kw (ld_glob I hg hm (PySem.W.callWith_KW (h₀ := X.base) I.ok.mod.kin hk hall
    (thn (ha.run pos pins s σ H _ I h) fun us s1 ⟨vs, H1, I1, r, q⟩ => thn (hkw.run pos pins s1 σ H1 _ I1 q) fun ws s2 ⟨zs, H2, I2, rz, q2⟩ => ⟨I2.kIn, by rw [hks]; exact run_g F hr hG hb (hx σ) I2 r rz q2⟩) hpl he) hdb)⟩
theorem pe_g3 (hb : KBn X.K fd ps 0 ks g gV) (hkw : PK X kws tk) (hall : (backToKw pos (keywordEach kws X.env)).all (·.1.isSome) = true := by rfl)
    (hks : (backToKw pos (keywordEach kws X.env)).filterMap (·.1) = ks := by rfl) (hdb : (x == ("__debug__" : Str)) = false := by decide)
    (hpl : ((backTo pos (starEach [] X.env)).any (·.1) || (backToKw pos (keywordEach kws X.env)).any (·.1.isNone)) = false := by rfl) :
    PE X (.Call (.Name x p) [] kws pos) (tCallG 0 ks.length sp gV E tNil tk) := ⟨fun pins s σ H Q I h =>
  wpAny_Call_Name_kw (ld_glob I hg hm (PySem.W.callWith_KW0 (h₀ := X.base) I.ok.mod.kin hk hall
    (thn (hkw.run pos pins s σ H _ I h) fun ws s2 ⟨zs, H2, I2, rz, q2⟩ => ⟨I2.kIn, by rw [hks]; exact run_g F hr hG hb (hx σ) I2 (us := []) .nil rz q2⟩) hpl) hdb)⟩
end
end MR
/-! enumerate(tuple) -/
namespace MR
open PySem PySem.Spec PyProof.Rows L2
/-- enumerate of what begins: its object -/
theorem new_enum {ob : Obj} {G : Heap → Prop} {l : Addr} (b : Begins (.ref l) ob G) {oT : Obj} :
    Meets (Builtin.«enumerate.__new__» ⟨[.type "enumerate", .ref l], []⟩) (fun _ R s => (G s.heap ∧ s.heap.get? l = some oT) ∧
      R (.ok (.ret (.ref (s.heap.push ob).objs.size))) { s with heap := (s.heap.push ob).push { cls := .type "enumerate", data := .fields #[.none, .bool false, .ref s.heap.objs.size, rawInt 0, .none, .none] } }) :=
  .of_wp fun P w A R s q => by
    obtain ⟨h0, gs, dr, tk, os⟩ := s
    obtain ⟨⟨hG, hl⟩, q⟩ := q
    have sub1 := sub_enumerate
    have it1 : ∀ {B : Around} {E : Value → Shared → Prop} {Q : Value → Shared → Prop}, Q (.ref h0.objs.size) ⟨h0.push ob, gs, dr, tk, os⟩ → wpAny (model P w) B (pyIter (.ref l)) Q E ⟨h0, gs, dr, tk, os⟩ :=
      fun z => b.iter P w _ _ ⟨h0, gs, dr, tk, os⟩ _ hG z
    wp_walk using AutoSeq1.wpAny_loadPart' hl, it1
    refine wpAny_stack_any fun st => wpAny_pure ?_
    split
    · rename_i c _ _ _ _ _
      by_cases k : (c == Value.type "enumerate") = true
      all_goals
        simp only [k]
        wp_walk using AutoSeq1.wpAny_loadPart' hl, it1
        exact ⟨_, rfl, q⟩
    · wp_walk using AutoSeq1.wpAny_loadPart' hl, it1
      exact ⟨_, rfl, q⟩
section
variable {P : Program} {w : World} {A : Around} {E : Value → Shared → Prop} {s : Shared}
theorem enum_tup {a : Addr} {its : Array Value} {Q : Value → Shared → Prop} (ht : s.heap.IsTuple a its)
    (h : ∀ h', IsEnum h' (s.heap.objs.size + 1) s.heap.objs.size 0 .none → h'.IsTupleIter s.heap.objs.size a 0 → (∀ b o, s.heap.get? b = some o → h'.get? b = some o) → Q (.ref (s.heap.objs.size + 1)) { s with heap := h' }) :
    wpAny (model P w) A (call (.type "enumerate") [.ref a]) Q E s := by
  obtain ⟨oT, ho, hrest⟩ := id ht
  refine callType_new F.called_enumerate (by decide) (F.typeCall_enumerate_1 _) (F.newCall_enumerate_1 _) (fun obj => F.args_object_init_2 obj _) F.entry_enumerate_new (new_enum (begins_tuple a its) (oT := oT)) ⟨⟨ht, ho⟩, ?_⟩
  have z1 : (s.heap.push { cls := .type "tuple_iterator", data := .fields #[.ref a, .int 0 0] }).objs.size = s.heap.objs.size + 1 := Heap.size_push ..
  show _ ∧ _
  rw [z1]
  have en : IsEnum ((s.heap.push { cls := .type "tuple_iterator", data := .fields #[.ref a, .int 0 0] }).push
      { cls := .type "enumerate", data := .fields #[.none, .bool false, .ref s.heap.objs.size, rawInt 0, .none, .none] }) (s.heap.objs.size + 1) s.heap.objs.size 0 .none := by
    have q := Heap.get?_push_size (s.heap.push { cls := .type "tuple_iterator", data := .fields #[.ref a, .int 0 0] })
      (o := { cls := .type "enumerate", data := .fields #[.none, .bool false, .ref s.heap.objs.size, rawInt 0, .none, .none] }) rfl
    rw [z1] at q
    exact q
  exact ⟨⟨_, en, rfl⟩, h _ en ⟨_, Heap.get?_push_of_some _ (Heap.get?_push_size _ rfl), rfl, rfl⟩ fun b o x => Heap.get?_push_of_some _ (Heap.get?_push_of_some _ x)⟩
end
/-- a tuple's items in new pairs -/
def Itet (K : PySem.W.Frag) (a : Addr) : It :=
  ⟨fun i H => ∃ (xs : List V) (x : V), SqT K H a xs ∧ xs[i]? = some x, fun i H v H' => ∃ t x, v = .ref t ∧ H t = none ∧ H' = upd H t (.tup [.int (i : Nat), x]) ∧ ∀ xs, SqT K H a xs → xs[i]? = some x, fun i H => ∃ xs : List V, SqT K H a xs ∧ xs.length ≤ i⟩
theorem turn_enumT {P : Program} {w : World} {K : PySem.W.Frag} {elts : List Expr} {kk : Nat} {tpos : Pos} (a e it : Addr) :
    Turn P w K (.Tuple elts kk tpos) (Itet K a) [e, it] e (fun i h => (∃ old, IsEnum h e it ((i : Nat) : Int) old) ∧ h.IsTupleIter it a i ∧ e ≠ it) where
  mem := by simp
  obj := fun i h st b hb => by
    obtain ⟨⟨old, he⟩, ⟨o, ho, hc, hd⟩, _⟩ := st
    simp only [List.mem_cons, List.not_mem_nil, or_false] at hb
    rcases hb with rfl | rfl
    · exact ⟨_, he, fun v q => nomatch q⟩
    · exact ⟨o, ho, fun v q => by rw [hd] at q; cases q⟩
  keep := fun i h h' ⟨⟨old, he⟩, hi, hne⟩ k => ⟨⟨old, k e (by simp) _ he⟩, hi.at fun o q => k it (by simp) o q, hne⟩
  item := by
    intro X hP hw hK hc i pins s σ H E I hf st hg
    subst hP hw hK
    obtain ⟨⟨old, he⟩, hit, hne⟩ := st
    obtain ⟨xs, x, hq, hx⟩ := hg
    obtain ⟨its, rv, p, hz⟩ := I.tuple hq
    have p : s.heap.IsTuple a its.toArray := p
    obtain ⟨u, hu, ru⟩ := rv.get hx
    have hel : e < s.heap.objs.size := Heap.lt_size he
    have hil : it < s.heap.objs.size := by obtain ⟨_, q, _⟩ := hit; exact Heap.lt_size q
    have n1 : a ≠ it := fun z => by
      obtain ⟨o1, g1, c1, _⟩ := id p
      obtain ⟨o2, g2, c2, _⟩ := id hit
      rw [z, g2] at g1
      cases g1
      rw [c2] at c1
      injection c1 with c1
      exact absurd c1 (by decide)
    have n2 : e ≠ a := fun z => by
      obtain ⟨o1, g1, c1, _⟩ := id p
      have g2 := he
      unfold IsEnum at g2
      rw [z, g1] at g2
      cases g2
      injection c1 with c1
      exact absurd c1 (by decide)
    have hi : i < its.toArray.size := by
      have := (List.getElem?_eq_some_iff.mp hu).1
      simpa using this
    have hh : X.A.in1.handled = none := I.ok.hd hc
    refine wpAny_pyNext_enum_itemC (Draws.tuple hh it a n1 its.toArray) he ⟨hit, p⟩ hi hne (by simp [hne, n2]) fun y h' tk hy ho st' hT hsz hk => ?_
    have ey : y = u := by
      have h1 : its.toArray[i]? = some u := by simpa using hu
      rw [h1] at hy
      exact (Option.some.inj hy).symm
    subst ey
    refine ⟨_, rfl, wpAny_letOwnedTupleGo_enum (s := { s with heap := h', toks := tk + 1 }) ho fun h2 he2 sb => ?_⟩
    have hT2 : h2.get? s.heap.objs.size = some { cls := .type "tuple", data := .seq #[.int i tk, y] } := (sb.2 _ (Nat.ne_of_gt hel)).trans hT
    have fresh : ObjOk X.prog X.w (upd H s.heap.objs.size (.tup [.int (i : Nat), x])) h2 s.heap.objs.size (.tup [.int (i : Nat), x]) :=
      ⟨by show 2 ≤ sizeLine; decide, [.int i tk, y], .cons ⟨_, rfl⟩ (.cons ru .nil), ⟨_, hT2, rfl, _, rfl⟩⟩
    have I1 : Inv X pins σ (upd H s.heap.objs.size (.tup [.int (i : Nat), x])) { s with heap := h2, toks := tk + 1 } :=
      I.turnedNew (ch := [e, it]) (fun b ob hb q => (sb.2 b (fun z => hb (by simp [z]))).trans (hk b ob (fun z => hb (by simp [z])) (fun z => hb (by simp [z])) q)) hf (Nat.le_refl _) fresh
    refine ⟨.ref s.heap.objs.size, _, I1, rfl, ⟨_, x, rfl, I.hok.fresh (Nat.le_refl _), rfl, fun ys hy => by rw [I.tuple_inj hy hq]; exact hx⟩, ⟨⟨y, ?_⟩, st'.1.at fun o q => (sb.2 it (Ne.symm hne)).trans q, hne⟩, fun b hb => ?_⟩
    · rw [show ((i + 1 : Nat) : Int) = (i : Int) + 1 by omega]
      exact he2
    · have lt : b < s.heap.objs.size := by
        simp only [List.mem_cons, List.not_mem_nil, or_false] at hb
        rcases hb with rfl | rfl
        · exact hel
        · exact hil
      rw [upd_ne (Nat.ne_of_lt lt)]
      exact (hf b hb).1
  done := by
    intro X hP hw hK hc i pins s σ H E I hf st hg
    subst hP hw hK
    obtain ⟨⟨old, he⟩, hit, hne⟩ := st
    obtain ⟨xs, hq, hx⟩ := hg
    obtain ⟨its, rv, p, hz⟩ := I.tuple hq
    have p : s.heap.IsTuple a its.toArray := p
    obtain ⟨f0, f1, f2, f3, f4, f5⟩ := hf it (by simp)
    have hl := rv.length
    unfold pyNext
    have hT : s.TypeIs (.ref e) "enumerate" := ⟨_, he, rfl⟩
    refine wpAny_bind (wpAny_attempt (wpAny_callSpecial?_slot (name := Str.ofString "__next__") hT F.slot_enumerate_next
      (wpAny_call_entry F.slot_enumerate_next hT F.entry_enumerate_next ?_ (F.args_enumerate_next_1 _))))
    show wpAny _ _ (field (.ref e) 2 >>= _) _ _ _
    refine wpAny_bind (wpAny_field he rfl (x := .ref it) rfl ?_)
    refine wpAny_bind (wpAny_nextOf_tuple_end (I.ok.hd hc) hit p (by simp; omega) fun h' x eb hx' => ?_)
    obtain ⟨o, ho, hcl⟩ := hx'
    refine wpAny_bind (wpAny_isInstance (T := "StopIteration") (b := true) ⟨o, ho, hcl⟩ isSubtype_stop ?_)
    exact wpAny_pure ⟨rfl, I.turned (t' := s.toks) (fun b o hb q => eb b o hb q) f0 f1 f3 f4 f5⟩
  self := fun A i s Q E ⟨⟨_, he⟩, _⟩ h => wpAny_pyIter_enum he h
def iEnumT (K : PySem.W.Frag) (ta : TE) : TI := fun σ H R => ta σ H fun v H1 => ∃ a xs, v = .ref a ∧ SqT K H1 a xs ∧ R (Itet K a) H1
theorem pi_enumT {X : Cx} {e : Expr} {ta : TE} {p pos tpos : Pos} {elts : List Expr} {kk : Nat} (hg : Gl X "enumerate") (hm : X.mg "enumerate" = none) (ha : PE X e ta) (hs : starEach [e] X.env = [(false, eval e X.env)] := by rfl) :
    PI X (.Tuple elts kk tpos) (.Call (.Name "enumerate" p) [e] [] pos) (iEnumT X.K ta) := by
  refine ⟨fun pins s σ H R I h => ?_⟩
  have pa : PA X [e] (tCons ta tNil) := pa_cons ha pa_nil (by rw [hs]; rfl)
  refine Call_ (ld_blt I hg hm boot_enumerate (PyProof.Rows.callWith_type1 (thn (pa.run pos pins s σ H (fun vs H1 => ∃ v, vs = [v] ∧ ∃ a xs, v = .ref a ∧ SqT X.K H1 a xs ∧ R (Itet X.K a) H1) I ?_) fun us s1 ⟨vs, H1, I1, r1, q1⟩ => ?_) hs rfl))
  · show ta σ H _
    refine cast (congrArg (ta σ H) ?_) h
    funext v H1
    exact propext ⟨fun z => ⟨v, rfl, z⟩, fun ⟨v', e, z⟩ => by cases e; exact z⟩
  obtain ⟨v, rfl, a, xs, rfl, hq, q⟩ := q1
  cases r1 with
  | cons r rr =>
    cases rr
    cases r
    obtain ⟨its, rv, p', hz⟩ := I1.tuple hq
    refine enum_tup (show s1.heap.IsTuple a its.toArray from p') fun h' he hit hk => wpAny_pyIter_enum he ?_
    have I2 : Inv X pins σ H1 { s1 with heap := h' } := I1.kept (t' := s1.toks) hk
    refine ⟨s1.heap.objs.size + 1, [s1.heap.objs.size + 1, s1.heap.objs.size], _, _, H1, rfl, I2, turn_enumT a (s1.heap.objs.size + 1) s1.heap.objs.size, ⟨⟨.none, he⟩, hit, Nat.succ_ne_self _⟩, fun b hb => ?_, q⟩
    have le : s1.heap.objs.size ≤ b := by
      simp only [List.mem_cons, List.not_mem_nil, or_false] at hb
      rcases hb with rfl | rfl
      · exact Nat.le_add_right _ _
      · exact Nat.le_refl _
    exact I1.fpOk le (I1.hok.fresh le)
theorem walk_enumT {K : PySem.W.Frag} {a : Addr} {xs : List V} : Walk (Itet K a) xs.length (fun H => SqT K H a xs) (YPair (fun i => some (.int (i : Nat))) (fun i => xs[i]?)) := by
  refine ⟨fun i _ hi q => ⟨xs, xs[i], q, by simp [hi]⟩, fun _ q => ⟨xs, q, Nat.le_refl _⟩, fun i H v H' _ q y => ?_⟩
  obtain ⟨t, x, h1, h2, h3, h4⟩ := y
  exact ⟨t, .int (i : Nat), x, h1, h2, h3, rfl, h4 xs q⟩
end MR
/-! The mirror layer: readings over plain data in the place of the heap. -/
namespace MR
open PySem PySem.Spec L2

/-- plain data -/
inductive D where
  | non | bl (b : Bool) | int (i : Int) | str (x : Str)
  | lst (xs : List D) | tup (xs : List D)
  | dct (ks : List Key) (xs : List D)
  | adr (a : Addr)
  | obj (C : Addr) (fs : List Str) (xs : List D)

mutual
inductive Rep (K : PySem.W.Frag) (B : Hp) : V → D → Prop
  | non : Rep K B .non .non
  | bl (b : Bool) : Rep K B (.bl b) (.bl b)
  | int (i : Int) : Rep K B (.int i) (.int i)
  | str (x : Str) : Rep K B (.str x) (.str x)
  | lst {a : Addr} {vs : List V} {ds : List D} : B a = some (.lst vs) → RepAll K B vs ds → Rep K B (.ref a) (.lst ds)
  | tup {a : Addr} {vs : List V} {ds : List D} : SqT K B a vs → RepAll K B vs ds → Rep K B (.ref a) (.tup ds)
  | dct {a : Addr} {kvs : List (Key × V)} {ds : List D} : B a = some (.dK kvs) → RepAll K B (kvs.map (·.2)) ds → Rep K B (.ref a) (.dct (kvs.map (·.1)) ds)
  | adr (a : Addr) : Rep K B (.ref a) (.adr a)
  | obj {a C dx : Addr} {fs : List Str} {vs : List V} {ds : List D} : B a = some (.ins C dx (fs.zip vs)) → vs.length = fs.length → RepAll K B vs ds → Rep K B (.ref a) (.obj C fs ds)
inductive RepAll (K : PySem.W.Frag) (B : Hp) : List V → List D → Prop
  | nil : RepAll K B [] []
  | cons {v : V} {vs : List V} {d : D} {ds : List D} : Rep K B v d → RepAll K B vs ds → RepAll K B (v :: vs) (d :: ds)
end

theorem Same.seqT {K : PySem.W.Frag} {H H' : Hp} {a : Addr} {xs : List V} (e : Same H H') (h : SqT K H a xs) : SqT K H' a xs := by
  rcases h with (h | ⟨o, h⟩) | h
  · exact .inl (.inl (e _ _ h))
  · exact .inl (.inr ⟨o, e _ _ h⟩)
  · exact .inr h

mutual
theorem Rep.mono {K : PySem.W.Frag} {B B' : Hp} (e : Same B B') : ∀ {v : V} {d : D}, Rep K B v d → Rep K B' v d
  | _, _, .non => .non
  | _, _, .bl b => .bl b
  | _, _, .int i => .int i
  | _, _, .str x => .str x
  | _, _, .lst h r => .lst (e _ _ h) (RepAll.mono e r)
  | _, _, .tup h r => .tup (Same.seqT e h) (RepAll.mono e r)
  | _, _, .dct h r => .dct (e _ _ h) (RepAll.mono e r)
  | _, _, .adr a => .adr a
  | _, _, .obj h l r => .obj (e _ _ h) l (RepAll.mono e r)
theorem RepAll.mono {K : PySem.W.Frag} {B B' : Hp} (e : Same B B') : ∀ {vs : List V} {ds : List D}, RepAll K B vs ds → RepAll K B' vs ds
  | _, _, .nil => .nil
  | _, _, .cons h r => .cons (Rep.mono e h) (RepAll.mono e r)
end

section
variable {K : PySem.W.Frag} {B : Hp}
theorem RepAll.length : ∀ {vs : List V} {ds : List D}, RepAll K B vs ds → vs.length = ds.length
  | _, _, .nil => rfl
  | _, _, .cons _ r => congrArg Nat.succ (RepAll.length r)
theorem RepAll.append : ∀ {vs ws : List V} {ds es : List D}, RepAll K B vs ds → RepAll K B ws es → RepAll K B (vs ++ ws) (ds ++ es)
  | _, _, _, _, .nil, s => s
  | _, _, _, _, .cons h r, s => .cons h (RepAll.append r s)
theorem RepAll.get : ∀ {vs : List V} {ds : List D} {i : Nat} {d : D}, RepAll K B vs ds → ds[i]? = some d → ∃ v, vs[i]? = some v ∧ Rep K B v d
  | _, _, _, _, .nil, e => by simp at e
  | _, _, 0, _, .cons h _, e => by
    simp only [List.getElem?_cons_zero, Option.some.injEq] at e
    subst e
    exact ⟨_, rfl, h⟩
  | _, _, i + 1, _, .cons _ r, e => by
    obtain ⟨v, a, b⟩ := RepAll.get (i := i) r (by simpa using e)
    exact ⟨v, by simpa using a, b⟩
theorem RepAll.set {v : V} {d : D} (h : Rep K B v d) : ∀ {vs : List V} {ds : List D} (i : Nat), RepAll K B vs ds → RepAll K B (vs.set i v) (ds.set i d)
  | _, _, _, .nil => .nil
  | _, _, 0, .cons _ r => .cons h r
  | _, _, i + 1, .cons q r => .cons q (RepAll.set h i r)
theorem RepAll.take : ∀ {vs : List V} {ds : List D} (n : Nat), RepAll K B vs ds → RepAll K B (vs.take n) (ds.take n)
  | _, _, 0, _ => .nil
  | _, _, _ + 1, .nil => .nil
  | _, _, n + 1, .cons h r => .cons h (RepAll.take n r)
theorem RepAll.drop : ∀ {vs : List V} {ds : List D} (n : Nat), RepAll K B vs ds → RepAll K B (vs.drop n) (ds.drop n)
  | _, _, 0, r => r
  | _, _, _ + 1, .nil => .nil
  | _, _, n + 1, .cons _ r => RepAll.drop n r
theorem RepAll.reverse : ∀ {vs : List V} {ds : List D}, RepAll K B vs ds → RepAll K B vs.reverse ds.reverse
  | _, _, .nil => .nil
  | _, _, .cons h r => by
    rw [List.reverse_cons, List.reverse_cons]
    exact (RepAll.reverse r).append (.cons h .nil)
theorem RepAll.rep {vs : List V} {ds : List D} (r : RepAll K B vs ds) : ∀ k : Nat, RepAll K B (List.replicate k vs).flatten (List.replicate k ds).flatten
  | 0 => .nil
  | k + 1 => by
    rw [List.replicate_succ, List.replicate_succ, List.flatten_cons, List.flatten_cons]
    exact r.append (RepAll.rep r k)
theorem RepAll.dropLast {vs : List V} {ds : List D} (r : RepAll K B vs ds) : RepAll K B vs.dropLast ds.dropLast := by
  rw [List.dropLast_eq_take, List.dropLast_eq_take, r.length]
  exact r.take _
theorem RepAll.ints : ∀ {ns : List Int}, RepAll K B (ns.map V.int) (ns.map D.int)
  | [] => .nil
  | n :: ns => .cons (.int n) (RepAll.ints (ns := ns))
theorem RepAll.of_ints : ∀ {vs : List V} {ns : List Int}, RepAll K B vs (ns.map D.int) → vs = ns.map V.int
  | _, [], .nil => rfl
  | _, n :: ns, .cons h r => by
    cases h
    rw [RepAll.of_ints r]
    rfl
theorem RepAll.of_bls : ∀ {vs : List V} {ns : List Bool}, RepAll K B vs (ns.map D.bl) → vs = ns.map V.bl
  | _, [], .nil => rfl
  | _, n :: ns, .cons h r => by
    cases h
    rw [RepAll.of_bls r]
    rfl
theorem RepAll.of_strs : ∀ {vs : List V} {ns : List Str}, RepAll K B vs (ns.map D.str) → vs = ns.map V.str
  | _, [], .nil => rfl
  | _, n :: ns, .cons h r => by
    cases h
    rw [RepAll.of_strs r]
    rfl
end

/-! ### the world: mutable things that defs share -/
structure Wd where
  W : Type
  foot : W → Addr → Prop
  holds : PySem.W.Frag → W → Hp → Hp → Prop
  some_ : ∀ {K ω B H a}, holds K ω B H → foot ω a → H a ≠ none
  free_ : ∀ {K ω B H a}, holds K ω B H → foot ω a → B a = none
  mono : ∀ {K ω B H B' H'}, holds K ω B H → Same B B' → (∀ a, foot ω a → H' a = H a) → (∀ a, foot ω a → B' a = none) → holds K ω B' H'

structure Hst (wd : Wd) (K : PySem.W.Frag) (F B : Hp) (ω : wd.W) (H : Hp) : Prop where
  sB : Same B H
  sF : Same F H
  dj : ∀ a o, F a = some o → B a = none
  fw : ∀ a, wd.foot ω a → F a = none
  wat : wd.holds K ω B H

inductive Ent where
  | d (x : D)
  | own (l : List D)
abbrev AEnv := List (Option Ent)

def EntOk (K : PySem.W.Frag) (F B : Hp) (s : Option (Option V)) : Ent → Prop
  | .d x => ∃ v, s = some (some v) ∧ Rep K B v x
  | .own l => ∃ p vs, s = some (some (.ref p)) ∧ F p = some (.lst vs) ∧ RepAll K B vs l

structure EnvOk (K : PySem.W.Frag) (F B : Hp) (ρ : AEnv) (σ : St) : Prop where
  len : ρ.length = σ.length
  ent : ∀ (i : Nat) (e : Ent), ρ[i]? = some (some e) → EntOk K F B σ[i]? e
  dist : ∀ (i j : Nat) (l l' : List D) (p : Addr), ρ[i]? = some (some (.own l)) → ρ[j]? = some (some (.own l')) → σ[i]? = some (some (.ref p)) → σ[j]? = some (some (.ref p)) → i = j

section
variable {K : PySem.W.Frag} {F B B' H H' : Hp} {ρ : AEnv} {σ : St} {wd : Wd} {ω : wd.W}
theorem EntOk.mono {s : Option (Option V)} {e : Ent} (h : EntOk K F B s e) (m : Same B B') : EntOk K F B' s e := by
  cases e with
  | d x =>
    obtain ⟨v, a, b⟩ := h
    exact ⟨v, a, b.mono m⟩
  | own l =>
    obtain ⟨p, vs, a, b, c⟩ := h
    exact ⟨p, vs, a, b, c.mono m⟩
theorem EnvOk.mono (h : EnvOk K F B ρ σ) (m : Same B B') : EnvOk K F B' ρ σ := ⟨h.len, fun i e q => (h.ent i e q).mono m, h.dist⟩

theorem Hst.lst (h : Hst wd K F B ω H) {p : Addr} {o : HO} (q : F p = some o ∨ B p = some o) : H p = some o := q.elim (h.sF _ _) (h.sB _ _)
theorem Or.up (m : Same B B') {p : Addr} {o : HO} (q : F p = some o ∨ B p = some o) : F p = some o ∨ B' p = some o := q.imp id (m _ _)
/-- a new object goes to the ground -/
theorem Hst.new (h : Hst wd K F B ω H) {p : Addr} {o : HO} (hp : H p = none) : Same B (upd B p o) ∧ Hst wd K F (upd B p o) ω (upd H p o) := by
  have nB : B p = none := h.sB.free hp
  have nF : F p = none := h.sF.free hp
  have nw : ¬ wd.foot ω p := fun z => h.wat |> fun w => wd.some_ w z hp
  have s1 : Same B (upd B p o) := fun b x e => by
    rw [upd_ne (ne_of_none e nB)]
    exact e
  refine ⟨s1, ⟨fun b x e => ?_, fun b x e => ?_, fun a x e => ?_, h.fw, wd.mono h.wat s1 (fun a z => ?_) (fun a z => ?_)⟩⟩
  · by_cases q : b = p
    · subst q
      rw [upd_same] at e ⊢
      exact e
    · rw [upd_ne q] at e ⊢
      exact h.sB _ _ e
  · rw [upd_ne (ne_of_none e nF)]
    exact h.sF _ _ e
  · rw [upd_ne (ne_of_none e nF)]
    exact h.dj _ _ e
  · rw [upd_ne (fun e => nw (by rw [← e]; exact z))]
  · rw [upd_ne (fun e => nw (by rw [← e]; exact z))]
    exact wd.free_ h.wat z
/-- a new object stays out of the ground -/
theorem Hst.keepOut (h : Hst wd K F B ω H) {p : Addr} {o : HO} (hp : H p = none) : Hst wd K F B ω (upd H p o) := by
  have nB : B p = none := h.sB.free hp
  have nF : F p = none := h.sF.free hp
  have nw : ¬ wd.foot ω p := fun z => wd.some_ h.wat z hp
  refine ⟨fun b x e => ?_, fun b x e => ?_, h.dj, h.fw, wd.mono h.wat (Same.refl _) (fun a z => ?_) (fun a z => wd.free_ h.wat z)⟩
  · rw [upd_ne (ne_of_none e nB)]
    exact h.sB _ _ e
  · rw [upd_ne (ne_of_none e nF)]
    exact h.sF _ _ e
  · rw [upd_ne (fun e => nw (by rw [← e]; exact z))]
end

/-! ### exceptions -/
structure EX where
  cls : Value
  fs : Option (List (Str × D))
def RepX (K : PySem.W.Frag) (B : Hp) (cls : Value) (dx : Option Addr) (x : EX) : Prop :=
  cls = x.cls ∧ match dx, x.fs with
    | none, none => True
    | some a, some fs => ∃ vs, B a = some (.xd ((fs.map (·.1)).zip vs)) ∧ RepAll K B vs (fs.map (·.2))
    | _, _ => False

/-! ### the judgements -/
section
variable (wd : Wd)
abbrev AQ := D → wd.W → Prop
abbrev AX := EX → wd.W → Prop
abbrev AE := AEnv → wd.W → AQ wd → AX wd → Prop
abbrev AA := AEnv → wd.W → (List D → wd.W → Prop) → AX wd → Prop
abbrev AT := AEnv → wd.W → (Bool → wd.W → Prop) → AX wd → Prop
/-- what a continuation is to bear: the value is held -/
def KOk (K : PySem.W.Frag) (F B : Hp) (Qa : AQ wd) (Q : VK) : Prop := ∀ B' ω' H' v d, Same B B' → Hst wd K F B' ω' H' → Rep K B' v d → Qa d ω' → Q v H'
def KAOk (K : PySem.W.Frag) (F B : Hp) (Qa : List D → wd.W → Prop) (Q : List V → Hp → Prop) : Prop := ∀ B' ω' H' vs ds, Same B B' → Hst wd K F B' ω' H' → RepAll K B' vs ds → Qa ds ω' → Q vs H'
def KTOk (K : PySem.W.Frag) (F B : Hp) (Qa : Bool → wd.W → Prop) (Q : Bool → Hp → Prop) : Prop := ∀ B' ω' H' b, Same B B' → Hst wd K F B' ω' H' → Qa b ω' → Q b H'
def XOk (K : PySem.W.Frag) (F B : Hp) (Ea : AX wd) (E : Value → Option Addr → Hp → Prop) : Prop := ∀ B' ω' H' cls dx x, Same B B' → Hst wd K F B' ω' H' → RepX K B' cls dx x → Ea x ω' → E cls dx H'

def RE (K : PySem.W.Frag) (W : WX) (t : TE) (g : AE wd) : Prop := ∀ F B ρ ω σ H Qa Ea Q, Hst wd K F B ω H → EnvOk K F B ρ σ → g ρ ω Qa Ea → KOk wd K F B Qa Q → XOk wd K F B Ea (fun c d h => W c d σ h) → t σ H Q
def RA (K : PySem.W.Frag) (W : WX) (t : TA) (g : AA wd) : Prop := ∀ F B ρ ω σ H Qa Ea Q, Hst wd K F B ω H → EnvOk K F B ρ σ → g ρ ω Qa Ea → KAOk wd K F B Qa Q → XOk wd K F B Ea (fun c d h => W c d σ h) → t σ H Q
def RT (K : PySem.W.Frag) (W : WX) (t : TT) (g : AT wd) : Prop := ∀ F B ρ ω σ H Qa Ea Q, Hst wd K F B ω H → EnvOk K F B ρ σ → g ρ ω Qa Ea → KTOk wd K F B Qa Q → XOk wd K F B Ea (fun c d h => W c d σ h) → t σ H Q
structure GE (X : Cx) (W : WX) (e : Expr) (g : AE wd) : Prop where
  ex : ∃ t, PE X e t ∧ RE wd X.K W t g
structure GA (X : Cx) (W : WX) (es : List Expr) (g : AA wd) : Prop where
  ex : ∃ t, PA X es t ∧ RA wd X.K W t g
structure GK (X : Cx) (W : WX) (kws : List Keyword) (g : AA wd) : Prop where
  ex : ∃ t, PK X kws t ∧ RA wd X.K W t g
structure GT (X : Cx) (W : WX) (e : Expr) (g : AT wd) : Prop where
  ex : ∃ t, PT X e t ∧ RT wd X.K W t g
structure GW (X : Cx) (W : WX) (e : Expr) (g : AT wd) : Prop where
  ex : ∃ t, PW X e t ∧ RT wd X.K W t g
/-- a list that is read: own or frozen; its items are of the ground -/
def KLOk (K : PySem.W.Frag) (F B : Hp) (Qa : List D → wd.W → Prop) (Q : VK) : Prop := ∀ B' ω' H' p vs ds, Same B B' → Hst wd K F B' ω' H' → (F p = some (.lst vs) ∨ B' p = some (.lst vs)) → RepAll K B' vs ds → Qa ds ω' → Q (.ref p) H'
def RL (K : PySem.W.Frag) (W : WX) (t : TE) (g : AA wd) : Prop := ∀ F B ρ ω σ H Qa Ea Q, Hst wd K F B ω H → EnvOk K F B ρ σ → g ρ ω Qa Ea → KLOk wd K F B Qa Q → XOk wd K F B Ea (fun c d h => W c d σ h) → t σ H Q
structure GL (X : Cx) (W : WX) (e : Expr) (g : AA wd) : Prop where
  ex : ∃ t, PE X e t ∧ RL wd X.K W t g
/-- a new list -/
def KFOk (K : PySem.W.Frag) (F B : Hp) (Qa : List D → wd.W → Prop) (Q : VK) : Prop := ∀ B' ω' H' p vs ds, Same B B' → Hst wd K F B' ω' H' → H' p = none → RepAll K B' vs ds → Qa ds ω' → Q (.ref p) (upd H' p (.lst vs))
def RF (K : PySem.W.Frag) (W : WX) (t : TE) (g : AA wd) : Prop := ∀ F B ρ ω σ H Qa Ea Q, Hst wd K F B ω H → EnvOk K F B ρ σ → g ρ ω Qa Ea → KFOk wd K F B Qa Q → XOk wd K F B Ea (fun c d h => W c d σ h) → t σ H Q
structure GF (X : Cx) (W : WX) (e : Expr) (g : AA wd) : Prop where
  ex : ∃ t, PE X e t ∧ RF wd X.K W t g
end

section
variable {wd : Wd} {K : PySem.W.Frag} {F B B' : Hp} {E : Value → Option Addr → Hp → Prop} {Ea : AX wd}
theorem XOk.mono (h : XOk wd K F B Ea E) (m : Same B B') : XOk wd K F B' Ea E := fun B2 ω' H' c d x s => h B2 ω' H' c d x (m.trans s)
theorem KOk.mono {Qa : AQ wd} {Q : VK} (h : KOk wd K F B Qa Q) (m : Same B B') : KOk wd K F B' Qa Q := fun B2 ω' H' v d s => h B2 ω' H' v d (m.trans s)
end
end MR
/-! operations on plain data -/
namespace MR
open PySem PySem.Spec L2

/-! ### as data of the library -/
mutual
def toP : D → PyData
  | .non => .none
  | .bl b => .bool b
  | .int i => .int i
  | .str x => .str x
  | .lst xs => .list (toPs xs)
  | .tup xs => .tuple (toPs xs)
  | .dct _ _ => .none
  | .adr _ => .none
  | .obj _ _ _ => .none
def toPs : List D → List PyData
  | [] => []
  | x :: xs => toP x :: toPs xs
end
mutual
def pureD : D → Bool
  | .non => true
  | .bl _ => true
  | .int _ => true
  | .str _ => true
  | .lst xs => pureDs xs
  | .tup xs => pureDs xs
  | .dct _ _ => false
  | .adr _ => false
  | .obj _ _ _ => false
def pureDs : List D → Bool
  | [] => true
  | x :: xs => pureD x && pureDs xs
end
section
variable {K : PySem.W.Frag} {B H : Hp}
mutual
theorem Rep.dp (m : Same B H) : ∀ {v : V} {d : D}, Rep K B v d → pureD d = true → Dp K H v (toP d)
  | _, _, .non, _ => by rw [toP]; exact .non
  | _, _, .bl b, _ => by rw [toP]; exact .bl b
  | _, _, .int i, _ => by rw [toP]; exact .int i
  | _, _, .str x, _ => by rw [toP]; exact .str x
  | _, _, .lst h r, p => by
    rw [toP]
    rw [pureD] at p
    exact .lst (SqL.of (m _ _ h)) (RepAll.dp m r p)
  | _, _, .tup h r, p => by
    rw [toP]
    rw [pureD] at p
    exact .tup (Same.seqT m h) (RepAll.dp m r p)
  | _, _, .dct _ _, p => by rw [pureD] at p; cases p
  | _, _, .adr _, p => by rw [pureD] at p; cases p
  | _, _, .obj _ _ _, p => by rw [pureD] at p; cases p
theorem RepAll.dp (m : Same B H) : ∀ {vs : List V} {ds : List D}, RepAll K B vs ds → pureDs ds = true → DpAll K H vs (toPs ds)
  | _, _, .nil, _ => by rw [toPs]; exact .nil
  | _, _, .cons h r, p => by
    rw [pureDs, Bool.and_eq_true] at p
    rw [toPs]
    exact .cons (Rep.dp m h p.1) (RepAll.dp m r p.2)
end
end

def eqOk (d : D) : Bool := pureD d && SeqAt.shaped (toP d)
def deq (d e : D) : Bool := PyData.eqv (toP d) (toP e)

/-! ### two-place operations -/
abbrev FD2 := D → D → (D → Prop) → Prop
def Op2 (K : PySem.W.Frag) (r : R2) (f : FD2) : Prop := ∀ (wd : Wd) (F B : Hp) (ω : wd.W) (H : Hp) (x y : V) (d e : D) (Qa : AQ wd) (Q : VK),
  Hst wd K F B ω H → Rep K B x d → Rep K B y e → f d e (fun z => Qa z ω) → KOk wd K F B Qa Q → r x y H Q

def fAdd : FD2
  | .int i, .int j, Q => Q (.int (i + j))
  | .str x, .str y, Q => x.length + y.length ≤ sizeLine ∧ Q (.str (x ++ y))
  | .tup xs, .tup ys, Q => xs.length + ys.length ≤ sizeLine ∧ Q (.tup (xs ++ ys))
  | .lst xs, .lst ys, Q => xs.length + ys.length ≤ sizeLine ∧ Q (.lst (xs ++ ys))
  | _, _, _ => False
def fSub : FD2
  | .int i, .int j, Q => Q (.int (i - j))
  | _, _, _ => False
def fMul : FD2
  | .int i, .int j, Q => CMulW i j ∧ Q (.int (i * j))
  | .tup xs, .int k, Q => -(2 ^ 63) ≤ k ∧ k ≤ 1000 ∧ xs.length ≤ 1000 ∧ Q (.tup (List.replicate k.toNat xs).flatten)
  | .lst xs, .int k, Q => -(2 ^ 63) ≤ k ∧ k < 2 ^ 63 ∧ xs.length * k.toNat ≤ sizeLine ∧ Q (.lst (List.replicate k.toNat xs).flatten)
  | _, _, _ => False
def fDiv : FD2
  | .int i, .int j, Q => CDivW i j ∧ Q (.int (i / j))
  | _, _, _ => False
def fMod : FD2
  | .int i, .int j, Q => 0 < j ∧ Q (.int (i % j))
  | _, _, _ => False
def fPow : FD2
  | .int i, .int j, Q => CPow i j ∧ Q (.int (i ^ j.toNat))
  | _, _, _ => False
def fEq : FD2
  | .int i, .int j, Q => Q (.bl (decide (i = j)))
  | .str x, .str y, Q => Q (.bl (decide (x = y)))
  | .bl x, .bl y, Q => Q (.bl (decide (x = y)))
  | .tup xs, .tup ys, Q => eqOk (.tup xs) = true ∧ eqOk (.tup ys) = true ∧ Q (.bl (deq (.tup xs) (.tup ys)))
  | .lst xs, .lst ys, Q => eqOk (.lst xs) = true ∧ eqOk (.lst ys) = true ∧ Q (.bl (deq (.lst xs) (.lst ys)))
  | d, e, Q => eqOk d = true ∧ eqOk e = true ∧ Q (.bl (deq d e))
def fNe : FD2
  | .int i, .int j, Q => Q (.bl (!decide (i = j)))
  | .str x, .str y, Q => Q (.bl (!decide (x = y)))
  | .bl x, .bl y, Q => Q (.bl (!decide (x = y)))
  | .tup xs, .tup ys, Q => eqOk (.tup xs) = true ∧ eqOk (.tup ys) = true ∧ Q (.bl (!deq (.tup xs) (.tup ys)))
  | .lst xs, .lst ys, Q => eqOk (.lst xs) = true ∧ eqOk (.lst ys) = true ∧ Q (.bl (!deq (.lst xs) (.lst ys)))
  | d, e, Q => eqOk d = true ∧ eqOk e = true ∧ Q (.bl (!deq d e))
/-- the ints of a list of ints -/
def asInts : List D → Option (List Int)
  | [] => some []
  | .int i :: r => (asInts r).map (i :: ·)
  | _ :: _ => none
theorem asInts_map : ∀ ns : List Int, asInts (ns.map D.int) = some ns
  | [] => rfl
  | n :: ns => by
    rw [List.map_cons, asInts, asInts_map ns]
    rfl
theorem asInts_eq : ∀ {ds : List D} {ns : List Int}, asInts ds = some ns → ds = ns.map D.int
  | [], ns, h => by
    rw [asInts] at h
    cases h
    rfl
  | .int i :: r, ns, h => by
    rw [asInts] at h
    cases e : asInts r with
    | none =>
      rw [e] at h
      cases h
    | some ms =>
      rw [e] at h
      cases h
      rw [asInts_eq e]
      rfl
  | .non :: _, _, h => by simp [asInts] at h
  | .bl _ :: _, _, h => by simp [asInts] at h
  | .str _ :: _, _, h => by simp [asInts] at h
  | .lst _ :: _, _, h => by simp [asInts] at h
  | .tup _ :: _, _, h => by simp [asInts] at h
  | .dct _ _ :: _, _, h => by simp [asInts] at h
  | .adr _ :: _, _, h => by simp [asInts] at h
  | .obj _ _ _ :: _, _, h => by simp [asInts] at h
def fLt : FD2
  | .int i, .int j, Q => Q (.bl (decide (i < j)))
  | .tup xs, .tup ys, Q => match asInts xs, asInts ys with
    | some ns, some ms => Q (.bl (HT.lexLt ns ms))
    | _, _ => False
  | _, _, _ => False
def fLe : FD2
  | .int i, .int j, Q => Q (.bl (decide (i ≤ j)))
  | _, _, _ => False
def fGt : FD2
  | .int i, .int j, Q => Q (.bl (decide (j < i)))
  | _, _, _ => False
def fGe : FD2
  | .int i, .int j, Q => Q (.bl (decide (j ≤ i)))
  | _, _, _ => False
def fIs : FD2
  | .bl a, .bl b, Q => Q (.bl (decide (a = b)))
  | _, _, _ => False
def fIsN : FD2
  | .bl a, .bl b, Q => Q (.bl (!decide (a = b)))
  | _, _, _ => False

abbrev rOr (r q : R2) : R2 := fun x y H Q => r x y H Q ∨ q x y H Q
section
variable {K : PySem.W.Frag}
theorem ro_new {wd : Wd} {F B : Hp} {ω : wd.W} {H : Hp} {Qa : AQ wd} {Q : VK} {vs : List V} {ds : List D} (hs : Hst wd K F B ω H) (r : RepAll K B vs ds) (q : Qa (.tup ds) ω) (k : KOk wd K F B Qa Q) {p : Addr} (hp : H p = none) : Q (.ref p) (upd H p (.tup vs)) := by
  obtain ⟨s1, h1⟩ := hs.new (o := .tup vs) hp
  exact k _ _ _ _ _ s1 h1 (.tup (SqT.of upd_same) (r.mono s1)) q
theorem ro_newL {wd : Wd} {F B : Hp} {ω : wd.W} {H : Hp} {Qa : AQ wd} {Q : VK} {vs : List V} {ds : List D} (hs : Hst wd K F B ω H) (r : RepAll K B vs ds) (q : Qa (.lst ds) ω) (k : KOk wd K F B Qa Q) {p : Addr} (hp : H p = none) : Q (.ref p) (upd H p (.lst vs)) := by
  obtain ⟨s1, h1⟩ := hs.new (o := .lst vs) hp
  exact k _ _ _ _ _ s1 h1 (.lst upd_same (r.mono s1)) q
theorem ro_same {wd : Wd} {F B : Hp} {ω : wd.W} {H : Hp} {Qa : AQ wd} {Q : VK} {v : V} {d : D} (hs : Hst wd K F B ω H) (r : Rep K B v d) (q : Qa d ω) (k : KOk wd K F B Qa Q) : Q v H := k _ _ _ _ _ (Same.refl _) hs r q

theorem op2_add : Op2 K (rOr (rI0 fun i j => .int (i + j)) (rOr (fun x y H Q => ∃ i j, x = .str i ∧ y = .str j ∧ i.length + j.length ≤ sizeLine ∧ Q (.str (i ++ j)) H) (rOr (rCatA K) rCat))) fAdd := by
  intro wd F B ω H x y d e Qa Q hs rx ry hf k
  cases d <;> cases e <;> try exact hf.elim
  case int.int i j =>
    cases rx; cases ry
    exact .inl ⟨i, j, rfl, rfl, ro_same hs (.int _) hf k⟩
  case str.str i j =>
    cases rx; cases ry
    exact .inr (.inl ⟨i, j, rfl, rfl, hf.1, ro_same hs (.str _) hf.2 k⟩)
  case tup.tup xs ys =>
    cases rx with
    | tup h1 r1 =>
      cases ry with
      | tup h2 r2 =>
        have l1 := r1.length
        have l2 := r2.length
        refine .inr (.inr (.inl ⟨_, _, _, _, rfl, rfl, Same.seqT hs.sB h1, Same.seqT hs.sB h2, by rw [l1, l2]; exact hf.1, fun e => ?_, fun _ e => ?_, fun _ _ p hp => ?_⟩))
        · subst e
          cases r1
          exact ro_same hs (.tup h2 r2) hf.2 k
        · subst e
          cases r2
          have q := hf.2
          rw [List.append_nil] at q
          exact ro_same hs (.tup h1 r1) q k
        · exact ro_new hs (r1.append r2) hf.2 k hp
  case lst.lst xs ys =>
    cases rx with
    | lst h1 r1 =>
      cases ry with
      | lst h2 r2 =>
        have l1 := r1.length
        have l2 := r2.length
        exact .inr (.inr (.inr ⟨_, _, _, _, rfl, rfl, hs.sB _ _ h1, hs.sB _ _ h2, by rw [l1, l2]; exact hf.1, fun p hp => ro_newL hs (r1.append r2) hf.2 k hp⟩))
theorem op2_sub : Op2 K (rI0 fun i j => .int (i - j)) fSub := by
  intro wd F B ω H x y d e Qa Q hs rx ry hf k
  cases d <;> cases e <;> try exact hf.elim
  case int.int i j =>
    cases rx; cases ry
    exact ⟨i, j, rfl, rfl, ro_same hs (.int _) hf k⟩
theorem op2_mul : Op2 K (rOr (rI CMulW fun i j => .int (i * j)) (rOr (rRepA K) rRep)) fMul := by
  intro wd F B ω H x y d e Qa Q hs rx ry hf k
  cases d <;> cases e <;> try exact hf.elim
  case int.int i j =>
    cases rx; cases ry
    exact .inl ⟨i, j, rfl, rfl, hf.1, ro_same hs (.int _) hf.2 k⟩
  case lst.int xs j =>
    cases ry
    cases rx with
    | lst h1 r1 =>
      have l1 := r1.length
      exact .inr (.inr ⟨_, _, _, rfl, rfl, hs.sB _ _ h1, hf.1, hf.2.1, by rw [l1]; exact hf.2.2.1, fun p hp => ro_newL hs (r1.rep _) hf.2.2.2 k hp⟩)
  case tup.int xs j =>
    cases ry
    cases rx with
    | tup h1 r1 =>
      have l1 := r1.length
      obtain ⟨c1, c2, c3, q⟩ := hf
      refine .inr (.inl ⟨_, _, _, rfl, rfl, Same.seqT hs.sB h1, c1, c2, by rw [l1]; exact c3, fun e => ?_, fun _ e p hp => ?_, fun _ _ p hp => ro_new hs (r1.rep _) q k hp⟩)
      · refine ro_same hs (.tup h1 r1) ?_ k
        rcases e with e | e
        · subst e
          cases r1
          have : (List.replicate j.toNat ([] : List D)).flatten = [] := by simp
          rw [this] at q
          exact q
        · subst e
          have : (List.replicate (1 : Int).toNat xs).flatten = xs := by
            show (List.replicate 1 xs).flatten = xs
            simp
          rw [this] at q
          exact q
      · have : (List.replicate j.toNat xs).flatten = [] := by
          have z : j.toNat = 0 := by omega
          rw [z]
          rfl
        rw [this] at q
        exact ro_new hs .nil q k hp
theorem op2_div : Op2 K (rI CDivW fun i j => .int (i / j)) fDiv := by
  intro wd F B ω H x y d e Qa Q hs rx ry hf k
  cases d <;> cases e <;> try exact hf.elim
  case int.int i j =>
    cases rx; cases ry
    exact ⟨i, j, rfl, rfl, hf.1, ro_same hs (.int _) hf.2 k⟩
theorem op2_mod : Op2 K (rI (fun _ j => 0 < j) fun i j => .int (i % j)) fMod := by
  intro wd F B ω H x y d e Qa Q hs rx ry hf k
  cases d <;> cases e <;> try exact hf.elim
  case int.int i j =>
    cases rx; cases ry
    exact ⟨i, j, rfl, rfl, hf.1, ro_same hs (.int _) hf.2 k⟩
theorem op2_pow : Op2 K (rI CPow fun i j => .int (i ^ j.toNat)) fPow := by
  intro wd F B ω H x y d e Qa Q hs rx ry hf k
  cases d <;> cases e <;> try exact hf.elim
  case int.int i j =>
    cases rx; cases ry
    exact ⟨i, j, rfl, rfl, hf.1, ro_same hs (.int _) hf.2 k⟩
theorem dec_V {i j : Int} : decide (V.int i = V.int j) = decide (i = j) := by
  by_cases e : i = j
  · subst e; simp
  · rw [decide_eq_false e, decide_eq_false (fun q => e (V.int.inj q))]
theorem dec_S {i j : Str} : decide (V.str i = V.str j) = decide (i = j) := by
  by_cases e : i = j
  · subst e; simp
  · rw [decide_eq_false e, decide_eq_false (fun q => e (V.str.inj q))]
theorem dec_B {i j : Bool} : decide (V.bl i = V.bl j) = decide (i = j) := by
  by_cases e : i = j
  · subst e; simp
  · rw [decide_eq_false e, decide_eq_false (fun q => e (V.bl.inj q))]
theorem eq_data {wd : Wd} {F B : Hp} {ω : wd.W} {H : Hp} {x y : V} {d e : D} {Qa : AQ wd} {Q : VK} (hs : Hst wd K F B ω H) (rx : Rep K B x d) (ry : Rep K B y e) (h1 : eqOk d = true) (h2 : eqOk e = true) (q : Qa (.bl (deq d e)) ω) (k : KOk wd K F B Qa Q) : rEqD K x y H Q := by
  unfold eqOk at h1 h2
  rw [Bool.and_eq_true] at h1 h2
  exact ⟨_, _, rx.dp hs.sB h1.1, ry.dp hs.sB h2.1, h1.2, h2.2, ro_same hs (.bl _) q k⟩
theorem ne_data {wd : Wd} {F B : Hp} {ω : wd.W} {H : Hp} {x y : V} {d e : D} {Qa : AQ wd} {Q : VK} (hs : Hst wd K F B ω H) (rx : Rep K B x d) (ry : Rep K B y e) (h1 : eqOk d = true) (h2 : eqOk e = true) (q : Qa (.bl (!deq d e)) ω) (k : KOk wd K F B Qa Q) : rNeD K x y H Q := by
  unfold eqOk at h1 h2
  rw [Bool.and_eq_true] at h1 h2
  exact ⟨_, _, rx.dp hs.sB h1.1, ry.dp hs.sB h2.1, h1.2, h2.2, ro_same hs (.bl _) q k⟩
theorem op2_eq : Op2 K (rOr rEq (rEqD K)) fEq := by
  intro wd F B ω H x y d e Qa Q hs rx ry hf k
  cases d <;> cases e
  case int.int i j =>
    cases rx; cases ry
    exact .inl ⟨rfl, by rw [dec_V]; exact ro_same hs (.bl _) hf k⟩
  case str.str i j =>
    cases rx; cases ry
    exact .inl ⟨rfl, by rw [dec_S]; exact ro_same hs (.bl _) hf k⟩
  case bl.bl i j =>
    cases rx; cases ry
    exact .inl ⟨rfl, by rw [dec_B]; exact ro_same hs (.bl _) hf k⟩
  all_goals exact .inr (eq_data hs rx ry hf.1 hf.2.1 hf.2.2 k)
theorem op2_ne : Op2 K (rOr rNe (rNeD K)) fNe := by
  intro wd F B ω H x y d e Qa Q hs rx ry hf k
  cases d <;> cases e
  case int.int i j =>
    cases rx; cases ry
    exact .inl ⟨rfl, by rw [dec_V]; exact ro_same hs (.bl _) hf k⟩
  case str.str i j =>
    cases rx; cases ry
    exact .inl ⟨rfl, by rw [dec_S]; exact ro_same hs (.bl _) hf k⟩
  case bl.bl i j =>
    cases rx; cases ry
    exact .inl ⟨rfl, by rw [dec_B]; exact ro_same hs (.bl _) hf k⟩
  all_goals exact .inr (ne_data hs rx ry hf.1 hf.2.1 hf.2.2 k)
theorem op2_lt : Op2 K (rOr (rI0 fun i j => .bl (decide (i < j))) (rLtT K)) fLt := by
  intro wd F B ω H x y d e Qa Q hs rx ry hf k
  cases d <;> cases e <;> try exact hf.elim
  case int.int i j =>
    cases rx; cases ry
    exact .inl ⟨i, j, rfl, rfl, ro_same hs (.bl _) hf k⟩
  case tup.tup xs ys =>
    simp only [fLt] at hf
    cases e1 : asInts xs with
    | none => simp only [e1] at hf
    | some ns =>
      cases e2 : asInts ys with
      | none => simp only [e1, e2] at hf
      | some ms =>
        simp only [e1, e2] at hf
        have a1 := asInts_eq e1
        have a2 := asInts_eq e2
        subst a1 a2
        cases rx with
        | tup h1 r1 =>
          cases ry with
          | tup h2 r2 =>
            have b1 := r1.of_ints
            have b2 := r2.of_ints
            subst b1 b2
            exact .inr ⟨_, _, ns, ms, rfl, rfl, Same.seqT hs.sB h1, Same.seqT hs.sB h2, ro_same hs (.bl _) hf k⟩
theorem op2_cmp {f : Int → Int → Bool} {g : FD2} (hg : ∀ d e Q, g d e Q → ∃ i j, d = .int i ∧ e = .int j ∧ Q (.bl (f i j))) : Op2 K (rI0 fun i j => .bl (f i j)) g := by
  intro wd F B ω H x y d e Qa Q hs rx ry hf k
  obtain ⟨i, j, rfl, rfl, q⟩ := hg _ _ _ hf
  cases rx; cases ry
  exact ⟨i, j, rfl, rfl, ro_same hs (.bl _) q k⟩
theorem op2_le : Op2 K (rI0 fun i j => .bl (decide (i ≤ j))) fLe := op2_cmp fun d e Q h => by
  cases d <;> cases e <;> first | exact h.elim | exact ⟨_, _, rfl, rfl, h⟩
theorem op2_gt : Op2 K (rI0 fun i j => .bl (decide (j < i))) fGt := op2_cmp fun d e Q h => by
  cases d <;> cases e <;> first | exact h.elim | exact ⟨_, _, rfl, rfl, h⟩
theorem op2_ge : Op2 K (rI0 fun i j => .bl (decide (j ≤ i))) fGe := op2_cmp fun d e Q h => by
  cases d <;> cases e <;> first | exact h.elim | exact ⟨_, _, rfl, rfl, h⟩
theorem op2_is : Op2 K rIsB fIs := by
  intro wd F B ω H x y d e Qa Q hs rx ry hf k
  cases d <;> cases e <;> try exact hf.elim
  case bl.bl i j =>
    cases rx; cases ry
    exact ⟨i, j, rfl, rfl, ro_same hs (.bl _) hf k⟩
theorem op2_isn : Op2 K rNotB fIsN := by
  intro wd F B ω H x y d e Qa Q hs rx ry hf k
  cases d <;> cases e <;> try exact hf.elim
  case bl.bl i j =>
    cases rx; cases ry
    exact ⟨i, j, rfl, rfl, ro_same hs (.bl _) hf k⟩
end

/-! ### the machine's side of them -/
section
variable {X : Cx}
theorem m_add : OpR X (binaryOp .Add) (rOr (rI0 fun i j => .int (i + j)) (rOr (fun x y H Q => ∃ i j, x = .str i ∧ y = .str j ∧ i.length + j.length ≤ sizeLine ∧ Q (.str (i ++ j)) H) (rOr (rCatA X.K) rCat))) := op_add.or (op_add_str.or (op_catA.or op_cat))
theorem m_mul : OpR X (binaryOp .Mult) (rOr (rI CMulW fun i j => .int (i * j)) (rOr (rRepA X.K) rRep)) := op_mulW.or (op_repA.or op_rep)
theorem m_eq (hu : X.A.units + 64 < cLine) : OpR X (compareOp .Eq) (rOr rEq (rEqD X.K)) := op_eq.or (op_eqD hu)
theorem m_ne (hu : X.A.units + 64 < cLine) : OpR X (compareOp .NotEq) (rOr rNe (rNeD X.K)) := op_ne.or (op_neD hu)
theorem m_lt (hu : X.A.units < cLine) : OpR X (compareOp .Lt) (rOr (rI0 fun i j => .bl (decide (i < j))) (rLtT X.K)) := op_lt.or (op_ltT hu)
end
end MR
/-! rules of expressions -/
namespace MR
open PySem PySem.Spec L2

section
variable {wd : Wd}
def gVar (i : Nat) : AE wd := fun ρ ω Q _ => match ρ[i]? with
  | some (some (.d x)) => Q x ω
  | _ => False
def gC (d : D) : AE wd := fun _ ω Q _ => Q d ω
def gOp (f : FD2) (ga gb : AE wd) : AE wd := fun ρ ω Q E => ga ρ ω (fun x ω1 => gb ρ ω1 (fun y ω2 => f x y (fun z => Q z ω2)) E) E
/-- a bool taken as a test -/
def bK (Q : Bool → wd.W → Prop) : AQ wd := fun x ω => match x with
  | .bl b => Q b ω
  | _ => False
def gB (g : AE wd) : AT wd := fun ρ ω Q E => g ρ ω (bK Q) E
/-- truth -/
def fTru (x : D) (Q : Bool → Prop) : Prop := match x with
  | .bl b => Q b
  | .non => Q false
  | .int i => Q (i != 0)
  | .str y => y.length ≤ sizeLine ∧ Q ((y.length : Int) != 0)
  | .lst xs => Q (!xs.isEmpty)
  | .tup xs => Q (!xs.isEmpty)
  | _ => False
def gTru (g : AE wd) : AT wd := fun ρ ω Q E => g ρ ω (fun x ω1 => fTru x (fun b => Q b ω1)) E
def gNotT (g : AT wd) : AT wd := fun ρ ω Q E => g ρ ω (fun b ω1 => Q (!b) ω1) E
def gAndT (g h : AT wd) : AT wd := fun ρ ω Q E => g ρ ω (fun b ω1 => if b = true then h ρ ω1 Q E else Q false ω1) E
def gOrT (g h : AT wd) : AT wd := fun ρ ω Q E => g ρ ω (fun b ω1 => if b = true then Q true ω1 else h ρ ω1 Q E) E
def gAndV (g h : AE wd) : AE wd := fun ρ ω Q E => g ρ ω (fun x ω1 => fTru x (fun b => if b = true then h ρ ω1 Q E else Q x ω1)) E
def gOrV (g h : AE wd) : AE wd := fun ρ ω Q E => g ρ ω (fun x ω1 => fTru x (fun b => if b = true then Q x ω1 else h ρ ω1 Q E)) E
def gNotV (g : AE wd) : AE wd := fun ρ ω Q E => g ρ ω (fun x ω1 => fTru x (fun b => Q (.bl (!b)) ω1)) E
def gIf (c : AT wd) (g h : AE wd) : AE wd := fun ρ ω Q E => c ρ ω (fun b ω1 => if b = true then g ρ ω1 Q E else h ρ ω1 Q E) E
def gChain (f f' : FD2) (ga gb gc : AE wd) : AE wd := fun ρ ω Q E => ga ρ ω (fun x ω1 => gb ρ ω1 (fun y ω2 => f x y (fun z => match z with
  | .bl b => if b = true then gc ρ ω2 (fun u ω3 => f' y u (fun z => Q z ω3)) E else Q (.bl false) ω2
  | _ => False)) E) E
def gNil : AA wd := fun _ ω Q _ => Q [] ω
def gCons (g : AE wd) (h : AA wd) : AA wd := fun ρ ω Q E => g ρ ω (fun x ω1 => h ρ ω1 (fun xs ω2 => Q (x :: xs) ω2) E) E
def gTup (g : AA wd) : AE wd := fun ρ ω Q E => g ρ ω (fun xs ω1 => xs.length ≤ sizeLine ∧ Q (.tup xs) ω1) E
def gLst (g : AA wd) : AA wd := fun ρ ω Q E => g ρ ω (fun xs ω1 => xs.length ≤ sizeLine ∧ Q xs ω1) E
/-- a new list, frozen at once -/
def gFz (g : AA wd) : AE wd := fun ρ ω Q E => g ρ ω (fun xs ω1 => Q (.lst xs) ω1) E
def gOwn (i : Nat) : AA wd := fun ρ ω Q _ => match ρ[i]? with
  | some (some (.own l)) => Q l ω
  | some (some (.d (.lst l))) => Q l ω
  | _ => False
def gAsL (g : AE wd) : AA wd := fun ρ ω Q E => g ρ ω (fun x ω1 => match x with
  | .lst l => Q l ω1
  | _ => False) E
end

section
variable {wd : Wd} {K : PySem.W.Frag} {W : WX}
theorem re_var {i : Nat} : RE wd K W (tVar i) (gVar i) := fun F B ρ ω σ H Qa Ea Q hs he hg hk hx => by
  unfold gVar at hg
  cases e : ρ[i]? with
  | none => simp only [e] at hg
  | some o =>
    cases o with
    | none => simp only [e] at hg
    | some en =>
      cases en with
      | own l => simp only [e] at hg
      | d x =>
        simp only [e] at hg
        obtain ⟨v, a, r⟩ := he.ent i _ e
        exact ⟨v, a, ro_same hs r hg hk⟩
theorem re_c {v : V} {d : D} (h : ∀ B, Rep K B v d) : RE wd K W (tC v) (gC d) := fun F B ρ ω σ H Qa Ea Q hs he hg hk hx => ro_same hs (h B) hg hk
theorem re_op {r : R2} {f : FD2} {ta tb : TE} {ga gb : AE wd} (hf : Op2 K r f) (ha : RE wd K W ta ga) (hb : RE wd K W tb gb) : RE wd K W (tOp r ta tb) (gOp f ga gb) := fun F B ρ ω σ H Qa Ea Q hs he hg hk hx =>
  ha F B ρ ω σ H _ Ea _ hs he hg (fun B1 ω1 H1 v1 d1 s1 hs1 r1 g1 => hb F B1 ρ ω1 σ H1 _ Ea _ hs1 (he.mono s1) g1 (fun B2 ω2 H2 v2 d2 s2 hs2 r2 g2 =>
    hf wd F B2 ω2 H2 v1 v2 d1 d2 Qa Q hs2 (r1.mono s2) r2 g2 (hk.mono (s1.trans s2))) (hx.mono s1)) hx
theorem rt_test {t : TE} {g : AE wd} (h : RE wd K W t g) : RT wd K W (tTest t) (gB g) := fun F B ρ ω σ H Qa Ea Q hs he hg hk hx =>
  h F B ρ ω σ H _ Ea _ hs he hg (fun B1 ω1 H1 v1 d1 s1 hs1 r1 g1 => by
    cases d1 <;> try exact g1.elim
    case bl b =>
      cases r1
      exact ⟨b, rfl, hk _ _ _ _ s1 hs1 g1⟩) hx
theorem tru_of {F B : Hp} {ω : wd.W} {H : Hp} {x : D} {v : V} {Q : Bool → Prop} (hs : Hst wd K F B ω H) (r : Rep K B v x) (h : fTru x Q) : ∃ k, TruV K v H k ∧ Q k := by
  cases r with
  | non => exact ⟨_, rfl, h⟩
  | bl b => exact ⟨_, rfl, h⟩
  | int i => exact ⟨_, rfl, h⟩
  | str y => exact ⟨_, ⟨h.1, rfl⟩, h.2⟩
  | lst e q =>
    refine ⟨_, .inl ⟨_, SqL.of (hs.sB _ _ e), rfl⟩, ?_⟩
    cases q <;> exact h
  | tup e q =>
    refine ⟨_, .inr (.inl ⟨_, Same.seqT hs.sB e, rfl⟩), ?_⟩
    cases q <;> exact h
  | dct _ _ => exact h.elim
  | adr _ => exact h.elim
  | obj _ _ _ => exact h.elim
theorem rt_tru {t : TE} {g : AE wd} (h : RE wd K W t g) : RT wd K W (fun σ H Q => t σ H fun x H' => ∃ k, TruV K x H' k ∧ Q k H') (gTru g) := fun F B ρ ω σ H Qa Ea Q hs he hg hk hx =>
  h F B ρ ω σ H _ Ea _ hs he hg (fun B1 ω1 H1 v1 d1 s1 hs1 r1 g1 => by
    obtain ⟨k, a, b⟩ := tru_of hs1 r1 g1
    exact ⟨k, a, hk _ _ _ _ s1 hs1 b⟩) hx
theorem rt_not {t : TT} {g : AT wd} (h : RT wd K W t g) : RT wd K W (tNot t) (gNotT g) := fun F B ρ ω σ H Qa Ea Q hs he hg hk hx =>
  h F B ρ ω σ H _ Ea _ hs he hg (fun B1 ω1 H1 b s1 hs1 g1 => hk _ _ _ _ s1 hs1 g1) hx
theorem rt_and {t u : TT} {g h : AT wd} (h1 : RT wd K W t g) (h2 : RT wd K W u h) : RT wd K W (tAnd t u) (gAndT g h) := fun F B ρ ω σ H Qa Ea Q hs he hg hk hx =>
  h1 F B ρ ω σ H _ Ea _ hs he hg (fun B1 ω1 H1 b s1 hs1 g1 => by
    cases b with
    | true => exact h2 F B1 ρ ω1 σ H1 Qa Ea Q hs1 (he.mono s1) g1 (fun B2 ω2 H2 c s2 => hk B2 ω2 H2 c (s1.trans s2)) (hx.mono s1)
    | false => exact hk _ _ _ _ s1 hs1 g1) hx
theorem rt_or {t u : TT} {g h : AT wd} (h1 : RT wd K W t g) (h2 : RT wd K W u h) : RT wd K W (tOr t u) (gOrT g h) := fun F B ρ ω σ H Qa Ea Q hs he hg hk hx =>
  h1 F B ρ ω σ H _ Ea _ hs he hg (fun B1 ω1 H1 b s1 hs1 g1 => by
    cases b with
    | false => exact h2 F B1 ρ ω1 σ H1 Qa Ea Q hs1 (he.mono s1) g1 (fun B2 ω2 H2 c s2 => hk B2 ω2 H2 c (s1.trans s2)) (hx.mono s1)
    | true => exact hk _ _ _ _ s1 hs1 g1) hx
theorem re_andV {t u : TE} {g h : AE wd} (h1 : RE wd K W t g) (h2 : RE wd K W u h) : RE wd K W (tAndT K t u) (gAndV g h) := fun F B ρ ω σ H Qa Ea Q hs he hg hk hx =>
  h1 F B ρ ω σ H _ Ea _ hs he hg (fun B1 ω1 H1 v1 d1 s1 hs1 r1 g1 => by
    obtain ⟨b, a, q⟩ := tru_of hs1 r1 g1
    refine ⟨b, a, ?_⟩
    cases b with
    | true => exact h2 F B1 ρ ω1 σ H1 Qa Ea Q hs1 (he.mono s1) q (hk.mono s1) (hx.mono s1)
    | false => exact hk _ _ _ _ _ s1 hs1 r1 q) hx
theorem re_orV {t u : TE} {g h : AE wd} (h1 : RE wd K W t g) (h2 : RE wd K W u h) : RE wd K W (tOrT K t u) (gOrV g h) := fun F B ρ ω σ H Qa Ea Q hs he hg hk hx =>
  h1 F B ρ ω σ H _ Ea _ hs he hg (fun B1 ω1 H1 v1 d1 s1 hs1 r1 g1 => by
    obtain ⟨b, a, q⟩ := tru_of hs1 r1 g1
    refine ⟨b, a, ?_⟩
    cases b with
    | false => exact h2 F B1 ρ ω1 σ H1 Qa Ea Q hs1 (he.mono s1) q (hk.mono s1) (hx.mono s1)
    | true => exact hk _ _ _ _ _ s1 hs1 r1 q) hx
theorem re_notV {t : TE} {g : AE wd} (h1 : RE wd K W t g) : RE wd K W (tNotT K t) (gNotV g) := fun F B ρ ω σ H Qa Ea Q hs he hg hk hx =>
  h1 F B ρ ω σ H _ Ea _ hs he hg (fun B1 ω1 H1 v1 d1 s1 hs1 r1 g1 => by
    obtain ⟨b, a, q⟩ := tru_of hs1 r1 g1
    exact ⟨b, a, hk _ _ _ _ _ s1 hs1 (.bl _) q⟩) hx
theorem re_if {c : TT} {t u : TE} {gc : AT wd} {g h : AE wd} (hc : RT wd K W c gc) (h1 : RE wd K W t g) (h2 : RE wd K W u h) : RE wd K W (tIf c t u) (gIf gc g h) := fun F B ρ ω σ H Qa Ea Q hs he hg hk hx =>
  hc F B ρ ω σ H _ Ea _ hs he hg (fun B1 ω1 H1 b s1 hs1 g1 => by
    cases b with
    | true => exact h1 F B1 ρ ω1 σ H1 Qa Ea Q hs1 (he.mono s1) g1 (hk.mono s1) (hx.mono s1)
    | false => exact h2 F B1 ρ ω1 σ H1 Qa Ea Q hs1 (he.mono s1) g1 (hk.mono s1) (hx.mono s1)) hx
theorem re_chain {r r' : R2} {f f' : FD2} {ta tb tc : TE} {ga gb gc : AE wd} (hf : Op2 K r f) (hf' : Op2 K r' f') (ha : RE wd K W ta ga) (hb : RE wd K W tb gb) (hc : RE wd K W tc gc) :
    RE wd K W (tChain r r' ta tb tc) (gChain f f' ga gb gc) := fun F B ρ ω σ H Qa Ea Q hs he hg hk hx =>
  ha F B ρ ω σ H _ Ea _ hs he hg (fun B1 ω1 H1 v1 d1 s1 hs1 r1 g1 => hb F B1 ρ ω1 σ H1 _ Ea _ hs1 (he.mono s1) g1 (fun B2 ω2 H2 v2 d2 s2 hs2 r2 g2 =>
    hf wd F B2 ω2 H2 v1 v2 d1 d2 (fun z ω2 => match z with
      | .bl b => if b = true then gc ρ ω2 (fun u ω3 => f' d2 u (fun z => Qa z ω3)) Ea else Qa (.bl false) ω2
      | _ => False) _ hs2 (r1.mono s2) r2 g2 (fun B3 ω3 H3 v3 d3 s3 hs3 r3 g3 => by
        cases d3 <;> try exact g3.elim
        case bl b =>
          cases r3
          refine ⟨b, rfl, ?_⟩
          cases b with
          | true => exact hc F B3 ρ ω3 σ H3 _ Ea _ hs3 (he.mono ((s1.trans s2).trans s3)) g3 (fun B4 ω4 H4 v4 d4 s4 hs4 r4 g4 =>
              hf' wd F B4 ω4 H4 v2 v4 d2 d4 Qa Q hs4 (r2.mono (s3.trans s4)) r4 g4 (hk.mono (((s1.trans s2).trans s3).trans s4))) (hx.mono ((s1.trans s2).trans s3))
          | false => exact hk _ _ _ _ _ ((s1.trans s2).trans s3) hs3 (.bl false) g3)) (hx.mono s1)) hx
theorem ra_nil : RA wd K W tNil gNil := fun F B ρ ω σ H Qa Ea Q hs he hg hk hx => hk _ _ _ _ _ (Same.refl _) hs .nil hg
theorem ra_cons {t : TE} {u : TA} {g : AE wd} {h : AA wd} (h1 : RE wd K W t g) (h2 : RA wd K W u h) : RA wd K W (tCons t u) (gCons g h) := fun F B ρ ω σ H Qa Ea Q hs he hg hk hx =>
  h1 F B ρ ω σ H _ Ea _ hs he hg (fun B1 ω1 H1 v1 d1 s1 hs1 r1 g1 => h2 F B1 ρ ω1 σ H1 _ Ea _ hs1 (he.mono s1) g1 (fun B2 ω2 H2 vs ds s2 hs2 r2 g2 =>
    hk _ _ _ _ _ (s1.trans s2) hs2 (.cons (r1.mono s2) r2) g2) (hx.mono s1)) hx
theorem re_tup {t : TA} {g : AA wd} (h : RA wd K W t g) : RE wd K W (tTup t) (gTup g) := fun F B ρ ω σ H Qa Ea Q hs he hg hk hx =>
  h F B ρ ω σ H _ Ea _ hs he hg (fun B1 ω1 H1 vs ds s1 hs1 r1 g1 => ⟨by rw [r1.length]; exact g1.1, fun p hp => ro_new hs1 r1 g1.2 (hk.mono s1) hp⟩) hx
theorem rf_lst {t : TA} {g : AA wd} (h : RA wd K W t g) : RF wd K W (tLst t) (gLst g) := fun F B ρ ω σ H Qa Ea Q hs he hg hk hx =>
  h F B ρ ω σ H _ Ea _ hs he hg (fun B1 ω1 H1 vs ds s1 hs1 r1 g1 => ⟨by rw [r1.length]; exact g1.1, fun p hp => hk _ _ _ p _ _ s1 hs1 hp r1 g1.2⟩) hx
theorem re_fz {t : TE} {g : AA wd} (h : RF wd K W t g) : RE wd K W t (gFz g) := fun F B ρ ω σ H Qa Ea Q hs he hg hk hx =>
  h F B ρ ω σ H _ Ea _ hs he hg (fun B1 ω1 H1 p vs ds s1 hs1 hp r1 g1 => ro_newL hs1 r1 g1 (hk.mono s1) hp) hx
theorem rl_own {i : Nat} : RL wd K W (tVar i) (gOwn i) := fun F B ρ ω σ H Qa Ea Q hs he hg hk hx => by
  unfold gOwn at hg
  cases e : ρ[i]? with
  | none => simp only [e] at hg
  | some o =>
    cases o with
    | none => simp only [e] at hg
    | some en =>
      cases en with
      | own l =>
        simp only [e] at hg
        obtain ⟨p, vs, a, b, r⟩ := he.ent i _ e
        exact ⟨_, a, hk _ _ _ p vs l (Same.refl _) hs (.inl b) r hg⟩
      | d x =>
        cases x <;> simp only [e] at hg
        case lst l =>
          obtain ⟨v, a, r⟩ := he.ent i _ e
          cases r with
          | lst q r => exact ⟨_, a, hk _ _ _ _ _ l (Same.refl _) hs (.inr q) r hg⟩
theorem rl_of {t : TE} {g : AE wd} (h : RE wd K W t g) : RL wd K W t (gAsL g) := fun F B ρ ω σ H Qa Ea Q hs he hg hk hx =>
  h F B ρ ω σ H _ Ea _ hs he hg (fun B1 ω1 H1 v1 d1 s1 hs1 r1 g1 => by
    cases d1 <;> try exact g1.elim
    case lst l =>
      cases r1 with
      | lst q r => exact hk _ _ _ _ _ l s1 hs1 (.inr q) r g1) hx
theorem rl_fz {t : TE} {g : AA wd} (h : RF wd K W t g) : RL wd K W t g := fun F B ρ ω σ H Qa Ea Q hs he hg hk hx =>
  h F B ρ ω σ H _ Ea _ hs he hg (fun B1 ω1 H1 p vs ds s1 hs1 hp r1 g1 => by
    obtain ⟨s2, h2⟩ := hs1.new (o := .lst vs) hp
    exact hk _ _ _ p vs ds (s1.trans s2) h2 (.inr upd_same) (r1.mono s2) g1) hx
end

/-! ### the rules -/
section
variable {wd : Wd} {X : Cx} {W : WX} {a b c e : Expr} {ga gb gc g h : AE wd} {pos : Pos}
theorem ge_var (i : Nat) {x : Str} {pos : Pos} (hN : X.N[i]? = some x := by rfl) (hv : Vis X.env.scope x := by first | exact Or.inl rfl | exact Or.inr (Or.inl rfl) | exact Or.inr (Or.inr rfl)) (hd : (x == ("__debug__" : Str)) = false := by decide)
    (hcd : (x == ("__classdict__" : Str)) = false := by decide) : GE wd X W (.Name x pos) (gVar i) := ⟨_, pe_var hN hv hd hcd, re_var⟩
theorem gl_own (i : Nat) {x : Str} {pos : Pos} (hN : X.N[i]? = some x := by rfl) (hv : Vis X.env.scope x := by first | exact Or.inl rfl | exact Or.inr (Or.inl rfl) | exact Or.inr (Or.inr rfl)) (hd : (x == ("__debug__" : Str)) = false := by decide)
    (hcd : (x == ("__classdict__" : Str)) = false := by decide) : GL wd X W (.Name x pos) (gOwn i) := ⟨_, pe_var hN hv hd hcd, rl_own⟩
theorem GE.gl (ha : GE wd X W e g) : GL wd X W e (gAsL g) := let ⟨_, p, r⟩ := ha.ex; ⟨_, p, rl_of r⟩
theorem GF.gl {g : AA wd} (ha : GF wd X W e g) : GL wd X W e g := let ⟨_, p, r⟩ := ha.ex; ⟨_, p, rl_fz r⟩
theorem GF.ge {g : AA wd} (ha : GF wd X W e g) : GE wd X W e (gFz g) := let ⟨_, p, r⟩ := ha.ex; ⟨_, p, re_fz r⟩
theorem ge_int {i j pos} : GE wd X W (.Constant (.int i) j pos) (gC (.int i)) := ⟨_, pe_int, re_c fun _ => .int i⟩
theorem ge_bl {b j pos} : GE wd X W (.Constant (.bool b) j pos) (gC (.bl b)) := ⟨_, pe_bl, re_c fun _ => .bl b⟩
theorem ge_non {j pos} : GE wd X W (.Constant .none j pos) (gC .non) := ⟨_, pe_non, re_c fun _ => .non⟩
theorem ge_str {x j pos} : GE wd X W (.Constant (.str x) j pos) (gC (.str x)) := ⟨_, pe_str, re_c fun _ => .str x⟩
theorem ge_op {op : Operator} {r : R2} {f : FD2} (ho : OpR X (binaryOp op) r) (hf : Op2 X.K r f) (ha : GE wd X W a ga) (hb : GE wd X W b gb) : GE wd X W (.BinOp a op b pos) (gOp f ga gb) :=
  let ⟨_, pa, ra⟩ := ha.ex; let ⟨_, pb, rb⟩ := hb.ex; ⟨_, pe_op ho pa pb, re_op hf ra rb⟩
theorem ge_add (ha : GE wd X W a ga) (hb : GE wd X W b gb) : GE wd X W (.BinOp a .Add b pos) (gOp fAdd ga gb) := ge_op m_add op2_add ha hb
theorem ge_sub (ha : GE wd X W a ga) (hb : GE wd X W b gb) : GE wd X W (.BinOp a .Sub b pos) (gOp fSub ga gb) := ge_op op_sub op2_sub ha hb
theorem ge_mul (ha : GE wd X W a ga) (hb : GE wd X W b gb) : GE wd X W (.BinOp a .Mult b pos) (gOp fMul ga gb) := ge_op m_mul op2_mul ha hb
theorem ge_div (ha : GE wd X W a ga) (hb : GE wd X W b gb) : GE wd X W (.BinOp a .FloorDiv b pos) (gOp fDiv ga gb) := ge_op op_fdivW op2_div ha hb
theorem ge_mod (ha : GE wd X W a ga) (hb : GE wd X W b gb) : GE wd X W (.BinOp a .Mod b pos) (gOp fMod ga gb) := ge_op op_mod op2_mod ha hb
theorem ge_pow (ha : GE wd X W a ga) (hb : GE wd X W b gb) : GE wd X W (.BinOp a .Pow b pos) (gOp fPow ga gb) := ge_op op_pow op2_pow ha hb
theorem ge_cmp {op : CmpOp} {r : R2} {f : FD2} (ho : OpR X (compareOp op) r) (hf : Op2 X.K r f) (hm : behindInMarks op b = false) (ha : GE wd X W a ga) (hb : GE wd X W b gb) : GE wd X W (.Compare a [op] [b] pos) (gOp f ga gb) :=
  let ⟨_, pa, ra⟩ := ha.ex; let ⟨_, pb, rb⟩ := hb.ex; ⟨_, pe_cmpR ho pa pb hm, re_op hf ra rb⟩
theorem gt_cmp {op : CmpOp} {r : R2} {f : FD2} (ho : OpR X (compareOp op) r) (hf : Op2 X.K r f) (hm : behindInMarks op b = false) (ha : GE wd X W a ga) (hb : GE wd X W b gb) : GT wd X W (.Compare a [op] [b] pos) (gB (gOp f ga gb)) :=
  let ⟨_, pa, ra⟩ := ha.ex; let ⟨_, pb, rb⟩ := hb.ex; ⟨_, pt_cmpR ho pa pb hm, rt_test (re_op hf ra rb)⟩
theorem ge_chain {op op' : CmpOp} {r r' : R2} {f f' : FD2} (ho : OpR X (compareOp op) r) (ho' : OpR X (compareOp op') r') (hf : Op2 X.K r f) (hf' : Op2 X.K r' f') (ha : GE wd X W a ga) (hb : GE wd X W b gb) (hc : GE wd X W c gc) (hm : lastMarks [op, op'] [b, c] = false := by rfl) :
    GE wd X W (.Compare a [op, op'] [b, c] pos) (gChain f f' ga gb gc) :=
  let ⟨_, pa, ra⟩ := ha.ex; let ⟨_, pb, rb⟩ := hb.ex; let ⟨_, pc, rc⟩ := hc.ex; ⟨_, pe_chain ho ho' pa pb pc hm, re_chain hf hf' ra rb rc⟩
theorem gt_chain {op op' : CmpOp} {r r' : R2} {f f' : FD2} (ho : OpR X (compareOp op) r) (ho' : OpR X (compareOp op') r') (hf : Op2 X.K r f) (hf' : Op2 X.K r' f') (ha : GE wd X W a ga) (hb : GE wd X W b gb) (hc : GE wd X W c gc) (hm : lastMarks [op, op'] [b, c] = false := by rfl) :
    GT wd X W (.Compare a [op, op'] [b, c] pos) (gB (gChain f f' ga gb gc)) :=
  let ⟨_, pa, ra⟩ := ha.ex; let ⟨_, pb, rb⟩ := hb.ex; let ⟨_, pc, rc⟩ := hc.ex; ⟨_, pt_chain ho ho' pa pb pc hm, rt_test (re_chain hf hf' ra rb rc)⟩
theorem gt_tru (ha : GE wd X W a ga) (he : ∀ whole, isTrue a X.env whole = (do let v ← whole; standAt a.pos; holding [v] (truthy v)) := by intro _; rfl) : GT wd X W a (gTru ga) :=
  let ⟨_, pa, ra⟩ := ha.ex; ⟨_, pt_truth pa he, rt_tru ra⟩
variable {ta tb : AT wd} {rest : List Expr}
theorem gt_not (ha : GT wd X W a ta) : GT wd X W (.UnaryOp .Not a pos) (gNotT ta) := let ⟨_, pa, ra⟩ := ha.ex; ⟨_, pt_not pa, rt_not ra⟩
theorem GW.gt (ha : GW wd X W a ta) : GT wd X W a ta := let ⟨_, pa, ra⟩ := ha.ex; ⟨_, pa.pt, ra⟩
theorem gw_and1 (ha : GT wd X W a ta) : GW wd X W (.BoolOp .And [a] pos) ta := let ⟨_, pa, ra⟩ := ha.ex; ⟨_, pw_and1 pa, ra⟩
theorem gw_or1 (ha : GT wd X W a ta) : GW wd X W (.BoolOp .Or [a] pos) ta := let ⟨_, pa, ra⟩ := ha.ex; ⟨_, pw_or1 pa, ra⟩
theorem gw_and (ha : GT wd X W a ta) (hb : GW wd X W (.BoolOp .And (b :: rest) pos) tb) : GW wd X W (.BoolOp .And (a :: b :: rest) pos) (gAndT ta tb) :=
  let ⟨_, pa, ra⟩ := ha.ex; let ⟨_, pb, rb⟩ := hb.ex; ⟨_, pw_and pa pb, rt_and ra rb⟩
theorem gw_or (ha : GT wd X W a ta) (hb : GW wd X W (.BoolOp .Or (b :: rest) pos) tb) : GW wd X W (.BoolOp .Or (a :: b :: rest) pos) (gOrT ta tb) :=
  let ⟨_, pa, ra⟩ := ha.ex; let ⟨_, pb, rb⟩ := hb.ex; ⟨_, pw_or pa pb, rt_or ra rb⟩
theorem ge_one {op} (ha : GE wd X W a ga) : GE wd X W (.BoolOp op [a] pos) ga := let ⟨_, pa, ra⟩ := ha.ex; ⟨_, pe_one pa, ra⟩
theorem ge_and (ha : GE wd X W a ga) (hb : GE wd X W (.BoolOp .And (b :: rest) pos) gb) : GE wd X W (.BoolOp .And (a :: b :: rest) pos) (gAndV ga gb) :=
  let ⟨_, pa, ra⟩ := ha.ex; let ⟨_, pb, rb⟩ := hb.ex; ⟨_, pe_andT pa pb, re_andV ra rb⟩
theorem ge_or (ha : GE wd X W a ga) (hb : GE wd X W (.BoolOp .Or (b :: rest) pos) gb) : GE wd X W (.BoolOp .Or (a :: b :: rest) pos) (gOrV ga gb) :=
  let ⟨_, pa, ra⟩ := ha.ex; let ⟨_, pb, rb⟩ := hb.ex; ⟨_, pe_orT pa pb, re_orV ra rb⟩
theorem ge_not (ha : GE wd X W a ga) : GE wd X W (.UnaryOp .Not a pos) (gNotV ga) := let ⟨_, pa, ra⟩ := ha.ex; ⟨_, pe_notT pa, re_notV ra⟩
theorem ge_if {tc : AT wd} (hc : GT wd X W c tc) (ha : GE wd X W a ga) (hb : GE wd X W b gb) : GE wd X W (.IfExp c a b pos) (gIf tc ga gb) :=
  let ⟨_, pc, rc⟩ := hc.ex; let ⟨_, pa, ra⟩ := ha.ex; let ⟨_, pb, rb⟩ := hb.ex; ⟨_, pe_ifExp pc pa pb, re_if rc ra rb⟩
variable {es : List Expr} {gs : AA wd}
theorem ga_nil : GA wd X W [] gNil := ⟨_, pa_nil, ra_nil⟩
theorem ga_cons (ha : GE wd X W e ga) (hr : GA wd X W es gs) (hs : starEach (e :: es) X.env = (false, eval e X.env) :: starEach es X.env := by rfl) : GA wd X W (e :: es) (gCons ga gs) :=
  let ⟨_, pa, ra⟩ := ha.ex; let ⟨_, pb, rb⟩ := hr.ex; ⟨_, pa_cons pa pb hs, ra_cons ra rb⟩
theorem ge_tup {x1} (hr : GA wd X W es gs) : GE wd X W (.Tuple es x1 pos) (gTup gs) := let ⟨_, pb, rb⟩ := hr.ex; ⟨_, pe_tup pb, re_tup rb⟩
theorem gf_lst (hr : GA wd X W es gs) : GF wd X W (.List es pos) (gLst gs) := let ⟨_, pb, rb⟩ := hr.ex; ⟨_, pe_lst pb, rf_lst rb⟩
end
end MR
/-! items, slices, calls of builtins and defs -/
namespace MR
open PySem PySem.Spec L2

/-! ### items -/
section
variable {K : PySem.W.Frag} {B : Hp}
theorem RepAll.atI {vs : List V} {ds : List D} {i : Int} {d : D} (r : RepAll K B vs ds) (h : atI ds i = some d) : ∃ v, L2.atI vs i = some v ∧ Rep K B v d := by
  unfold L2.atI at h ⊢
  rw [r.length]
  cases e : ixN ds.length i with
  | none =>
    rw [e] at h
    cases h
  | some j =>
    rw [e] at h
    exact r.get h
end
def fIx : FD2
  | .tup xs, .int i, Q => match L2.atI xs i with
    | some d => Q d
    | none => False
  | .lst xs, .int i, Q => match L2.atI xs i with
    | some d => Q d
    | none => False
  | .str z, .int i, Q => z.length ≤ sizeLine ∧ match L2.atI z.cps.toList i with
    | some c => Q (.str ⟨#[c]⟩)
    | none => False
  | _, _, _ => False
theorem op2_ix {K : PySem.W.Frag} : Op2 K (rIx K) fIx := by
  intro wd F B ω H x y d e Qa Q hs rx ry hf k
  cases d <;> cases e <;> try exact hf.elim
  case tup.int xs i =>
    cases ry
    cases rx with
    | tup h1 r1 =>
      simp only [fIx] at hf
      cases e : L2.atI xs i with
      | none => simp only [e] at hf
      | some d =>
        simp only [e] at hf
        obtain ⟨v, e2, r⟩ := r1.atI e
        exact .inr (.inl ⟨_, _, i, v, rfl, rfl, Same.seqT hs.sB h1, e2, ro_same hs r hf k⟩)
  case lst.int xs i =>
    cases ry
    cases rx with
    | lst h1 r1 =>
      simp only [fIx] at hf
      cases e : L2.atI xs i with
      | none => simp only [e] at hf
      | some d =>
        simp only [e] at hf
        obtain ⟨v, e2, r⟩ := r1.atI e
        exact .inl ⟨_, _, i, v, rfl, rfl, SqL.of (hs.sB _ _ h1), e2, ro_same hs r hf k⟩
  case str.int z i =>
    cases rx; cases ry
    simp only [fIx] at hf
    cases e : L2.atI z.cps.toList i with
    | none =>
      simp only [e] at hf
      exact hf.2.elim
    | some c =>
      simp only [e] at hf
      exact .inr (.inr ⟨z, i, c, rfl, rfl, hf.1, e, ro_same hs (.str _) hf.2 k⟩)

/-! ### slices -/
def cutD {α : Type} (xs : List α) (lo hi : Option Int) : List α := (xs.drop (HT.sIx xs.length 0 lo)).take (HT.sIx xs.length xs.length hi - HT.sIx xs.length 0 lo)
theorem cut_rep {K : PySem.W.Frag} {B : Hp} {vs : List V} {ds : List D} (r : RepAll K B vs ds) (lo hi : Option Int) : RepAll K B (cutV vs lo hi) (cutD ds lo hi) := by
  unfold cutV cutD
  rw [r.length]
  exact (r.drop _).take _
def fSl (x : D) (lo hi : Option Int) (Q : D → Prop) : Prop := match x with
  | .tup xs => Q (.tup (cutD xs lo hi))
  | .lst xs => Q (.lst (cutD xs lo hi))
  | .str z => z.length ≤ sizeLine ∧ Q (.str (cutS z lo hi))
  | _ => False
section
variable (wd : Wd)
abbrev AO := AEnv → wd.W → (Option Int → wd.W → Prop) → AX wd → Prop
def KOO (K : PySem.W.Frag) (F B : Hp) (Qa : Option Int → wd.W → Prop) (Q : Option Int → Hp → Prop) : Prop := ∀ B' ω' H' o, Same B B' → Hst wd K F B' ω' H' → Qa o ω' → Q o H'
def RO (K : PySem.W.Frag) (W : WX) (t : TO) (g : AO wd) : Prop := ∀ F B ρ ω σ H Qa Ea Q, Hst wd K F B ω H → EnvOk K F B ρ σ → g ρ ω Qa Ea → KOO wd K F B Qa Q → XOk wd K F B Ea (fun c d h => W c d σ h) → t σ H Q
structure GO (X : Cx) (W : WX) (e : Option Expr) (g : AO wd) : Prop where
  ex : ∃ t, PO X e t ∧ RO wd X.K W t g
end
section
variable {wd : Wd} {K : PySem.W.Frag} {W : WX} {X : Cx}
def gNo : AO wd := fun _ ω Q _ => Q none ω
def gPart (g : AE wd) : AO wd := fun ρ ω Q E => g ρ ω (fun x ω1 => match x with
  | .int i => Q (some i) ω1
  | _ => False) E
theorem go_none : GO wd X W none gNo := ⟨_, po_none, fun F B ρ ω σ H Qa Ea Q hs he hg hk hx => hk _ _ _ _ (Same.refl _) hs hg⟩
theorem go_some {e : Expr} {g : AE wd} (h : GE wd X W e g) : GO wd X W (some e) (gPart g) := by
  obtain ⟨t, p, r⟩ := h.ex
  refine ⟨_, po_some p, fun F B ρ ω σ H Qa Ea Q hs he hg hk hx => r F B ρ ω σ H _ Ea _ hs he hg (fun B1 ω1 H1 v1 d1 s1 hs1 r1 g1 => ?_) hx⟩
  cases d1 <;> try exact g1.elim
  case int i =>
    cases r1
    exact ⟨i, rfl, hk _ _ _ _ s1 hs1 g1⟩
def gSl (g : AE wd) (gl gh : AO wd) : AE wd := fun ρ ω Q E => g ρ ω (fun x ω1 => gl ρ ω1 (fun lo ω2 => gh ρ ω2 (fun hi ω3 => fSl x lo hi (fun z => Q z ω3)) E) E) E
/-- the slice of a list is a new one -/
def gSlF (g : AA wd) (gl gh : AO wd) : AA wd := fun ρ ω Q E => g ρ ω (fun x ω1 => gl ρ ω1 (fun lo ω2 => gh ρ ω2 (fun hi ω3 => Q (cutD x lo hi) ω3) E) E) E
abbrev rSlU (K : PySem.W.Frag) : V → Option Int → Option Int → Hp → VK → Prop := fun x lo hi H Q => rSlA K x lo hi H Q ∨ rSlL K x lo hi H Q ∨ rSlS x lo hi H Q
theorem sl_any : SlR X (rSlU X.K) := sl_tupA.or (sl_list.or sl_str)
theorem cut_whole {xs : List D} {lo hi : Option Int} (h : HT.sIx xs.length 0 lo = 0 ∧ HT.sIx xs.length xs.length hi = xs.length) : cutD xs lo hi = xs := by
  unfold cutD
  rw [h.1, h.2]
  simp
theorem ge_slice {e : Expr} {lo hi : Option Expr} {p2 pos : Pos} {g : AE wd} {gl gh : AO wd} (h : GE wd X W e g) (hl : GO wd X W lo gl) (hh : GO wd X W hi gh) : GE wd X W (.Subscript e (.Slice lo hi none p2) pos) (gSl g gl gh) := by
  obtain ⟨t, p, r⟩ := h.ex
  obtain ⟨tl, pl, rl⟩ := hl.ex
  obtain ⟨th, ph, rh⟩ := hh.ex
  refine ⟨_, pe_slice sl_any p pl ph, fun F B ρ ω σ H Qa Ea Q hs he hg hk hx => r F B ρ ω σ H _ Ea _ hs he hg (fun B1 ω1 H1 v1 d1 s1 hs1 r1 g1 =>
    rl F B1 ρ ω1 σ H1 _ Ea _ hs1 (he.mono s1) g1 (fun B2 ω2 H2 lo s2 hs2 g2 => rh F B2 ρ ω2 σ H2 _ Ea _ hs2 (he.mono (s1.trans s2)) g2 (fun B3 ω3 H3 hi s3 hs3 g3 => ?_) (hx.mono (s1.trans s2))) (hx.mono s1)) hx⟩
  have r3 := r1.mono (s2.trans s3)
  have hk3 := hk.mono ((s1.trans s2).trans s3)
  cases d1 <;> try exact g3.elim
  case tup xs =>
    cases r3 with
    | tup h1 r1 =>
      have l1 := r1.length
      refine .inl ⟨_, _, rfl, Same.seqT hs3.sB h1, fun e => ?_, fun _ p hp => ro_new hs3 (cut_rep r1 lo hi) g3 hk3 hp⟩
      rw [l1] at e
      have g3' : Qa (.tup (cutD xs lo hi)) ω3 := g3
      rw [cut_whole e] at g3'
      exact ro_same hs3 (.tup h1 r1) g3' hk3
  case lst xs =>
    cases r3 with
    | lst h1 r1 => exact .inr (.inl ⟨_, _, rfl, SqL.of (hs3.sB _ _ h1), fun p hp => ro_newL hs3 (cut_rep r1 lo hi) g3 hk3 hp⟩)
  case str z =>
    cases r3
    exact .inr (.inr ⟨z, rfl, g3.1, ro_same hs3 (.str _) g3.2 hk3⟩)
theorem gf_slice {e : Expr} {lo hi : Option Expr} {p2 pos : Pos} {g : AA wd} {gl gh : AO wd} (h : GL wd X W e g) (hl : GO wd X W lo gl) (hh : GO wd X W hi gh) : GF wd X W (.Subscript e (.Slice lo hi none p2) pos) (gSlF g gl gh) := by
  obtain ⟨t, p, r⟩ := h.ex
  obtain ⟨tl, pl, rl⟩ := hl.ex
  obtain ⟨th, ph, rh⟩ := hh.ex
  refine ⟨_, pe_slice sl_any p pl ph, fun F B ρ ω σ H Qa Ea Q hs he hg hk hx => r F B ρ ω σ H _ Ea _ hs he hg (fun B1 ω1 H1 q1 vs ds s1 hs1 l1 r1 g1 =>
    rl F B1 ρ ω1 σ H1 _ Ea _ hs1 (he.mono s1) g1 (fun B2 ω2 H2 lo s2 hs2 g2 => rh F B2 ρ ω2 σ H2 _ Ea _ hs2 (he.mono (s1.trans s2)) g2 (fun B3 ω3 H3 hi s3 hs3 g3 => ?_) (hx.mono (s1.trans s2))) (hx.mono s1)) hx⟩
  have hp := hs3.lst (Or.up (s2.trans s3) l1)
  exact .inr (.inl ⟨_, _, rfl, SqL.of hp, fun p hp => hk _ _ _ p _ _ ((s1.trans s2).trans s3) hs3 hp (cut_rep (r1.mono (s2.trans s3)) lo hi) g3⟩)
/-- e[::-1] -/
def fRev (x : D) (Q : D → Prop) : Prop := match x with
  | .tup xs => Q (.tup xs.reverse)
  | .lst xs => Q (.lst xs.reverse)
  | _ => False
def gUn (f : D → (D → Prop) → Prop) (g : AE wd) : AE wd := fun ρ ω Q E => g ρ ω (fun x ω1 => f x (fun z => Q z ω1)) E
def Op1 (K : PySem.W.Frag) (r : V → Hp → VK → Prop) (f : D → (D → Prop) → Prop) : Prop := ∀ (wd : Wd) (F B : Hp) (ω : wd.W) (H : Hp) (x : V) (d : D) (Qa : AQ wd) (Q : VK),
  Hst wd K F B ω H → Rep K B x d → f d (fun z => Qa z ω) → KOk wd K F B Qa Q → r x H Q
theorem re_un {r : V → Hp → VK → Prop} {f : D → (D → Prop) → Prop} {t : TE} {g : AE wd} (hf : Op1 K r f) (h : RE wd K W t g) : RE wd K W (tUn r t) (gUn f g) := fun F B ρ ω σ H Qa Ea Q hs he hg hk hx =>
  h F B ρ ω σ H _ Ea _ hs he hg (fun B1 ω1 H1 v1 d1 s1 hs1 r1 g1 => hf wd F B1 ω1 H1 v1 d1 Qa Q hs1 r1 g1 (hk.mono s1)) hx
theorem op1_rev : Op1 K (rRev K) fRev := by
  intro wd F B ω H x d Qa Q hs rx hf k
  cases d <;> try exact hf.elim
  case tup xs =>
    cases rx with
    | tup h1 r1 => exact ⟨_, _, rfl, .inl ⟨Same.seqT hs.sB h1, fun p hp => ro_new hs r1.reverse hf k hp⟩⟩
  case lst xs =>
    cases rx with
    | lst h1 r1 => exact ⟨_, _, rfl, .inr ⟨SqL.of (hs.sB _ _ h1), fun p hp => ro_newL hs r1.reverse hf k hp⟩⟩
theorem ge_rev {e : Expr} {k : Nat} {p1 p2 p3 pos : Pos} {g : AE wd} (h : GE wd X W e g) : GE wd X W (.Subscript e (.Slice none none (some (.UnaryOp .USub (.Constant (.int 1) k p1) p2)) p3) pos) (gUn fRev g) :=
  let ⟨_, p, r⟩ := h.ex; ⟨_, pe_rev p, re_un op1_rev r⟩
def fNeg (x : D) (Q : D → Prop) : Prop := match x with
  | .int i => Q (.int (-i))
  | _ => False
theorem op1_neg : Op1 K (rU fun i => .int (-i)) fNeg := by
  intro wd F B ω H x d Qa Q hs rx hf k
  cases d <;> try exact hf.elim
  case int i =>
    cases rx
    exact ⟨i, rfl, ro_same hs (.int _) hf k⟩
theorem ge_neg {e : Expr} {pos : Pos} {g : AE wd} (h : GE wd X W e g) : GE wd X W (.UnaryOp .USub e pos) (gUn fNeg g) := let ⟨_, p, r⟩ := h.ex; ⟨_, pe_un un_neg p, re_un op1_neg r⟩
theorem ge_ix {a b : Expr} {pos : Pos} {ga gb : AE wd} (ha : GE wd X W a ga) (hb : GE wd X W b gb) (hp : PlainIx b := by exact fun _ _ => rfl) : GE wd X W (.Subscript a b pos) (gOp fIx ga gb) :=
  let ⟨_, pa, ra⟩ := ha.ex; let ⟨_, pb, rb⟩ := hb.ex; ⟨_, pe_ix ix_seq pa pb hp, re_op op2_ix ra rb⟩
/-- an item of a list that is read -/
def gIxL (g : AA wd) (gb : AE wd) : AE wd := fun ρ ω Q E => g ρ ω (fun xs ω1 => gb ρ ω1 (fun y ω2 => match y with
  | .int i => match L2.atI xs i with
    | some d => Q d ω2
    | none => False
  | _ => False) E) E
theorem ge_ixL {a b : Expr} {pos : Pos} {ga : AA wd} {gb : AE wd} (ha : GL wd X W a ga) (hb : GE wd X W b gb) (hp : PlainIx b := by exact fun _ _ => rfl) : GE wd X W (.Subscript a b pos) (gIxL ga gb) := by
  obtain ⟨t, pa, ra⟩ := ha.ex
  obtain ⟨u, pb, rb⟩ := hb.ex
  refine ⟨_, pe_ix ix_seq pa pb hp, fun F B ρ ω σ H Qa Ea Q hs he hg hk hx => ra F B ρ ω σ H _ Ea _ hs he hg (fun B1 ω1 H1 p vs ds s1 hs1 l1 r1 g1 =>
    rb F B1 ρ ω1 σ H1 _ Ea _ hs1 (he.mono s1) g1 (fun B2 ω2 H2 v2 d2 s2 hs2 r2 g2 => ?_) (hx.mono s1)) hx⟩
  cases d2 <;> try exact g2.elim
  case int i =>
    cases r2
    simp only at g2
    cases e : L2.atI ds i with
    | none => simp only [e] at g2
    | some d =>
      simp only [e] at g2
      obtain ⟨v, e2, r⟩ := (r1.mono s2).atI e
      exact .inl ⟨p, vs, i, v, rfl, rfl, SqL.of (hs2.lst (Or.up s2 l1)), e2, hk _ _ _ _ _ (s1.trans s2) hs2 r g2⟩

/-! ### builtins -/
abbrev FC := List D → (D → Prop) → Prop
def COp (K : PySem.W.Frag) (r : List V → Hp → VK → Prop) (f : FC) : Prop := ∀ (wd : Wd) (F B : Hp) (ω : wd.W) (H : Hp) (vs : List V) (ds : List D) (Qa : AQ wd) (Q : VK),
  Hst wd K F B ω H → RepAll K B vs ds → f ds (fun z => Qa z ω) → KOk wd K F B Qa Q → r vs H Q
def gFn (f : FC) (g : AA wd) : AE wd := fun ρ ω Q E => g ρ ω (fun xs ω1 => f xs (fun z => Q z ω1)) E
theorem re_fn {r : List V → Hp → VK → Prop} {f : FC} {t : TA} {g : AA wd} (hf : COp K r f) (h : RA wd K W t g) : RE wd K W (tCB r t) (gFn f g) := fun F B ρ ω σ H Qa Ea Q hs he hg hk hx =>
  h F B ρ ω σ H _ Ea _ hs he hg (fun B1 ω1 H1 vs ds s1 hs1 r1 g1 => hf wd F B1 ω1 H1 vs ds Qa Q hs1 r1 g1 (hk.mono s1)) hx
theorem ge_fn {id : String} {x : Str} {p pos : Pos} {e : Expr} {es : List Expr} {r : List V → Hp → VK → Prop} {f : FC} {g : AA wd} (hc : CallR X (.builtin id) r) (hf : COp X.K r f) (hm : X.mg x = none) (ha : GA wd X W (e :: es) g) (hg : Gl X x := by rfl) (hv : bootBuiltins x = some (.builtin id) := by decide +kernel)
    (hn : x ≠ "__name__" := by decide) (hdb : (x == ("__debug__" : Str)) = false := by decide) (he : starEach (e :: es) X.env = (false, eval e X.env) :: starEach es X.env := by rfl) (hpl : (backTo pos (starEach es X.env)).any (·.1) = false := by rfl) :
    GE wd X W (.Call (.Name x p) (e :: es) [] pos) (gFn f g) := let ⟨_, pa, ra⟩ := ha.ex; ⟨_, pe_callB hc hg hm hv pa hn hdb he hpl, re_fn hf ra⟩
theorem ge_ty {T : String} {x : Str} {p pos : Pos} {e : Expr} {es : List Expr} {r : List V → Hp → VK → Prop} {f : FC} {g : AA wd} (hc : CallR X (.type T) r) (hf : COp X.K r f) (hm : X.mg x = none) (ha : GA wd X W (e :: es) g) (hg : Gl X x := by rfl) (hv : bootBuiltins x = some (.type T) := by decide +kernel)
    (hn : x ≠ "__name__" := by decide) (hdb : (x == ("__debug__" : Str)) = false := by decide) (he : starEach (e :: es) X.env = (false, eval e X.env) :: starEach es X.env := by rfl) (hpl : (backTo pos (starEach es X.env)).any (·.1) = false := by rfl) :
    GE wd X W (.Call (.Name x p) (e :: es) [] pos) (gFn f g) := let ⟨_, pa, ra⟩ := ha.ex; ⟨_, pe_callTy hc hg hm hv pa hn hdb he hpl, re_fn hf ra⟩
end
end MR
/-! the builtins, repr, isinstance, defs called -/
namespace MR
open PySem PySem.Spec L2
section
variable {K : PySem.W.Frag}
def fLen : FC
  | [.tup xs], Q => Q (.int xs.length)
  | [.lst xs], Q => Q (.int xs.length)
  | [.str x], Q => x.length ≤ sizeLine ∧ Q (.int x.length)
  | _, _ => False
def rLen (K : PySem.W.Frag) : List V → Hp → VK → Prop := fun xs H Q => ∃ x n, xs = [x] ∧ LenV K x H n ∧ Q (.int n) H
theorem c_len : COp K (rLen K) fLen := by
  intro wd F B ω H vs ds Qa Q hs r hf k
  match ds, r, hf with
  | [.tup xs], .cons (.tup h1 r1) .nil, hf => exact ⟨_, _, rfl, .inr ⟨_, Same.seqT hs.sB h1, rfl⟩, by rw [r1.length]; exact ro_same hs (.int _) hf k⟩
  | [.lst xs], .cons (.lst h1 r1) .nil, hf => exact ⟨_, _, rfl, .inl ⟨_, SqL.of (hs.sB _ _ h1), rfl⟩, by rw [r1.length]; exact ro_same hs (.int _) hf k⟩
  | [.str x], .cons (.str _) .nil, hf => exact ⟨_, _, rfl, ⟨hf.1, rfl⟩, ro_same hs (.int _) hf.2 k⟩
def fInt : FC
  | [.int i], Q => Q (.int i)
  | [.bl b], Q => Q (.int (if b then 1 else 0))
  | _, _ => False
def rInt : List V → Hp → VK → Prop := fun xs H Q => (∃ i, xs = [.int i] ∧ Q (.int i) H) ∨ ∃ k, xs = [.bl k] ∧ Q (.int (if k then 1 else 0)) H
theorem c_int : COp K rInt fInt := by
  intro wd F B ω H vs ds Qa Q hs r hf k
  match ds, r, hf with
  | [.int i], .cons (.int _) .nil, hf => exact .inl ⟨i, rfl, ro_same hs (.int _) hf k⟩
  | [.bl b], .cons (.bl _) .nil, hf => exact .inr ⟨b, rfl, ro_same hs (.int _) hf k⟩
def fMin : FC
  | [.int i, .int j], Q => Q (.int (if j < i then j else i))
  | _, _ => False
def fMax : FC
  | [.int i, .int j], Q => Q (.int (if j > i then j else i))
  | _, _ => False
def rMin2 : List V → Hp → VK → Prop := fun xs H Q => ∃ i j, xs = [.int i, .int j] ∧ Q (.int (if j < i then j else i)) H
def rMax2 : List V → Hp → VK → Prop := fun xs H Q => ∃ i j, xs = [.int i, .int j] ∧ Q (.int (if j > i then j else i)) H
theorem c_min : COp K rMin2 fMin := by
  intro wd F B ω H vs ds Qa Q hs r hf k
  match ds, r, hf with
  | [.int i, .int j], .cons (.int _) (.cons (.int _) .nil), hf => exact ⟨i, j, rfl, ro_same hs (.int _) hf k⟩
theorem c_max : COp K rMax2 fMax := by
  intro wd F B ω H vs ds Qa Q hs r hf k
  match ds, r, hf with
  | [.int i, .int j], .cons (.int _) (.cons (.int _) .nil), hf => exact ⟨i, j, rfl, ro_same hs (.int _) hf k⟩
def fDivmod : FC
  | [.int i, .int j], Q => CDiv i j ∧ Q (.tup [.int (i / j), .int (i % j)])
  | _, _ => False
def rDivmod : List V → Hp → VK → Prop := fun xs H Q => ∃ i j, xs = [.int i, .int j] ∧ CDiv i j ∧ ∀ p, H p = none → Q (.ref p) (upd H p (.tup [.int (i / j), .int (i % j)]))
theorem c_divmod : COp K rDivmod fDivmod := by
  intro wd F B ω H vs ds Qa Q hs r hf k
  match ds, r, hf with
  | [.int i, .int j], .cons (.int _) (.cons (.int _) .nil), hf => exact ⟨i, j, rfl, hf.1, fun p hp => ro_new hs (.cons (.int _) (.cons (.int _) .nil)) hf.2 k hp⟩
def fSum : FC
  | [.lst xs], Q => match asInts xs with
    | some ns => Q (.int ns.sum)
    | none => False
  | _, _ => False
theorem c_sum : COp K (rSum K) fSum := by
  intro wd F B ω H vs ds Qa Q hs r hf k
  match ds, r, hf with
  | [.lst xs], .cons (.lst h1 r1) .nil, hf =>
    simp only [fSum] at hf
    cases e : asInts xs with
    | none => simp only [e] at hf
    | some ns =>
      simp only [e] at hf
      have a := asInts_eq e
      subst a
      have b := r1.of_ints
      subst b
      exact ⟨_, ns, rfl, SqL.of (hs.sB _ _ h1), ro_same hs (.int _) hf k⟩
def asBls : List D → Option (List Bool)
  | [] => some []
  | .bl i :: r => (asBls r).map (i :: ·)
  | _ :: _ => none
theorem asBls_map : ∀ ns : List Bool, asBls (ns.map D.bl) = some ns
  | [] => rfl
  | n :: ns => by
    rw [List.map_cons, asBls, asBls_map ns]
    rfl
theorem asBls_eq : ∀ {ds : List D} {ns : List Bool}, asBls ds = some ns → ds = ns.map D.bl
  | [], ns, h => by
    rw [asBls] at h
    cases h
    rfl
  | .bl i :: r, ns, h => by
    rw [asBls] at h
    cases e : asBls r with
    | none =>
      rw [e] at h
      cases h
    | some ms =>
      rw [e] at h
      cases h
      rw [asBls_eq e]
      rfl
  | .non :: _, _, h => by simp [asBls] at h
  | .int _ :: _, _, h => by simp [asBls] at h
  | .str _ :: _, _, h => by simp [asBls] at h
  | .lst _ :: _, _, h => by simp [asBls] at h
  | .tup _ :: _, _, h => by simp [asBls] at h
  | .dct _ _ :: _, _, h => by simp [asBls] at h
  | .adr _ :: _, _, h => by simp [asBls] at h
  | .obj _ _ _ :: _, _, h => by simp [asBls] at h
def fAll : FC
  | [.lst xs], Q => match asBls xs with
    | some ns => Q (.bl (ns.all id))
    | none => False
  | _, _ => False
theorem c_all : COp K (rAll K) fAll := by
  intro wd F B ω H vs ds Qa Q hs r hf k
  match ds, r, hf with
  | [.lst xs], .cons (.lst h1 r1) .nil, hf =>
    simp only [fAll] at hf
    cases e : asBls xs with
    | none => simp only [e] at hf
    | some ns =>
      simp only [e] at hf
      have a := asBls_eq e
      subst a
      have b := r1.of_bls
      subst b
      exact ⟨_, ns, rfl, SqL.of (hs.sB _ _ h1), ro_same hs (.bl _) hf k⟩
def fTuple : FC
  | [.tup xs], Q => Q (.tup xs)
  | [.lst xs], Q => Q (.tup xs)
  | _, _ => False
def rTuple (K : PySem.W.Frag) : List V → Hp → VK → Prop := fun xs H Q => ∃ p ys, xs = [.ref p] ∧ ((SqL K H p ys ∧ ∀ l, H l = none → Q (.ref l) (upd H l (.tup ys))) ∨ (SqT K H p ys ∧ Q (.ref p) H))
theorem c_tuple : COp K (rTuple K) fTuple := by
  intro wd F B ω H vs ds Qa Q hs r hf k
  match ds, r, hf with
  | [.tup xs], .cons (.tup h1 r1) .nil, hf => exact ⟨_, _, rfl, .inr ⟨Same.seqT hs.sB h1, ro_same hs (.tup h1 r1) hf k⟩⟩
  | [.lst xs], .cons (.lst h1 r1) .nil, hf => exact ⟨_, _, rfl, .inl ⟨SqL.of (hs.sB _ _ h1), fun p hp => ro_new hs r1 hf k hp⟩⟩

/-! ### repr -/
mutual
theorem pure_noDict : ∀ d : D, pureD d = true → (toP d).hasDict = false
  | .non, _ => by rw [toP, PyData.hasDict]
  | .bl _, _ => by rw [toP, PyData.hasDict]
  | .int _, _ => by rw [toP, PyData.hasDict]
  | .str _, _ => by rw [toP, PyData.hasDict]
  | .lst xs, h => by
    rw [pureD] at h
    rw [toP, PyData.hasDict]
    exact pures_noDict xs h
  | .tup xs, h => by
    rw [pureD] at h
    rw [toP, PyData.hasDict]
    exact pures_noDict xs h
  | .dct _ _, h => by rw [pureD] at h; cases h
  | .adr _, h => by rw [pureD] at h; cases h
  | .obj _ _ _, h => by rw [pureD] at h; cases h
theorem pures_noDict : ∀ ds : List D, pureDs ds = true → PyData.hasDictAll (toPs ds) = false
  | [], _ => by rw [toPs, PyData.hasDictAll]
  | d :: ds, h => by
    rw [pureDs, Bool.and_eq_true] at h
    rw [toPs, PyData.hasDictAll, pure_noDict d h.1, pures_noDict ds h.2]
    rfl
end
def shownD (d : D) : Str := (toP d).shown
def rOk (d : D) : Bool := pureD d && (toP d).showable && decide ((toP d).depth ≤ 64) && decide ((shownD d).length ≤ sizeLine)
def fRepr : FC
  | [d], Q => rOk d = true ∧ Q (.str (shownD d))
  | _, _ => False
def rRepr (K : PySem.W.Frag) : List V → Hp → VK → Prop := fun xs H Q => ∃ x d, xs = [x] ∧ Dp K H x d ∧ d.showable = true ∧ d.hasDict = false ∧ d.depth ≤ 64 ∧ d.shown.length ≤ sizeLine ∧ Q (.str d.shown) H
theorem call_repr {X : Cx} (hG : X.A.guards = some []) (hu : X.A.units + 100 < cLine) : CallR X (.builtin "repr") (rRepr X.K) := by
  rintro pins s σ H xs us Q I r ⟨x, d, rfl, hd, h1, h2, h3, h4, q⟩
  obtain ⟨u, rfl, rx⟩ := vals1 r
  cases hd with
  | non =>
    cases rx
    exact PySem.P.repr_of_none ⟨.str _, H, I.tok _, ⟨_, rfl⟩, by rw [PyData.shown] at q; exact q⟩
  | bl b =>
    cases rx
    exact PySem.P.repr_of_bool ⟨.str _, H, I.tok _, ⟨_, rfl⟩, by rw [PyData.shown] at q; exact q⟩
  | int i =>
    obtain ⟨t, rfl⟩ := rx
    rw [PyData.showable] at h1
    exact PySem.P.repr_of_int (of_decide_eq_true h1) ⟨.str _, H, I.tok _, ⟨_, rfl⟩, by rw [PyData.shown] at q; exact q⟩
  | str y =>
    obtain ⟨t, rfl⟩ := rx
    rw [PyData.shown] at h4 q
    exact PySem.P.repr_of_str ⟨.str _, H, I.tok _, ⟨_, rfl⟩, q⟩ h4
  | lst hs ha =>
    obtain ⟨as, rd⟩ := Dp.reads I _ _ _ (.lst hs ha) rx
    cases rx
    exact repr_of_reads' rd h1 (PyData.noDict_hsm h2) hG (by omega) (fun _ _ e => e) (fun h' u tk hk => ⟨.str _, H, I.kept hk, ⟨_, rfl⟩, q⟩) h4
  | tup hs ha =>
    obtain ⟨as, rd⟩ := Dp.reads I _ _ _ (.tup hs ha) rx
    cases rx
    exact repr_of_reads' rd h1 (PyData.noDict_hsm h2) hG (by omega) (fun _ _ e => e) (fun h' u tk hk => ⟨.str _, H, I.kept hk, ⟨_, rfl⟩, q⟩) h4
theorem c_repr : COp K (rRepr K) fRepr := by
  intro wd F B ω H vs ds Qa Q hs r hf k
  match ds, r, hf with
  | [d], .cons r1 .nil, hf =>
    obtain ⟨h, q⟩ := hf
    unfold rOk at h
    simp only [Bool.and_eq_true, decide_eq_true_eq] at h
    exact ⟨_, _, rfl, r1.dp hs.sB h.1.1.1, h.1.1.2, pure_noDict d h.1.1.1, h.1.2, h.2, ro_same hs (.str _) q k⟩

/-! ### isinstance of a value and a built-in class -/
def tyD : D → Option String
  | .non => some "NoneType"
  | .bl _ => some "bool"
  | .int _ => some "int"
  | .str _ => some "str"
  | .lst _ => some "list"
  | .tup _ => some "tuple"
  | .dct _ _ => some "dict"
  | .adr _ => none
  | .obj _ _ _ => none
theorem tyX_of {wd : Wd} {F B : Hp} {ω : wd.W} {H : Hp} {v : V} {d : D} {n : String} (hs : Hst wd K F B ω H) (r : Rep K B v d) (h : tyD d = some n) : TyX K H v (.type n) := by
  cases r with
  | non => cases h; exact .base .non
  | bl b => cases h; exact .base (.bl b)
  | int i => cases h; exact .base (.int i)
  | str x => cases h; exact .base (.str x)
  | lst e _ => cases h; exact .base (.lst (hs.sB _ _ e))
  | tup e _ =>
    cases h
    rcases Same.seqT hs.sB e with (e | ⟨o, e⟩) | ⟨o, its, n, e, c, _⟩
    · exact .base (.tup e)
    · exact .fTuple e
    · exact .kTuple e c
  | dct e _ => cases h; exact .base (.dK (hs.sB _ _ e))
  | adr _ => cases h
  | obj _ _ _ => cases h
def dInt : D → Bool
  | .int _ => true
  | .bl _ => true
  | _ => false
def dBool : D → Bool
  | .bl _ => true
  | _ => false
def dTup : D → Bool
  | .tup _ => true
  | _ => false
def dStr : D → Bool
  | .str _ => true
  | _ => false
def dLst : D → Bool
  | .lst _ => true
  | _ => false
/-- what each kind is asked -/
structure IsT (T : String) (f : D → Bool) : Prop where
  non : kitB "NoneType" T = some (f .non)
  bl : ∀ b, kitB "bool" T = some (f (.bl b))
  int : ∀ i, kitB "int" T = some (f (.int i))
  str : ∀ x, kitB "str" T = some (f (.str x))
  lst : ∀ xs, kitB "list" T = some (f (.lst xs))
  tup : ∀ xs, kitB "tuple" T = some (f (.tup xs))
  dct : ∀ ks xs, kitB "dict" T = some (f (.dct ks xs))
theorem isT_int : IsT "int" dInt := ⟨(by decide +kernel : kitB "NoneType" "int" = some false), fun _ => (by decide +kernel : kitB "bool" "int" = some true), fun _ => (by decide +kernel : kitB "int" "int" = some true), fun _ => (by decide +kernel : kitB "str" "int" = some false),
  fun _ => (by decide +kernel : kitB "list" "int" = some false), fun _ => (by decide +kernel : kitB "tuple" "int" = some false), fun _ _ => (by decide +kernel : kitB "dict" "int" = some false)⟩
theorem isT_bool : IsT "bool" dBool := ⟨(by decide +kernel : kitB "NoneType" "bool" = some false), fun _ => (by decide +kernel : kitB "bool" "bool" = some true), fun _ => (by decide +kernel : kitB "int" "bool" = some false), fun _ => (by decide +kernel : kitB "str" "bool" = some false),
  fun _ => (by decide +kernel : kitB "list" "bool" = some false), fun _ => (by decide +kernel : kitB "tuple" "bool" = some false), fun _ _ => (by decide +kernel : kitB "dict" "bool" = some false)⟩
theorem isT_tup : IsT "tuple" dTup := ⟨(by decide +kernel : kitB "NoneType" "tuple" = some false), fun _ => (by decide +kernel : kitB "bool" "tuple" = some false), fun _ => (by decide +kernel : kitB "int" "tuple" = some false), fun _ => (by decide +kernel : kitB "str" "tuple" = some false),
  fun _ => (by decide +kernel : kitB "list" "tuple" = some false), fun _ => (by decide +kernel : kitB "tuple" "tuple" = some true), fun _ _ => (by decide +kernel : kitB "dict" "tuple" = some false)⟩
theorem isT_str : IsT "str" dStr := ⟨(by decide +kernel : kitB "NoneType" "str" = some false), fun _ => (by decide +kernel : kitB "bool" "str" = some false), fun _ => (by decide +kernel : kitB "int" "str" = some false), fun _ => (by decide +kernel : kitB "str" "str" = some true),
  fun _ => (by decide +kernel : kitB "list" "str" = some false), fun _ => (by decide +kernel : kitB "tuple" "str" = some false), fun _ _ => (by decide +kernel : kitB "dict" "str" = some false)⟩
theorem isT_lst : IsT "list" dLst := ⟨(by decide +kernel : kitB "NoneType" "list" = some false), fun _ => (by decide +kernel : kitB "bool" "list" = some false), fun _ => (by decide +kernel : kitB "int" "list" = some false), fun _ => (by decide +kernel : kitB "str" "list" = some false),
  fun _ => (by decide +kernel : kitB "list" "list" = some true), fun _ => (by decide +kernel : kitB "tuple" "list" = some false), fun _ _ => (by decide +kernel : kitB "dict" "list" = some false)⟩
def fIsi (f : D → Bool) (d : D) (Q : D → Prop) : Prop := match tyD d with
  | some _ => Q (.bl (f d))
  | none => False
theorem isT_at {T : String} {f : D → Bool} (h : IsT T f) {d : D} {n : String} (e : tyD d = some n) : kitB n T = some (f d) := by
  cases d <;> cases e
  · exact h.non
  · exact h.bl _
  · exact h.int _
  · exact h.str _
  · exact h.lst _
  · exact h.tup _
  · exact h.dct _ _
end
section
variable {wd : Wd} {X : Cx} {W : WX}
theorem ge_isi {T : String} {f : D → Bool} {e : Expr} {nT : Str} {p1 p2 pos : Pos} {g : AE wd} (hT : IsT T f) (hm : X.mg "isinstance" = none) (hmT : X.mg nT = none) (he : GE wd X W e g) (hg : Gl X "isinstance" := by rfl) (hgT : Gl X nT := by rfl) (hvT : bootBuiltins nT = some (.type T) := by decide +kernel)
    (hnT : nT ≠ "__name__" := by decide) (hdT : (nT == ("__debug__" : Str)) = false := by decide) (hv : bootBuiltins "isinstance" = some (.builtin "isinstance") := by decide +kernel)
    (hst : starEach [e, .Name nT p2] X.env = (false, eval e X.env) :: starEach [.Name nT p2] X.env := by rfl) (hst2 : starEach [.Name nT p2] X.env = (false, eval (.Name nT p2) X.env) :: starEach [] X.env := by rfl) (hpl : (backTo pos (starEach [.Name nT p2] X.env)).any (·.1) = false := by rfl) :
    GE wd X W (.Call (.Name "isinstance" p1) [e, .Name nT p2] [] pos) (gUn (fIsi f) g) := by
  obtain ⟨t, p, r⟩ := he.ex
  refine ⟨_, pe_callB call_isi hg hm hv (pa_cons p (pa_cons (pe_bltn (v := .ty T) hgT hmT hvT rfl hnT hdT) pa_nil hst2) hst) (by decide) (by decide) hst hpl, fun F B ρ ω σ H Qa Ea Q hs he hg hk hx => r F B ρ ω σ H _ Ea _ hs he hg (fun B1 ω1 H1 v1 d1 s1 hs1 r1 g1 => ?_) hx⟩
  unfold fIsi at g1
  cases e : tyD d1 with
  | none => simp only [e] at g1
  | some n =>
    simp only [e] at g1
    exact ⟨v1, .ty T, .type n, .type T, f d1, rfl, .ty T, tyX_of hs1 r1 e, kit_ty (isT_at hT e), hk _ _ _ _ _ s1 hs1 (.bl _) g1⟩

/-! ### defs called -/
abbrev ASp (wd : Wd) := List D → wd.W → AQ wd → AX wd → Prop
/-- the promise, told of plain data -/
def toSp (wd : Wd) (K : PySem.W.Frag) (n : Nat) (asp : ASp wd) : Sp := fun vs H Q E => vs.length = n ∧ ∃ (F B : Hp) (ω : wd.W) (ds : List D) (Qa : AQ wd) (Ea : AX wd),
  Hst wd K F B ω H ∧ RepAll K B vs ds ∧ asp ds ω Qa Ea ∧ KOk wd K F B Qa Q ∧ XOk wd K F B Ea E
theorem sel_rep {K : PySem.W.Frag} {B : Hp} {vs : List V} {ds : List D} (r : RepAll K B vs ds) : ∀ idx : List Nat, RepAll K B (sel idx vs .non) (sel idx ds .non)
  | [] => .nil
  | i :: idx => by
    refine .cons ?_ (sel_rep r idx)
    show Rep K B (vs.getD i .non) (ds.getD i .non)
    rw [List.getD_eq_getElem?_getD, List.getD_eq_getElem?_getD]
    cases e : ds[i]? with
    | none =>
      have : vs[i]? = none := by
        rw [List.getElem?_eq_none_iff] at e ⊢
        rw [r.length]
        exact e
      rw [this]
      exact .non
    | some d =>
      obtain ⟨v, e2, q⟩ := r.get e
      rw [e2]
      exact q
/-- a call: n positional values, m by keywords, the defaults dfl; idx: the parameters' order -/
def gCall (asp : ASp wd) (idx : List Nat) (n m : Nat) (dfl : List D) (ga gk : AA wd) : AE wd := fun ρ ω Q E => ga ρ ω (fun xs ω1 => gk ρ ω1 (fun zs ω2 => xs.length = n ∧ zs.length = m ∧ asp (sel idx (xs ++ zs ++ dfl) .non) ω2 Q E) E) E
theorem re_call {K : PySem.W.Frag} {t tk : TA} {ga gk : AA wd} {asp : ASp wd} {idx : List Nat} {n m : Nat} {dvs : List V} {dfl : List D} (hd : ∀ B, RepAll K B dvs dfl) (ha : RA wd K W t ga) (hk : RA wd K W tk gk) :
    RE wd K W (tCallG n m (toSp wd K idx.length asp) (fun vs zs => sel idx (vs ++ zs ++ dvs) .non) (WE W) t tk) (gCall asp idx n m dfl ga gk) := fun F B ρ ω σ H Qa Ea Q hs he hg hK hx =>
  ha F B ρ ω σ H _ Ea _ hs he hg (fun B1 ω1 H1 vs ds s1 hs1 r1 g1 => hk F B1 ρ ω1 σ H1 _ Ea _ hs1 (he.mono s1) g1 (fun B2 ω2 H2 zs es s2 hs2 r2 g2 =>
    ⟨by rw [r1.length]; exact g2.1, by rw [r2.length]; exact g2.2.1, by unfold sel; rw [List.length_map], F, B2, ω2, _, Qa, Ea, hs2, sel_rep (((r1.mono s2).append r2).append (hd B2)) idx, g2.2.2, hK.mono (s1.trans s2), hx.mono (s1.trans s2)⟩) (hx.mono s1)) hx
theorem gk_nil : GK wd X W [] gNil := ⟨_, pk_nil, ra_nil⟩
theorem gk_cons {nm : Option Str} {e : Expr} {kpos : Pos} {kws : List Keyword} {g : AE wd} {gs : AA wd} (he : GE wd X W e g) (hr : GK wd X W kws gs) : GK wd X W (⟨nm, e, kpos⟩ :: kws) (gCons g gs) :=
  let ⟨_, p, r⟩ := he.ex; let ⟨_, q, s⟩ := hr.ex; ⟨_, pk_cons p q, ra_cons r s⟩
/-- what a caller knows of a def: where it stands, its promise; how calls of a shape bind -/
structure Known (P : Program) (w : World) (K : PySem.W.Frag) (mg : Str → Option Value) (base : Heap) (k : Nat) (x : Str) (f : Addr) (fd : FuncData) (ps : List Str) (wd : Wd) (n : Nat) (asp : ASp wd) : Prop where
  at_ : mg x = some (.ref f)
  keep : PySem.W.keepIn K (.ref f) = true
  ok : FnG P w K mg base (L2.CX P w) k f fd ps (toSp wd K n asp)
def Bnd (K : PySem.W.Frag) (fd : FuncData) (ps : List Str) (n : Nat) (ks : List Str) (idx : List Nat) (dvs : List V) : Prop := ∃ g, KBn K fd ps n ks g (fun vs zs => sel idx (vs ++ zs ++ dvs) .non)
theorem bnd_of {K : PySem.W.Frag} {x qual : Str} {params : Arguments} {body : List Stmt} {scope : Scope} {kws : List (Str × V)} {f : Addr} {fd : FuncData} {ps : List Str} (F : FunD K x qual params body scope [] kws f fd) (n : Nat) (ks : List Str) (ms : List (Str × V)) (idx : List Nat) (dvs : List V) (hms : ∀ q ∈ ms, q ∈ kws) (hd : ms.map (·.2) = dvs)
    (h : ∀ (kV doc pm : Value) (an : Option Addr) (cdv ct : Value) (D : Addr) (us mv ws : List Value), us.length = n → mv.length = ms.length → ws.length = ks.length → (kws ≠ [] → kV = .ref D) →
      KwChain D ((ms.map (·.1)).zip mv) (bindArgs (PySem.W.fnOf x qual params body scope .none kV doc pm an cdv ct) ⟨us, ks.zip ws⟩) (ps.zip (sel idx (us ++ ws ++ mv) .none))) : Bnd K fd ps n ks idx dvs := by
  subst hd
  obtain ⟨mv, q⟩ := kb_of F n ks ms idx hms h
  exact ⟨_, q⟩
section
variable {k : Nat} {f : Addr} {fd : FuncData} {ps ks : List Str} {x : Str} {p pos : Pos} {e : Expr} {es : List Expr} {kws : List Keyword} {ga gk : AA wd} {asp : ASp wd} {idx : List Nat} {n : Nat} {dvs : List V} {dfl : List D} {g : List Value → List Value → List Value}
theorem ge_call1 {nn : Nat} (F : Known X.prog X.w X.K X.mg X.base k x f fd ps wd nn asp) (hr : Room k X.A) (hG : X.A.guards = some []) (tk : Takes X W) (hb : Bnd X.K fd ps n [] idx dvs) (hd : ∀ B, RepAll X.K B dvs dfl)
    (ha : GA wd X W (e :: es) ga) (hg : Gl X x := by rfl) (hdb : (x == ("__debug__" : Str)) = false := by decide) (he : starEach (e :: es) X.env = (false, eval e X.env) :: starEach es X.env := by rfl) (hpl : (backTo pos (starEach es X.env)).any (·.1) = false := by rfl) (hn : idx.length = nn := by rfl) :
    GE wd X W (.Call (.Name x p) (e :: es) [] pos) (gCall asp idx n 0 dfl ga gNil) :=
  have F : Known X.prog X.w X.K X.mg X.base k x f fd ps wd idx.length asp := hn ▸ F
  let ⟨_, hb⟩ := hb; let ⟨_, pa, ra⟩ := ha.ex; ⟨_, pe_g1 F.ok hr hG hg F.at_ F.keep (fun σ => passAt tk σ) hb pa hdb he hpl, re_call hd ra ra_nil⟩
theorem ge_call2 {nn : Nat} (F : Known X.prog X.w X.K X.mg X.base k x f fd ps wd nn asp) (hr : Room k X.A) (hG : X.A.guards = some []) (tk : Takes X W) (hb : Bnd X.K fd ps n ks idx dvs) (hd : ∀ B, RepAll X.K B dvs dfl)
    (ha : GA wd X W (e :: es) ga) (hkw : GK wd X W kws gk) (hg : Gl X x := by rfl) (hall : (backToKw pos (keywordEach kws X.env)).all (·.1.isSome) = true := by rfl) (hks : (backToKw pos (keywordEach kws X.env)).filterMap (·.1) = ks := by rfl) (hdb : (x == ("__debug__" : Str)) = false := by decide)
    (he : starEach (e :: es) X.env = (false, eval e X.env) :: starEach es X.env := by rfl) (hpl : ((backTo pos (starEach (e :: es) X.env)).any (·.1) || (backToKw pos (keywordEach kws X.env)).any (·.1.isNone)) = false := by rfl) (hn : idx.length = nn := by rfl) :
    GE wd X W (.Call (.Name x p) (e :: es) kws pos) (gCall asp idx n ks.length dfl ga gk) :=
  have F : Known X.prog X.w X.K X.mg X.base k x f fd ps wd idx.length asp := hn ▸ F
  let ⟨_, hb⟩ := hb; let ⟨_, pa, ra⟩ := ha.ex; let ⟨_, pb, rb⟩ := hkw.ex; ⟨_, pe_g2 F.ok hr hG hg F.at_ F.keep (fun σ => passAt tk σ) hb pa pb hall hks hdb he hpl, re_call hd ra rb⟩
theorem ge_call3 {nn : Nat} (F : Known X.prog X.w X.K X.mg X.base k x f fd ps wd nn asp) (hr : Room k X.A) (hG : X.A.guards = some []) (tk : Takes X W) (hb : Bnd X.K fd ps 0 ks idx dvs) (hd : ∀ B, RepAll X.K B dvs dfl)
    (hkw : GK wd X W kws gk) (hg : Gl X x := by rfl) (hall : (backToKw pos (keywordEach kws X.env)).all (·.1.isSome) = true := by rfl) (hks : (backToKw pos (keywordEach kws X.env)).filterMap (·.1) = ks := by rfl) (hdb : (x == ("__debug__" : Str)) = false := by decide)
    (hpl : ((backTo pos (starEach [] X.env)).any (·.1) || (backToKw pos (keywordEach kws X.env)).any (·.1.isNone)) = false := by rfl) (hn : idx.length = nn := by rfl) :
    GE wd X W (.Call (.Name x p) [] kws pos) (gCall asp idx 0 ks.length dfl gNil gk) :=
  have F : Known X.prog X.w X.K X.mg X.base k x f fd ps wd idx.length asp := hn ▸ F
  let ⟨_, hb⟩ := hb; let ⟨_, pb, rb⟩ := hkw.ex; ⟨_, pe_g3 F.ok hr hG hg F.at_ F.keep (fun σ => passAt tk σ) hb pb hall hks hdb hpl, re_call hd ra_nil rb⟩
end
end
end MR
/-! statements -/
namespace MR
open PySem PySem.Spec L2
structure Sim (wd : Wd) (K : PySem.W.Frag) (F0 F B : Hp) (ρ : AEnv) (ω : wd.W) (σ : St) (H : Hp) : Prop where
  st : Hst wd K F B ω H
  env : EnvOk K F B ρ σ
  f0 : Same F0 F
  own : ∀ (i : Nat) (l : List D) (p : Addr), ρ[i]? = some (some (.own l)) → σ[i]? = some (some (.ref p)) → F0 p = none

structure AEnds (wd : Wd) where
  nx : AEnv → wd.W → Prop
  rt : D → wd.W → Prop
  bk : AEnv → wd.W → Prop := fun _ _ => False
  ct : AEnv → wd.W → Prop := fun _ _ => False
  ex : EX → AEnv → wd.W → Prop := fun _ _ _ => False
structure EndsOk (wd : Wd) (K : PySem.W.Frag) (W : WX) (F0 B : Hp) (Da : AEnds wd) (E : Ends) : Prop where
  nx : ∀ {F' B' ρ' ω' σ' H'}, Same B B' → Sim wd K F0 F' B' ρ' ω' σ' H' → Da.nx ρ' ω' → E.nx σ' H'
  bk : ∀ {F' B' ρ' ω' σ' H'}, Same B B' → Sim wd K F0 F' B' ρ' ω' σ' H' → Da.bk ρ' ω' → E.bk σ' H'
  ct : ∀ {F' B' ρ' ω' σ' H'}, Same B B' → Sim wd K F0 F' B' ρ' ω' σ' H' → Da.ct ρ' ω' → E.ct σ' H'
  rt : ∀ {B' ω' H' v d}, Same B B' → Hst wd K F0 B' ω' H' → Rep K B' v d → Da.rt d ω' → E.rt v H'
  ex : ∀ {F' B' ρ' ω' σ' H' cls dx x}, Same B B' → Sim wd K F0 F' B' ρ' ω' σ' H' → RepX K B' cls dx x → Da.ex x ρ' ω' → W cls dx σ' H'
abbrev AS (wd : Wd) := AEnds wd → AEnv → wd.W → Prop
def RS (wd : Wd) (K : PySem.W.Frag) (W : WX) (t : TS) (g : AS wd) : Prop := ∀ F0 F B ρ ω σ H Da E, Sim wd K F0 F B ρ ω σ H → g Da ρ ω → EndsOk wd K W F0 B Da E → t E σ H
structure GS (wd : Wd) (X : Cx) (W : WX) (st : Stmt) (g : AS wd) : Prop where
  ex : ∃ t, PS X st t ∧ RS wd X.K W t g
structure GSs (wd : Wd) (X : Cx) (W : WX) (st : List Stmt) (g : AS wd) : Prop where
  ex : ∃ t, PSs X st t ∧ RS wd X.K W t g
/-- targets -/
abbrev AG := D → AEnv → (AEnv → Prop) → Prop
abbrev AGs := List D → AEnv → (AEnv → Prop) → Prop
def RG (wd : Wd) (K : PySem.W.Frag) (t : TG) (g : AG) : Prop := ∀ F0 F B ρ ω σ H v d Qa Q, Sim wd K F0 F B ρ ω σ H → Rep K B v d → g d ρ Qa → (∀ ρ' σ', Sim wd K F0 F B ρ' ω σ' H → Qa ρ' → Q σ' H) → t v σ H Q
def RGs (wd : Wd) (K : PySem.W.Frag) (t : TGs) (g : AGs) : Prop := ∀ F0 F B ρ ω σ H vs ds Qa Q, Sim wd K F0 F B ρ ω σ H → RepAll K B vs ds → g ds ρ Qa → (∀ ρ' σ', Sim wd K F0 F B ρ' ω σ' H → Qa ρ' → Q σ' H) → t vs σ H Q
structure GG (wd : Wd) (X : Cx) (tg : Expr) (g : AG) : Prop where
  ex : ∃ t, PG X tg t ∧ RG wd X.K t g
structure GGs (wd : Wd) (X : Cx) (ts : List Expr) (g : AGs) : Prop where
  ex : ∃ t, PGs X ts t ∧ RGs wd X.K t g

section
variable {wd : Wd} {K : PySem.W.Frag} {W : WX} {F0 F B B' H H' : Hp} {ρ : AEnv} {ω ω' : wd.W} {σ : St}
theorem Sim.up (s : Sim wd K F0 F B ρ ω σ H) (m : Same B B') (h : Hst wd K F B' ω' H') : Sim wd K F0 F B' ρ ω' σ H' := ⟨h, s.env.mono m, s.f0, s.own⟩
theorem Hst.back (h : Hst wd K F B ω H) (m : Same F0 F) : Hst wd K F0 B ω H := ⟨h.sB, m.trans h.sF, fun a o e => h.dj a o (m _ _ e), fun a z => m.free (h.fw a z), h.wat⟩
theorem EndsOk.mono {Da : AEnds wd} {E : Ends} (h : EndsOk wd K W F0 B Da E) (m : Same B B') : EndsOk wd K W F0 B' Da E :=
  ⟨fun s => h.nx (m.trans s), fun s => h.bk (m.trans s), fun s => h.ct (m.trans s), fun s => h.rt (m.trans s), fun s => h.ex (m.trans s)⟩
theorem EndsOk.xok {Da : AEnds wd} {E : Ends} (h : EndsOk wd K W F0 B Da E) (s : Sim wd K F0 F B ρ ω σ H) : XOk wd K F B (fun x ω' => Da.ex x ρ ω') (fun c d h => W c d σ h) :=
  fun B' ω' H' cls dx x m hs rx g => h.ex m (s.up m hs) rx g
/-- a slot stored with data -/
theorem Sim.set (s : Sim wd K F0 F B ρ ω σ H) (i : Nat) {v : V} {d : D} (r : Rep K B v d) : Sim wd K F0 F B (ρ.set i (some (.d d))) ω (σ.set i (some v)) H := by
  have hl : ρ.length = σ.length := s.env.len
  refine ⟨s.st, ⟨by simp [hl], fun j e h => ?_, fun j1 j2 l l' p h1 h2 h3 h4 => ?_⟩, s.f0, fun j l p h1 h2 => ?_⟩
  · by_cases q : i = j
    · subst q
      have hi : i < ρ.length := by
        have := (List.getElem?_eq_some_iff.mp h).1
        simpa using this
      rw [List.getElem?_set_self hi] at h
      cases h
      exact ⟨v, by rw [List.getElem?_set_self (by omega)], r⟩
    · rw [List.getElem?_set_ne q] at h ⊢
      exact s.env.ent j e h
  · have ne : ∀ {j : Nat} {l : List D}, (ρ.set i (some (Ent.d d)))[j]? = some (some (.own l)) → i ≠ j := fun {j l} h q => by
      subst q
      have hi : i < ρ.length := by
        have := (List.getElem?_eq_some_iff.mp h).1
        simpa using this
      rw [List.getElem?_set_self hi] at h
      cases h
    rw [List.getElem?_set_ne (ne h1)] at h3
    rw [List.getElem?_set_ne (ne h2)] at h4
    have n1 := ne h1
    have n2 := ne h2
    rw [List.getElem?_set_ne n1] at h1
    rw [List.getElem?_set_ne n2] at h2
    exact s.env.dist j1 j2 l l' p h1 h2 h3 h4
  · by_cases q : i = j
    · subst q
      have hi : i < ρ.length := by
        have := (List.getElem?_eq_some_iff.mp h1).1
        simpa using this
      rw [List.getElem?_set_self hi] at h1
      cases h1
    · rw [List.getElem?_set_ne q] at h1 h2
      exact s.own j l p h1 h2
/-- an own list is new, or changed: what stands at p is told of by slot i alone -/
theorem Sim.setOwn (s : Sim wd K F0 F B ρ ω σ H) (i : Nat) {p : Addr} {vs : List V} {l : List D} (h : Hst wd K (upd F p (.lst vs)) B ω H') (r : RepAll K B vs l) (h0 : F0 p = none)
    (hp : ∀ (j : Nat) (l' : List D), ρ[j]? = some (some (.own l')) → σ[j]? = some (some (.ref p)) → j = i) : Sim wd K F0 (upd F p (.lst vs)) B (ρ.set i (some (.own l))) ω (σ.set i (some (.ref p))) H' := by
  have hl : ρ.length = σ.length := s.env.len
  have lt : ∀ {x : Option Ent} {y : Option Ent}, (ρ.set i x)[i]? = some y → i < ρ.length := fun h => by
    have := (List.getElem?_eq_some_iff.mp h).1
    simpa using this
  refine ⟨h, ⟨by simp [hl], fun j e he => ?_, fun j1 j2 l1 l2 q h1 h2 h3 h4 => ?_⟩, fun a o e => ?_, fun j l' q h1 h2 => ?_⟩
  · by_cases q : i = j
    · subst q
      have hi := lt he
      rw [List.getElem?_set_self hi] at he
      cases he
      exact ⟨p, vs, by rw [List.getElem?_set_self (by omega)], upd_same, r⟩
    · rw [List.getElem?_set_ne q] at he ⊢
      have en := s.env.ent j e he
      cases e with
      | d x => exact en
      | own l' =>
        obtain ⟨p', vs', a, b, c⟩ := en
        refine ⟨p', vs', a, ?_, c⟩
        rw [upd_ne]
        · exact b
        · intro z
          subst z
          exact q (hp j l' he a).symm
  · have at_ : ∀ {j : Nat} {l' : List D}, (ρ.set i (some (Ent.own l)))[j]? = some (some (.own l')) → (σ.set i (some (V.ref p)))[j]? = some (some (.ref q)) → (j = i ∧ q = p) ∨ (j ≠ i ∧ ρ[j]? = some (some (.own l')) ∧ σ[j]? = some (some (.ref q))) := fun {j l'} a b => by
      by_cases e : i = j
      · subst e
        have hi := lt a
        rw [List.getElem?_set_self (by omega)] at b
        cases b
        exact .inl ⟨rfl, rfl⟩
      · rw [List.getElem?_set_ne e] at a b
        exact .inr ⟨fun z => e z.symm, a, b⟩
    rcases at_ h1 h3 with ⟨e1, e2⟩ | ⟨e1, a1, b1⟩
    · rcases at_ h2 h4 with ⟨f1, f2⟩ | ⟨f1, a2, b2⟩
      · rw [e1, f1]
      · rw [e2] at b2
        exact absurd (hp j2 l2 a2 b2) f1
    · rcases at_ h2 h4 with ⟨f1, f2⟩ | ⟨f1, a2, b2⟩
      · rw [f2] at b1
        exact absurd (hp j1 l1 a1 b1) e1
      · exact s.env.dist j1 j2 l1 l2 q a1 a2 b1 b2
  · rw [upd_ne (ne_of_none e h0)]
    exact s.f0 _ _ e
  · by_cases e : i = j
    · subst e
      have hi := lt h1
      rw [List.getElem?_set_self (by omega)] at h2
      cases h2
      exact h0
    · rw [List.getElem?_set_ne e] at h1 h2
      exact s.own j l' q h1 h2
/-- the state where an own list at p has changed -/
theorem Hst.wrote (h : Hst wd K F B ω H) {p : Addr} {vs ws : List V} (e : F p = some (.lst vs)) : Hst wd K (upd F p (.lst ws)) B ω (upd H p (.lst ws)) := by
  have nB : B p = none := h.dj _ _ e
  have nw : ¬ wd.foot ω p := fun z => by
    rw [h.fw p z] at e
    cases e
  refine ⟨fun a o q => ?_, fun a o q => ?_, fun a o q => ?_, fun a z => ?_, wd.mono h.wat (Same.refl _) (fun a z => ?_) (fun a z => wd.free_ h.wat z)⟩
  · rw [upd_ne (ne_of_none q nB)]
    exact h.sB _ _ q
  · by_cases c : a = p
    · subst c
      rw [upd_same] at q ⊢
      exact q
    · rw [upd_ne c] at q ⊢
      exact h.sF _ _ q
  · by_cases c : a = p
    · subst c
      exact nB
    · rw [upd_ne c] at q
      exact h.dj _ _ q
  · rw [upd_ne (fun c => nw (by rw [← c]; exact z))]
    exact h.fw a z
  · rw [upd_ne (fun c => nw (by rw [← c]; exact z))]
/-- a new list becomes own -/
theorem Hst.owned (h : Hst wd K F B ω H) {p : Addr} {vs : List V} (hp : H p = none) : Hst wd K (upd F p (.lst vs)) B ω (upd H p (.lst vs)) := by
  have k := h.keepOut (o := .lst vs) hp
  have nB : B p = none := h.sB.free hp
  have nF : F p = none := h.sF.free hp
  have nw : ¬ wd.foot ω p := fun z => wd.some_ h.wat z hp
  refine ⟨k.sB, fun a o q => ?_, fun a o q => ?_, fun a z => ?_, k.wat⟩
  · by_cases c : a = p
    · subst c
      rw [upd_same] at q ⊢
      exact q
    · rw [upd_ne c] at q ⊢
      exact h.sF _ _ q
  · by_cases c : a = p
    · subst c
      exact nB
    · rw [upd_ne c] at q
      exact h.dj _ _ q
  · rw [upd_ne (fun c => nw (by rw [← c]; exact z))]
    exact h.fw a z
/-- an own list is frozen -/
def frz (i : Nat) (ρ : AEnv) : AEnv := match ρ[i]? with
  | some (some (.own l)) => ρ.set i (some (.d (.lst l)))
  | _ => ρ
theorem Sim.freeze (s : Sim wd K F0 F B ρ ω σ H) (i : Nat) : ∃ F' B', Same B B' ∧ Sim wd K F0 F' B' (frz i ρ) ω σ H := by
  unfold frz
  cases e : ρ[i]? with
  | none => exact ⟨F, B, Same.refl _, s⟩
  | some o =>
    cases o with
    | none => exact ⟨F, B, Same.refl _, s⟩
    | some en =>
      cases en with
      | d x => exact ⟨F, B, Same.refl _, s⟩
      | own l =>
        obtain ⟨p, vs, a, b, c⟩ := s.env.ent i _ e
        have nB : B p = none := s.st.dj _ _ b
        have nw : ¬ wd.foot ω p := fun z => by
          rw [s.st.fw p z] at b
          cases b
        have n0 : F0 p = none := s.own i l p e a
        have sB' : Same B (upd B p (.lst vs)) := fun q o h => by
          rw [upd_ne (ne_of_none h nB)]
          exact h
        have nF : ∀ q o, (if q = p then none else F q) = some o → q ≠ p ∧ F q = some o := fun q o h => by
          by_cases z : q = p
          · rw [if_pos z] at h
            cases h
          · rw [if_neg z] at h
            exact ⟨z, h⟩
        have st' : Hst wd K (fun q => if q = p then none else F q) (upd B p (.lst vs)) ω H := by
          refine ⟨fun q o h => ?_, fun q o h => s.st.sF _ _ (nF q o h).2, fun q o h => ?_, fun q z => ?_, wd.mono s.st.wat sB' (fun _ _ => rfl) (fun q z => ?_)⟩
          · by_cases z : q = p
            · subst z
              rw [upd_same] at h
              rw [s.st.sF _ _ b]
              exact h
            · rw [upd_ne z] at h
              exact s.st.sB _ _ h
          · rw [upd_ne (nF q o h).1]
            exact s.st.dj _ _ (nF q o h).2
          · show (if q = p then none else F q) = none
            by_cases z' : q = p
            · rw [if_pos z']
            · rw [if_neg z']
              exact s.st.fw q z
          · rw [upd_ne (fun c => nw (by rw [← c]; exact z))]
            exact wd.free_ s.st.wat z
        have hi : i < ρ.length := (List.getElem?_eq_some_iff.mp e).1
        refine ⟨_, _, sB', ⟨st', ⟨by simp [s.env.len], fun j e2 h => ?_, fun j1 j2 l1 l2 q h1 h2 h3 h4 => ?_⟩, fun q o h => ?_, fun j l' q h1 h2 => ?_⟩⟩
        · by_cases z : i = j
          · subst z
            rw [List.getElem?_set_self hi] at h
            cases h
            exact ⟨_, a, .lst upd_same (c.mono sB')⟩
          · rw [List.getElem?_set_ne z] at h
            have en := s.env.ent j e2 h
            cases e2 with
            | d x => exact en.mono sB'
            | own l' =>
              obtain ⟨p', vs', a', b', c'⟩ := en
              refine ⟨p', vs', a', ?_, c'.mono sB'⟩
              show (if p' = p then none else F p') = _
              rw [if_neg]
              · exact b'
              · intro y
                subst y
                exact z (s.env.dist i j l l' p' e h a a')
        · have ne : ∀ {j : Nat} {l' : List D}, (ρ.set i (some (Ent.d (D.lst l))))[j]? = some (some (.own l')) → ρ[j]? = some (some (.own l')) := fun {j l'} h => by
            by_cases z : i = j
            · subst z
              rw [List.getElem?_set_self hi] at h
              cases h
            · rw [List.getElem?_set_ne z] at h
              exact h
          exact s.env.dist j1 j2 l1 l2 q (ne h1) (ne h2) h3 h4
        · show (if q = p then none else F q) = some o
          rw [if_neg (ne_of_none h n0)]
          exact s.f0 _ _ h
        · by_cases z : i = j
          · subst z
            rw [List.getElem?_set_self hi] at h1
            cases h1
          · rw [List.getElem?_set_ne z] at h1
            exact s.own j l' q h1 h2
end
end MR
/-! rules of statements -/
namespace MR
open PySem PySem.Spec L2
section
variable {wd : Wd}
def sNil : AS wd := fun Da ρ ω => Da.nx ρ ω
def sSeq (g h : AS wd) : AS wd := fun Da ρ ω => g { Da with nx := h Da } ρ ω
def sDrop (g : AE wd) : AS wd := fun Da ρ ω => g ρ ω (fun _ ω' => Da.nx ρ ω') (fun x ω' => Da.ex x ρ ω')
def sRet (g : AE wd) : AS wd := fun Da ρ ω => g ρ ω Da.rt (fun x ω' => Da.ex x ρ ω')
def sRetN : AS wd := fun Da _ ω => Da.rt .non ω
def sBreak : AS wd := fun Da ρ ω => Da.bk ρ ω
def sCont : AS wd := fun Da ρ ω => Da.ct ρ ω
def sIf (c : AT wd) (g h : AS wd) : AS wd := fun Da ρ ω => c ρ ω (fun b ω' => if b = true then g Da ρ ω' else h Da ρ ω') (fun x ω' => Da.ex x ρ ω')
def sSet (i : Nat) (g : AE wd) : AS wd := fun Da ρ ω => g ρ ω (fun d ω' => Da.nx (ρ.set i (some (.d d))) ω') (fun x ω' => Da.ex x ρ ω')
def sOwn (i : Nat) (g : AA wd) : AS wd := fun Da ρ ω => g ρ ω (fun l ω' => Da.nx (ρ.set i (some (.own l))) ω') (fun x ω' => Da.ex x ρ ω')
def sAsg (g : AE wd) (t : AG) : AS wd := fun Da ρ ω => g ρ ω (fun d ω' => t d ρ (fun ρ' => Da.nx ρ' ω')) (fun x ω' => Da.ex x ρ ω')
def sPar (i j : Nat) (g h : AE wd) : AS wd := fun Da ρ ω => g ρ ω (fun d ω1 => h ρ ω1 (fun e ω2 => Da.nx ((ρ.set i (some (.d d))).set j (some (.d e))) ω2) (fun x ω' => Da.ex x ρ ω')) (fun x ω' => Da.ex x ρ ω')
def sAug (f : FD2) (i : Nat) (g : AE wd) : AS wd := fun Da ρ ω => match ρ[i]? with
  | some (some (.d x)) => g ρ ω (fun y ω' => f x y (fun z => Da.nx (ρ.set i (some (.d z))) ω')) (fun x ω' => Da.ex x ρ ω')
  | _ => False
def sFrz (i : Nat) (g : AS wd) : AS wd := fun Da ρ ω => g Da (frz i ρ) ω
def sApp (i : Nat) (g : AE wd) : AS wd := fun Da ρ ω => match ρ[i]? with
  | some (some (.own l)) => g ρ ω (fun y ω' => l.length < sizeLine ∧ Da.nx (ρ.set i (some (.own (l ++ [y])))) ω') (fun x ω' => Da.ex x ρ ω')
  | _ => False
/-- x[k] = e -/
def sPut (i : Nat) (gk g : AE wd) : AS wd := fun Da ρ ω => match ρ[i]? with
  | some (some (.own l)) => g ρ ω (fun y ω1 => gk ρ ω1 (fun k ω2 => match k with
    | .int k => match ixN l.length k with
      | some j => Da.nx (ρ.set i (some (.own (l.set j y)))) ω2
      | none => False
    | _ => False) (fun x ω' => Da.ex x ρ ω')) (fun x ω' => Da.ex x ρ ω')
  | _ => False
def aName (i : Nat) : AG := fun d ρ Q => Q (ρ.set i (some (.d d)))
def aTup (g : AGs) : AG := fun d ρ Q => match d with
  | .tup xs => g xs ρ Q
  | _ => False
def aNil : AGs := fun xs ρ Q => match xs with
  | [] => Q ρ
  | _ => False
def aCons (g : AG) (h : AGs) : AGs := fun xs ρ Q => match xs with
  | x :: r => g x ρ (fun ρ' => h r ρ' Q)
  | [] => False
end

section
variable {wd : Wd} {X : Cx} {W : WX} {st : Stmt} {rest : List Stmt} {pos : Pos} {e : Expr} {ge : AE wd} {g h : AS wd}
theorem gss_nil : GSs wd X W [] sNil := ⟨_, pss_nil, fun F0 F B ρ ω σ H Da E s q k => k.nx (Same.refl _) s q⟩
theorem gss_cons (h1 : GS wd X W st g) (h2 : GSs wd X W rest h) : GSs wd X W (st :: rest) (sSeq g h) :=
  let ⟨_, p, r⟩ := h1.ex; let ⟨_, p2, r2⟩ := h2.ex; ⟨_, pss_cons p p2, fun F0 F B ρ ω σ H Da E s q k =>
    r F0 F B ρ ω σ H _ _ s q ⟨fun {F' B' ρ' ω' σ' H'} m s' q' => r2 F0 F' B' ρ' ω' σ' H' Da E s' q' (k.mono m), k.bk, k.ct, k.rt, k.ex⟩⟩
theorem gss_one (h1 : GS wd X W st g) : GSs wd X W [st] g := let ⟨_, p, r⟩ := h1.ex; ⟨_, pss_one p, r⟩
theorem gss_frz (i : Nat) (h1 : GSs wd X W rest g) : GSs wd X W rest (sFrz i g) := let ⟨_, p, r⟩ := h1.ex; ⟨_, p, fun F0 F B ρ ω σ H Da E s q k =>
  let ⟨F', B', m, s'⟩ := s.freeze i
  r F0 F' B' _ ω σ H Da E s' q (k.mono m)⟩
theorem gs_frz (i : Nat) (h1 : GS wd X W st g) : GS wd X W st (sFrz i g) := let ⟨_, p, r⟩ := h1.ex; ⟨_, p, fun F0 F B ρ ω σ H Da E s q k =>
  let ⟨F', B', m, s'⟩ := s.freeze i
  r F0 F' B' _ ω σ H Da E s' q (k.mono m)⟩
theorem gs_pass : GS wd X W (.Pass pos) sNil := ⟨_, ps_pass, fun F0 F B ρ ω σ H Da E s q k => k.nx (Same.refl _) s q⟩
theorem gs_break : GS wd X W (.Break pos) sBreak := ⟨_, ps_break, fun F0 F B ρ ω σ H Da E s q k => k.bk (Same.refl _) s q⟩
theorem gs_cont : GS wd X W (.Continue pos) sCont := ⟨_, ps_continue, fun F0 F B ρ ω σ H Da E s q k => k.ct (Same.refl _) s q⟩
theorem gs_expr (he : GE wd X W e ge) (hs : swapsWith e none pos.line X.env = pure false := by rfl) : GS wd X W (.Expr e pos) (sDrop ge) :=
  let ⟨_, p, r⟩ := he.ex; ⟨_, ps_expr p hs, fun F0 F B ρ ω σ H Da E s q k => r F B ρ ω σ H _ _ _ s.st s.env q (fun B1 ω1 H1 v1 d1 s1 hs1 r1 g1 => k.nx s1 (s.up s1 hs1) g1) (k.xok s)⟩
theorem gs_ret (he : GE wd X W e ge) : GS wd X W (.Return (some e) pos) (sRet ge) :=
  let ⟨_, p, r⟩ := he.ex; ⟨_, ps_ret p, fun F0 F B ρ ω σ H Da E s q k => r F B ρ ω σ H _ _ _ s.st s.env q (fun B1 ω1 H1 v1 d1 s1 hs1 r1 g1 => k.rt s1 (hs1.back s.f0) r1 g1) (k.xok s)⟩
theorem gs_retN : GS wd X W (.Return none pos) sRetN := ⟨_, ps_retN, fun F0 F B ρ ω σ H Da E s q k => k.rt (Same.refl _) (s.st.back s.f0) .non q⟩
theorem gs_if {c : Expr} {a b : List Stmt} {tc : AT wd} (hc : GT wd X W c tc) (ha : GSs wd X W a g) (hb : GSs wd X W b h) : GS wd X W (.If c a b pos) (sIf tc g h) :=
  let ⟨_, pc, rc⟩ := hc.ex; let ⟨_, pa, ra⟩ := ha.ex; let ⟨_, pb, rb⟩ := hb.ex; ⟨_, ps_if pc pa pb, fun F0 F B ρ ω σ H Da E s q k =>
    rc F B ρ ω σ H _ _ _ s.st s.env q (fun B1 ω1 H1 b s1 hs1 g1 => by
      cases b with
      | true => exact ra F0 F B1 ρ ω1 σ H1 Da E (s.up s1 hs1) g1 (k.mono s1)
      | false => exact rb F0 F B1 ρ ω1 σ H1 Da E (s.up s1 hs1) g1 (k.mono s1)) (k.xok s)⟩
theorem gs_set (i : Nat) {x : Str} {pos' : Pos} (hN : X.N.Nodup) (he : GE wd X W e ge) (hi : X.N[i]? = some x := by rfl) (hx : Loc X.env.scope x := by first | exact .inl rfl | exact .inr rfl) (hs : swapsWith e (some (.Name x pos')) pos.line X.env = pure false := by rfl)
    (hf : X.fn x = true ∨ X.env.scope.names.lookup x = some .local := by first | exact .inl rfl | exact .inr rfl) : GS wd X W (.Assign [.Name x pos'] e pos) (sSet i ge) :=
  let ⟨_, p, r⟩ := he.ex; ⟨_, ps_set hN hi hx p hs hf, fun F0 F B ρ ω σ H Da E s q k => r F B ρ ω σ H _ _ _ s.st s.env q (fun B1 ω1 H1 v1 d1 s1 hs1 r1 g1 => k.nx s1 ((s.up s1 hs1).set i r1) g1) (k.xok s)⟩
theorem gs_own (i : Nat) {x : Str} {pos' : Pos} {ga : AA wd} (hN : X.N.Nodup) (he : GF wd X W e ga) (hi : X.N[i]? = some x := by rfl) (hx : Loc X.env.scope x := by first | exact .inl rfl | exact .inr rfl) (hs : swapsWith e (some (.Name x pos')) pos.line X.env = pure false := by rfl)
    (hf : X.fn x = true ∨ X.env.scope.names.lookup x = some .local := by first | exact .inl rfl | exact .inr rfl) : GS wd X W (.Assign [.Name x pos'] e pos) (sOwn i ga) :=
  let ⟨_, p, r⟩ := he.ex; ⟨_, ps_set hN hi hx p hs hf, fun F0 F B ρ ω σ H Da E s q k => r F B ρ ω σ H _ _ _ s.st s.env q (fun B1 ω1 H1 p vs ds s1 hs1 hp r1 g1 =>
    k.nx s1 ((s.up s1 hs1).setOwn i (hs1.owned hp) r1 (s.f0.free (hs1.sF.free hp)) fun j l' a b => by
      obtain ⟨p', vs', a', b', c'⟩ := s.env.ent j _ a
      rw [b] at a'
      cases a'
      rw [hs1.sF _ _ b'] at hp
      cases hp) g1) (k.xok s)⟩
theorem gg_name (i : Nat) {x : Str} (hN : X.N.Nodup) (hi : X.N[i]? = some x := by rfl) (hx : Loc X.env.scope x := by first | exact .inl rfl | exact .inr rfl) (hf : X.fn x = true ∨ X.env.scope.names.lookup x = some .local := by first | exact .inl rfl | exact .inr rfl) : GG wd X (.Name x pos) (aName i) :=
  ⟨_, pg_name hN hi hx hf, fun F0 F B ρ ω σ H v d Qa Q s r q k => k _ _ (s.set i r) q⟩
theorem ggs_nil : GGs wd X [] aNil := ⟨_, pgs_nil, fun F0 F B ρ ω σ H vs ds Qa Q s r q k => by
  cases r with
  | nil => exact ⟨rfl, k _ _ s q⟩
  | cons _ _ => exact q.elim⟩
theorem ggs_cons {es : List Expr} {a : AG} {b : AGs} (h1 : GG wd X e a) (h2 : GGs wd X es b) (hs : (assignEach (e :: es) X.env).map (·.2) = assign e X.env :: (assignEach es X.env).map (·.2) := by rfl) : GGs wd X (e :: es) (aCons a b) :=
  let ⟨_, p, r⟩ := h1.ex; let ⟨_, p2, r2⟩ := h2.ex; ⟨_, pgs_cons p p2 hs, fun F0 F B ρ ω σ H vs ds Qa Q s r0 q k => by
    cases r0 with
    | nil => exact q.elim
    | cons h1 h2 => exact ⟨_, _, rfl, r F0 F B ρ ω σ H _ _ _ _ s h1 q fun ρ' σ' s' q' => r2 F0 F B ρ' ω σ' H _ _ _ _ s' h2 q' k⟩⟩
theorem aTup_len {es : List Expr} {n : Nat} {b : AGs} : True := trivial
theorem gg_tup {es : List Expr} {k n : Nat} {b : AGs} (hc : X.calm = true) (h : GGs wd X es b) (hb : ∀ xs ρ Q, b xs ρ Q → xs.length = n) (hn : (assignEach es X.env).length = n := by rfl) (hst : (assignEach es X.env).findIdx? (·.1) = none := by rfl) : GG wd X (.Tuple es k pos) (aTup b) :=
  let ⟨_, p, r⟩ := h.ex; ⟨_, pg_tup hc p hn hst, fun F0 F B ρ ω σ H v d Qa Q s r0 q k => by
    cases d <;> try exact q.elim
    case tup xs =>
      cases r0 with
      | tup h1 r1 => exact ⟨_, _, rfl, Same.seqT s.st.sB h1, r1.length.trans (hb _ _ _ q), r F0 F B ρ ω σ H _ _ _ _ s r1 q k⟩⟩
theorem gs_asg {tg : Expr} {a : AG} (he : GE wd X W e ge) (hg : GG wd X tg a) (hs : swapsWithSole [tg] e pos.line X.env = pure false := by rfl) (hw : swappedStores [tg] e X.env = pure none := by rfl) (h1 : (assignEach [tg] X.env).map (·.2) = [assign tg X.env] := by rfl) :
    GS wd X W (.Assign [tg] e pos) (sAsg ge a) :=
  let ⟨_, p, r⟩ := he.ex; let ⟨_, p2, r2⟩ := hg.ex; ⟨_, ps_asg p p2 hs hw h1, fun F0 F B ρ ω σ H Da E s q k => r F B ρ ω σ H _ _ _ s.st s.env q (fun B1 ω1 H1 v1 d1 s1 hs1 rv g1 =>
    r2 F0 F B1 ρ ω1 σ H1 v1 d1 _ _ (s.up s1 hs1) rv g1 fun ρ' σ' s' q' => k.nx s1 s' q') (k.xok s)⟩
theorem gs_par (i j : Nat) {x y : Str} {a b : Expr} {ga gb : AE wd} {px py pt : Pos} {kt k2 pt2} (hc : X.calm = true) (hN : X.N.Nodup) (ha : GE wd X W a ga) (hb : GE wd X W b gb) (hi : X.N[i]? = some x := by rfl) (hj : X.N[j]? = some y := by rfl) (hij : i ≠ j := by decide)
    (hx : X.env.scope.names.lookup x = some .local := by rfl) (hy : X.env.scope.names.lookup y = some .local := by rfl)
    (hw : swappedStores [.Tuple [.Name x px, .Name y py] kt pt] (.Tuple [a, b] k2 pt2) X.env = pure (some [x, y]) := by rfl)
    (hs : swapsWithSole [.Tuple [.Name x px, .Name y py] kt pt] (.Tuple [a, b] k2 pt2) pos.line X.env = pure false := by rfl)
    (hsa : starEach [a, b] X.env = (false, eval a X.env) :: starEach [b] X.env := by rfl) (hsb : starEach [b] X.env = (false, eval b X.env) :: starEach [] X.env := by rfl) :
    GS wd X W (.Assign [.Tuple [.Name x px, .Name y py] kt pt] (.Tuple [a, b] k2 pt2) pos) (sPar i j ga gb) :=
  let ⟨_, pa, ra⟩ := ha.ex; let ⟨_, pb, rb⟩ := hb.ex; ⟨_, ps_par hc hN hi hj hij hx hy (pa_cons pa (pa_cons pb pa_nil hsb) hsa) hw hs, fun F0 F B ρ ω σ H Da E s q k => ra F B ρ ω σ H _ _ _ s.st s.env q (fun B1 ω1 H1 v1 d1 s1 hs1 r1 g1 =>
    rb F B1 ρ ω1 σ H1 _ _ _ hs1 (s.env.mono s1) g1 (fun B2 ω2 H2 v2 d2 s2 hs2 r2 g2 => ⟨v1, v2, rfl, k.nx (s1.trans s2) (((s.up (s1.trans s2) hs2).set i (r1.mono s2)).set j r2) g2⟩) ((k.xok s).mono s1)) (k.xok s)⟩
theorem gs_aug (i : Nat) {x : Str} {op : Operator} {f : FD2} {r : R2} {pos' : Pos} (hN : X.N.Nodup) (ho : OpR X (inplaceOp op) r) (hf2 : Op2 X.K r f) (he : GE wd X W e ge) (hi : X.N[i]? = some x := by rfl) (hx : Loc X.env.scope x := by first | exact .inl rfl | exact .inr rfl)
    (hf : X.fn x = true ∨ X.env.scope.names.lookup x = some .local := by first | exact .inl rfl | exact .inr rfl) : GS wd X W (.AugAssign (.Name x pos') op e pos) (sAug f i ge) :=
  let ⟨_, p, r⟩ := he.ex; ⟨_, ps_aug hN hi hx p ho hf, fun F0 F B ρ ω σ H Da E s q k => by
    unfold sAug at q
    cases en : ρ[i]? with
    | none => simp only [en] at q
    | some o =>
      cases o with
      | none => simp only [en] at q
      | some y =>
        cases y with
        | own l => simp only [en] at q
        | d x =>
          simp only [en] at q
          obtain ⟨v, a, rv⟩ := s.env.ent i _ en
          exact ⟨v, a, r F B ρ ω σ H _ _ _ s.st s.env q (fun B1 ω1 H1 v1 d1 s1 hs1 r1 g1 => hf2 wd F B1 ω1 H1 v v1 x d1 (fun z ω' => Da.nx (ρ.set i (some (.d z))) ω') _ hs1 (rv.mono s1) r1 g1 (fun B2 ω2 H2 v2 d2 s2 hs2 r2 g2 => k.nx (s1.trans s2) ((s.up (s1.trans s2) hs2).set i r2) g2)) (k.xok s)⟩⟩
theorem gs_app (i : Nat) {x : Str} {p1 p2 p3 : Pos} (he : GE wd X W e ge) (hi : X.N[i]? = some x := by rfl) (hv : Vis X.env.scope x := by first | exact Or.inl rfl | exact Or.inr (Or.inl rfl) | exact Or.inr (Or.inr rfl)) (hd : (x == ("__debug__" : Str)) = false := by decide) (hcd : (x == ("__classdict__" : Str)) = false := by decide)
    (hst : starEach [e] X.env = (false, eval e X.env) :: starEach [] X.env := by rfl) (hs : swapsWith (.Call (.Attribute (.Name x p1) "append" p2) [e] [] p3) none pos.line X.env = pure false := by rfl)
    (hbase : attributeBase (.Name x p1) "append" X.env (eval (.Name x p1) X.env) = eval (.Name x p1) X.env := by rfl) (hfew : ((backTo p3 (starEach [e] X.env)).all (fun x => !x.1) && (backToKw p3 (keywordEach [] X.env)).all (fun x => x.1.isSome) && decide (([e] : List Expr).length + ([] : List Keyword).length + (if ([] : List Keyword).isEmpty then 0 else 1) < 30)) = true := by rfl)
    (hline : (p2.endLine == p3.line) = true := by rfl) (hplain : (backTo p3 (starEach [] X.env)).any (·.1) = false := by rfl) :
    GS wd X W (.Expr (.Call (.Attribute (.Name x p1) "append" p2) [e] [] p3) pos) (sApp i ge) := by
  have hp := pe_bm PySem.F.plainAttrs_list PySem.F.slot_list_append PySem.F.type_list_append mt_append (pe_var hi hv hd hcd) (pa_cons (Classical.choose_spec he.ex).1 pa_nil hst) hbase hfew hline hst hplain
  refine ⟨_, ps_expr hp hs, fun F0 F B ρ ω σ H Da E s q k => ?_⟩
  have r := (Classical.choose_spec he.ex).2
  unfold sApp at q
  cases en : ρ[i]? with
  | none => simp only [en] at q
  | some o =>
    cases o with
    | none => simp only [en] at q
    | some y =>
      cases y with
      | d x => simp only [en] at q
      | own l =>
        simp only [en] at q
        obtain ⟨p, vs, a, b, c⟩ := s.env.ent i _ en
        refine ⟨.ref p, a, .inl ⟨rfl, vs, SqL.of (s.st.sF _ _ b)⟩, r F B ρ ω σ H _ _ _ s.st s.env q (fun B1 ω1 H1 v1 d1 s1 hs1 r1 g1 => ?_) (k.xok s)⟩
        have hl := (c.mono s1).length
        refine ⟨p, vs, v1, rfl, rfl, hs1.sF _ _ b, by rw [hl]; exact g1.1, ?_⟩
        have z := (s.up s1 hs1).setOwn i (hs1.wrote (ws := vs ++ [v1]) b) ((c.mono s1).append (.cons r1 .nil)) (s.own i l p en a) fun j l' h1 h2 => s.env.dist j i l' l p h1 en h2 a
        have e2 : σ.set i (some (.ref p)) = σ := by
          refine List.ext_getElem? fun j => ?_
          by_cases c : i = j
          · subst c
            rw [a, List.getElem?_set_self (List.getElem?_eq_some_iff.mp a).1]
          · rw [List.getElem?_set_ne c]
        rw [e2] at z
        exact k.nx s1 z g1.2
end
end MR
/-! loops -/
namespace MR
open PySem PySem.Spec L2
/-- a list or a tuple, walked -/
def iSeq (K : PySem.W.Frag) (tl : TE) : TI := fun σ H R => tl σ H fun x H1 => ∃ a, x = .ref a ∧ (((∃ xs, SqL K H1 a xs) ∧ R (Itl K a) H1) ∨ ((∃ xs, SqT K H1 a xs) ∧ R (Itt K a) H1))
theorem pi_seq {X : Cx} {tg l : Expr} {tl : TE} (hl : PE X l tl) : PI X tg l (iSeq X.K tl) := ⟨fun pins s σ H R I h => thn (hl.run pins s σ H _ I h) fun v s1 ⟨x, H1, I1, r1, a, ex, q⟩ => by
  subst ex
  cases r1
  have grown : ∀ {o : Obj}, Inv X pins σ H1 { s1 with heap := s1.heap.push o } := fun {o} => I1.kept (t' := s1.toks) fun b ob e => Heap.get?_push_of_some _ e
  have fresh : ∀ b ∈ [s1.heap.objs.size], FpOk X pins H1 b := fun b hb => by
    rw [List.mem_singleton] at hb
    rw [hb]
    exact I1.fpOk (Nat.le_refl _) (I1.hok.fresh (Nat.le_refl _))
  rcases q with ⟨⟨xs, hq⟩, q⟩ | ⟨⟨xs, hq⟩, q⟩
  · obtain ⟨its, -, pl, -⟩ := I1.list hq
    exact wpAny_pyIter_list pl.isList ⟨_, [_], _, _, H1, rfl, grown, turn_list a _, ⟨_, Heap.get?_push_size _ rfl, rfl, rfl⟩, fresh, q⟩
  · obtain ⟨its, -, pt, -⟩ := I1.tuple hq
    exact wpAny_pyIter_tuple (show s1.heap.IsTuple a its.toArray from pt) ⟨_, [_], _, _, H1, rfl, grown, turn_tuple a _, ⟨_, Heap.get?_push_size _ rfl, rfl, rfl⟩, fresh, q⟩⟩

section
variable {wd : Wd}
/-- a walk over known things: an invariant by the turn -/
def aFor (ds : List D) (t : AG) (body : AS wd) : AS wd := fun Da ρ ω => ∃ Iv : Nat → AEnv → wd.W → Prop, Iv 0 ρ ω ∧
  (∀ i d ρ ω, ds[i]? = some d → Iv i ρ ω → t d ρ (fun ρ' => body { Da with nx := Iv (i + 1), ct := Iv (i + 1), bk := Da.nx } ρ' ω)) ∧ (∀ ρ ω, Iv ds.length ρ ω → Da.nx ρ ω)
def sFor (g : AE wd) (t : AG) (body : AS wd) : AS wd := fun Da ρ ω => g ρ ω (fun d ω1 => match d with
  | .tup xs => aFor xs t body Da ρ ω1
  | .lst xs => aFor xs t body Da ρ ω1
  | _ => False) (fun x ω' => Da.ex x ρ ω')
def rng (lo : Int) (n : Nat) : List D := (List.range n).map fun (i : Nat) => .int (lo + (i : Int))
def sForR1 (g : AE wd) (t : AG) (body : AS wd) : AS wd := fun Da ρ ω => g ρ ω (fun d ω1 => match d with
  | .int n => -(2 ^ 62) ≤ n ∧ n < 2 ^ 62 ∧ aFor (rng 0 n.toNat) t body Da ρ ω1
  | _ => False) (fun x ω' => Da.ex x ρ ω')
def sForR2 (g h : AE wd) (t : AG) (body : AS wd) : AS wd := fun Da ρ ω => g ρ ω (fun d ω1 => h ρ ω1 (fun e ω2 => match d, e with
  | .int i, .int j => (-(2 ^ 62) ≤ i ∧ i < 2 ^ 62 ∧ -(2 ^ 62) ≤ j ∧ j < 2 ^ 62) ∧ aFor (rng i (j - i).toNat) t body Da ρ ω2
  | _, _ => False) (fun x ω' => Da.ex x ρ ω')) (fun x ω' => Da.ex x ρ ω')
def sWhile (c : AT wd) (body : AS wd) : AS wd := fun Da ρ ω => ∃ Iv : Nat → AEnv → wd.W → Prop, (∃ m, Iv m ρ ω) ∧ ∀ m ρ ω, Iv m ρ ω →
  c ρ ω (fun b ω' => if b = true then body { Da with nx := fun ρ' ω' => ∃ m', m' < m ∧ Iv m' ρ' ω', ct := fun ρ' ω' => ∃ m', m' < m ∧ Iv m' ρ' ω', bk := Da.nx } ρ ω' else Da.nx ρ ω') (fun x ω' => Da.ex x ρ ω')
end
theorem rng_at {lo : Int} {n i : Nat} (h : i < n) : (rng lo n)[i]? = some (.int (lo + (i : Int))) := by
  unfold rng
  rw [List.getElem?_map, List.getElem?_range h]
  rfl
theorem rng_len {lo : Int} {n : Nat} : (rng lo n).length = n := by
  unfold rng
  rw [List.length_map, List.length_range]

section
variable {wd : Wd} {K : PySem.W.Frag} {W : WX} {F0 B H : Hp} {ω : wd.W} {σ : St} {ρ : AEnv} {t : AG} {g : TG} {body : AS wd} {tb : TS} {Da : AEnds wd} {E : Ends} {ds : List D}
/-- the invariant at a turn, over the heap -/
def Pv (wd : Wd) (K : PySem.W.Frag) (F0 B : Hp) (Iv : Nat → AEnv → wd.W → Prop) (i : Nat) (σ : St) (H : Hp) : Prop := ∃ F' B' ρ' ω', Same B B' ∧ Sim wd K F0 F' B' ρ' ω' σ H ∧ Iv i ρ' ω'
theorem EndsOk.loop (k : EndsOk wd K W F0 B Da E) {B' : Hp} (m : Same B B') (P : AEnv → wd.W → Prop) (Q : St → Hp → Prop) (hP : ∀ {F' B' ρ' ω' σ' H'}, Same B B' → Sim wd K F0 F' B' ρ' ω' σ' H' → P ρ' ω' → Q σ' H') :
    EndsOk wd K W F0 B' { Da with nx := P, ct := P, bk := Da.nx } { E with nx := Q, ct := Q, bk := E.nx } :=
  ⟨fun s => hP (m.trans s), fun s => k.nx (m.trans s), fun s => hP (m.trans s), fun s => k.rt (m.trans s), fun s => k.ex (m.trans s)⟩
theorem turn_of (hb : RS wd K W tb body) (hg : RG wd K g t) (k : EndsOk wd K W F0 B Da E) {Iv : Nat → AEnv → wd.W → Prop}
    (hs : ∀ i d ρ ω, ds[i]? = some d → Iv i ρ ω → t d ρ (fun ρ' => body { Da with nx := Iv (i + 1), ct := Iv (i + 1), bk := Da.nx } ρ' ω)) {i : Nat} {v : V} {d : D} {σ : St} {H : Hp} (hd : ds[i]? = some d)
    (p : ∃ F' B' ρ' ω', Same B B' ∧ Sim wd K F0 F' B' ρ' ω' σ H ∧ Rep K B' v d ∧ Iv i ρ' ω') : g v σ H fun σ2 H2 => tb { E with nx := Pv wd K F0 B Iv (i + 1), ct := Pv wd K F0 B Iv (i + 1), bk := E.nx } σ2 H2 := by
  obtain ⟨F', B', ρ', ω', m, s, r, iv⟩ := p
  exact hg F0 F' B' ρ' ω' σ H v d _ _ s r (hs i d ρ' ω' hd iv) fun ρ2 σ2 s2 q2 => hb F0 F' B' ρ2 ω' σ2 H _ _ s2 q2 (k.loop m _ _ fun m' s' iv' => ⟨_, _, _, _, m', s', iv'⟩)
theorem rs_for {te : TE} {ge : AE wd} (he : RE wd K W te ge) (hg : RG wd K g t) (hb : RS wd K W tb body) : RS wd K W (tFor (iSeq K te) g tb) (sFor ge t body) := fun F0 F B ρ ω σ H Da E s q k =>
  he F B ρ ω σ H _ _ _ s.st s.env q (fun B1 ω1 H1 v1 d1 s1 hs1 r1 g1 => by
    cases d1 <;> try exact g1.elim
    case tup xs =>
      obtain ⟨Iv, h0, hs, hd⟩ := g1
      cases r1 with
      | tup h1 r1 =>
        refine ⟨_, rfl, .inr ⟨⟨_, Same.seqT hs1.sB h1⟩, for_tup (Pv wd K F0 B1 Iv) ⟨F, B1, ρ, ω1, Same.refl _, s.up s1 hs1, h0⟩ (fun i σ H _ ⟨F', B', ρ', ω', m, s', _⟩ => Same.seqT (m.trans s'.st.sB) h1) (fun i x σ H hx p => ?_) fun σ H ⟨F', B', ρ', ω', m, s', iv⟩ => ?_⟩⟩
        · have hi : i < xs.length := by
            rw [← r1.length]
            exact (List.getElem?_eq_some_iff.mp hx).1
          have hd := List.getElem?_eq_getElem hi
          obtain ⟨v, e1, e2⟩ := r1.get hd
          rw [hx] at e1
          cases e1
          obtain ⟨F', B', ρ', ω', m, s', iv⟩ := p
          exact turn_of hb hg (k.mono s1) hs hd ⟨F', B', ρ', ω', m, s', e2.mono m, iv⟩
        · rw [r1.length] at iv
          exact k.nx (s1.trans m) s' (hd _ _ iv)
    case lst xs =>
      obtain ⟨Iv, h0, hs, hd⟩ := g1
      cases r1 with
      | lst h1 r1 =>
        refine ⟨_, rfl, .inl ⟨⟨_, SqL.of (hs1.sB _ _ h1)⟩, for_list (Pv wd K F0 B1 Iv) ⟨F, B1, ρ, ω1, Same.refl _, s.up s1 hs1, h0⟩ (fun i σ H _ ⟨F', B', ρ', ω', m, s', _⟩ => SqL.of ((m.trans s'.st.sB) _ _ h1)) (fun i x σ H hx p => ?_) fun σ H ⟨F', B', ρ', ω', m, s', iv⟩ => ?_⟩⟩
        · have hi : i < xs.length := by
            rw [← r1.length]
            exact (List.getElem?_eq_some_iff.mp hx).1
          have hd := List.getElem?_eq_getElem hi
          obtain ⟨v, e1, e2⟩ := r1.get hd
          rw [hx] at e1
          cases e1
          obtain ⟨F', B', ρ', ω', m, s', iv⟩ := p
          exact turn_of hb hg (k.mono s1) hs hd ⟨F', B', ρ', ω', m, s', e2.mono m, iv⟩
        · rw [r1.length] at iv
          exact k.nx (s1.trans m) s' (hd _ _ iv)) (k.xok s)
theorem range_go (hg : RG wd K g t) (hb : RS wd K W tb body) {F : Hp} {lo : Int} {n : Nat} (s : Sim wd K F0 F B ρ ω σ H) (k : EndsOk wd K W F0 B Da E) (q : aFor (rng lo n) t body Da ρ ω) :
    ∃ W' : Nat → Nat → St → Hp → Prop, (∃ m, W' 0 m σ H) ∧ ∀ i m σ H, W' i m σ H →
      ((Itr lo n).stop i H ∧ E.nx σ H) ∨ ((Itr lo n).go i H ∧ ∃ N : St → Hp → Prop, (∀ σ' H', N σ' H' → ∃ m', m' < m ∧ W' (i + 1) m' σ' H') ∧ ∀ x H', (Itr lo n).yld i H x H' → g x σ H' fun σ2 H2 => tb { E with nx := N, ct := N, bk := E.nx } σ2 H2) := by
  obtain ⟨Iv, h0, hs, hd⟩ := q
  refine for_range (Pv wd K F0 B Iv) ⟨F, B, ρ, ω, Same.refl _, s, h0⟩ (fun i σ H hi p => ?_) fun σ H ⟨F', B', ρ', ω', m, s', iv⟩ => ?_
  · obtain ⟨F', B', ρ', ω', m, s', iv⟩ := p
    exact turn_of hb hg k hs (rng_at hi) ⟨F', B', ρ', ω', m, s', .int _, iv⟩
  · exact k.nx m s' (hd _ _ (by rw [rng_len]; exact iv))
theorem rs_forR1 {te : TE} {ge : AE wd} (he : RE wd K W te ge) (hg : RG wd K g t) (hb : RS wd K W tb body) : RS wd K W (tFor (iRng1 (tCons te tNil)) g tb) (sForR1 ge t body) := fun F0 F B ρ ω σ H Da E s q k =>
  he F B ρ ω σ H _ _ _ s.st s.env q (fun B1 ω1 H1 v1 d1 s1 hs1 r1 g1 => by
    cases d1 <;> try exact g1.elim
    case int n =>
      cases r1
      exact ⟨n, rfl, g1.1, g1.2.1, range_go hg hb (s.up s1 hs1) (k.mono s1) g1.2.2⟩) (k.xok s)
theorem rs_forR2 {ta te : TE} {ga ge : AE wd} (ha : RE wd K W ta ga) (he : RE wd K W te ge) (hg : RG wd K g t) (hb : RS wd K W tb body) : RS wd K W (tFor (iRng2 (tCons ta (tCons te tNil))) g tb) (sForR2 ga ge t body) := fun F0 F B ρ ω σ H Da E s q k =>
  ha F B ρ ω σ H _ _ _ s.st s.env q (fun B1 ω1 H1 v1 d1 s1 hs1 r1 g1 => he F B1 ρ ω1 σ H1 _ _ _ hs1 (s.env.mono s1) g1 (fun B2 ω2 H2 v2 d2 s2 hs2 r2 g2 => by
    cases d1 <;> cases d2 <;> try exact g2.elim
    case int.int i j =>
      cases r1
      cases r2
      exact ⟨i, j, rfl, g2.1, range_go hg hb (s.up (s1.trans s2) hs2) (k.mono (s1.trans s2)) g2.2⟩) ((k.xok s).mono s1)) (k.xok s)
theorem rs_while {tc : TT} {c : AT wd} (hc : RT wd K W tc c) (hb : RS wd K W tb body) : RS wd K W (tWhile tc tb) (sWhile c body) := fun F0 F B ρ ω σ H Da E s q k => by
  obtain ⟨Iv, ⟨m0, h0⟩, hs⟩ := q
  refine ⟨fun m σ H => Pv wd K F0 B Iv m σ H, ⟨m0, F, B, ρ, ω, Same.refl _, s, h0⟩, ?_⟩
  rintro m σ1 H1 ⟨F', B', ρ', ω', mm, s', iv⟩
  refine hc F' B' ρ' ω' σ1 H1 _ _ _ s'.st s'.env (hs m ρ' ω' iv) (fun B2 ω2 H2 b s2 hs2 g2 => ?_) ((k.mono mm).xok s')
  cases b with
  | false => exact k.nx (mm.trans s2) (s'.up s2 hs2) g2
  | true => exact ⟨fun σ' H' => ∃ m', m' < m ∧ Pv wd K F0 B Iv m' σ' H', fun σ' H' z => z, hb F0 F' B2 ρ' ω2 σ1 H2 _ _ (s'.up s2 hs2) g2 (k.loop (mm.trans s2) _ _ fun m' s3 ⟨j, lt, iv'⟩ => ⟨j, lt, _, _, _, _, m', s3, iv'⟩)⟩
end
section
variable {wd : Wd} {X : Cx} {W : WX} {tg : Expr} {body : List Stmt} {pos p p2 : Pos} {t : AG} {g : AS wd} {e e2 : Expr} {ge ge2 : AE wd}
theorem gs_for (hp : PassesOwn (model X.prog X.w) X.A X.env X.xe) (hc : X.calm = true) (he : GE wd X W e ge) (hg : GG wd X tg t) (hb : GSs wd X W body g) (hs : ∀ x, foldedSetIterable e X.env x = pure x := by intro _; rfl) : GS wd X W (.For tg e body [] pos) (sFor ge t g) :=
  let ⟨_, pe, re⟩ := he.ex; let ⟨_, pg, rg⟩ := hg.ex; let ⟨_, pb, rb⟩ := hb.ex; ⟨_, ps_for hp hc (pi_seq pe) pg pb hs, rs_for re rg rb⟩
theorem gs_forR1 (hp : PassesOwn (model X.prog X.w) X.A X.env X.xe) (hc : X.calm = true) (hm : X.mg "range" = none) (he : GE wd X W e ge) (hg : GG wd X tg t) (hb : GSs wd X W body g) (hgr : Gl X "range" := by rfl) (hst : starEach [e] X.env = [(false, eval e X.env)] := by rfl)
    (hs : ∀ x, foldedSetIterable (.Call (.Name "range" p) [e] [] p2) X.env x = pure x := by intro _; rfl) : GS wd X W (.For tg (.Call (.Name "range" p) [e] [] p2) body [] pos) (sForR1 ge t g) :=
  let ⟨_, pe, re⟩ := he.ex; let ⟨_, pg, rg⟩ := hg.ex; let ⟨_, pb, rb⟩ := hb.ex; ⟨_, ps_for hp hc (pi_range1 hgr hm (pa_cons pe pa_nil hst) hst) pg pb hs, rs_forR1 re rg rb⟩
theorem gs_forR2 (hp : PassesOwn (model X.prog X.w) X.A X.env X.xe) (hc : X.calm = true) (hm : X.mg "range" = none) (he : GE wd X W e ge) (he2 : GE wd X W e2 ge2) (hg : GG wd X tg t) (hb : GSs wd X W body g) (hgr : Gl X "range" := by rfl) (hst : starEach [e, e2] X.env = [(false, eval e X.env), (false, eval e2 X.env)] := by rfl) (hst2 : starEach [e2] X.env = [(false, eval e2 X.env)] := by rfl)
    (hs : ∀ x, foldedSetIterable (.Call (.Name "range" p) [e, e2] [] p2) X.env x = pure x := by intro _; rfl) : GS wd X W (.For tg (.Call (.Name "range" p) [e, e2] [] p2) body [] pos) (sForR2 ge ge2 t g) :=
  let ⟨_, pe, re⟩ := he.ex; let ⟨_, pe2, re2⟩ := he2.ex; let ⟨_, pg, rg⟩ := hg.ex; let ⟨_, pb, rb⟩ := hb.ex
  ⟨_, ps_for hp hc (pi_range2 hgr hm (pa_cons pe (pa_cons pe2 pa_nil hst2) (by rw [hst, hst2])) hst hst2) pg pb hs, rs_forR2 re re2 rg rb⟩
theorem gs_while {c : Expr} {gc : AT wd} (hp : PassesOwn (model X.prog X.w) X.A X.env X.xe) (hc : GT wd X W c gc) (hb : GSs wd X W body g) : GS wd X W (.While c body [] pos) (sWhile gc g) :=
  let ⟨_, pc, rc⟩ := hc.ex; let ⟨_, pb, rb⟩ := hb.ex; ⟨_, ps_while hp pc pb, rs_while rc rb⟩
end
end MR
/-! defs by their bodies; comprehensions -/
namespace MR
open PySem PySem.Spec L2
def startA (N : List Str) (ds : List D) : AEnv := ds.map (fun d => some (Ent.d d)) ++ List.replicate (N.length - ds.length) none
theorem sim_start {wd : Wd} {K : PySem.W.Frag} {F B H : Hp} {ω : wd.W} {N : List Str} {vs : List V} {ds : List D} (hs : Hst wd K F B ω H) (r : RepAll K B vs ds) : Sim wd K F F B (startA N ds) ω (L2.start N vs) H := by
  have noOwn : ∀ (i : Nat) (l : List D), (startA N ds)[i]? = some (some (.own l)) → False := fun i l h => by
    unfold startA at h
    by_cases c : i < ds.length
    · rw [List.getElem?_append_left (by simpa using c), List.getElem?_map, List.getElem?_eq_getElem c] at h
      cases h
    · rw [List.getElem?_append_right (by simpa using c), List.getElem?_replicate] at h
      split at h <;> cases h
  refine ⟨hs, ⟨by simp [startA, L2.start, r.length], fun i e h => ?_, fun i _ l _ _ h _ _ _ => (noOwn i l h).elim⟩, Same.refl _, fun i l _ h _ => (noOwn i l h).elim⟩
  unfold startA at h
  by_cases c : i < ds.length
  · rw [List.getElem?_append_left (by simpa using c), List.getElem?_map, List.getElem?_eq_getElem c] at h
    cases h
    obtain ⟨v, e1, e2⟩ := r.get (List.getElem?_eq_getElem c)
    refine ⟨v, ?_, e2⟩
    unfold L2.start
    rw [List.getElem?_append_left (by simpa [r.length] using c), List.getElem?_map, e1]
    rfl
  · rw [List.getElem?_append_right (by simpa using c), List.getElem?_replicate] at h
    split at h <;> cases h
section
variable {P : Program} {w : World} {K : PySem.W.Frag} {mg : Str → Option Value} {base : Heap} {k : Nat} {f : Addr} {fd : FuncData} {ps N : List Str} {x qual : Str} {params : Arguments} {body : List Stmt} {scope : Scope} {kws : List (Str × V)}
/-- the body's end -/
abbrev aEnd {wd : Wd} (Qa : AQ wd) (Ea : AX wd) : AEnds wd := { nx := fun _ ω => Qa .non ω, rt := Qa, ex := fun x _ ω => Ea x ω }
/-- a def: its body keeps the promise -/
theorem fn_ok (wd : Wd) (asp : ASp wd) (F : FunD K x qual params body scope [] kws f fd) (S : FnScope N ps scope)
    (hb : ∀ (cdv : Value) (A : Around) (outer : List PySem.Env) (s : Shared) (H : Hp) (E : XK), Room k (cxOf (L2.CX P w) P w K mg base N qual scope f cdv A outer s H E).A → (cxOf (L2.CX P w) P w K mg base N qual scope f cdv A outer s H E).A.guards = some [] →
      ∃ g, GSs wd (cxOf (L2.CX P w) P w K mg base N qual scope f cdv A outer s H E) (fun cls d _ H => E cls d H) body g ∧ ∀ ds ω Qa Ea, asp ds ω Qa Ea → ds.length = ps.length → g (aEnd Qa Ea) (startA N ds) ω) : FnG P w K mg base (L2.CX P w) (k + 1) f fd ps (toSp wd K ps.length asp) :=
  FunD.okG F S (fun h => h.1) fun cdv A outer s H vs Q E hr hG hsp => by
    obtain ⟨hl, F', B, ω, ds, Qa, Ea, hs, r, ha, hk, hx⟩ := hsp
    obtain ⟨g, gs, q⟩ := hb cdv A outer s H E hr hG
    obtain ⟨t, p, rt⟩ := gs.ex
    refine ⟨t, p, rt F' F' B (startA N ds) ω (L2.start N vs) H _ _ (sim_start hs r) (q ds ω Qa Ea ha (r.length ▸ hl)) ⟨fun m s z => ?_, fun m s z => z.elim, fun m s z => z.elim, fun m h r z => hk _ _ _ _ _ m h r z, fun m s r z => hx _ _ _ _ _ _ m (s.st.back s.f0) r z⟩⟩
    exact hk _ _ _ _ _ m (s.st.back s.f0) .non z
/-- a def that lets nothing out -/
theorem fn_ok0 (wd : Wd) (asp : ASp wd) (F : FunD K x qual params body scope [] kws f fd) (S : FnScope N ps scope)
    (hb : ∀ (cdv : Value) (A : Around) (outer : List PySem.Env) (s : Shared) (H : Hp) (E : XK), Room k (cxOf CX0 P w K mg base N qual scope f cdv A outer s H E).A → (cxOf CX0 P w K mg base N qual scope f cdv A outer s H E).A.guards = some [] →
      ∃ g, GSs wd (cxOf CX0 P w K mg base N qual scope f cdv A outer s H E) (fun _ _ _ _ => False) body g ∧ ∀ ds ω Qa, asp ds ω Qa (fun _ _ => False) → ds.length = ps.length → g (aEnd Qa fun _ _ => False) (startA N ds) ω)
    (hE : ∀ ds ω Qa Ea, asp ds ω Qa Ea → asp ds ω Qa fun _ _ => False) : FnG P w K mg base CX0 (k + 1) f fd ps (toSp wd K ps.length asp) :=
  FunD.okG F S (fun h => h.1) fun cdv A outer s H vs Q E hr hG hsp => by
    obtain ⟨hl, F', B, ω, ds, Qa, Ea, hs, r, ha, hk, hx⟩ := hsp
    obtain ⟨g, gs, q⟩ := hb cdv A outer s H E hr hG
    obtain ⟨t, p, rt⟩ := gs.ex
    refine ⟨t, p, rt F' F' B (startA N ds) ω (L2.start N vs) H _ _ (sim_start hs r) (q ds ω Qa (hE _ _ _ _ ha) (r.length ▸ hl)) ⟨fun m s z => ?_, fun m s z => z.elim, fun m s z => z.elim, fun m h r z => hk _ _ _ _ _ m h r z, fun m s r z => z.elim⟩⟩
    exact hk _ _ _ _ _ m (s.st.back s.f0) .non z
theorem tk_cx {qual : Str} {cdv : Value} {A : Around} {outer : List PySem.Env} {s : Shared} {H : Hp} {E : XK} : Takes (cxOf (L2.CX P w) P w K mg base N qual scope f cdv A outer s H E) (fun cls d _ H => E cls d H) := takes_of rfl rfl rfl rfl
theorem po_cx {CX : CXT} {qual : Str} {cdv : Value} {A : Around} {outer : List PySem.Env} {s : Shared} {H : Hp} {E : XK} : PassesOwn (model P w) (cxOf CX P w K mg base N qual scope f cdv A outer s H E).A (cxOf CX P w K mg base N qual scope f cdv A outer s H E).env (cxOf CX P w K mg base N qual scope f cdv A outer s H E).xe := passes_of rfl
end

/-! ### comprehensions -/
def wipeA (ρ : AEnv) : List Nat → AEnv
  | [] => ρ
  | v :: vs => (wipeA ρ vs).set v none
theorem wipeA_len (ρ : AEnv) : ∀ vs, (wipeA ρ vs).length = ρ.length
  | [] => rfl
  | v :: vs => by rw [wipeA, List.length_set, wipeA_len ρ vs]
theorem wipe_at {σ : St} {i : Nat} : ∀ {vs : List Nat}, i ∉ vs → (wipe σ vs)[i]? = σ[i]? := fun h => L2.wipe_out h
theorem wipeA_at {ρ : AEnv} {i : Nat} {e : Ent} : ∀ {vs : List Nat}, (wipeA ρ vs)[i]? = some (some e) → ρ[i]? = some (some e) ∧ i ∉ vs
  | [], h => ⟨h, by simp⟩
  | v :: vs, h => by
    rw [wipeA] at h
    by_cases c : v = i
    · subst c
      have hi := (List.getElem?_eq_some_iff.mp h).1
      rw [List.length_set] at hi
      rw [List.getElem?_set_self hi] at h
      cases h
    · rw [List.getElem?_set_ne c] at h
      obtain ⟨a, b⟩ := wipeA_at h
      exact ⟨a, by simp [b, Ne.symm c]⟩
/-- a target within a comprehension: it stores into the wiped slots alone -/
def Only (vs : List Nat) (t : TG) : Prop := ∀ v σ H Q, t v σ H Q → t v σ H fun σ2 H2 => wipe σ2 vs = wipe σ vs ∧ Q σ2 H2
def Onlys (vs : List Nat) (t : TGs) : Prop := ∀ xs σ H Q, t xs σ H Q → t xs σ H fun σ2 H2 => wipe σ2 vs = wipe σ vs ∧ Q σ2 H2
theorem wipe_set {σ : St} {i : Nat} {v : V} {vs : List Nat} (h : i ∈ vs) : wipe (σ.set i (some v)) vs = wipe σ vs := by
  have flat : ∀ τ : St, ∀ j, j ∈ vs → (wipe τ vs)[j]? = if j < τ.length then some none else none := fun τ j hj => by
    by_cases q : j < τ.length
    · rw [if_pos q]
      have hl : j < (wipe τ vs).length := by rw [wipe_length]; exact q
      cases e : (wipe τ vs)[j] with
      | none => rw [List.getElem?_eq_getElem hl, e]
      | some x => exact absurd hj (wipe_some (x := x) (by rw [List.getElem?_eq_getElem hl, e])).2
    · rw [if_neg q, List.getElem?_eq_none (by rw [wipe_length]; omega)]
  refine List.ext_getElem? fun j => ?_
  by_cases c : j ∈ vs
  · rw [flat _ j c, flat _ j c, List.length_set]
  · rw [wipe_at c, wipe_at c, List.getElem?_set_ne (fun e => c (by rw [← e]; exact h))]
theorem only_name {i : Nat} {vs : List Nat} (h : i ∈ vs) : Only vs (gName i) := fun v σ H Q q => ⟨wipe_set h, q⟩
theorem onlys_nil {vs : List Nat} : Onlys vs L2.gNil := fun xs σ H Q ⟨e, q⟩ => ⟨e, rfl, q⟩
theorem onlys_cons {t : TG} {u : TGs} {vs : List Nat} (mono : ∀ v σ H Q Q', (∀ s h, Q s h → Q' s h) → t v σ H Q → t v σ H Q') (h1 : Only vs t) (h2 : Onlys vs u) : Onlys vs (L2.gCons t u) := fun xs σ H Q ⟨v, r, e, q⟩ =>
  ⟨v, r, e, mono _ _ _ _ _ (fun σ1 H1 ⟨a, q1⟩ => by
    have := h2 r σ1 H1 Q q1
    rw [a] at this
    exact this) (h1 _ _ _ _ q)⟩
section
variable {wd : Wd}
/-- the list that a comprehension makes: an invariant by the turn and the items so far -/
def aComp (ds : List D) (t : AG) (tt : AT wd) (te : AE wd) (vs : List Nat) : AA wd := fun ρ ω Q E => ∃ Iv : Nat → List D → wd.W → Prop, Iv 0 [] ω ∧
  (∀ i d acc ω, ds[i]? = some d → Iv i acc ω → t d (wipeA ρ vs) (fun ρ' => tt ρ' ω (fun b ω1 => if b = true then te ρ' ω1 (fun y ω2 => acc.length < sizeLine ∧ Iv (i + 1) (acc ++ [y]) ω2) (fun _ _ => False) else Iv (i + 1) acc ω1) (fun _ _ => False))) ∧
  ∀ acc ω, Iv ds.length acc ω → Q acc ω
def gComp (g : AE wd) (t : AG) (tt : AT wd) (te : AE wd) (vs : List Nat) : AA wd := fun ρ ω Q E => g ρ ω (fun d ω1 => match d with
  | .tup xs => aComp xs t tt te vs ρ ω1 Q E
  | .lst xs => aComp xs t tt te vs ρ ω1 Q E
  | _ => False) E
def gCompR (g : AE wd) (t : AG) (tt : AT wd) (te : AE wd) (vs : List Nat) : AA wd := fun ρ ω Q E => g ρ ω (fun d ω1 => match d with
  | .int n => -(2 ^ 62) ≤ n ∧ n < 2 ^ 62 ∧ aComp (rng 0 n.toNat) t tt te vs ρ ω1 Q E
  | _ => False) E
def gYes : AT wd := fun _ ω Q _ => Q true ω
end
section
variable {wd : Wd} {K : PySem.W.Frag} {W : WX} {F B H : Hp} {ω : wd.W} {σ : St} {ρ : AEnv}
theorem EnvOk.wiped (h : EnvOk K F B ρ σ) (vs : List Nat) {F' : Hp} (hF : Same F F') : EnvOk K F' B (wipeA ρ vs) (wipe σ vs) := by
  refine ⟨by rw [wipeA_len, wipe_length, h.len], fun i e q => ?_, fun i j l l' p h1 h2 h3 h4 => ?_⟩
  rotate_left
  · obtain ⟨a1, b1⟩ := wipeA_at h1
    obtain ⟨a2, b2⟩ := wipeA_at h2
    rw [wipe_at b1] at h3
    rw [wipe_at b2] at h4
    exact h.dist i j l l' p a1 a2 h3 h4
  obtain ⟨a, b⟩ := wipeA_at q
  have en := h.ent i e a
  rw [wipe_at b]
  cases e with
  | d x => exact en
  | own l =>
    obtain ⟨p, vs', z1, z2, z3⟩ := en
    exact ⟨p, vs', z1, hF _ _ z2, z3⟩
/-- in a turn: the list so far stands at Dl, out of the ground -/
def Cv (wd : Wd) (K : PySem.W.Frag) (F B : Hp) (Dl : Addr) (Iv : Nat → List D → wd.W → Prop) (i : Nat) (H : Hp) : Prop := ∃ B' ω' accV acc, Same B B' ∧ Hst wd K (upd F Dl (.lst accV)) B' ω' H ∧ RepAll K B' accV acc ∧ Iv i acc ω'
variable {g : TG} {t : AG} {tt : TT} {ta : AT wd} {te : TE} {ge : AE wd} {vs : List Nat} {ds : List D}
theorem comp_turn {Dl : Addr} (hF : F Dl = none) (he : EnvOk K F B ρ σ) (rg : RG wd K g t) (ro : ∀ v σ H Q, g v σ H Q → g v σ H fun σ2 H2 => wipe σ2 vs = wipe σ vs ∧ Q σ2 H2) (rt : RT wd K (fun _ _ _ _ => False) tt ta) (re : RE wd K (fun _ _ _ _ => False) te ge)
    {Iv : Nat → List D → wd.W → Prop} (hs : ∀ i d acc ω, ds[i]? = some d → Iv i acc ω → t d (wipeA ρ vs) (fun ρ' => ta ρ' ω (fun b ω1 => if b = true then ge ρ' ω1 (fun y ω2 => acc.length < sizeLine ∧ Iv (i + 1) (acc ++ [y]) ω2) (fun _ _ => False) else Iv (i + 1) acc ω1) (fun _ _ => False)))
    {i : Nat} {v : V} {d : D} {H : Hp} (hd : ds[i]? = some d) (p : ∃ B' ω' accV acc, Same B B' ∧ Hst wd K (upd F Dl (.lst accV)) B' ω' H ∧ RepAll K B' accV acc ∧ Rep K B' v d ∧ Iv i acc ω') :
    g v (wipe σ vs) H fun σ2 H2 => wipe σ2 vs = wipe σ vs ∧ tt σ2 H2 fun b H3 =>
      if b = true then te σ2 H3 fun y H4 => ∃ acc, H4 Dl = some (.lst acc) ∧ acc.length < sizeLine ∧ Cv wd K F B Dl Iv (i + 1) (upd H4 Dl (.lst (acc ++ [y]))) else Cv wd K F B Dl Iv (i + 1) H3 := by
  obtain ⟨B1, ω1, accV, acc, m, st, ra, rv, iv⟩ := p
  have sF : Same F (upd F Dl (.lst accV)) := fun q o e => by
    rw [upd_ne (ne_of_none e hF)]
    exact e
  have env := (he.mono m).wiped vs sF
  have w2 : wipe (wipe σ vs) vs = wipe σ vs := by
    refine List.ext_getElem? fun j => ?_
    by_cases c : j ∈ vs
    · have hl : ∀ τ : St, τ.length = σ.length → (wipe τ vs)[j]? = if j < σ.length then some none else none := fun τ hτ => by
        by_cases q : j < σ.length
        · rw [if_pos q]
          have hj : j < (wipe τ vs).length := by rw [wipe_length]; omega
          cases e : (wipe τ vs)[j] with
          | none => rw [List.getElem?_eq_getElem hj, e]
          | some x => exact absurd c (wipe_some (x := x) (by rw [List.getElem?_eq_getElem hj, e])).2
        · rw [if_neg q, List.getElem?_eq_none (by rw [wipe_length]; omega)]
      rw [hl _ (wipe_length _ _), hl _ rfl]
    · rw [wipe_at c]
  have step := ro v (wipe σ vs) H _ (rg (fun _ => none) (upd F Dl (.lst accV)) B1 (wipeA ρ vs) ω1 (wipe σ vs) H v d _ (fun σ2 H2 => tt σ2 H2 fun b H3 =>
      if b = true then te σ2 H3 fun y H4 => ∃ acc, H4 Dl = some (.lst acc) ∧ acc.length < sizeLine ∧ Cv wd K F B Dl Iv (i + 1) (upd H4 Dl (.lst (acc ++ [y]))) else Cv wd K F B Dl Iv (i + 1) H3) ?sim rv (hs i d acc ω1 hd iv) ?go)
  case sim => exact ⟨st, env, (fun _ _ e => nomatch e), fun _ _ _ _ _ => rfl⟩
  case go =>
    intro ρ2 σ2 s2 q2
    refine rt _ B1 ρ2 ω1 σ2 H _ _ _ s2.st s2.env q2 (fun B2 ω2 H2 b m2 st2 g2 => ?_) (fun _ _ _ _ _ _ _ _ _ z => z)
    cases b with
    | false => exact ⟨B2, ω2, accV, acc, m.trans m2, st2, ra.mono m2, g2⟩
    | true =>
      refine re _ B2 ρ2 ω2 σ2 H2 _ _ _ st2 (s2.env.mono m2) g2 (fun B3 ω3 H3 v3 d3 m3 st3 r3 g3 => ?_) (fun _ _ _ _ _ _ _ _ _ z => z)
      refine ⟨accV, st3.sF _ _ upd_same, by rw [(ra).length]; exact g3.1, B3, ω3, accV ++ [v3], acc ++ [d3], (m.trans m2).trans m3, ?_, (ra.mono (m2.trans m3)).append (.cons r3 .nil), g3.2⟩
      have := st3.wrote (ws := accV ++ [v3]) upd_same
      rw [upd_upd] at this
      exact this
  rw [w2] at step
  exact step
end
/-- a target in the block of a comprehension -/
structure GC (wd : Wd) (X : Cx) (tg : Expr) (vs : List Nat) (t : TG) (g : AG) : Prop where
  pg : PG X tg t
  rg : RG wd X.K t g
  only : Only vs t
  mono : ∀ v σ H Q Q', (∀ s h, Q s h → Q' s h) → t v σ H Q → t v σ H Q'
structure GCs (wd : Wd) (X : Cx) (ts : List Expr) (vs : List Nat) (t : TGs) (g : AGs) : Prop where
  pg : PGs X ts t
  rg : RGs wd X.K t g
  only : Onlys vs t
  mono : ∀ v σ H Q Q', (∀ s h, Q s h → Q' s h) → t v σ H Q → t v σ H Q'
section
variable {wd : Wd} {X : Cx} {W : WX} {pos : Pos} {vs : List Nat}
theorem gc_name (i : Nat) {x : Str} (hN : X.N.Nodup) (hv : i ∈ vs := by decide) (hi : X.N[i]? = some x := by rfl) (hx : Loc X.env.scope x := by first | exact .inl rfl | exact .inr rfl) (hf : X.fn x = true ∨ X.env.scope.names.lookup x = some .local := by first | exact .inl rfl | exact .inr rfl) : GC wd X (.Name x pos) vs (gName i) (aName i) :=
  ⟨pg_name hN hi hx hf, fun F0 F B ρ ω σ H v d Qa Q s r q k => k _ _ (s.set i r) q, only_name hv, fun _ _ _ _ _ m q => m _ _ q⟩
theorem gcs_nil : GCs wd X [] vs L2.gNil aNil := ⟨pgs_nil, fun F0 F B ρ ω σ H vs ds Qa Q s r q k => by
  cases r with
  | nil => exact ⟨rfl, k _ _ s q⟩
  | cons _ _ => exact q.elim, onlys_nil, fun _ _ _ _ _ m q => ⟨q.1, m _ _ q.2⟩⟩
theorem gcs_cons {e : Expr} {es : List Expr} {t : TG} {u : TGs} {a : AG} {b : AGs} (h1 : GC wd X e vs t a) (h2 : GCs wd X es vs u b) (hs : (assignEach (e :: es) X.env).map (·.2) = assign e X.env :: (assignEach es X.env).map (·.2) := by rfl) : GCs wd X (e :: es) vs (L2.gCons t u) (aCons a b) :=
  ⟨pgs_cons h1.pg h2.pg hs, fun F0 F B ρ ω σ H vs ds Qa Q s r0 q k => by
    cases r0 with
    | nil => exact q.elim
    | cons r1 r2 => exact ⟨_, _, rfl, h1.rg F0 F B ρ ω σ H _ _ _ _ s r1 q fun ρ' σ' s' q' => h2.rg F0 F B ρ' ω σ' H _ _ _ _ s' r2 q' k⟩, onlys_cons h1.mono h1.only h2.only,
    fun _ _ _ _ _ m ⟨v, r, e, q⟩ => ⟨v, r, e, h1.mono _ _ _ _ _ (fun _ _ z => h2.mono _ _ _ _ _ m z) q⟩⟩
theorem gc_tup (K' : PySem.W.Frag) {es : List Expr} {k n : Nat} {t : TGs} {b : AGs} (hc : X.calm = true) (h : GCs wd X es vs t b) (hb : ∀ xs ρ Q, b xs ρ Q → xs.length = n) (hn : (assignEach es X.env).length = n := by rfl) (hst : (assignEach es X.env).findIdx? (·.1) = none := by rfl) (hK : X.K = K' := by rfl) : GC wd X (.Tuple es k pos) vs (L2.gTup K' n t) (aTup b) := by
  subst hK
  exact ⟨pg_tup hc h.pg hn hst, fun F0 F B ρ ω σ H v d Qa Q s r0 q k => by
    cases d <;> try exact q.elim
    case tup xs =>
      cases r0 with
      | tup h1 r1 => exact ⟨_, _, rfl, Same.seqT s.st.sB h1, r1.length.trans (hb _ _ _ q), h.rg F0 F B ρ ω σ H _ _ _ _ s r1 q k⟩,
    fun v σ H Q ⟨a, xs, e1, e2, e3, q⟩ => ⟨a, xs, e1, e2, e3, h.only _ _ _ _ q⟩, fun _ _ _ _ _ m ⟨a, xs, e1, e2, e3, q⟩ => ⟨a, xs, e1, e2, e3, h.mono _ _ _ _ _ m q⟩⟩
structure GTs (wd : Wd) (X : Cx) (W : WX) (ifs : List Expr) (g : AT wd) : Prop where
  ex : ∃ t, PTs X ifs t ∧ RT wd X.K W t g
theorem gts_nil : GTs wd X W [] gYes := ⟨_, pts_nil, fun F B ρ ω σ H Qa Ea Q hs he hg hk hx => hk _ _ _ _ (Same.refl _) hs hg⟩
theorem gts_one {c : Expr} {g : AT wd} (h : GT wd X W c g) : GTs wd X W [c] g := let ⟨_, p, r⟩ := h.ex; ⟨_, pts_one p, r⟩
/-- the blocks of X's comprehensions -/
abbrev Blk (X : Cx) (scope : Scope) (f : Cx → Prop) : Prop := ∀ (s : Shared) (H : Hp) (C : Addr) (cl : List (Str × Addr)) (fp : List Addr), f (X.blk s H scope (compEnvC scope cl C X.env) fp)
abbrev W0 : WX := fun _ _ _ _ => False
variable {scope : Scope}
theorem blk_ge {e : Expr} {g : AE wd} (h : Blk X scope fun Y => GE wd Y W0 e g) : ∃ t, (Blk X scope fun Y => PE Y e t) ∧ RE wd X.K W0 t g :=
  ⟨fun σ H Q => ∀ s H' C cl fp, Classical.choose (h s H' C cl fp).ex σ H Q, fun s H' C cl fp => ⟨fun pins s1 σ H1 Q I q => (Classical.choose_spec (h s H' C cl fp).ex).1.run pins s1 σ H1 Q I (q s H' C cl fp)⟩,
    fun F B ρ ω σ H Qa Ea Q hs he hg hk hx s H' C cl fp => (Classical.choose_spec (h s H' C cl fp).ex).2 F B ρ ω σ H Qa Ea Q hs he hg hk hx⟩
theorem blk_gt {ifs : List Expr} {g : AT wd} (h : Blk X scope fun Y => GTs wd Y W0 ifs g) : ∃ t, (Blk X scope fun Y => PTs Y ifs t) ∧ RT wd X.K W0 t g :=
  ⟨fun σ H Q => ∀ s H' C cl fp, Classical.choose (h s H' C cl fp).ex σ H Q, fun s H' C cl fp => ⟨fun pins s1 σ H1 Q I q => (Classical.choose_spec (h s H' C cl fp).ex).1.run pins s1 σ H1 Q I (q s H' C cl fp)⟩,
    fun F B ρ ω σ H Qa Ea Q hs he hg hk hx s H' C cl fp => (Classical.choose_spec (h s H' C cl fp).ex).2 F B ρ ω σ H Qa Ea Q hs he hg hk hx⟩
theorem Hst.popped {K : PySem.W.Frag} {F B H : Hp} {ω : wd.W} {p : Addr} {vs : List V} (hF : F p = none) (h : Hst wd K (upd F p (.lst vs)) B ω H) : ∃ H', H = upd H' p (.lst vs) ∧ H' p = none ∧ Hst wd K F B ω H' := by
  have hp : H p = some (.lst vs) := h.sF _ _ upd_same
  have nB : B p = none := h.dj _ _ upd_same
  have ne : ∀ q, wd.foot ω q → q ≠ p := fun q z e => by
    have := h.fw q z
    rw [e, upd_same] at this
    cases this
  refine ⟨fun q => if q = p then none else H q, ?_, if_pos rfl, ⟨fun q o e => ?_, fun q o e => ?_, fun q o e => ?_, fun q z => ?_, wd.mono h.wat (Same.refl _) (fun q z => if_neg (ne q z)) (fun q z => wd.free_ h.wat z)⟩⟩
  · funext q
    by_cases c : q = p
    · subst c
      rw [upd_same, hp]
    · rw [upd_ne c, if_neg c]
  · show (if q = p then none else H q) = some o
    rw [if_neg (ne_of_none e nB)]
    exact h.sB _ _ e
  · show (if q = p then none else H q) = some o
    rw [if_neg (ne_of_none e hF)]
    refine h.sF _ _ ?_
    rw [upd_ne (ne_of_none e hF)]
    exact e
  · refine h.dj q o ?_
    rw [upd_ne (ne_of_none e hF)]
    exact e
  · have := h.fw q z
    rw [upd_ne (ne q z)] at this
    exact this
variable {elt tg iter : Expr} {ifs : List Expr} {own : List (Str × Nat)} {t : TG} {a : AG} {gi gel : AE wd} {gt : AT wd}
theorem comp_end {F B : Hp} {Dl : Addr} {Qa : List D → wd.W → Prop} {Q : VK} {K : PySem.W.Frag} (hF : F Dl = none) (hk : KFOk wd K F B Qa Q) {Iv : Nat → List D → wd.W → Prop} {n : Nat} (hd : ∀ acc ω, Iv n acc ω → Qa acc ω) {H : Hp} (p : Cv wd K F B Dl Iv n H) : Q (.ref Dl) H := by
  obtain ⟨B', ω', accV, acc, m, st, r, iv⟩ := p
  obtain ⟨H', e, h0, st'⟩ := st.popped hF
  rw [e]
  exact hk _ _ _ _ _ _ m st' h0 r (hd _ _ iv)
theorem gf_comp (hc : X.calm = true) (hN : X.N.Nodup) (he : GE wd X W iter gi) (ok : BlkOk X.N X.env.scope scope own) (hg : Blk X scope fun Y => GC wd Y tg (own.map (·.2)) t a) (ht : Blk X scope fun Y => GTs wd Y W0 ifs gt) (hel : Blk X scope fun Y => GE wd Y W0 elt gel)
    (hs : ∀ x, foldedSetIterable iter X.env x = pure x := by intro _; rfl) : GF wd X W (.ListComp elt [⟨tg, iter, ifs, 0⟩] scope pos) (gComp gi a gt gel (own.map (·.2))) := by
  obtain ⟨ti, pi, ri⟩ := he.ex
  obtain ⟨tt, pt, rt⟩ := blk_gt ht
  obtain ⟨te, pe, re⟩ := blk_ge hel
  have rg : RG wd X.K t a := (hg X.s_0 (fun _ => none) 0 [] []).rg
  have ro : Only (own.map (·.2)) t := (hg X.s_0 (fun _ => none) 0 [] []).only
  refine ⟨_, pe_lc hc hN (pi_seq pi) ok (fun s H C cl fp => (hg s H C cl fp).pg) pt pe hs, fun F B ρ ω σ H Qa Ea Q hst henv q hk hx => ri F B ρ ω σ H _ _ _ hst henv q (fun B1 ω1 H1 v1 d1 s1 hs1 r1 g1 => ?_) hx⟩
  have hk1 : KFOk wd X.K F B1 Qa Q := fun B2 ω2 H2 p vs ds m => hk B2 ω2 H2 p vs ds (s1.trans m)
  have first : ∀ {Dl : Addr}, H1 Dl = none → Hst wd X.K (upd F Dl (.lst [])) B1 ω1 (upd H1 Dl (.lst [])) := fun hD => hs1.owned hD
  cases d1 <;> try exact g1.elim
  case tup xs =>
    obtain ⟨Iv, h0, hstep, hd⟩ := g1
    cases r1 with
    | tup h1 r1 =>
      refine ⟨_, rfl, .inr ⟨⟨_, Same.seqT hs1.sB h1⟩, fun Dl hD => ?_⟩⟩
      have hF := hs1.sF.free hD
      refine lc_tup (Cv wd X.K F B1 Dl Iv) ⟨B1, ω1, [], [], Same.refl _, first hD, .nil, h0⟩ (fun i H _ ⟨B', ω', accV, acc, m, st, _, _⟩ => Same.seqT (m.trans st.sB) h1) (fun i x H hx2 p => ?_) fun H p => comp_end hF hk1 hd (by rw [r1.length] at p; exact p)
      have hi : i < xs.length := by
        rw [← r1.length]
        exact (List.getElem?_eq_some_iff.mp hx2).1
      have hdd := List.getElem?_eq_getElem hi
      obtain ⟨v, e1, e2⟩ := r1.get hdd
      rw [hx2] at e1
      cases e1
      obtain ⟨B', ω', accV, acc, m, st, ra, iv⟩ := p
      exact comp_turn hF (henv.mono s1) rg ro rt re hstep hdd ⟨B', ω', accV, acc, m, st, ra, e2.mono m, iv⟩
  case lst xs =>
    obtain ⟨Iv, h0, hstep, hd⟩ := g1
    cases r1 with
    | lst h1 r1 =>
      refine ⟨_, rfl, .inl ⟨⟨_, SqL.of (hs1.sB _ _ h1)⟩, fun Dl hD => ?_⟩⟩
      have hF := hs1.sF.free hD
      refine lc_list (Cv wd X.K F B1 Dl Iv) ⟨B1, ω1, [], [], Same.refl _, first hD, .nil, h0⟩ (fun i H _ ⟨B', ω', accV, acc, m, st, _, _⟩ => SqL.of ((m.trans st.sB) _ _ h1)) (fun i x H hx2 p => ?_) fun H p => comp_end hF hk1 hd (by rw [r1.length] at p; exact p)
      have hi : i < xs.length := by
        rw [← r1.length]
        exact (List.getElem?_eq_some_iff.mp hx2).1
      have hdd := List.getElem?_eq_getElem hi
      obtain ⟨v, e1, e2⟩ := r1.get hdd
      rw [hx2] at e1
      cases e1
      obtain ⟨B', ω', accV, acc, m, st, ra, iv⟩ := p
      exact comp_turn hF (henv.mono s1) rg ro rt re hstep hdd ⟨B', ω', accV, acc, m, st, ra, e2.mono m, iv⟩
theorem gf_compR {p p2 : Pos} (hc : X.calm = true) (hN : X.N.Nodup) (hm : X.mg "range" = none) (he : GE wd X W iter gi) (ok : BlkOk X.N X.env.scope scope own) (hg : Blk X scope fun Y => GC wd Y tg (own.map (·.2)) t a) (ht : Blk X scope fun Y => GTs wd Y W0 ifs gt) (hel : Blk X scope fun Y => GE wd Y W0 elt gel)
    (hgr : Gl X "range" := by rfl) (hst : starEach [iter] X.env = [(false, eval iter X.env)] := by rfl) (hs : ∀ x, foldedSetIterable (.Call (.Name "range" p) [iter] [] p2) X.env x = pure x := by intro _; rfl) : GF wd X W (.ListComp elt [⟨tg, .Call (.Name "range" p) [iter] [] p2, ifs, 0⟩] scope pos) (gCompR gi a gt gel (own.map (·.2))) := by
  obtain ⟨ti, pi, ri⟩ := he.ex
  obtain ⟨tt, pt, rt⟩ := blk_gt ht
  obtain ⟨te, pe, re⟩ := blk_ge hel
  have rg : RG wd X.K t a := (hg X.s_0 (fun _ => none) 0 [] []).rg
  have ro : Only (own.map (·.2)) t := (hg X.s_0 (fun _ => none) 0 [] []).only
  refine ⟨_, pe_lc hc hN (pi_range1 hgr hm (pa_cons pi pa_nil hst) hst) ok (fun s H C cl fp => (hg s H C cl fp).pg) pt pe hs, fun F B ρ ω σ H Qa Ea Q hst henv q hk hx => ri F B ρ ω σ H _ _ _ hst henv q (fun B1 ω1 H1 v1 d1 s1 hs1 r1 g1 => ?_) hx⟩
  have hk1 : KFOk wd X.K F B1 Qa Q := fun B2 ω2 H2 p vs ds m => hk B2 ω2 H2 p vs ds (s1.trans m)
  cases d1 <;> try exact g1.elim
  case int n =>
    obtain ⟨b1, b2, Iv, h0, hstep, hd⟩ := g1
    cases r1
    refine ⟨n, rfl, b1, b2, fun Dl hD => ?_⟩
    have hF := hs1.sF.free hD
    refine lc_range (Cv wd X.K F B1 Dl Iv) ⟨B1, ω1, [], [], Same.refl _, hs1.owned hD, .nil, h0⟩ (fun i H hi p => ?_) fun H p => comp_end hF hk1 hd (by rw [rng_len]; exact p)
    obtain ⟨B', ω', accV, acc, m, st, ra, iv⟩ := p
    exact comp_turn hF (henv.mono s1) rg ro rt re hstep (rng_at hi) ⟨B', ω', accV, acc, m, st, ra, .int _, iv⟩
end
end MR
/-! more rules; the deck's world -/
namespace MR
open PySem PySem.Spec L2
section
variable {wd : Wd} {X : Cx} {W : WX} {pos : Pos} {e ek : Expr} {ge gk : AE wd} {K : PySem.W.Frag}
theorem ge_glob {x : Str} {v : V} {u : Value} {d : D} (hm : X.mg x = some u) (r : RelV v u) (hd : ∀ B, Rep X.K B v d) (hg : Gl X x := by rfl) (hdb : (x == ("__debug__" : Str)) = false := by decide) : GE wd X W (.Name x pos) (gC d) := ⟨_, pe_glob hg hm r hdb, re_c hd⟩
def mInt (mg : Str → Option Value) (x : Str) (i : Int) : Prop := ∃ t, mg x = some (.int i t)
theorem ge_gint {x : Str} {i : Int} (hm : mInt X.mg x i) (hg : Gl X x := by rfl) (hdb : (x == ("__debug__" : Str)) = false := by decide) : GE wd X W (.Name x pos) (gC (.int i)) := let ⟨_, h⟩ := hm; ge_glob (v := .int i) h ⟨_, rfl⟩ (fun _ => .int i) hg hdb
/-- len of a list that is read -/
def gLenL (g : AA wd) : AE wd := fun ρ ω Q E => g ρ ω (fun l ω1 => Q (.int l.length) ω1) E
theorem ge_lenL {p : Pos} {g : AA wd} (hm : X.mg "len" = none) (h : GL wd X W e g) (hg : Gl X "len" := by rfl) (hst : starEach [e] X.env = (false, eval e X.env) :: starEach [] X.env := by rfl) (hpl : (backTo pos (starEach [] X.env)).any (·.1) = false := by rfl) : GE wd X W (.Call (.Name "len" p) [e] [] pos) (gLenL g) := by
  obtain ⟨t, pe, r⟩ := h.ex
  refine ⟨_, pe_callB (r := rLen X.K) call_len hg hm (by decide +kernel) (pa_cons pe pa_nil hst) (by decide) (by decide) hst hpl, fun F B ρ ω σ H Qa Ea Q hs he hg hk hx => r F B ρ ω σ H _ _ _ hs he hg (fun B1 ω1 H1 p vs ds s1 hs1 l1 r1 g1 => ?_) hx⟩
  exact ⟨_, _, rfl, .inl ⟨_, SqL.of (hs1.lst l1), rfl⟩, by rw [r1.length]; exact hk _ _ _ _ _ s1 hs1 (.int _) g1⟩
theorem set_same {σ : St} {i : Nat} {v : V} (h : σ[i]? = some (some v)) : σ.set i (some v) = σ := by
  refine List.ext_getElem? fun j => ?_
  by_cases c : i = j
  · subst c
    rw [h, List.getElem?_set_self (List.getElem?_eq_some_iff.mp h).1]
  · rw [List.getElem?_set_ne c]
/-- x[k] = e, x an own list -/
theorem gs_put (i : Nat) {x : Str} {p1 p2 : Pos} (he : GE wd X W e ge) (hk : GE wd X W ek gk) (hi : X.N[i]? = some x := by rfl) (hv : Vis X.env.scope x := by first | exact Or.inl rfl | exact Or.inr (Or.inl rfl) | exact Or.inr (Or.inr rfl)) (hd : (x == ("__debug__" : Str)) = false := by decide) (hcd : (x == ("__classdict__" : Str)) = false := by decide)
    (hs : swapsWithSole [.Subscript (.Name x p1) ek p2] e pos.line X.env = pure false := by rfl) (hw : swappedStores [.Subscript (.Name x p1) ek p2] e X.env = pure none := by rfl) (h1 : (assignEach [.Subscript (.Name x p1) ek p2] X.env).map (·.2) = [assign (.Subscript (.Name x p1) ek p2) X.env] := by rfl)
    (ha : ∀ v, assign (.Subscript (.Name x p1) ek p2) X.env v = (do
      let ov ← holding [v] (eval (.Name x p1) X.env)
      let iv ← holding [v, ov] (eval ek X.env)
      standAt p2
      holding [v, ov, iv] (setItem ov iv v)
      release [v, ov, iv] []) := by intro _; rfl) : GS wd X W (.Assign [.Subscript (.Name x p1) ek p2] e pos) (sPut i gk ge) := by
  obtain ⟨t, pe, r⟩ := he.ex
  obtain ⟨tk, pk, rk⟩ := hk.ex
  refine ⟨_, ps_asg pe (pg_sub (pe_var hi hv hd hcd) pk set_list ha) hs hw h1, fun F0 F B ρ ω σ H Da E s q k => ?_⟩
  unfold sPut at q
  cases en : ρ[i]? with
  | none => simp only [en] at q
  | some o =>
    cases o with
    | none => simp only [en] at q
    | some y =>
      cases y with
      | d x => simp only [en] at q
      | own l =>
        simp only [en] at q
        obtain ⟨p, vs, a, b, c⟩ := s.env.ent i _ en
        refine r F B ρ ω σ H _ _ _ s.st s.env q (fun B1 ω1 H1 v1 d1 s1 hs1 r1 g1 => ⟨.ref p, a, rk F B1 ρ ω1 σ H1 _ _ _ hs1 (s.env.mono s1) g1 (fun B2 ω2 H2 v2 d2 s2 hs2 r2 g2 => ?_) ((k.xok s).mono s1)⟩) (k.xok s)
        cases d2 <;> try exact g2.elim
        case int z =>
          cases r2
          simp only at g2
          have m := s1.trans s2
          have hl := c.length
          cases ej : ixN l.length z with
          | none => simp only [ej] at g2
          | some j =>
            simp only [ej] at g2
            refine ⟨p, vs, z, j, rfl, rfl, hs2.sF _ _ b, by rw [hl]; exact ej, ?_⟩
            have z2 := (s.up m hs2).setOwn i (hs2.wrote (ws := vs.set j v1) b) (RepAll.set (r1.mono s2) j (c.mono m)) (s.own i l p en a) fun j l' h1 h2 => s.env.dist j i l' l p h1 en h2 a
            rw [set_same a] at z2
            exact k.nx m z2 g2
/-- x.extend(e), x an own list -/
def sExt (i : Nat) (g : AA wd) : AS wd := fun Da ρ ω => match ρ[i]? with
  | some (some (.own l)) => g ρ ω (fun ys ω' => l.length + ys.length ≤ sizeLine ∧ Da.nx (ρ.set i (some (.own (l ++ ys)))) ω') (fun x ω' => Da.ex x ρ ω')
  | _ => False
theorem gs_ext (i : Nat) {x : Str} {p1 p2 p3 : Pos} {g : AA wd} (he : GL wd X W e g) (hi : X.N[i]? = some x := by rfl) (hv : Vis X.env.scope x := by first | exact Or.inl rfl | exact Or.inr (Or.inl rfl) | exact Or.inr (Or.inr rfl)) (hd : (x == ("__debug__" : Str)) = false := by decide) (hcd : (x == ("__classdict__" : Str)) = false := by decide)
    (hst : starEach [e] X.env = (false, eval e X.env) :: starEach [] X.env := by rfl) (hs : swapsWith (.Call (.Attribute (.Name x p1) "extend" p2) [e] [] p3) none pos.line X.env = pure false := by rfl)
    (hbase : attributeBase (.Name x p1) "extend" X.env (eval (.Name x p1) X.env) = eval (.Name x p1) X.env := by rfl) (hfew : ((backTo p3 (starEach [e] X.env)).all (fun x => !x.1) && (backToKw p3 (keywordEach [] X.env)).all (fun x => x.1.isSome) && decide (([e] : List Expr).length + ([] : List Keyword).length + (if ([] : List Keyword).isEmpty then 0 else 1) < 30)) = true := by rfl)
    (hline : (p2.endLine == p3.line) = true := by rfl) (hplain : (backTo p3 (starEach [] X.env)).any (·.1) = false := by rfl) :
    GS wd X W (.Expr (.Call (.Attribute (.Name x p1) "extend" p2) [e] [] p3) pos) (sExt i g) := by
  have hp := pe_bm PySem.F.plainAttrs_list PySem.F.slot_list_extend PySem.F.type_list_extend mt_extend (pe_var hi hv hd hcd) (pa_cons (Classical.choose_spec he.ex).1 pa_nil hst) hbase hfew hline hst hplain
  refine ⟨_, ps_expr hp hs, fun F0 F B ρ ω σ H Da E s q k => ?_⟩
  have r := (Classical.choose_spec he.ex).2
  unfold sExt at q
  cases en : ρ[i]? with
  | none => simp only [en] at q
  | some o =>
    cases o with
    | none => simp only [en] at q
    | some y =>
      cases y with
      | d x => simp only [en] at q
      | own l =>
        simp only [en] at q
        obtain ⟨p, vs, a, b, c⟩ := s.env.ent i _ en
        refine ⟨.ref p, a, .inl ⟨rfl, vs, SqL.of (s.st.sF _ _ b)⟩, r F B ρ ω σ H _ _ _ s.st s.env q (fun B1 ω1 H1 p2 ws ds s1 hs1 l1 r1 g1 => ?_) (k.xok s)⟩
        have hl := (c.mono s1).length
        refine ⟨p, p2, vs, ws, rfl, rfl, hs1.sF _ _ b, hs1.lst l1, by rw [hl, r1.length]; exact g1.1, ?_⟩
        have z := (s.up s1 hs1).setOwn i (hs1.wrote (ws := vs ++ ws) b) ((c.mono s1).append r1) (s.own i l p en a) fun j l' h1 h2 => s.env.dist j i l' l p h1 en h2 a
        rw [set_same a] at z
        exact k.nx s1 z g1.2
end

/-! ### the deck's world -/
structure DW where
  scr : Option (Addr × List Int)
  dk : Option (Addr × Addr × List Int × Int × Int)
def DWd : Wd where
  W := DW
  foot := fun ω a => ∃ p c cs s t, ω.dk = some (p, c, cs, s, t) ∧ (a = p ∨ a = c)
  holds := fun K ω B H => (∀ a ns, ω.scr = some (a, ns) → SqL K B a (ns.map V.int)) ∧
    ∀ p c cs s t, ω.dk = some (p, c, cs, s, t) → p ≠ c ∧ B p = none ∧ B c = none ∧ H p = some (.lst [.ref c, .int s, .int t]) ∧ H c = some (.lst (cs.map V.int))
  some_ := fun {K ω B H a} h ⟨p, c, cs, s, t, e, z⟩ => by
    obtain ⟨_, _, _, h1, h2⟩ := h.2 p c cs s t e
    rcases z with z | z
    · rw [z, h1]; intro q; cases q
    · rw [z, h2]; intro q; cases q
  free_ := fun {K ω B H a} h ⟨p, c, cs, s, t, e, z⟩ => by
    obtain ⟨_, h1, h2, _, _⟩ := h.2 p c cs s t e
    rcases z with z | z
    · rw [z]; exact h1
    · rw [z]; exact h2
  mono := fun {K ω B H B' H'} h m hH hB => ⟨fun a ns e => m.seq (h.1 a ns e), fun p c cs s t e => by
    obtain ⟨h0, h1, h2, h3, h4⟩ := h.2 p c cs s t e
    exact ⟨h0, hB p ⟨p, c, cs, s, t, e, .inl rfl⟩, hB c ⟨p, c, cs, s, t, e, .inr rfl⟩, by rw [hH p ⟨p, c, cs, s, t, e, .inl rfl⟩]; exact h3, by rw [hH c ⟨p, c, cs, s, t, e, .inr rfl⟩]; exact h4⟩⟩
/-- a deck stands at p that was drawn from at most T times -/
def Dk (ω : DW) (p : Addr) (T : Int) : Prop := ∃ c cs s t, ω.dk = some (p, c, cs, s, t) ∧ 0 ≤ t ∧ t ≤ T ∧ cs.length ≤ 63
theorem Dk.le {ω : DW} {p : Addr} {T T' : Int} (h : Dk ω p T) (l : T ≤ T') : Dk ω p T' := let ⟨c, cs, s, t, e, h1, h2, h3⟩ := h; ⟨c, cs, s, t, e, h1, Int.le_trans h2 l, h3⟩
/-- the world's own cells have changed -/
theorem Hst.world {wd : Wd} {K : PySem.W.Frag} {F B H H' : Hp} {ω ω' : wd.W} (h : Hst wd K F B ω H) (k : ∀ a, ¬ wd.foot ω a → H' a = H a) (hf : ∀ a, wd.foot ω' a → wd.foot ω a) (hw : wd.holds K ω' B H') : Hst wd K F B ω' H' := by
  refine ⟨fun a o e => ?_, fun a o e => ?_, h.dj, fun a z => h.fw a (hf a z), hw⟩
  · rw [k a]
    · exact h.sB _ _ e
    · intro z
      rw [wd.free_ h.wat z] at e
      cases e
  · rw [k a]
    · exact h.sF _ _ e
    · intro z
      rw [h.fw a z] at e
      cases e
end MR
/-! the deck: rules over its world -/
namespace MR
open PySem PySem.Spec L2
theorem DW.at_ {K : PySem.W.Frag} {F B H : Hp} {ω : DW} {p c : Addr} {cs : List Int} {s t : Int} (h : Hst DWd K F B ω H) (e : ω.dk = some (p, c, cs, s, t)) : p ≠ c ∧ H p = some (.lst [.ref c, .int s, .int t]) ∧ H c = some (.lst (cs.map V.int)) :=
  let z := h.wat.2 p c cs s t e; ⟨z.1, z.2.2.2.1, z.2.2.2.2⟩
/-- the deck's own cells are stored anew -/
theorem DW.wrote {K : PySem.W.Frag} {F B H : Hp} {ω : DW} {p c : Addr} {cs : List Int} {s t : Int} (h : Hst DWd K F B ω H) (e : ω.dk = some (p, c, cs, s, t)) (cs' : List Int) (t' : Int) :
    Hst DWd K F B { ω with dk := some (p, c, cs', s, t') } (upd (upd H p (.lst [.ref c, .int s, .int t'])) c (.lst (cs'.map V.int))) := by
  obtain ⟨n, b1, b2, _, _⟩ := h.wat.2 p c cs s t e
  refine h.world (fun a na => ?_) (fun a ⟨p', c', cs2, s2, t2, e2, z⟩ => ?_) ⟨h.wat.1, fun p' c' cs2 s2 t2 e2 => ?_⟩
  · have n1 : a ≠ p := fun z => na ⟨p, c, cs, s, t, e, .inl z⟩
    have n2 : a ≠ c := fun z => na ⟨p, c, cs, s, t, e, .inr z⟩
    rw [upd_ne n2, upd_ne n1]
  · cases e2
    exact ⟨p, c, cs, s, t, e, z⟩
  · cases e2
    exact ⟨n, b1, b2, by rw [upd_ne n, upd_same], upd_same⟩
theorem upd_id {H : Hp} {p : Addr} {o : HO} (h : H p = some o) : upd H p o = H := by
  funext a
  by_cases c : a = p
  · subst c
    rw [upd_same, h]
  · rw [upd_ne c]
theorem dp_ints {K : PySem.W.Frag} {H : Hp} : ∀ cs : List Int, DpAll K H (cs.map V.int) (cs.map PyData.int)
  | [] => .nil
  | c :: cs => .cons (.int c) (dp_ints cs)
theorem lay_ints : ∀ cs : List Int, PyData.canLayAll0 (cs.map PyData.int) = true
  | [] => by rw [List.map_nil, PyData.canLayAll0]
  | c :: cs => by rw [List.map_cons, PyData.canLayAll0, lay_ints cs, PyData.canLay0]; rfl
theorem depth_ints : ∀ cs : List Int, PyData.depthAll (cs.map PyData.int) ≤ 1
  | [] => by rw [List.map_nil, PyData.depthAll]; omega
  | c :: cs => by
    have ih := depth_ints cs
    rw [List.map_cons, PyData.depthAll, PyData.depth]
    omega
theorem shaped_ints (cs : List Int) : SeqAt.shaped (.list (cs.map PyData.int)) = true := by
  have h := depth_ints cs
  unfold SeqAt.shaped
  rw [PyData.canLay0, lay_ints, PyData.depth, Bool.true_and, decide_eq_true_eq]
  omega
theorem eqv_nil (cs : List Int) : PyData.eqv (.list (cs.map PyData.int)) (.list []) = cs.isEmpty := by
  cases cs with
  | nil => decide
  | cons c cs => simp [PyData.eqv, PyData.eqvAll]
section
variable {X : Cx} {W : WX}
/-- where the deck stands -/
def At (ρ : AEnv) (i : Nat) (ω : DW) (p c : Addr) (cs : List Int) (s t : Int) : Prop := ρ[i]? = some (some (.d (.adr p))) ∧ ω.dk = some (p, c, cs, s, t)
theorem At.slot {K : PySem.W.Frag} {F B : Hp} {ρ : AEnv} {σ : St} {ω : DW} {i : Nat} {p c : Addr} {cs : List Int} {s t : Int} (h : At ρ i ω p c cs s t) (he : EnvOk K F B ρ σ) : σ[i]? = some (some (.ref p)) := by
  obtain ⟨v, a, r⟩ := he.ent i _ h.1
  cases r
  exact a
def gDkT (i : Nat) : AE DWd := fun ρ ω Q _ => ∃ p c cs s t, At ρ i ω p c cs s t ∧ Q (.int t) ω
def gDkS (i : Nat) : AE DWd := fun ρ ω Q _ => ∃ p c cs s t, At ρ i ω p c cs s t ∧ Q (.int s) ω
def gDkNe (i : Nat) : AT DWd := fun ρ ω Q _ => ∃ p c cs s t, At ρ i ω p c cs s t ∧ Q (!cs.isEmpty) ω
def gDkPop (i : Nat) : AE DWd := fun ρ ω Q _ => ∃ p c cs x s t, At ρ i ω p c (cs ++ [x]) s t ∧ Q (.int x) { ω with dk := some (p, c, cs, s, t) }
def sDkApp (i : Nat) (g : AE DWd) : AS DWd := fun Da ρ ω => ∃ p c cs s t, At ρ i ω p c cs s t ∧ g ρ ω (fun y ω1 => ω1 = ω ∧ ∃ x, y = .int x ∧ cs.length < sizeLine ∧ Da.nx ρ { ω with dk := some (p, c, cs ++ [x], s, t) }) (fun x ω' => Da.ex x ρ ω')
def sDkPut (i : Nat) (g : AE DWd) : AS DWd := fun Da ρ ω => ∃ p c cs s t, At ρ i ω p c cs s t ∧ g ρ ω (fun y ω1 => ω1 = ω ∧ ∃ x, y = .int x ∧ Da.nx ρ { ω with dk := some (p, c, cs, s, x) }) (fun x ω' => Da.ex x ρ ω')
variable (i : Nat) {x : Str} {p1 p2 p3 pos : Pos} {k : Nat}
theorem ge_dkT (hN : X.N[i]? = some x := by rfl) (hv : Vis X.env.scope x := by first | exact Or.inl rfl | exact Or.inr (Or.inl rfl) | exact Or.inr (Or.inr rfl)) (hd : (x == ("__debug__" : Str)) = false := by decide) (hcd : (x == ("__classdict__" : Str)) = false := by decide) :
    GE DWd X W (.Subscript (.Name x p1) (.Constant (.int 2) k p2) pos) (gDkT i) :=
  ⟨_, pe_ix ix_seq (pe_var hN hv hd hcd) pe_int (fun _ _ => rfl), fun F B ρ ω σ H Qa Ea Q hs he hg hk hx => by
    obtain ⟨p, c, cs, s, t, a, q⟩ := hg
    obtain ⟨n, h1, h2⟩ := DW.at_ hs a.2
    exact ⟨.ref p, a.slot he, .inl ⟨p, _, 2, .int t, rfl, rfl, SqL.of h1, rfl, ro_same hs (.int _) q hk⟩⟩⟩
theorem ge_dkS (hN : X.N[i]? = some x := by rfl) (hv : Vis X.env.scope x := by first | exact Or.inl rfl | exact Or.inr (Or.inl rfl) | exact Or.inr (Or.inr rfl)) (hd : (x == ("__debug__" : Str)) = false := by decide) (hcd : (x == ("__classdict__" : Str)) = false := by decide) :
    GE DWd X W (.Subscript (.Name x p1) (.Constant (.int 1) k p2) pos) (gDkS i) :=
  ⟨_, pe_ix ix_seq (pe_var hN hv hd hcd) pe_int (fun _ _ => rfl), fun F B ρ ω σ H Qa Ea Q hs he hg hk hx => by
    obtain ⟨p, c, cs, s, t, a, q⟩ := hg
    obtain ⟨n, h1, h2⟩ := DW.at_ hs a.2
    exact ⟨.ref p, a.slot he, .inl ⟨p, _, 1, .int s, rfl, rfl, SqL.of h1, rfl, ro_same hs (.int _) q hk⟩⟩⟩
theorem gt_dkNe (hu : X.A.units + 64 < cLine) (hN : X.N[i]? = some x := by rfl) (hv : Vis X.env.scope x := by first | exact Or.inl rfl | exact Or.inr (Or.inl rfl) | exact Or.inr (Or.inr rfl)) (hd : (x == ("__debug__" : Str)) = false := by decide) (hcd : (x == ("__classdict__" : Str)) = false := by decide) :
    GT DWd X W (.Compare (.Subscript (.Name x p1) (.Constant (.int 0) k p2) p3) [.NotEq] [.List [] pos] pos') (gDkNe i) :=
  ⟨_, pt_cmpR (op_neD hu) (pe_ix ix_seq (pe_var hN hv hd hcd) pe_int (fun _ _ => rfl)) (pe_lst pa_nil) (nomark _), fun F B ρ ω σ H Qa Ea Q hs he hg hk hx => by
    obtain ⟨p, c, cs, s, t, a, q⟩ := hg
    obtain ⟨n, h1, h2⟩ := DW.at_ hs a.2
    refine ⟨.ref p, a.slot he, .inl ⟨p, _, 0, .ref c, rfl, rfl, SqL.of h1, rfl, (by show 0 ≤ sizeLine; decide), fun z hz => ?_⟩⟩
    obtain ⟨s1, hs1⟩ := hs.new (o := .lst []) hz
    have nc : c ≠ z := fun e => by
      rw [e] at h2
      rw [h2] at hz
      cases hz
    refine ⟨.list (cs.map PyData.int), .list [], .lst (SqL.of (by rw [upd_ne nc]; exact h2)) (dp_ints cs), .lst (SqL.of upd_same) .nil, shaped_ints cs, rfl, ?_⟩
    rw [eqv_nil]
    exact ⟨_, rfl, hk _ _ _ _ s1 hs1 q⟩⟩
theorem ge_dkPop {pa : Pos} (hN : X.N[i]? = some x := by rfl) (hv : Vis X.env.scope x := by first | exact Or.inl rfl | exact Or.inr (Or.inl rfl) | exact Or.inr (Or.inr rfl)) (hd : (x == ("__debug__" : Str)) = false := by decide) (hcd : (x == ("__classdict__" : Str)) = false := by decide)
    (hbase : attributeBase (.Subscript (.Name x p1) (.Constant (.int 0) k p2) p3) "pop" X.env (eval (.Subscript (.Name x p1) (.Constant (.int 0) k p2) p3) X.env) = eval (.Subscript (.Name x p1) (.Constant (.int 0) k p2) p3) X.env := by rfl) (hline : (pa.endLine == pos.line) = true := by rfl) :
    GE DWd X W (.Call (.Attribute (.Subscript (.Name x p1) (.Constant (.int 0) k p2) p3) "pop" pa) [] [] pos) (gDkPop i) := by
  have hp := pe_bm0 PySem.F.plainAttrs_list PySem.F.slot_list_pop PySem.F.type_list_pop mt_pop (pe_ix ix_seq (pe_var hN hv hd hcd) pe_int (fun _ _ => rfl)) hbase hline
  refine ⟨_, hp, fun F B ρ ω σ H Qa Ea Q hs he hg hk hx => ?_⟩
  obtain ⟨p, c, cs, y, s, t, a, q⟩ := hg
  obtain ⟨n, h1, h2⟩ := DW.at_ hs a.2
  refine ⟨.ref p, a.slot he, .inl ⟨p, _, 0, .ref c, rfl, rfl, SqL.of h1, rfl, .inl ⟨rfl, _, SqL.of h2⟩, c, (cs ++ [y]).map V.int, .int y, rfl, rfl, h2, ?_, ?_⟩⟩
  · simp
  · have w := DW.wrote hs a.2 cs t
    rw [upd_id h1] at w
    have e : ((cs ++ [y]).map V.int).dropLast = cs.map V.int := by simp
    rw [e]
    exact hk _ _ _ _ _ (Same.refl _) w (.int _) q
theorem gs_dkApp {pa pe : Pos} {e : Expr} {ge : AE DWd} (he : GE DWd X W e ge) (hN : X.N[i]? = some x := by rfl) (hv : Vis X.env.scope x := by first | exact Or.inl rfl | exact Or.inr (Or.inl rfl) | exact Or.inr (Or.inr rfl)) (hd : (x == ("__debug__" : Str)) = false := by decide) (hcd : (x == ("__classdict__" : Str)) = false := by decide)
    (hst : starEach [e] X.env = (false, eval e X.env) :: starEach [] X.env := by rfl) (hs : swapsWith (.Call (.Attribute (.Subscript (.Name x p1) (.Constant (.int 0) k p2) p3) "append" pa) [e] [] pos) none pe.line X.env = pure false := by rfl)
    (hbase : attributeBase (.Subscript (.Name x p1) (.Constant (.int 0) k p2) p3) "append" X.env (eval (.Subscript (.Name x p1) (.Constant (.int 0) k p2) p3) X.env) = eval (.Subscript (.Name x p1) (.Constant (.int 0) k p2) p3) X.env := by rfl) (hfew : ((backTo pos (starEach [e] X.env)).all (fun x => !x.1) && (backToKw pos (keywordEach [] X.env)).all (fun x => x.1.isSome) && decide (([e] : List Expr).length + ([] : List Keyword).length + (if ([] : List Keyword).isEmpty then 0 else 1) < 30)) = true := by rfl)
    (hline : (pa.endLine == pos.line) = true := by rfl) (hplain : (backTo pos (starEach [] X.env)).any (·.1) = false := by rfl) :
    GS DWd X W (.Expr (.Call (.Attribute (.Subscript (.Name x p1) (.Constant (.int 0) k p2) p3) "append" pa) [e] [] pos) pe) (sDkApp i ge) := by
  have hp := pe_bm PySem.F.plainAttrs_list PySem.F.slot_list_append PySem.F.type_list_append mt_append (pe_ix ix_seq (pe_var hN hv hd hcd) pe_int (fun _ _ => rfl)) (pa_cons (Classical.choose_spec he.ex).1 pa_nil hst) hbase hfew hline hst hplain
  refine ⟨_, ps_expr hp hs, fun F0 F B ρ ω σ H Da E s q kk => ?_⟩
  have r := (Classical.choose_spec he.ex).2
  obtain ⟨p, c, cs, sd, t, a, q⟩ := q
  obtain ⟨n, h1, h2⟩ := DW.at_ s.st a.2
  refine ⟨.ref p, a.slot s.env, .inl ⟨p, _, 0, .ref c, rfl, rfl, SqL.of h1, rfl, .inl ⟨rfl, _, SqL.of h2⟩, r F B ρ ω σ H _ _ _ s.st s.env q (fun B1 ω1 H1 v1 d1 s1 hs1 r1 g1 => ?_) (kk.xok s)⟩⟩
  obtain ⟨rfl, y, rfl, hz, nx⟩ := g1
  cases r1
  obtain ⟨n, h1, h2⟩ := DW.at_ hs1 a.2
  refine ⟨c, cs.map V.int, .int y, rfl, rfl, h2, by simpa using hz, ?_⟩
  have w := DW.wrote hs1 a.2 (cs ++ [y]) t
  rw [upd_id h1, List.map_append] at w
  exact kk.nx s1 (s.up s1 w) nx
theorem gs_dkPut {e : Expr} {ge : AE DWd} {pe : Pos} (he : GE DWd X W e ge) (hN : X.N[i]? = some x := by rfl) (hv : Vis X.env.scope x := by first | exact Or.inl rfl | exact Or.inr (Or.inl rfl) | exact Or.inr (Or.inr rfl)) (hd : (x == ("__debug__" : Str)) = false := by decide) (hcd : (x == ("__classdict__" : Str)) = false := by decide)
    (hs : swapsWithSole [.Subscript (.Name x p1) (.Constant (.int 2) k p2) p3] e pe.line X.env = pure false := by rfl) (hw : swappedStores [.Subscript (.Name x p1) (.Constant (.int 2) k p2) p3] e X.env = pure none := by rfl) (h1 : (assignEach [.Subscript (.Name x p1) (.Constant (.int 2) k p2) p3] X.env).map (·.2) = [assign (.Subscript (.Name x p1) (.Constant (.int 2) k p2) p3) X.env] := by rfl)
    (ha : ∀ v, assign (.Subscript (.Name x p1) (.Constant (.int 2) k p2) p3) X.env v = (do
      let ov ← holding [v] (eval (.Name x p1) X.env)
      let iv ← holding [v, ov] (eval (.Constant (.int 2) k p2) X.env)
      standAt p3
      holding [v, ov, iv] (setItem ov iv v)
      release [v, ov, iv] []) := by intro _; rfl) :
    GS DWd X W (.Assign [.Subscript (.Name x p1) (.Constant (.int 2) k p2) p3] e pe) (sDkPut i ge) := by
  obtain ⟨t, p0, r⟩ := he.ex
  refine ⟨_, ps_asg p0 (pg_sub (pe_var hN hv hd hcd) pe_int set_list ha) hs hw h1, fun F0 F B ρ ω σ H Da E s q kk => ?_⟩
  obtain ⟨p, c, cs, sd, t0, a, q⟩ := q
  refine r F B ρ ω σ H _ _ _ s.st s.env q (fun B1 ω1 H1 v1 d1 s1 hs1 r1 g1 => ?_) (kk.xok s)
  obtain ⟨rfl, y, rfl, nx⟩ := g1
  cases r1
  obtain ⟨n, h1, h2⟩ := DW.at_ hs1 a.2
  refine ⟨.ref p, a.slot s.env, p, _, 2, 2, rfl, rfl, h1, rfl, ?_⟩
  have w := DW.wrote hs1 a.2 cs y
  rw [upd_id (by rw [upd_ne n.symm]; exact h2)] at w
  exact kk.nx s1 (s.up s1 w) nx

/-! ### the deck is made -/
/-- a slice of the script -/
def gScr (i : Nat) (hi : Int) : AA DWd := fun ρ ω Q _ => ∃ a ns, ρ[i]? = some (some (.d (.adr a))) ∧ ω.scr = some (a, ns) ∧ Q (cutD (ns.map D.int) none (some hi)) ω
theorem gf_scr {hi : Int} {p4 : Pos} (hN : X.N[i]? = some x := by rfl) (hv : Vis X.env.scope x := by first | exact Or.inl rfl | exact Or.inr (Or.inl rfl) | exact Or.inr (Or.inr rfl)) (hd : (x == ("__debug__" : Str)) = false := by decide) (hcd : (x == ("__classdict__" : Str)) = false := by decide) :
    GF DWd X W (.Subscript (.Name x p1) (.Slice none (some (.Constant (.int hi) k p2)) none p3) p4) (gScr i hi) :=
  ⟨_, pe_slice sl_list (pe_var hN hv hd hcd) po_none (po_some pe_int), fun F B ρ ω σ H Qa Ea Q hs he hg hk hx => by
    obtain ⟨a, ns, e1, e2, q⟩ := hg
    obtain ⟨v, b, r⟩ := he.ent i _ e1
    cases r
    have hq : SqL X.K H a (ns.map V.int) := hs.sB.seq (hs.wat.1 a ns e2)
    exact ⟨.ref a, b, hi, rfl, a, _, rfl, hq, fun p hp => hk _ _ _ p _ _ (Same.refl _) hs hp (cut_rep RepAll.ints none (some hi)) q⟩⟩
theorem gf_list {e : Expr} {g : AA DWd} (hm : X.mg "list" = none) (h : GL DWd X W e g) (hg : Gl X "list" := by rfl) (hst : starEach [e] X.env = (false, eval e X.env) :: starEach [] X.env := by rfl) (hpl : (backTo pos (starEach [] X.env)).any (·.1) = false := by rfl) :
    GF DWd X W (.Call (.Name "list" p1) [e] [] pos) g := by
  obtain ⟨t, pe, r⟩ := h.ex
  refine ⟨_, pe_callTy call_list_of hg hm (by decide +kernel) (pa_cons pe pa_nil hst) (by decide) (by decide) hst hpl, fun F B ρ ω σ H Qa Ea Q hs he hg hk hx => r F B ρ ω σ H _ _ _ hs he hg (fun B1 ω1 H1 p vs ds s1 hs1 l1 r1 g1 => ?_) hx⟩
  exact ⟨p, vs, rfl, .inl (SqL.of (hs1.lst l1)), fun l hl => hk _ _ _ l _ _ s1 hs1 hl r1 g1⟩
/-- a list that is read, the other way about: a new one -/
theorem gf_rev {e : Expr} {g : AA DWd} {q1 q2 q3 : Pos} (h : GL DWd X W e g) : GF DWd X W (.Subscript e (.Slice none none (some (.UnaryOp .USub (.Constant (.int 1) k q1) q2)) q3) pos) (fun ρ ω Q E => g ρ ω (fun l ω1 => Q l.reverse ω1) E) := by
  obtain ⟨t, pe, r⟩ := h.ex
  refine ⟨_, pe_rev pe, fun F B ρ ω σ H Qa Ea Q hs he hg hk hx => r F B ρ ω σ H _ _ _ hs he hg (fun B1 ω1 H1 p vs ds s1 hs1 l1 r1 g1 => ?_) hx⟩
  exact ⟨p, vs, rfl, .inr ⟨SqL.of (hs1.lst l1), fun l hl => hk _ _ _ l _ _ s1 hs1 hl r1.reverse g1⟩⟩
def sDeck (g1 : AA DWd) (g2 g3 : AE DWd) : AS DWd := fun Da ρ ω => ω.dk = none ∧ g1 ρ ω (fun l ω1 => ω1 = ω ∧ ∃ cs : List Int, l = cs.map D.int ∧ g2 ρ ω (fun d2 ω2 => ω2 = ω ∧ ∃ s, d2 = .int s ∧ g3 ρ ω (fun d3 ω3 => ω3 = ω ∧ ∃ t, d3 = .int t ∧
  ∀ p c, Da.rt (.adr p) { ω with dk := some (p, c, cs, s, t) }) (fun _ _ => False)) (fun _ _ => False)) (fun _ _ => False)
theorem EnvOk.upF {K : PySem.W.Frag} {F F' B : Hp} {ρ : AEnv} {σ : St} (h : EnvOk K F B ρ σ) (m : Same F F') : EnvOk K F' B ρ σ := ⟨h.len, fun i e q => by
  have z := h.ent i e q
  cases e with
  | d x => exact z
  | own l =>
    obtain ⟨p, vs, a, b, c⟩ := z
    exact ⟨p, vs, a, m _ _ b, c⟩, h.dist⟩
theorem gs_deck {a b c : Expr} {g1 : AA DWd} {g2 g3 : AE DWd} (h1 : GF DWd X (fun _ _ _ _ => False) a g1) (h2 : GE DWd X (fun _ _ _ _ => False) b g2) (h3 : GE DWd X (fun _ _ _ _ => False) c g3)
    (e1 : starEach [a, b, c] X.env = (false, eval a X.env) :: starEach [b, c] X.env := by rfl) (e2 : starEach [b, c] X.env = (false, eval b X.env) :: starEach [c] X.env := by rfl) (e3 : starEach [c] X.env = (false, eval c X.env) :: starEach [] X.env := by rfl) :
    GS DWd X W (.Return (some (.List [a, b, c] p1)) pos) (sDeck g1 g2 g3) := by
  obtain ⟨t1, q1, r1⟩ := h1.ex
  obtain ⟨t2, q2, r2⟩ := h2.ex
  obtain ⟨t3, q3, r3⟩ := h3.ex
  refine ⟨_, ps_ret (pe_lst (pa_cons q1 (pa_cons q2 (pa_cons q3 pa_nil e3) e2) e1)), fun F0 F B ρ ω σ H Da E s q kk => ?_⟩
  obtain ⟨hn, q⟩ := q
  have no : ∀ {B : Hp} {Ea : AX DWd} {F : Hp}, (∀ x ω, ¬ Ea x ω) → XOk DWd X.K F B Ea (fun _ _ _ => False) := fun z B' ω' H' cls dx x _ _ _ g => z _ _ g
  refine r1 F B ρ ω σ H _ (fun _ _ => False) _ s.st s.env q (fun B1 ω1 H1 p vs ds s1 hs1 hp rr g => ?_) (no fun _ _ z => z)
  obtain ⟨rfl, cs, rfl, g⟩ := g
  have hv := rr.of_ints
  subst hv
  have o1 := hs1.owned (vs := cs.map V.int) hp
  have nF := hs1.sF.free hp
  have sF : Same F (upd F p (.lst (cs.map V.int))) := fun y o e => by
    rw [upd_ne (ne_of_none e nF)]
    exact e
  refine r2 _ B1 ρ ω1 σ _ _ (fun _ _ => False) _ o1 ((s.env.mono s1).upF sF) g (fun B2 ω2 H2 v2 d2 s2 hs2 rr2 g => ?_) (no fun _ _ z => z)
  obtain ⟨rfl, sd, rfl, g⟩ := g
  cases rr2
  refine r3 _ B2 ρ ω2 σ _ _ (fun _ _ => False) _ hs2 ((s.env.mono (s1.trans s2)).upF sF) g (fun B3 ω3 H3 v3 d3 s3 hs3 rr3 g => ?_) (no fun _ _ z => z)
  obtain ⟨rfl, t, rfl, g⟩ := g
  cases rr3
  refine ⟨(by show 3 ≤ sizeLine; decide), fun z hz => ?_⟩
  have n3 : z ≠ p := fun e => by
    rw [e, hs3.sF _ _ upd_same] at hz
    cases hz
  have hp3 : H3 p = some (.lst (cs.map V.int)) := hs3.sF _ _ upd_same
  have bz : B3 z = none := hs3.sB.free hz
  have bp : B3 p = none := hs3.dj _ _ upd_same
  have fz : F z = none := by
    have := hs3.sF.free hz
    rw [upd_ne n3] at this
    exact this
  refine kk.rt ((s1.trans s2).trans s3) (B' := B3) (d := .adr z) (ω' := { ω3 with dk := some (z, p, cs, sd, t) }) ⟨fun y o e => ?_, fun y o e => ?_, fun y o e => ?_, fun y ⟨p', c', cs', s', t', e, w⟩ => ?_, ⟨fun y ns e => hs3.wat.1 y ns e, fun p' c' cs' s' t' e => ?_⟩⟩ (.adr _) (g z p)
  · rw [upd_ne (ne_of_none e bz)]
    exact hs3.sB _ _ e
  · have ey := s.f0 _ _ e
    rw [upd_ne (ne_of_none ey fz)]
    exact hs3.sF _ _ (sF _ _ ey)
  · exact hs3.dj y o (sF _ _ (s.f0 _ _ e))
  · cases e
    rcases w with rfl | rfl
    · exact s.f0.free fz
    · exact s.f0.free nF
  · cases e
    exact ⟨n3, bz, bp, upd_same, by rw [upd_ne n3.symm]; exact hp3⟩
end
end MR
/-! helpers of the laws' texts; the end of a law -/
namespace MR
open PySem PySem.Spec PyProof.Rows L2
theorem takes0 {X : Cx} : Takes X W0 := fun u s' ⟨_, _, _, _, _, _, _, _, _, _, _, _, _, _, _, _, w⟩ => w.elim
theorem un64 {k : Nat} {A : Around} (h : Room k A) : A.units + 64 < cLine := by have := h.un; omega
theorem un0 {k : Nat} {A : Around} (h : Room k A) : A.units < cLine := by have := h.un; omega
theorem un100 {k : Nat} {A : Around} (h : Room k A) : A.units + 100 < cLine := by have := h.un; omega
/-! targets' lengths -/
def AEx (g : AG) : Prop := ∀ d ρ P, g d ρ P → ∃ ρ', P ρ'
def AL (n : Nat) (b : AGs) : Prop := ∀ xs ρ Q, b xs ρ Q → xs.length = n ∧ ∃ ρ', Q ρ'
theorem aex_name {i : Nat} : AEx (aName i) := fun _ _ _ h => ⟨_, h⟩
theorem al_nil : AL 0 aNil := fun xs ρ Q h => by
  cases xs with
  | nil => exact ⟨rfl, _, h⟩
  | cons _ _ => exact h.elim
theorem al_cons {n : Nat} {g : AG} {b : AGs} (h1 : AEx g) (h2 : AL n b) : AL (n + 1) (aCons g b) := fun xs ρ Q h => by
  cases xs with
  | nil => exact h.elim
  | cons x r =>
    obtain ⟨ρ', q⟩ := h1 _ _ _ h
    obtain ⟨a, c⟩ := h2 _ _ _ q
    exact ⟨congrArg Nat.succ a, c⟩
theorem aex_tup {n : Nat} {b : AGs} (h : AL n b) : AEx (aTup b) := fun d ρ P q => by
  cases d <;> try exact q.elim
  case tup xs => exact (h _ _ _ q).2
theorem AL.len {n : Nat} {b : AGs} (h : AL n b) : ∀ xs ρ Q, b xs ρ Q → xs.length = n := fun xs ρ Q q => (h xs ρ Q q).1
/-! in place -/
def fAddI : FD2
  | .int i, .int j, Q => Q (.int (i + j))
  | _, _, _ => False
theorem op2_addI {K : PySem.W.Frag} : Op2 K (rI0 fun i j => .int (i + j)) fAddI := by
  intro wd F B ω H x y d e Qa Q hs rx ry hf k
  cases d <;> cases e <;> try exact hf.elim
  case int.int i j =>
    cases rx; cases ry
    exact ⟨i, j, rfl, rfl, ro_same hs (.int _) hf k⟩
theorem fund_same {K : PySem.W.Frag} {x q x' q' : Str} {pa pa' : Arguments} {b b' : List Stmt} {sc sc' : Scope} {dv dv' : List V} {kw kw' : List (Str × V)} {f : Addr} {fd fd' : FuncData} (F : FunD K x q pa b sc dv kw f fd) (G : FunD K x' q' pa' b' sc' dv' kw' f fd') : fd = fd' := by
  obtain ⟨_, _, _, _, _, _, _, _, _, _, _, l1, _⟩ := F.ex
  obtain ⟨_, _, _, _, _, _, _, _, _, _, _, l2, _⟩ := G.ex
  rw [l1] at l2
  simp only [Option.some.injEq, Obj.mk.injEq, Data.func.injEq] at l2
  exact l2.2.2.1
/-! sizes -/
theorem log_lt {i : Int} {n : Nat} (h0 : 0 ≤ i) (h : i < 2 ^ n) (hn : 0 < n) : i.natAbs.log2 < n := by
  by_cases z : i.natAbs = 0
  · rw [z]
    exact hn
  · rw [Nat.log2_lt z]
    have e : (i.natAbs : Int) = i := Int.natAbs_of_nonneg h0
    have : ((i.natAbs : Nat) : Int) < ((2 ^ n : Nat) : Int) := by
      rw [e]
      exact_mod_cast h
    exact_mod_cast this
theorem mulw {i j : Int} (a b : Nat) (h1 : 0 ≤ i) (h2 : i < 2 ^ a) (h3 : 0 ≤ j) (h4 : j < 2 ^ b) (ha : 0 < a) (hb : 0 < b) (h : a + b ≤ 1000000) : CMulW i j := by
  have x := log_lt h1 h2 ha
  have y := log_lt h3 h4 hb
  show i.natAbs.log2 + j.natAbs.log2 < 1000000
  omega
theorem divw {i j : Int} (h : 0 < j) (h2 : j < 2 ^ 8999) : CDivW i j := ⟨h, Nat.lt_trans (log_lt (Int.le_of_lt h) h2 (by decide)) (by decide)⟩

/-! ### the end -/
section
theorem walk_toE {l : PySem.W.OpenLaw} {n k : Nat} {q : Program} {loose : List Str} {XP : (Str → Option Value) → Heap → Prop} {YP : World → Heap → Prop} {d : DefRec} {x : Str}
    (hn : l.most = some n) (hn2 : n ≤ sizeLine) (hdf : d.params.defaults = []) (hr : Room k callerA)
    (F : ∀ (w : World) (mg : Str → Option Value) (fa : Addr) (h : Heap), YP w h → h.Ns mainGlobals mg → mg d.name = some (.ref fa) →
      ∃ (K : PySem.W.Frag) (fd : FuncData) (sp : Sp), K.In h ∧ (∀ (s : Shared) (u : Value), BindsTo s fd ⟨[u], []⟩ [(x, u)]) ∧
        (∀ (H : Hp) (a : Addr) (ns : List Int), ns.length ≤ n → SqL K H a (ns.map V.int) → sp [.ref a] H (fun v _ => v = .bl true) E0) ∧
        ∀ base : Heap, K.In base → base.Ns mainGlobals mg → FnG l.prog w K mg base CX0 k fa fd [x] sp) :
    PySem.W.WalkO q loose XP YP l.row.toRowW d [] (fun f vs => PySem.call f vs) :=
  Att.attach_call hn hdf fun w s₀ s₁ mg mb fa o pm cd doc a vs ns G Y ho hd hcd hmg hobj hints hlen hg =>
    let ⟨_, fd, sp, KX, hb, hsp, hF⟩ := F w mg fa _ Y G.T.g hmg
    called KX G.T.g G.T.b G.T.builtins G.T.nolimit hg hobj hints (Nat.le_trans hlen hn2) hr hF hb fun H hS => hsp H a ns hlen hS
/-- the law: asked with any script it answers True -/
def aLaw : ASp DWd := fun ds ω Q _ => ∃ a ns, ds = [.adr a] ∧ ω.scr = some (a, ns) ∧ ns.length ≤ 63 ∧ ω.dk = none ∧ ∀ ω', Q (.bl true) ω'
theorem law_sp {K : PySem.W.Frag} {H : Hp} {a : Addr} {ns : List Int} (hl : ns.length ≤ 63) (hS : SqL K H a (ns.map V.int)) : toSp DWd K 1 aLaw [.ref a] H (fun v _ => v = .bl true) E0 := by
  refine ⟨rfl, fun _ => none, H, { scr := some (a, ns), dk := none }, [.adr a], fun d _ => d = .bl true, fun _ _ => False, ⟨Same.refl _, (fun _ _ e => nomatch e), (fun _ _ e => nomatch e), fun _ _ => rfl, ⟨fun a' ns' e => ?_, fun _ _ _ _ _ e => nomatch e⟩⟩, .cons (.adr a) .nil, ⟨a, ns, rfl, rfl, hl, rfl, fun _ => rfl⟩, fun B' ω' H' v d _ _ r e => ?_, fun _ _ _ _ _ _ _ _ _ z => z.elim⟩
  · cases e
    exact hS
  · subst e
    cases r
    rfl
end
/-- what a deck promises -/
def aDeck : ASp DWd := fun ds ω Q _ => ∃ a ns, ds = [.adr a] ∧ ω.scr = some (a, ns) ∧ ns.length ≤ 63 ∧ ω.dk = none ∧ ∀ p ω', Dk ω' p 0 → Q (.adr p) ω'
def bigM : Int := 2 ^ 8999
/-- what a draw promises -/
def aDraw : ASp DWd := fun ds ω Q _ => ∃ p m T, ds = [.adr p, .int m] ∧ Dk ω p T ∧ 0 < m ∧ m < bigM ∧ T < 2 ^ 60 ∧ ∀ r ω', 0 ≤ r → r < m → Dk ω' p (T + 1) → Q (.int r) ω'
end MR
/-! the plain side: what the readings of the laws ask again and again -/
namespace MR
open PySem PySem.Spec L2
theorem line1000 {n : Nat} (h : n ≤ 100000) : n ≤ sizeLine := Nat.le_trans h (by decide)
theorem line1000l {n : Nat} (h : n ≤ 100000) : n < sizeLine := Nat.lt_of_le_of_lt h (by decide)
theorem cut_hi {α : Type} {xs : List α} {k : Int} (h : 0 ≤ k) : cutD xs none (some k) = xs.take k.toNat := by
  have e : HT.sIx xs.length xs.length (some k) = min k.toNat xs.length := if_neg (by omega)
  unfold cutD
  rw [e]
  show ((xs.drop 0).take (min k.toNat xs.length - 0)) = _
  · rw [Nat.sub_zero, List.drop_zero]
    by_cases q : k.toNat ≤ xs.length
    · rw [Nat.min_eq_left q]
    · rw [Nat.min_eq_right (by omega), List.take_of_length_le (by omega), List.take_of_length_le (by omega)]
theorem cut_lo {α : Type} {xs : List α} {k : Int} (h : 0 ≤ k) : cutD xs (some k) none = xs.drop k.toNat := by
  have e : HT.sIx xs.length 0 (some k) = min k.toNat xs.length := if_neg (by omega)
  unfold cutD
  rw [e]
  show ((xs.drop (min k.toNat xs.length)).take (xs.length - min k.toNat xs.length)) = _
  · by_cases q : k.toNat ≤ xs.length
    · rw [Nat.min_eq_left q, List.take_of_length_le (by rw [List.length_drop]; omega)]
    · rw [Nat.min_eq_right (by omega), List.drop_of_length_le (by omega), List.drop_of_length_le (by omega)]
      simp
/-- a comprehension that leaves the world as it is -/
theorem comp_by {wd : Wd} {ds : List D} {t : AG} {tt : AT wd} {te : AE wd} {vs : List Nat} {ρ : AEnv} {ω : wd.W} {Q : List D → wd.W → Prop} {E : AX wd} (f : D → List D) (hf : ∀ d, (f d).length ≤ 1) (hl : ds.length ≤ 100000) (h0 : Q (ds.flatMap f) ω)
    (step : ∀ (i : Nat) (d : D) (acc : List D) (P : List D → Prop), ds[i]? = some d → acc.length < sizeLine → P (acc ++ f d) → t d (wipeA ρ vs) (fun ρ' => tt ρ' ω (fun b ω1 => if b = true then te ρ' ω1 (fun y ω2 => acc.length < sizeLine ∧ ω2 = ω ∧ P (acc ++ [y])) (fun _ _ => False) else ω1 = ω ∧ P acc) (fun _ _ => False))) : aComp ds t tt te vs ρ ω Q E := by
  have ln : ∀ l : List D, (l.flatMap f).length ≤ l.length := fun l => by
    induction l with
    | nil => exact Nat.le_refl _
    | cons a l ih =>
      have := hf a
      rw [List.flatMap_cons, List.length_append, List.length_cons]
      omega
  refine ⟨fun i acc ω' => ω' = ω ∧ acc = (ds.take i).flatMap f, ⟨rfl, by rw [List.take_zero]; rfl⟩, fun i d acc ω' hd ⟨e1, e2⟩ => ?_, fun acc ω' ⟨e1, e2⟩ => ?_⟩
  · subst e1
    refine step i d acc (fun z => z = (ds.take (i + 1)).flatMap f) hd ?_ ?_
    · have h1 := ln (ds.take i)
      have h2 := List.length_take_le i ds
      rw [e2]
      exact line1000l (by rw [List.length_take] at h1; omega)
    · show acc ++ f d = _
      rw [e2, List.take_add_one, hd, List.flatMap_append]
      simp
  · subst e1 e2
    rw [List.take_length]
    exact h0
theorem flat_ints (g : Int → Int) (ns : List Int) (f : D → List D) (h : ∀ n, f (.int n) = [.int (g n)]) : (ns.map D.int).flatMap f = (ns.map g).map D.int := by
  induction ns with
  | nil => rfl
  | cons n ns ih => rw [List.map_cons, List.flatMap_cons, h, ih]; rfl
theorem at_ints {ns : List Int} {i : Nat} {d : D} (h : (ns.map D.int)[i]? = some d) : ∃ n, ns[i]? = some n ∧ d = .int n := by
  rw [List.getElem?_map] at h
  cases e : ns[i]? with
  | none =>
    rw [e] at h
    cases h
  | some n =>
    rw [e] at h
    cases h
    exact ⟨n, rfl, rfl⟩
theorem deck_end {a : Addr} {ns : List Int} : True := trivial
end MR
/-! texts of data, equal data; rows and their worths -/
namespace MR
open PySem PySem.Spec L2
/-- data that repr may show: depth k, text of n signs at most -/
structure Sh (k n : Nat) (d : D) : Prop where
  pu : pureD d = true
  sh : (toP d).showable = true
  dp : (toP d).depth ≤ k
  ln : (shownD d).length ≤ n
structure Shs (k n : Nat) (ds : List D) : Prop where
  pu : pureDs ds = true
  sh : PyData.showableAll (toPs ds) = true
  dp : PyData.depthAll (toPs ds) ≤ k
  ln : piled (PyData.shownAll (toPs ds)) ≤ n
theorem Shs.nil {k : Nat} : Shs k 0 [] := ⟨by rw [pureDs], by rw [toPs, PyData.showableAll], by rw [toPs, PyData.depthAll]; omega, by rw [toPs, PyData.shownAll]; exact Nat.le_refl _⟩
theorem Shs.cons {k n m : Nat} {d : D} {ds : List D} (h : Sh k n d) (r : Shs k m ds) : Shs k (n + 2 + m) (d :: ds) :=
  ⟨by rw [pureDs, h.pu, r.pu]; rfl, by rw [toPs, PyData.showableAll, h.sh, r.sh]; rfl, by rw [toPs, PyData.depthAll]; exact Nat.max_le.mpr ⟨h.dp, r.dp⟩, by
    have h1 := h.ln
    have h2 := r.ln
    unfold shownD at h1
    rw [toPs, PyData.shownAll, piled_cons]
    omega⟩
theorem Sh.mono {k n k' n' : Nat} {d : D} (h : Sh k n d) (hk : k ≤ k') (hn : n ≤ n') : Sh k' n' d := ⟨h.pu, h.sh, Nat.le_trans h.dp hk, Nat.le_trans h.ln hn⟩
theorem Shs.mono {k n k' n' : Nat} {d : List D} (h : Shs k n d) (hk : k ≤ k') (hn : n ≤ n') : Shs k' n' d := ⟨h.pu, h.sh, Nat.le_trans h.dp hk, Nat.le_trans h.ln hn⟩
theorem Sh.int {i : Int} (h : i.natAbs.log2 < 1920) : Sh 1 1921 (.int i) := ⟨by rw [pureD], by rw [toP, PyData.showable]; exact decide_eq_true h, by rw [toP, PyData.depth]; omega, by
  have := int_text_length_le (k := 1920) (by decide) h
  unfold shownD
  rw [toP, PyData.shown]
  show (Str.ofString (toString i)).length ≤ 1921
  rw [ofString_length]
  exact this⟩
theorem Sh.bl {b : Bool} : Sh 1 5 (.bl b) := ⟨by rw [pureD], by rw [toP, PyData.showable], by rw [toP, PyData.depth]; omega, by
  unfold shownD
  rw [toP, PyData.shown]
  cases b <;> decide⟩
theorem Sh.non : Sh 1 5 .non := ⟨by rw [pureD], by rw [toP, PyData.showable], by rw [toP, PyData.depth]; omega, by
  unfold shownD
  rw [toP, PyData.shown]
  decide⟩
theorem tup_len (ts : List Str) : (tupleText ts).length ≤ piled ts + 3 := by
  unfold tupleText
  rw [strLen_append, strLen_append]
  have e1 : ((("(" : String) : Str)).length = 1 := rfl
  have e3 : (((if ts.length == 1 then ",)" else ")" : String) : Str)).length ≤ 2 := by split <;> decide
  by_cases h : ts = []
  · subst h
    decide
  · have := join_length_add ts h
    omega
theorem from_len : ∀ (ts : List Str) (k : Nat) (acc : Str), (textFrom k acc ts).length ≤ acc.length + piled ts
  | [], k, acc => by show acc.length ≤ acc.length + 0; omega
  | t :: r, k, acc => by
    have h1 := from_len r (k + 1) (acc ++ (if k > 0 then ", " else "" : String) ++ t)
    have e : (acc ++ (if k > 0 then ", " else "" : String) ++ t).length = acc.length + (if k > 0 then 2 else 0) + t.length := by
      rw [strLen_append, strLen_append]
      split <;> rfl
    show (textFrom (k + 1) (acc ++ (if k > 0 then ", " else "" : String) ++ t) r).length ≤ _
    rw [piled_cons]
    have : (if k > 0 then 2 else 0) ≤ 2 := by split <;> omega
    omega
theorem Sh.tup {k n : Nat} {ds : List D} (h : Shs k n ds) : Sh (k + 1) (n + 3) (.tup ds) := ⟨by rw [pureD]; exact h.pu, by rw [toP, PyData.showable]; exact h.sh, by rw [toP, PyData.depth]; have := h.dp; omega, by
  have h1 := h.ln
  have h2 := tup_len (PyData.shownAll (toPs ds))
  unfold shownD
  rw [toP, PyData.shown]
  omega⟩
theorem Sh.lst {k n : Nat} {ds : List D} (h : Shs k n ds) : Sh (k + 1) (n + 3) (.lst ds) := ⟨by rw [pureD]; exact h.pu, by rw [toP, PyData.showable]; exact h.sh, by rw [toP, PyData.depth]; have := h.dp; omega, by
  have h1 := h.ln
  have h2 := from_len (PyData.shownAll (toPs ds)) 0 "["
  unfold shownD
  rw [toP, PyData.shown]
  show (textFrom 0 "[" (PyData.shownAll (toPs ds)) ++ ("]" : String)).length ≤ _
  rw [strLen_append]
  have e1 : ((("[" : String) : Str)).length = 1 := rfl
  have e2 : ((("]" : String) : Str)).length = 1 := rfl
  omega⟩
theorem Shs.ints : ∀ ns : List Int, (∀ n ∈ ns, n.natAbs.log2 < 1920) → Shs 1 (1923 * ns.length) (ns.map D.int)
  | [], _ => .nil
  | n :: ns, h => (Shs.cons (Sh.int (h n (by simp))) (Shs.ints ns fun m hm => h m (by simp [hm]))).mono (Nat.le_refl _) (by rw [List.length_cons]; omega)
theorem Sh.ok {k n : Nat} {d : D} (h : Sh k n d) (hk : k ≤ 64) (hn : n ≤ 16000000) : rOk d = true := by
  unfold rOk
  rw [h.pu, h.sh, Bool.true_and, Bool.true_and, Bool.and_eq_true, decide_eq_true_eq, decide_eq_true_eq]
  have h1 := h.dp
  have h2 := h.ln
  have h3 : sizeLine = 16777216 := by decide
  omega
/-- a row of limbs: shown -/
theorem sh_row {ns : List Int} {b : Int} (h : ∀ n ∈ ns, 0 ≤ n ∧ n < b) (hb : b ≤ 10000) (hl : ns.length ≤ 500) : Sh 2 962000 (.tup (ns.map D.int)) :=
  (Sh.tup (Shs.ints ns fun n hn => log_lt (h n hn).1 (by have := (h n hn).2; omega) (by decide))).mono (Nat.le_refl _) (by omega)
/-! equal -/
theorem toPs_ints : ∀ ns : List Int, toPs (ns.map D.int) = ns.map PyData.int
  | [] => by rw [List.map_nil, toPs]; rfl
  | n :: ns => by rw [List.map_cons, toPs, toPs_ints ns, toP]; rfl
theorem pure_ints : ∀ ns : List Int, pureDs (ns.map D.int) = true
  | [] => by rw [List.map_nil, pureDs]
  | n :: ns => by rw [List.map_cons, pureDs, pure_ints ns, pureD]; rfl
theorem eqOk_row (ns : List Int) : eqOk (.tup (ns.map D.int)) = true := by
  have h := depth_ints ns
  unfold eqOk SeqAt.shaped
  rw [pureD, pure_ints, toP, PyData.canLay0, toPs_ints, lay_ints, PyData.depth, Bool.true_and, Bool.true_and, decide_eq_true_eq]
  omega
theorem eqOk_rowL (ns : List Int) : eqOk (.lst (ns.map D.int)) = true := by
  have h := depth_ints ns
  unfold eqOk SeqAt.shaped
  rw [pureD, pure_ints, toP, PyData.canLay0, toPs_ints, lay_ints, PyData.depth, Bool.true_and, Bool.true_and, decide_eq_true_eq]
  omega
theorem eqv_ints : ∀ ns ms : List Int, PyData.eqvAll (ns.map PyData.int) (ms.map PyData.int) = decide (ns = ms)
  | [], [] => by simp [PyData.eqvAll]
  | [], m :: ms => by simp [PyData.eqvAll]
  | n :: ns, [] => by simp [PyData.eqvAll]
  | n :: ns, m :: ms => by
    rw [List.map_cons, List.map_cons, PyData.eqvAll, eqv_ints ns ms, PyData.eqv]
    by_cases a : n = m <;> by_cases c : ns = ms <;> simp [a, c]
theorem deq_row (ns ms : List Int) : deq (.tup (ns.map D.int)) (.tup (ms.map D.int)) = decide (ns = ms) := by
  unfold deq
  rw [toP, toP, toPs_ints, toPs_ints, PyData.eqv, eqv_ints]
theorem deq_rowL (ns ms : List Int) : deq (.lst (ns.map D.int)) (.lst (ms.map D.int)) = decide (ns = ms) := by
  unfold deq
  rw [toP, toP, toPs_ints, toPs_ints, PyData.eqv, eqv_ints]
theorem deq_refl {d : D} (h : eqOk d = true) : deq d d = true := by
  unfold eqOk at h
  rw [Bool.and_eq_true] at h
  exact SeqAt.eqv_refl _ (SeqAt.canLay_of_shaped h.2)
abbrev row (ns : List Int) : D := .tup (ns.map D.int)
theorem row_nil : row [] = .tup [] := rfl

theorem ipow_le {b : Int} (hb : 1 ≤ b) {m n : Nat} (h : m ≤ n) : b ^ m ≤ b ^ n := by
  obtain ⟨k, rfl⟩ := Nat.exists_eq_add_of_le h
  induction k with
  | zero => exact Int.le_refl _
  | succ k ih =>
    have p : (0:Int) < b ^ (m + k) := Int.pow_pos (by omega)
    have e : b ^ (m + (k + 1)) = b ^ (m + k) * b := Int.pow_succ _ _
    have q : b ^ (m + k) * 1 ≤ b ^ (m + k) * b := Int.mul_le_mul_of_nonneg_left hb (by omega)
    have := ih (by omega)
    omega
/-! ### rows -/
def limbs (b : Int) (ns : List Int) : Prop := ∀ n ∈ ns, 0 ≤ n ∧ n < b
structure isRow (b : Int) (ns : List Int) : Prop where
  lim : limbs b ns
  top : ns.getLast? ≠ some 0
def wor (b : Int) : List Int → Int
  | [] => 0
  | x :: r => x + b * wor b r
/-- without noughts at the end -/
def strip : List Int → List Int
  | [] => []
  | x :: r => if strip r = [] ∧ x = 0 then [] else x :: strip r
def digs (b n : Int) : List Int := if h : 2 ≤ b ∧ 0 < n then n % b :: digs b (n / b) else []
termination_by n.toNat
decreasing_by
  have h1 := Int.ediv_lt_self_of_pos_of_ne_one h.2 (by omega : b ≠ 1) |> fun z => z
  have h2 := Int.ediv_nonneg (Int.le_of_lt h.2) (by omega : (0:Int) ≤ b)
  omega
theorem limbs.tail {b x : Int} {r : List Int} (h : limbs b (x :: r)) : limbs b r := fun n hn => h n (by simp [hn])
theorem wor_nn {b : Int} (hb : 0 ≤ b) : ∀ {ns : List Int}, limbs b ns → 0 ≤ wor b ns
  | [], _ => Int.le_refl 0
  | x :: r, h => by
    have h1 := wor_nn hb h.tail
    have h2 := (h x (by simp)).1
    have h3 := Int.mul_nonneg hb h1
    show 0 ≤ x + b * wor b r
    omega
theorem wor_lt {b : Int} (hb : 1 ≤ b) : ∀ {ns : List Int}, limbs b ns → wor b ns < b ^ ns.length
  | [], _ => by show (0 : Int) < b ^ 0; rw [Int.pow_zero]; decide
  | x :: r, h => by
    have h1 := wor_lt hb h.tail
    have h2 := (h x (by simp)).2
    have h3 : b * (wor b r + 1) ≤ b * b ^ r.length := Int.mul_le_mul_of_nonneg_left (by omega) (by omega)
    show x + b * wor b r < b ^ (r.length + 1)
    rw [Int.pow_succ, Int.mul_comm (b ^ r.length) b]
    rw [Int.mul_add] at h3
    omega
theorem wor_append (b : Int) : ∀ (xs ys : List Int), wor b (xs ++ ys) = wor b xs + b ^ xs.length * wor b ys
  | [], ys => by show wor b ys = 0 + b ^ 0 * wor b ys; rw [Int.pow_zero]; omega
  | x :: xs, ys => by
    show x + b * wor b (xs ++ ys) = x + b * wor b xs + b ^ (xs.length + 1) * wor b ys
    rw [wor_append b xs ys, Int.pow_succ, Int.mul_add, ← Int.mul_assoc, Int.mul_comm b (b ^ xs.length)]
    omega
theorem wor_nought (b : Int) : ∀ k : Nat, wor b (List.replicate k 0) = 0
  | 0 => rfl
  | k + 1 => by
    show 0 + b * wor b (List.replicate k 0) = 0
    rw [wor_nought b k]
    omega
theorem digs_nil {b n : Int} (h : n ≤ 0) : digs b n = [] := by
  rw [digs, dif_neg (by omega)]
theorem digs_cons {b n : Int} (hb : 2 ≤ b) (h : 0 < n) : digs b n = n % b :: digs b (n / b) := by
  rw [digs, dif_pos ⟨hb, h⟩]
theorem div_less {b n : Int} (hb : 2 ≤ b) (h : 0 < n) : 0 ≤ n / b ∧ n / b < n := ⟨Int.ediv_nonneg (by omega) (by omega), Int.ediv_lt_self_of_pos_of_ne_one h (by omega)⟩
theorem digs_row {b : Int} (hb : 2 ≤ b) : ∀ (k : Nat) (n : Int), n < k → 0 ≤ n → isRow b (digs b n) ∧ wor b (digs b n) = n
  | 0, n, h, h0 => by omega
  | k + 1, n, h, h0 => by
    by_cases c : n = 0
    · subst c
      rw [digs_nil (Int.le_refl 0)]
      exact ⟨⟨(fun _ h => nomatch h), by simp⟩, rfl⟩
    · have hp : 0 < n := by omega
      obtain ⟨d0, d1⟩ := div_less hb hp
      obtain ⟨⟨r1, r2⟩, r3⟩ := digs_row hb k (n / b) (by omega) d0
      have e := Int.emod_add_mul_ediv n b
      rw [digs_cons hb hp]
      refine ⟨⟨fun x hx => ?_, ?_⟩, ?_⟩
      · rcases List.mem_cons.mp hx with rfl | hx
        · exact ⟨Int.emod_nonneg _ (by omega), Int.emod_lt_of_pos _ (by omega)⟩
        · exact r1 x hx
      · rw [List.getLast?_cons]
        cases q : (digs b (n / b)).getLast? with
        | none =>
          have qe : digs b (n / b) = [] := by simpa using q
          rw [qe] at r3
          have r3' : n / b = 0 := r3.symm
          rw [r3'] at e
          intro z
          simp only [Option.getD_none, Option.some.injEq] at z
          omega
        | some y =>
          rw [q] at r2
          intro z
          simp only [Option.getD_some, Option.some.injEq] at z
          exact r2 (by rw [z])
      · show n % b + b * wor b (digs b (n / b)) = n
        rw [r3]
        exact e
theorem isRow.tail {b x : Int} {r : List Int} (h : isRow b (x :: r)) : isRow b r := ⟨h.lim.tail, fun z => by
  have := h.top
  rw [List.getLast?_cons, z] at this
  exact this rfl⟩
theorem isRow.pos {b : Int} (hb : 2 ≤ b) : ∀ {ns : List Int}, isRow b ns → ns ≠ [] → 0 < wor b ns
  | [], _, h => absurd rfl h
  | x :: r, h, _ => by
    have hx := h.lim x (by simp)
    show 0 < x + b * wor b r
    by_cases c : r = []
    · subst c
      have := h.top
      have e : wor b [] = 0 := rfl
      rw [e]
      simp at this
      omega
    · have h1 := isRow.pos hb h.tail c
      have h2 := Int.mul_pos (by omega : (0:Int) < b) h1
      omega
theorem digs_wor {b : Int} (hb : 2 ≤ b) : ∀ {ns : List Int}, isRow b ns → digs b (wor b ns) = ns
  | [], _ => digs_nil (Int.le_refl 0)
  | x :: r, h => by
    have hx := h.lim x (by simp)
    have hp := isRow.pos hb h (by simp)
    have e1 : (x + b * wor b r) % b = x := by
      rw [Int.add_mul_emod_self_left]
      exact Int.emod_eq_of_lt hx.1 hx.2
    have e2 : (x + b * wor b r) / b = wor b r := by
      rw [Int.add_mul_ediv_left _ _ (by omega), Int.ediv_eq_zero_of_lt hx.1 hx.2]
      omega
    rw [digs_cons hb hp]
    show (x + b * wor b r) % b :: digs b ((x + b * wor b r) / b) = x :: r
    rw [e1, e2, digs_wor hb h.tail]
theorem row_len {b : Int} (hb : 2 ≤ b) : ∀ {ns : List Int}, isRow b ns → ns ≠ [] → b ^ (ns.length - 1) ≤ wor b ns
  | [], _, h => absurd rfl h
  | x :: r, h, _ => by
    have hx := h.lim x (by simp)
    by_cases c : r = []
    · subst c
      have := isRow.pos hb h (by simp)
      show b ^ 0 ≤ _
      rw [Int.pow_zero]
      omega
    · have h1 := row_len hb h.tail c
      have h2 : b * b ^ (r.length - 1) ≤ b * wor b r := Int.mul_le_mul_of_nonneg_left h1 (by omega)
      have h3 : b * b ^ (r.length - 1) = b ^ ((x :: r).length - 1) := by
        have hl : 0 < r.length := List.length_pos_iff.mpr c
        rw [Int.mul_comm, ← Int.pow_succ]
        congr 1
        rw [List.length_cons]
        omega
      rw [← h3]
      show _ ≤ x + b * wor b r
      omega
theorem digs_len {b n : Int} (hb : 2 ≤ b) {k : Nat} (h : n < b ^ k) : (digs b n).length ≤ k := by
  by_cases c : n ≤ 0
  · rw [digs_nil c]
    exact Nat.zero_le _
  · obtain ⟨r, e⟩ := digs_row hb (n.toNat + 1) n (by omega) (by omega)
    by_cases z : digs b n = []
    · rw [z]
      exact Nat.zero_le _
    · have h1 := row_len hb r z
      rw [e] at h1
      refine Nat.le_of_not_lt fun q => ?_
      have h2 : b ^ k ≤ b ^ ((digs b n).length - 1) := ipow_le (by omega) (by omega)
      omega
/-- the row of a worth -/
theorem row_eq {b : Int} (hb : 2 ≤ b) {ns ms : List Int} (h1 : isRow b ns) (h2 : isRow b ms) (h : wor b ns = wor b ms) : ns = ms := by
  rw [← digs_wor hb h1, ← digs_wor hb h2, h]
theorem strip_nil {ns : List Int} (h : strip ns = []) : ∀ n ∈ ns, n = 0 := by
  induction ns with
  | nil => exact fun _ h => nomatch h
  | cons x r ih =>
    rw [strip] at h
    split at h
    · rename_i c
      intro n hn
      rcases List.mem_cons.mp hn with rfl | hn
      · exact c.2
      · exact ih c.1 n hn
    · cases h
theorem wor_strip (b : Int) : ∀ ns : List Int, wor b (strip ns) = wor b ns
  | [] => rfl
  | x :: r => by
    rw [strip]
    have ih := wor_strip b r
    split
    · rename_i c
      rw [c.1] at ih
      show 0 = x + b * wor b r
      rw [← ih, c.2]
      show (0:Int) = 0 + b * 0
      omega
    · show x + b * wor b (strip r) = x + b * wor b r
      rw [ih]
theorem strip_sub : ∀ {ns : List Int} {n : Int}, n ∈ strip ns → n ∈ ns
  | x :: r, n, h => by
    rw [strip] at h
    split at h
    · cases h
    · rcases List.mem_cons.mp h with rfl | h
      · simp
      · exact List.mem_cons_of_mem _ (strip_sub h)
theorem strip_top : ∀ ns : List Int, (strip ns).getLast? ≠ some 0
  | [] => by simp [strip]
  | x :: r => by
    rw [strip]
    have ih := strip_top r
    split
    · simp
    · rename_i c
      rw [List.getLast?_cons]
      cases q : (strip r).getLast? with
      | none =>
        have qe : strip r = [] := by simpa using q
        intro z
        simp only [Option.getD_none, Option.some.injEq] at z
        exact c ⟨qe, z⟩
      | some y =>
        rw [q] at ih
        intro z
        simp only [Option.getD_some, Option.some.injEq] at z
        exact ih (by rw [z])
theorem strip_row {b : Int} {ns : List Int} (h : limbs b ns) : isRow b (strip ns) := ⟨fun n hn => h n (strip_sub hn), strip_top ns⟩
theorem strip_len : ∀ ns : List Int, (strip ns).length ≤ ns.length
  | [] => Nat.le_refl _
  | x :: r => by
    have := strip_len r
    rw [strip]
    split
    · exact Nat.zero_le _
    · rw [List.length_cons, List.length_cons]
      omega
theorem strip_id {b : Int} : ∀ {ns : List Int}, isRow b ns → strip ns = ns
  | [], _ => rfl
  | x :: r, h => by
    rw [strip, strip_id h.tail, if_neg]
    rintro ⟨rfl, rfl⟩
    exact h.top (by simp)
theorem strip_snoc (ns : List Int) : strip (ns ++ [0]) = strip ns := by
  induction ns with
  | nil => simp [strip]
  | cons x r ih => rw [List.cons_append, strip, strip, ih]
theorem strip_keep (ns : List Int) {x : Int} (h : x ≠ 0) : strip (ns ++ [x]) = ns ++ [x] := by
  induction ns with
  | nil => simp [strip, h]
  | cons y r ih =>
    rw [List.cons_append, strip, ih, if_neg]
    simp
theorem digs_strip {b : Int} (hb : 2 ≤ b) {ns : List Int} (h : limbs b ns) : digs b (wor b ns) = strip ns := by
  rw [← wor_strip]
  exact digs_wor hb (strip_row h)
theorem limbs.take {b : Int} {ns : List Int} (h : limbs b ns) (k : Nat) : limbs b (ns.take k) := fun n hn => h n (List.mem_of_mem_take hn)
theorem limbs.drop {b : Int} {ns : List Int} (h : limbs b ns) (k : Nat) : limbs b (ns.drop k) := fun n hn => h n (List.mem_of_mem_drop hn)
theorem isRow.drop {b : Int} : ∀ {ns : List Int} (k : Nat), isRow b ns → isRow b (ns.drop k)
  | _, 0, h => h
  | [], k + 1, h => h
  | x :: r, k + 1, h => isRow.drop k h.tail
/-- cut there: low and high -/
theorem wor_cut {b : Int} (hb : 2 ≤ b) {ns : List Int} (h : limbs b ns) (k : Nat) : wor b (ns.take k) = wor b ns % b ^ k ∧ wor b (ns.drop k) = wor b ns / b ^ k := by
  have hp : (0:Int) < b ^ k := Int.pow_pos (by omega)
  by_cases c : k ≤ ns.length
  · have e : wor b ns = wor b (ns.take k) + b ^ k * wor b (ns.drop k) := by
      have := wor_append b (ns.take k) (ns.drop k)
      rw [List.take_append_drop, List.length_take, Nat.min_eq_left c] at this
      exact this
    have l1 := wor_nn (by omega : (0:Int) ≤ b) (h.take k)
    have l2 := wor_lt (by omega : (1:Int) ≤ b) (h.take k)
    rw [List.length_take, Nat.min_eq_left c] at l2
    rw [e, Int.add_mul_emod_self_left, Int.emod_eq_of_lt l1 l2, Int.add_mul_ediv_left _ _ (by omega), Int.ediv_eq_zero_of_lt l1 l2]
    exact ⟨rfl, by omega⟩
  · have l1 := wor_nn (by omega : (0:Int) ≤ b) h
    have l2 := wor_lt (by omega : (1:Int) ≤ b) h
    have l3 : b ^ ns.length ≤ b ^ k := ipow_le (by omega) (by omega)
    rw [List.take_of_length_le (by omega), List.drop_of_length_le (by omega), Int.emod_eq_of_lt l1 (by omega), Int.ediv_eq_zero_of_lt l1 (by omega)]
    exact ⟨rfl, rfl⟩
end MR
/-! what the laws' own defs promise; sizes of rows' numbers -/
namespace MR
open PySem PySem.Spec L2
theorem pow14 {b : Int} (h0 : 0 ≤ b) (h : b ≤ 10000) : ∀ k : Nat, b ^ k ≤ 2 ^ (14 * k)
  | 0 => by rw [Int.pow_zero]; decide
  | k + 1 => by
    have ih := pow14 h0 h k
    have p : (0:Int) ≤ b ^ k := Int.pow_nonneg h0
    have q : (0:Int) < 2 ^ (14 * k) := Int.pow_pos (by decide)
    have e1 : b ^ (k + 1) = b ^ k * b := Int.pow_succ _ _
    have e2 : (2:Int) ^ (14 * (k + 1)) = 2 ^ (14 * k) * 16384 := by rw [Nat.mul_add, Int.pow_add]; rfl
    have m1 : b ^ k * b ≤ b ^ k * 10000 := Int.mul_le_mul_of_nonneg_left h p
    omega
theorem mulw_row {b i j : Int} {k : Nat} (h0 : 0 ≤ i) (h : i ≤ b ^ k) (b0 : 0 ≤ b) (hb : b ≤ 10000) (hk : k ≤ 60000) (j0 : 0 ≤ j) (hj : j ≤ 10000) : CMulW i j := by
  have h1 := pow14 b0 hb k
  have h2 : (2:Int) ^ (14 * k) < 2 ^ (14 * k + 1) := by
    have q : (0:Int) < 2 ^ (14 * k) := Int.pow_pos (by decide)
    rw [Int.pow_succ]
    omega
  exact mulw (14 * k + 1) 14 h0 (by omega) j0 (by omega) (by omega) (by decide) (by omega)
theorem divw10 {j : Int} (h : 0 < j) (h2 : j ≤ 10000) : CDivW i j := divw h (by
  have : (2:Int) ^ 14 ≤ 2 ^ 8999 := ipow_le (by decide) (by decide)
  omega)
theorem divw_pow {b i : Int} {k : Nat} (h : 2 ≤ b) (h2 : b ≤ 10000) (hk : k ≤ 600) : CDivW i (b ^ k) := divw (Int.pow_pos (by omega)) (by
  have h1 := pow14 (by omega) h2 k
  have h3 : (2:Int) ^ (14 * k) < 2 ^ (14 * k + 1) := by
    have q : (0:Int) < 2 ^ (14 * k) := Int.pow_pos (by decide)
    rw [Int.pow_succ]
    omega
  have : (2:Int) ^ (14 * k + 1) ≤ 2 ^ 8999 := ipow_le (by decide) (by omega)
  omega)
theorem small_m {m : Int} (h : m ≤ 1000000) : m < bigM := by
  show m < 2 ^ 8999
  have : (2:Int) ^ 20 ≤ 2 ^ 8999 := ipow_le (by decide) (by decide)
  omega
/-- bases -/
def base_ (b : Int) : Prop := 2 ≤ b ∧ b ≤ 10000
def aAnyBase : ASp DWd := fun ds ω Q _ => ∃ p T, ds = [.adr p] ∧ Dk ω p T ∧ T < 2 ^ 59 ∧ ∀ b ω', base_ b → Dk ω' p (T + 3) → Q (.int b) ω'
def aRow : ASp DWd := fun ds ω Q _ => ∃ p b m T, ds = [.adr p, .int b, .int m] ∧ Dk ω p T ∧ T < 2 ^ 59 ∧ base_ b ∧ 0 ≤ m ∧ m ≤ 200 ∧ ∀ ns ω', isRow b ns → (ns.length : Int) ≤ m → Dk ω' p (T + m + 4) → Q (row ns) ω'
def aLongRow : ASp DWd := fun ds ω Q _ => ∃ p b m T, ds = [.adr p, .int b, .int m] ∧ Dk ω p T ∧ T < 2 ^ 58 ∧ base_ b ∧ 0 ≤ m ∧ m ≤ 200 ∧ ∀ ns ω', isRow b ns → (ns.length : Int) ≤ m → Dk ω' p (T + m + 5) → Q (row ns) ω'
def aWorth : ASp DWd := fun ds ω Q _ => ∃ ns b, ds = [row ns, .int b] ∧ base_ b ∧ limbs b ns ∧ ns.length ≤ 50000 ∧ Q (.int (wor b ns)) ω
def aRowOf : ASp DWd := fun ds ω Q _ => ∃ n b, ds = [.int n, .int b] ∧ base_ b ∧ (∃ k, n < b ^ k ∧ k ≤ 50000) ∧ Q (row (digs b n)) ω
def aPower : ASp DWd := fun ds ω Q _ => ∃ b k, ds = [.int b, .int k] ∧ base_ b ∧ 0 ≤ k ∧ k ≤ 50000 ∧ Q (.int (b ^ k.toNat)) ω
def aWithout : ASp DWd := fun ds ω Q _ => ∃ ns : List Int, (ds = [row ns] ∨ ds = [.lst (ns.map .int)]) ∧ Q (row (strip ns)) ω
def shift_ (ns : List Int) (k : Nat) : List Int := if ns = [] then [] else List.replicate k 0 ++ ns
def aShifted : ASp DWd := fun ds ω Q _ => ∃ ns k, ds = [row ns, .int k] ∧ 0 ≤ k ∧ k ≤ 1000 ∧ ns.length ≤ 50000 ∧ Q (row (shift_ ns k.toNat)) ω
def aCut : ASp DWd := fun ds ω Q _ => ∃ ns k, ds = [row ns, .int k] ∧ 0 ≤ k ∧ Q (.tup [row (strip (ns.take k.toNat)), row (ns.drop k.toNat)]) ω
theorem wor_shift (b : Int) (ns : List Int) (k : Nat) : wor b (shift_ ns k) = b ^ k * wor b ns := by
  unfold shift_
  split
  · rename_i c
    subst c
    show (0:Int) = b ^ k * 0
    omega
  · rw [wor_append, wor_nought, List.length_replicate]
    omega
theorem lim_nought {b : Int} (hb : 1 ≤ b) (k : Nat) : limbs b (List.replicate k 0) := fun n hn => by
  have := (List.mem_replicate.mp hn).2
  omega
theorem limbs.append {b : Int} {xs ys : List Int} (h1 : limbs b xs) (h2 : limbs b ys) : limbs b (xs ++ ys) := fun n hn => (List.mem_append.mp hn).elim (h1 n) (h2 n)
theorem lim_shift {b : Int} (hb : 1 ≤ b) {ns : List Int} (h : limbs b ns) (k : Nat) : limbs b (shift_ ns k) := by
  unfold shift_
  split
  · exact fun _ h => nomatch h
  · exact (lim_nought hb k).append h
theorem len_shift (ns : List Int) (k : Nat) : (shift_ ns k).length ≤ k + ns.length := by
  unfold shift_
  split
  · exact Nat.zero_le _
  · rw [List.length_append, List.length_replicate]
    exact Nat.le_refl _
theorem strip_nought : ∀ k : Nat, strip (List.replicate k 0) = []
  | 0 => rfl
  | k + 1 => by rw [List.replicate_succ, strip, strip_nought k]; simp
theorem nil_eq : eqOk (.lst []) = true := eqOk_rowL []
theorem nil_deq : deq (.lst []) (.lst []) = true := deq_refl nil_eq
theorem flat_none : ∀ ds : List D, ds.flatMap (fun _ => ([] : List D)) = []
  | [] => rfl
  | d :: ds => by rw [List.flatMap_cons, flat_none ds]; rfl
theorem all_cut {P : D → Prop} {ds : List D} (h : ∀ d ∈ ds, P d) {k : Int} (hk : 0 ≤ k) : ∀ d ∈ ds ++ cutD ds none (some k), P d := fun d hd => by
  rw [cut_hi hk] at hd
  rcases List.mem_append.mp hd with hd | hd
  · exact h d hd
  · exact h d (List.mem_of_mem_take hd)
theorem len_cut {ds : List D} {k : Int} (hk : 0 ≤ k) : (cutD ds none (some k)).length ≤ ds.length := by
  rw [cut_hi hk, List.length_take]
  omega
theorem Dk.now {ω : DW} {p : Addr} {T T' : Int} (h : Dk ω p T) (l : T ≤ T') : Dk ω p T' := h.le l
theorem atI_ints {ns : List Int} {i : Nat} {n : Int} (h : ns[i]? = some n) : L2.atI (ns.map D.int) (i : Int) = some (.int n) := by
  unfold L2.atI
  have hi := (List.getElem?_eq_some_iff.mp h).1
  have e : L2.ixN (ns.map D.int).length (i : Int) = some i := by
    unfold L2.ixN
    rw [List.length_map, if_pos (by omega), if_pos (by omega), Int.toNat_natCast]
  rw [e]
  show (ns.map D.int)[i]? = _
  rw [List.getElem?_map, h]
  rfl
theorem atI_at {ds : List D} {k : Int} (h0 : 0 ≤ k) (h : k < ds.length) : ∃ d, ds[k.toNat]? = some d ∧ L2.atI ds k = some d := by
  have hi : k.toNat < ds.length := by omega
  refine ⟨ds[k.toNat], List.getElem?_eq_getElem hi, ?_⟩
  unfold L2.atI L2.ixN
  rw [if_pos h0, if_pos h]
  exact List.getElem?_eq_getElem hi
theorem atI_all {ds : List D} {k : Int} {P : D → Prop} (h : ∀ d ∈ ds, P d) (h0 : 0 ≤ k) (hk : k < ds.length) : match L2.atI ds k with
    | some d => P d
    | none => False := by
  obtain ⟨d, e, a⟩ := atI_at h0 hk
  rw [a]
  exact h d (List.mem_of_getElem? e)
theorem atI_last {ns : List Int} {n : Int} (h : ns.getLast? = some n) : L2.atI (ns.map D.int) (-1) = some (.int n) := by
  have hn : ns ≠ [] := by intro z; rw [z] at h; cases h
  have hl : 0 < ns.length := List.length_pos_iff.mpr hn
  unfold L2.atI L2.ixN
  rw [List.length_map, if_neg (by decide), if_pos (by omega)]
  show (ns.map D.int)[(-1 + (ns.length : Int)).toNat]? = _
  have e : (-1 + (ns.length : Int)).toNat = ns.length - 1 := by omega
  rw [e, List.getElem?_map, ← List.getLast?_eq_getElem?, h]
  rfl
theorem ixN_last {n : Nat} (h : 0 < n) : L2.ixN n (-1) = some (n - 1) := by
  unfold L2.ixN
  rw [if_neg (by decide), if_pos (by omega)]
  congr 1
  omega
theorem set_last {ns : List Int} (x : Int) (h : ns ≠ []) : (ns.map D.int).set (ns.length - 1) (.int x) = (ns.dropLast ++ [x]).map D.int := by
  have e : ns = ns.dropLast ++ [ns.getLast h] := (List.dropLast_concat_getLast h).symm
  have el : ns.length - 1 = ns.dropLast.length := by rw [List.length_dropLast]
  rw [el]
  generalize ns.getLast h = y at e
  rw [e]
  simp
theorem fl_rep (k : Nat) : (List.replicate k [D.int 0]).flatten = (List.replicate k (0:Int)).map D.int := by
  induction k with
  | zero => rfl
  | succ k ih => rw [List.replicate_succ, List.flatten_cons, ih, List.replicate_succ]; rfl
end MR
/-! a row by a limb -/
namespace MR
open PySem PySem.Spec L2
def aScaled : ASp DWd := fun ds ω Q _ => ∃ ns l b, ds = [row ns, .int l, .int b] ∧ base_ b ∧ limbs b ns ∧ ns.length ≤ 50000 ∧ 0 ≤ l ∧ l < b ∧ Q (row (digs b (wor b ns * l))) ω
def aParted : ASp DWd := fun ds ω Q _ => ∃ ns l b, ds = [row ns, .int l, .int b] ∧ base_ b ∧ limbs b ns ∧ ns.length ≤ 50000 ∧ 0 < l ∧ l ≤ 10000 ∧ Q (.tup [row (digs b (wor b ns / l)), .int (wor b ns % l)]) ω
/-- one step of a product by a limb -/
theorem scale_step {b l x c : Int} (hb : 2 ≤ b) (hx : 0 ≤ x ∧ x < b) (hl : 0 ≤ l ∧ l < b) (hc : 0 ≤ c ∧ (c < l ∨ c = 0)) : 0 ≤ (x * l + c) / b ∧ ((x * l + c) / b < l ∨ (x * l + c) / b = 0) ∧ 0 ≤ (x * l + c) % b ∧ (x * l + c) % b < b ∧ (x * l + c) % b + b * ((x * l + c) / b) = x * l + c ∧ 0 ≤ x * l ∧ x * l ≤ b * b := by
  have p : 0 ≤ x * l := Int.mul_nonneg hx.1 hl.1
  have q : x * l ≤ (b - 1) * l := Int.mul_le_mul_of_nonneg_right (by omega) hl.1
  have q2 : (b - 1) * l = b * l - l := by rw [Int.sub_mul, Int.one_mul]
  have q3 : x * l ≤ x * b := Int.mul_le_mul_of_nonneg_left (by omega) hx.1
  have q4 : x * b ≤ b * b := Int.mul_le_mul_of_nonneg_right (by omega) (by omega)
  refine ⟨Int.ediv_nonneg (by omega) (by omega), ?_, Int.emod_nonneg _ (by omega), Int.emod_lt_of_pos _ (by omega), Int.emod_add_mul_ediv _ _, p, by omega⟩
  by_cases z : l = 0
  · subst z
    refine .inr ?_
    have c0 : c = 0 := by omega
    rw [c0, Int.mul_zero]
    exact Int.zero_ediv _
  · refine .inl (Int.ediv_lt_of_lt_mul (by omega) ?_)
    rw [Int.mul_comm l b]
    omega
/-- one step of a quotient by a limb -/
theorem part_step {b l x r : Int} (hb : 2 ≤ b) (hx : 0 ≤ x ∧ x < b) (hl : 0 < l) (hr : 0 ≤ r ∧ r < l) : 0 ≤ (r * b + x) / l ∧ (r * b + x) / l < b ∧ 0 ≤ (r * b + x) % l ∧ (r * b + x) % l < l ∧ (r * b + x) / l * l + (r * b + x) % l = r * b + x ∧ 0 ≤ r * b := by
  have p : 0 ≤ r * b := Int.mul_nonneg hr.1 (by omega)
  have q : r * b ≤ (l - 1) * b := Int.mul_le_mul_of_nonneg_right (by omega) (by omega)
  have q2 : (l - 1) * b = l * b - b := by rw [Int.sub_mul, Int.one_mul]
  refine ⟨Int.ediv_nonneg (by omega) (by omega), Int.ediv_lt_of_lt_mul hl ?_, Int.emod_nonneg _ (by omega), Int.emod_lt_of_pos _ hl, ?_, p⟩
  · rw [Int.mul_comm b l]
    omega
  · have := Int.mul_ediv_add_emod (r * b + x) l
    rw [Int.mul_comm] at this
    exact this
theorem take_snoc {ns : List Int} {i : Nat} {n : Int} (h : ns[i]? = some n) : ns.take (i + 1) = ns.take i ++ [n] := by
  rw [List.take_add_one, h]
  rfl
theorem drop_cons {ns : List Int} {i : Nat} {n : Int} (h : ns[i]? = some n) : ns.drop i = n :: ns.drop (i + 1) := by
  obtain ⟨h1, h2⟩ := List.getElem?_eq_some_iff.mp h
  rw [List.drop_eq_getElem_cons h1, h2]
theorem len_take {ns : List Int} {i : Nat} {n : Int} (h : ns[i]? = some n) : (ns.take i).length = i := by
  have := (List.getElem?_eq_some_iff.mp h).1
  rw [List.length_take]
  omega
theorem rev_at {ns : List Int} {i : Nat} {n : Int} (h : ns.reverse[i]? = some n) : i < ns.length ∧ ns.drop (ns.length - (i + 1)) = n :: ns.drop (ns.length - i) := by
  have hi : i < ns.length := by
    have := (List.getElem?_eq_some_iff.mp h).1
    rwa [List.length_reverse] at this
  refine ⟨hi, ?_⟩
  rw [List.getElem?_reverse hi] at h
  have h1 : ns.length - 1 - i = ns.length - (i + 1) := by omega
  have h2 : ns.length - i = ns.length - (i + 1) + 1 := by omega
  rw [h1] at h
  rw [h2]
  exact drop_cons h
theorem qr_of {w q r l : Int} (hl : 0 < l) (h : q * l + r = w) (h0 : 0 ≤ r) (h1 : r < l) : w / l = q ∧ w % l = r := by
  subst h
  rw [Int.add_comm, Int.mul_comm, Int.add_mul_ediv_left _ _ (by omega), Int.ediv_eq_zero_of_lt h0 h1, Int.add_mul_emod_self_left, Int.emod_eq_of_lt h0 h1]
  exact ⟨by omega, rfl⟩
end MR
/-! more rules: lists put together, enumerate, x[k] += e -/
namespace MR
open PySem PySem.Spec L2
section
variable {wd : Wd} {X : Cx} {W : WX} {a b e : Expr} {pos : Pos}
def gRepL (g : AA wd) (gb : AE wd) : AA wd := fun ρ ω Q E => g ρ ω (fun xs ω1 => gb ρ ω1 (fun y ω2 => match y with
  | .int k => (-(2 ^ 63) ≤ k ∧ k < 2 ^ 63 ∧ xs.length * k.toNat ≤ sizeLine) ∧ Q (List.replicate k.toNat xs).flatten ω2
  | _ => False) E) E
def gCatL (g h : AA wd) : AA wd := fun ρ ω Q E => g ρ ω (fun xs ω1 => h ρ ω1 (fun ys ω2 => xs.length + ys.length ≤ sizeLine ∧ Q (xs ++ ys) ω2) E) E
theorem gf_rep {g : AA wd} {gb : AE wd} (ha : GL wd X W a g) (hb : GE wd X W b gb) : GF wd X W (.BinOp a .Mult b pos) (gRepL g gb) := by
  obtain ⟨t, pa, ra⟩ := ha.ex
  obtain ⟨u, pb, rb⟩ := hb.ex
  refine ⟨_, pe_op op_rep pa pb, fun F B ρ ω σ H Qa Ea Q hs he hg hk hx => ra F B ρ ω σ H _ Ea _ hs he hg (fun B1 ω1 H1 p vs ds s1 hs1 l1 r1 g1 =>
    rb F B1 ρ ω1 σ H1 _ Ea _ hs1 (he.mono s1) g1 (fun B2 ω2 H2 v2 d2 s2 hs2 r2 g2 => ?_) (hx.mono s1)) hx⟩
  cases d2 <;> try exact g2.elim
  case int k =>
    cases r2
    exact ⟨p, k, vs, rfl, rfl, hs2.lst (Or.up s2 l1), g2.1.1, g2.1.2.1, by rw [r1.length]; exact g2.1.2.2, fun z hz => hk _ _ _ z _ _ (s1.trans s2) hs2 hz ((r1.mono s2).rep _) g2.2⟩
theorem gf_cat {g h : AA wd} (ha : GL wd X W a g) (hb : GL wd X W b h) : GF wd X W (.BinOp a .Add b pos) (gCatL g h) := by
  obtain ⟨t, pa, ra⟩ := ha.ex
  obtain ⟨u, pb, rb⟩ := hb.ex
  refine ⟨_, pe_op op_cat pa pb, fun F B ρ ω σ H Qa Ea Q hs he hg hk hx => ra F B ρ ω σ H _ Ea _ hs he hg (fun B1 ω1 H1 p vs ds s1 hs1 l1 r1 g1 =>
    rb F B1 ρ ω1 σ H1 _ Ea _ hs1 (he.mono s1) g1 (fun B2 ω2 H2 p2 vs2 ds2 s2 hs2 l2 r2 g2 => ?_) (hx.mono s1)) hx⟩
  exact ⟨p, p2, vs, vs2, rfl, rfl, hs2.lst (Or.up s2 l1), hs2.lst l2, by rw [r1.length, r2.length]; exact g2.1, fun z hz => hk _ _ _ z _ _ (s1.trans s2) hs2 hz ((r1.mono s2).append r2) g2.2⟩
/-! x[k] += e -/
def rGetN (K : PySem.W.Frag) : V → V → Hp → VK → Prop := fun x y H Q => ∃ p xs i v, x = .ref p ∧ y = .int i ∧ SqL K H p xs ∧ 0 ≤ i ∧ xs[i.toNat]? = some v ∧ Q v H
theorem get_n : PGet X (rGetN X.K) := by
  intro pins s σ H o i ov iv Q I ro ri h
  obtain ⟨p, xs, k, v, rfl, rfl, hq, k0, hv, q⟩ := h
  cases ro
  obtain ⟨t, rfl⟩ := ri
  obtain ⟨its, r, pl, hz⟩ := I.list hq
  obtain ⟨w, ew, rw'⟩ := r.get hv
  have hl := r.length
  have hn := line63
  have hi := (List.getElem?_eq_some_iff.mp hv).1
  exact wpAny_getItem_list pl.isList k0 (by omega) (by simpa using ew) ⟨v, H, I, rw', q⟩
def sAugP (i : Nat) (gk g : AE wd) : AS wd := fun Da ρ ω => match ρ[i]? with
  | some (some (.own l)) => gk ρ ω (fun k ω1 => match k with
    | .int k => 0 ≤ k ∧ match l[k.toNat]? with
      | some (.int o) => g ρ ω1 (fun y ω2 => match y with
        | .int y => Da.nx (ρ.set i (some (.own (l.set k.toNat (.int (o + y)))))) ω2
        | _ => False) (fun x ω' => Da.ex x ρ ω')
      | _ => False
    | _ => False) (fun x ω' => Da.ex x ρ ω')
  | _ => False
theorem gs_augP (i : Nat) {x : Str} {ek : Expr} {p1 tp : Pos} {ge gk : AE wd} (he : GE wd X W e ge) (hk : GE wd X W ek gk) (hi : X.N[i]? = some x := by rfl) (hv : Vis X.env.scope x := by first | exact Or.inl rfl | exact Or.inr (Or.inl rfl) | exact Or.inr (Or.inr rfl)) (hd : (x == ("__debug__" : Str)) = false := by decide) (hcd : (x == ("__classdict__" : Str)) = false := by decide)
    (ha : ∀ ov iv new, augStore ek ov iv new = (do holding [new, ov, iv] (setItem ov iv new); release [new, ov, iv] []; pure .next) := by intros; rfl) : GS wd X W (.AugAssign (.Subscript (.Name x p1) ek tp) .Add e pos) (sAugP i gk ge) := by
  obtain ⟨t, pe, r⟩ := he.ex
  obtain ⟨tk, pk, rk⟩ := hk.ex
  refine ⟨_, ps_augS (pe_var hi hv hd hcd) pk get_n pe ip_add set_list ha, fun F0 F B ρ ω σ H Da E s q k => ?_⟩
  unfold sAugP at q
  cases en : ρ[i]? with
  | none => simp only [en] at q
  | some o =>
    cases o with
    | none => simp only [en] at q
    | some y =>
      cases y with
      | d x => simp only [en] at q
      | own l =>
        simp only [en] at q
        obtain ⟨p, vs, a, b, c⟩ := s.env.ent i _ en
        refine ⟨.ref p, a, rk F B ρ ω σ H _ _ _ s.st s.env q (fun B1 ω1 H1 v1 d1 s1 hs1 r1 g1 => ?_) (k.xok s)⟩
        cases d1 <;> try exact g1.elim
        case int z =>
          cases r1
          simp only at g1
          obtain ⟨z0, g1⟩ := g1
          cases el : l[z.toNat]? with
          | none => simp only [el] at g1
          | some old =>
            cases old <;> simp only [el] at g1
            case int o =>
              obtain ⟨vo, e1, e2⟩ := (c.mono s1).get el
              cases e2
              have hp1 := hs1.sF _ _ b
              refine ⟨p, vs, z, .int o, rfl, rfl, SqL.of hp1, z0, e1, r F B1 ρ ω1 σ H1 _ _ _ hs1 (s.env.mono s1) g1 (fun B2 ω2 H2 v2 d2 s2 hs2 r2 g2 => ?_) ((k.xok s).mono s1)⟩
              cases d2 <;> try exact g2.elim
              case int y =>
                cases r2
                simp only at g2
                have m := s1.trans s2
                have hz := (List.getElem?_eq_some_iff.mp e1).1
                refine ⟨o, y, rfl, rfl, p, vs, z, z.toNat, rfl, rfl, hs2.sF _ _ b, ?_, ?_⟩
                · unfold ixN
                  rw [if_pos z0, if_pos (by omega)]
                · have z2 := (s.up m hs2).setOwn i (hs2.wrote (ws := vs.set z.toNat (.int (o + y))) b) (RepAll.set (.int _) z.toNat (c.mono m)) (s.own i l p en a) fun j l' h1 h2 => s.env.dist j i l' l p h1 en h2 a
                  rw [set_same a] at z2
                  exact k.nx m z2 g2
end
/-! for i, x in enumerate(tuple) -/
def enumD (xs : List D) : List D := xs.mapIdx fun i d => .tup [.int (i : Nat), d]
theorem enum_at {xs : List D} {i : Nat} {d : D} (h : xs[i]? = some d) : (enumD xs)[i]? = some (.tup [.int (i : Nat), d]) := by
  unfold enumD
  rw [List.getElem?_mapIdx, h]
  rfl
theorem enum_len (xs : List D) : (enumD xs).length = xs.length := List.length_mapIdx
theorem enum_of {xs : List D} {i : Nat} {d : D} (h : (enumD xs)[i]? = some d) : ∃ x, xs[i]? = some x ∧ d = .tup [.int (i : Nat), x] := by
  have hi := (List.getElem?_eq_some_iff.mp h).1
  rw [enum_len] at hi
  have h2 := enum_at (List.getElem?_eq_getElem hi)
  rw [h2] at h
  exact ⟨_, List.getElem?_eq_getElem hi, (Option.some.inj h).symm⟩
def sForE {wd : Wd} (g : AE wd) (t : AG) (body : AS wd) : AS wd := fun Da ρ ω => g ρ ω (fun d ω1 => match d with
  | .tup xs => aFor (enumD xs) t body Da ρ ω1
  | _ => False) (fun x ω' => Da.ex x ρ ω')
theorem rs_forE {wd : Wd} {K : PySem.W.Frag} {W : WX} {te : TE} {ge : AE wd} {g : TG} {t : AG} {body : AS wd} {tb : TS} (he : RE wd K W te ge) (hg : RG wd K g t) (hb : RS wd K W tb body) : RS wd K W (tFor (iEnumT K te) g tb) (sForE ge t body) := fun F0 F B ρ ω σ H Da E s q k =>
  he F B ρ ω σ H _ _ _ s.st s.env q (fun B1 ω1 H1 v1 d1 s1 hs1 r1 g1 => by
    cases d1 <;> try exact g1.elim
    case tup xs =>
      obtain ⟨Iv, h0, hs, hd⟩ := g1
      cases r1 with
      | tup h1 r1 =>
        refine ⟨_, _, rfl, Same.seqT hs1.sB h1, for_it walk_enumT (Pv wd K F0 B1 Iv) ⟨F, B1, ρ, ω1, Same.refl _, s.up s1 hs1, h0⟩ (fun i σ H _ ⟨F', B', ρ', ω', m, s', _⟩ => Same.seqT (m.trans s'.st.sB) h1) (fun i x σ H H' hi p y => ?_) fun σ H ⟨F', B', ρ', ω', m, s', iv⟩ => ?_⟩
        · obtain ⟨T, x1, x2, rfl, hT, rfl, y1, y2⟩ := y
          cases y1
          obtain ⟨F', B', ρ', ω', m, s', iv⟩ := p
          have hi2 : i < xs.length := by
            rw [← r1.length]
            exact hi
          have hdd := List.getElem?_eq_getElem hi2
          obtain ⟨v, e1, e2⟩ := r1.get hdd
          cases (Eq.symm y2).trans e1
          obtain ⟨s2, st2⟩ := s'.st.new (o := .tup [.int (i : Nat), x2]) hT
          exact turn_of hb hg (k.mono s1) hs (enum_at hdd) ⟨F', upd B' T (.tup [.int (i : Nat), x2]), ρ', ω', m.trans s2, s'.up s2 st2, .tup (.inl (.inl upd_same)) (.cons (.int _) (.cons (e2.mono (m.trans s2)) .nil)), iv⟩
        · rw [r1.length, ← enum_len] at iv
          exact k.nx (s1.trans m) s' (hd _ _ iv)) (k.xok s)
theorem gs_forE {wd : Wd} {X : Cx} {W : WX} {body : List Stmt} {pos p p2 tp : Pos} {elts : List Expr} {kk : Nat} {t : AG} {g : AS wd} {e : Expr} {ge : AE wd} (hp : PassesOwn (model X.prog X.w) X.A X.env X.xe) (hc : X.calm = true) (hm : X.mg "enumerate" = none) (he : GE wd X W e ge) (hg : GG wd X (.Tuple elts kk tp) t) (hb : GSs wd X W body g) (hgr : Gl X "enumerate" := by rfl) (hst : starEach [e] X.env = [(false, eval e X.env)] := by rfl)
    (hs : ∀ x, foldedSetIterable (.Call (.Name "enumerate" p) [e] [] p2) X.env x = pure x := by intro _; rfl) : GS wd X W (.For (.Tuple elts kk tp) (.Call (.Name "enumerate" p) [e] [] p2) body [] pos) (sForE ge t g) :=
  let ⟨_, pe, re⟩ := he.ex; let ⟨_, pg, rg⟩ := hg.ex; let ⟨_, pb, rb⟩ := hb.ex; ⟨_, ps_for hp hc (pi_enumT hgr hm pe hst) pg pb hs, rs_forE re rg rb⟩
end MR
/-! plain products: columns, carries -/
namespace MR
open PySem PySem.Spec L2
/-- a column of the product -/
def co : List Int → List Int → Nat → Int
  | [], _, _ => 0
  | x :: xs, ys, 0 => x * ys.getD 0 0
  | x :: xs, ys, k + 1 => x * ys.getD (k + 1) 0 + co xs ys k
def cols (xs ys : List Int) : List Int := if xs = [] ∨ ys = [] then [] else (List.range (xs.length + ys.length - 1)).map (co xs ys)
/-- carried on: limbs, carries, what is left -/
def cLow (b : Int) : Int → List Int → List Int
  | _, [] => []
  | c, s :: ss => (c + s) % b :: cLow b ((c + s) / b) ss
def cCar (b : Int) : Int → List Int → List Int
  | _, [] => []
  | c, s :: ss => (c + s) / b :: cCar b ((c + s) / b) ss
def cFin (b : Int) : Int → List Int → Int
  | c, [] => c
  | c, s :: ss => cFin b ((c + s) / b) ss
def cAll (b : Int) (ss : List Int) : List Int := cLow b 0 ss ++ (if 0 < cFin b 0 ss then [cFin b 0 ss] else [])
theorem cLow_len (b : Int) : ∀ (c : Int) (ss : List Int), (cLow b c ss).length = ss.length
  | _, [] => rfl
  | c, s :: ss => congrArg (· + 1) (cLow_len b _ ss)
theorem cCar_len (b : Int) : ∀ (c : Int) (ss : List Int), (cCar b c ss).length = ss.length
  | _, [] => rfl
  | c, s :: ss => congrArg (· + 1) (cCar_len b _ ss)
theorem cLow_lim {b : Int} (hb : 2 ≤ b) : ∀ (c : Int) (ss : List Int), limbs b (cLow b c ss)
  | _, [] => fun _ h => nomatch h
  | c, s :: ss => fun n hn => by
    rcases List.mem_cons.mp hn with rfl | hn
    · exact ⟨Int.emod_nonneg _ (by omega), Int.emod_lt_of_pos _ (by omega)⟩
    · exact cLow_lim hb _ ss n hn
theorem cFin_nn {b : Int} (hb : 2 ≤ b) : ∀ (c : Int) (ss : List Int), 0 ≤ c → (∀ s ∈ ss, 0 ≤ s) → 0 ≤ cFin b c ss ∧ ∀ y ∈ cCar b c ss, 0 ≤ y
  | c, [], h, _ => ⟨h, fun _ h => nomatch h⟩
  | c, s :: ss, h, hs => by
    have h1 := hs s (by simp)
    have h2 : 0 ≤ (c + s) / b := Int.ediv_nonneg (by omega) (by omega)
    obtain ⟨h3, h4⟩ := cFin_nn hb ((c + s) / b) ss h2 fun t ht => hs t (by simp [ht])
    refine ⟨h3, fun y hy => ?_⟩
    rcases List.mem_cons.mp hy with rfl | hy
    · exact h2
    · exact h4 y hy
theorem cLow_wor {b : Int} (hb : 2 ≤ b) : ∀ (c : Int) (ss : List Int), wor b (cLow b c ss) + b ^ ss.length * cFin b c ss = c + wor b ss
  | c, [] => by show (0:Int) + b ^ 0 * c = c + 0; rw [Int.pow_zero]; omega
  | c, s :: ss => by
    have ih := cLow_wor hb ((c + s) / b) ss
    have e := Int.emod_add_mul_ediv (c + s) b
    show (c + s) % b + b * wor b (cLow b ((c + s) / b) ss) + b ^ (ss.length + 1) * cFin b ((c + s) / b) ss = c + (s + b * wor b ss)
    have e2 : b ^ (ss.length + 1) * cFin b ((c + s) / b) ss = b * (b ^ ss.length * cFin b ((c + s) / b) ss) := by
      rw [Int.pow_succ, Int.mul_comm (b ^ ss.length) b, Int.mul_assoc]
    rw [e2, Int.add_assoc, ← Int.mul_add, ih, Int.mul_add]
    omega
/-- what is carried on from sums of a worth between the powers is the row of it -/
theorem cAll_row {b : Int} (hb : 2 ≤ b) {ss : List Int} (hs : ∀ s ∈ ss, 0 ≤ s) (h1 : wor b ss < b ^ (ss.length + 1)) (h2 : ss ≠ [] → b ^ (ss.length - 1) ≤ wor b ss) : cAll b ss = digs b (wor b ss) := by
  have f0 := (cFin_nn hb 0 ss (Int.le_refl 0) hs).1
  have w := cLow_wor hb 0 ss
  have lim := cLow_lim hb 0 ss
  have len := cLow_len b 0 ss
  have l0 := wor_nn (by omega : (0:Int) ≤ b) lim
  have pp : (0:Int) < b ^ ss.length := Int.pow_pos (by omega)
  rw [Int.zero_add] at w
  unfold cAll
  split
  · rename_i c
    have fb : cFin b 0 ss < b := by
      refine Int.not_le.mp fun q => ?_
      have m := Int.mul_le_mul_of_nonneg_left q (Int.le_of_lt pp)
      rw [Int.pow_succ] at h1
      omega
    have lim2 : limbs b (cLow b 0 ss ++ [cFin b 0 ss]) := lim.append fun n hn => by
      rw [List.mem_singleton] at hn
      subst hn
      exact ⟨f0, fb⟩
    have e : wor b (cLow b 0 ss ++ [cFin b 0 ss]) = wor b ss := by
      rw [wor_append, len, ← w]
      have a1 : wor b [cFin b 0 ss] = cFin b 0 ss + b * 0 := rfl
      rw [a1, Int.mul_zero, Int.add_zero]
    rw [← e, digs_strip hb lim2, strip_keep _ (by omega)]
  · rename_i c
    have z : cFin b 0 ss = 0 := by omega
    rw [z, Int.mul_zero, Int.add_zero] at w
    rw [List.append_nil, ← w]
    refine (digs_wor hb ⟨lim, fun top => ?_⟩).symm
    have hn : ss ≠ [] := fun e => by
      rw [e] at top
      simp [cLow] at top
    have q := h2 hn
    obtain ⟨r, er⟩ := List.getLast?_eq_some_iff.mp top
    have rl : r.length = ss.length - 1 := by
      rw [← len, er, List.length_append]
      rfl
    have lr : limbs b r := fun n hm => lim n (by rw [er]; exact List.mem_append_left _ hm)
    have wr := wor_lt (by omega : (1:Int) ≤ b) lr
    rw [rl] at wr
    have e2 : wor b (cLow b 0 ss) = wor b r := by
      rw [er, wor_append]
      show wor b r + b ^ r.length * (0 + b * 0) = wor b r
      rw [Int.mul_zero, Int.add_zero, Int.mul_zero, Int.add_zero]
    omega
/-! the columns' worth -/
def sumB (b : Int) (f : Nat → Int) : Nat → Int
  | 0 => 0
  | n + 1 => f 0 + b * sumB b (fun k => f (k + 1)) n
theorem wor_range (b : Int) : ∀ (n : Nat) (f : Nat → Int), wor b ((List.range n).map f) = sumB b f n
  | 0, f => rfl
  | n + 1, f => by
    rw [List.range_succ_eq_map, List.map_cons, List.map_map]
    show f 0 + b * wor b ((List.range n).map (f ∘ Nat.succ)) = f 0 + b * sumB b (fun k => f (k + 1)) n
    rw [wor_range b n]
    rfl
theorem sumB_add (b : Int) : ∀ (n : Nat) (f g : Nat → Int), sumB b (fun k => f k + g k) n = sumB b f n + sumB b g n
  | 0, _, _ => rfl
  | n + 1, f, g => by
    show f 0 + g 0 + b * sumB b (fun k => f (k + 1) + g (k + 1)) n = f 0 + b * _ + (g 0 + b * _)
    rw [sumB_add b n, Int.mul_add]
    omega
theorem sumB_mul (b x : Int) : ∀ (n : Nat) (f : Nat → Int), sumB b (fun k => x * f k) n = x * sumB b f n
  | 0, _ => (Int.mul_zero x).symm
  | n + 1, f => by
    show x * f 0 + b * sumB b (fun k => x * f (k + 1)) n = x * (f 0 + b * _)
    rw [sumB_mul b x n, Int.mul_add, ← Int.mul_assoc, Int.mul_comm b x, Int.mul_assoc]
theorem sumB_zero (b : Int) : ∀ n : Nat, sumB b (fun _ => 0) n = 0
  | 0 => rfl
  | n + 1 => by
    show 0 + b * sumB b (fun _ => 0) n = 0
    rw [sumB_zero b n]
    omega
theorem sumB_get (b : Int) : ∀ (n : Nat) (ys : List Int), ys.length ≤ n → sumB b (fun k => ys.getD k 0) n = wor b ys
  | n, [], _ => by
    have e : (fun k => ([] : List Int).getD k 0) = fun _ => 0 := by
      funext k
      simp
    rw [e]
    exact sumB_zero b n
  | n + 1, y :: ys, h => by
    show y + b * sumB b (fun k => ys.getD k 0) n = y + b * wor b ys
    rw [sumB_get b n ys (by rw [List.length_cons] at h; omega)]
  | 0, y :: ys, h => by
    rw [List.length_cons] at h
    omega
theorem sumB_co (b : Int) (ys : List Int) : ∀ (xs : List Int) (n : Nat), xs.length + ys.length ≤ n + 1 → sumB b (co xs ys) n = wor b xs * wor b ys ∨ (xs ≠ [] ∧ ys = [])
  | [], n, _ => .inl (by
    have e : co [] ys = fun _ => 0 := by
      funext k
      rfl
    rw [e, sumB_zero]
    show 0 = 0 * wor b ys
    rw [Int.zero_mul])
  | x :: xs, n, h => by
    by_cases y0 : ys = []
    · exact .inr ⟨by simp, y0⟩
    · refine .inl ?_
      have hy : 0 < ys.length := List.length_pos_iff.mpr y0
      rw [List.length_cons] at h
      obtain ⟨n, rfl⟩ : ∃ m, n = m + 1 := ⟨n - 1, by omega⟩
      have ih := (sumB_co b ys xs n (by omega)).resolve_right fun z => y0 z.2
      have e : co (x :: xs) ys = fun k => x * ys.getD k 0 + (match k with | 0 => 0 | k + 1 => co xs ys k) := by
        funext k
        cases k with
        | zero => exact (Int.add_zero _).symm
        | succ k => rfl
      rw [e, sumB_add, sumB_mul, sumB_get b _ ys (by omega)]
      show x * wor b ys + (0 + b * sumB b (co xs ys) n) = (x + b * wor b xs) * wor b ys
      rw [ih, Int.add_mul, Int.zero_add, Int.mul_assoc]
theorem cols_wor (b : Int) (xs ys : List Int) : wor b (cols xs ys) = wor b xs * wor b ys := by
  unfold cols
  split
  · rename_i c
    rcases c with rfl | rfl
    · show 0 = 0 * wor b ys
      rw [Int.zero_mul]
    · show 0 = wor b xs * 0
      rw [Int.mul_zero]
  · rename_i c
    rw [wor_range]
    exact (sumB_co b ys xs _ (by omega)).resolve_right fun z => c (.inr z.2)
theorem cols_len (xs ys : List Int) (h1 : xs ≠ []) (h2 : ys ≠ []) : (cols xs ys).length = xs.length + ys.length - 1 := by
  unfold cols
  rw [if_neg (by simp [h1, h2]), List.length_map, List.length_range]
theorem co_nn : ∀ (xs ys : List Int) (k : Nat), (∀ x ∈ xs, 0 ≤ x) → (∀ y ∈ ys, 0 ≤ y) → 0 ≤ co xs ys k
  | [], _, _, _, _ => Int.le_refl 0
  | x :: xs, ys, k, h1, h2 => by
    have g : ∀ j, 0 ≤ ys.getD j 0 := fun j => by
      rw [List.getD_eq_getElem?_getD]
      cases e : ys[j]? with
      | none => exact Int.le_refl 0
      | some y => exact h2 y (List.mem_of_getElem? e)
    have hx := h1 x (by simp)
    cases k with
    | zero => exact Int.mul_nonneg hx (g 0)
    | succ k =>
      have ih := co_nn xs ys k (fun z hz => h1 z (by simp [hz])) h2
      have := Int.mul_nonneg hx (g (k + 1))
      show 0 ≤ x * ys.getD (k + 1) 0 + co xs ys k
      omega
theorem cols_nn {xs ys : List Int} (h1 : ∀ x ∈ xs, 0 ≤ x) (h2 : ∀ y ∈ ys, 0 ≤ y) : ∀ s ∈ cols xs ys, 0 ≤ s := fun s hs => by
  unfold cols at hs
  split at hs
  · cases hs
  · obtain ⟨k, _, rfl⟩ := List.mem_map.mp hs
    exact co_nn xs ys k h1 h2
/-- one more limb -/
theorem co_snoc : ∀ (xs : List Int) (x : Int) (ys : List Int) (k : Nat), co (xs ++ [x]) ys k = co xs ys k + (if xs.length ≤ k then x * ys.getD (k - xs.length) 0 else 0)
  | [], x, ys, k => by
    cases k with
    | zero => show x * ys.getD 0 0 = 0 + x * ys.getD 0 0; omega
    | succ k => show x * ys.getD (k + 1) 0 + 0 = 0 + x * ys.getD (k + 1) 0; omega
  | z :: xs, x, ys, 0 => by
    show z * ys.getD 0 0 = z * ys.getD 0 0 + (if xs.length + 1 ≤ 0 then _ else 0)
    rw [if_neg (by omega)]
    omega
  | z :: xs, x, ys, k + 1 => by
    show z * ys.getD (k + 1) 0 + co (xs ++ [x]) ys k = z * ys.getD (k + 1) 0 + co xs ys k + (if xs.length + 1 ≤ k + 1 then x * ys.getD (k + 1 - (xs.length + 1)) 0 else 0)
    rw [co_snoc xs x ys k, Nat.add_sub_add_right]
    by_cases c : xs.length ≤ k
    · rw [if_pos c, if_pos (by omega)]
      omega
    · rw [if_neg c, if_neg (by omega)]
      omega
/-- the product's worth lies between the powers -/
theorem prod_between {b : Int} (hb : 2 ≤ b) {xs ys : List Int} (h1 : isRow b xs) (h2 : isRow b ys) (n1 : xs ≠ []) (n2 : ys ≠ []) : wor b xs * wor b ys < b ^ (xs.length + ys.length) ∧ b ^ (xs.length + ys.length - 2) ≤ wor b xs * wor b ys := by
  have a1 := wor_lt (by omega : (1:Int) ≤ b) h1.lim
  have a2 := wor_lt (by omega : (1:Int) ≤ b) h2.lim
  have z1 := wor_nn (by omega : (0:Int) ≤ b) h1.lim
  have z2 := wor_nn (by omega : (0:Int) ≤ b) h2.lim
  have c1 := row_len hb h1 n1
  have c2 := row_len hb h2 n2
  have l1 : 0 < xs.length := List.length_pos_iff.mpr n1
  have l2 : 0 < ys.length := List.length_pos_iff.mpr n2
  have p1 : (0:Int) < b ^ (xs.length - 1) := Int.pow_pos (by omega)
  have p2 : (0:Int) < b ^ (ys.length - 1) := Int.pow_pos (by omega)
  have p3 : (0:Int) < b ^ ys.length := Int.pow_pos (by omega)
  refine ⟨?_, ?_⟩
  · rw [Int.pow_add]
    have m1 : wor b xs * wor b ys ≤ wor b xs * b ^ ys.length := Int.mul_le_mul_of_nonneg_left (by omega) z1
    have m2 : wor b xs * b ^ ys.length < b ^ xs.length * b ^ ys.length := Int.mul_lt_mul_of_pos_right a1 p3
    omega
  · have e : xs.length + ys.length - 2 = (xs.length - 1) + (ys.length - 1) := by omega
    rw [e, Int.pow_add]
    have m1 : b ^ (xs.length - 1) * b ^ (ys.length - 1) ≤ wor b xs * b ^ (ys.length - 1) := Int.mul_le_mul_of_nonneg_right c1 (by omega)
    have m2 : wor b xs * b ^ (ys.length - 1) ≤ wor b xs * wor b ys := Int.mul_le_mul_of_nonneg_left c2 z1
    omega
theorem prod_row {b : Int} (hb : 2 ≤ b) {xs ys : List Int} (h1 : isRow b xs) (h2 : isRow b ys) : cAll b (cols xs ys) = digs b (wor b xs * wor b ys) := by
  by_cases n1 : xs = []
  · subst n1
    have e : cols [] ys = [] := if_pos (.inl rfl)
    rw [e]
    show ([] : List Int) ++ (if (0:Int) < 0 then [0] else []) = digs b (0 * wor b ys)
    rw [if_neg (by decide), Int.zero_mul, digs_nil (Int.le_refl 0)]
    rfl
  · by_cases n2 : ys = []
    · subst n2
      have e : cols xs [] = [] := if_pos (.inr rfl)
      rw [e]
      show ([] : List Int) ++ (if (0:Int) < 0 then [0] else []) = digs b (wor b xs * 0)
      rw [if_neg (by decide), Int.mul_zero, digs_nil (Int.le_refl 0)]
      rfl
    · have l1 : 0 < xs.length := List.length_pos_iff.mpr n1
      have l2 : 0 < ys.length := List.length_pos_iff.mpr n2
      have bt := prod_between hb h1 h2 n1 n2
      have e := cols_wor b xs ys
      have el := cols_len xs ys n1 n2
      rw [← e]
      refine cAll_row hb (cols_nn (fun x hx => (h1.lim x hx).1) (fun y hy => (h2.lim y hy).1)) ?_ fun _ => ?_
      · rw [e, el]
        have : xs.length + ys.length - 1 + 1 = xs.length + ys.length := by omega
        rw [this]
        exact bt.1
      · rw [e, el]
        have : xs.length + ys.length - 1 - 1 = xs.length + ys.length - 2 := by omega
        rw [this]
        exact bt.2
theorem set_range {N K : Nat} {f g : Nat → Int} {v : Int} (h : ∀ k, k < N → g k = if k = K then v else f k) : (((List.range N).map f).map D.int).set K (.int v) = ((List.range N).map g).map D.int := by
  refine List.ext_getElem (by simp) fun k h1 h2 => ?_
  have hk : k < N := by simpa using h2
  have e := h k hk
  rw [List.getElem_set]
  simp only [List.getElem_map, List.getElem_range]
  by_cases c : K = k
  · subst c
    rw [if_pos rfl] at e
    rw [if_pos rfl, e]
  · rw [if_neg (fun z => c z.symm)] at e
    rw [if_neg c, e]
theorem init_range (ys : List Int) (N : Nat) : (List.replicate N [D.int 0]).flatten = ((List.range N).map (co [] ys)).map D.int := by
  rw [fl_rep]
  refine List.ext_getElem (by simp) fun k h1 h2 => ?_
  simp [co]
/-- a row's columns while a limb's are put in -/
def mid (xs ys : List Int) (x : Int) (j k : Nat) : Int := co xs ys k + (if xs.length ≤ k ∧ k < xs.length + j then x * ys.getD (k - xs.length) 0 else 0)
theorem mid_zero (xs ys : List Int) (x : Int) : mid xs ys x 0 = co xs ys := by
  funext k
  unfold mid
  rw [if_neg (by omega)]
  omega
theorem mid_end (xs ys : List Int) (x : Int) : mid xs ys x ys.length = co (xs ++ [x]) ys := by
  funext k
  unfold mid
  rw [co_snoc]
  by_cases c : xs.length ≤ k
  · rw [if_pos c]
    by_cases d : k < xs.length + ys.length
    · rw [if_pos ⟨c, d⟩]
    · rw [if_neg (by omega), List.getD_eq_getElem?_getD, List.getElem?_eq_none (by omega)]
      show _ + 0 = _ + x * 0
      rw [Int.mul_zero]
  · rw [if_neg c, if_neg (by omega)]
theorem mid_step {xs ys : List Int} {x y : Int} {j : Nat} (h : ys[j]? = some y) (k : Nat) : mid xs ys x (j + 1) k = if k = xs.length + j then mid xs ys x j (xs.length + j) + x * y else mid xs ys x j k := by
  unfold mid
  by_cases c : k = xs.length + j
  · subst c
    rw [if_pos rfl, if_pos (by omega), if_neg (by omega)]
    have e : xs.length + j - xs.length = j := by omega
    rw [e, List.getD_eq_getElem?_getD, h]
    show _ + x * y = _
    omega
  · rw [if_neg c]
    by_cases d : xs.length ≤ k ∧ k < xs.length + j
    · rw [if_pos d, if_pos (by omega)]
    · rw [if_neg d, if_neg (by omega)]
theorem mulw_rows {b : Int} (hb : base_ b) {xs ys : List Int} (h1 : limbs b xs) (h2 : limbs b ys) (l1 : xs.length ≤ 30000) (l2 : ys.length ≤ 30000) : CMulW (wor b xs) (wor b ys) := by
  have b1 := hb.1
  have a1 := wor_lt (by omega : (1:Int) ≤ b) h1
  have a2 := wor_lt (by omega : (1:Int) ≤ b) h2
  have z1 := wor_nn (by omega : (0:Int) ≤ b) h1
  have z2 := wor_nn (by omega : (0:Int) ≤ b) h2
  have q1 := pow14 (by omega : (0:Int) ≤ b) hb.2 xs.length
  have q2 := pow14 (by omega : (0:Int) ≤ b) hb.2 ys.length
  have e : ∀ n : Nat, (2:Int) ^ n < 2 ^ (n + 1) := fun n => by
    have q : (0:Int) < 2 ^ n := Int.pow_pos (by decide)
    rw [Int.pow_succ]
    omega
  have e1 := e (14 * xs.length)
  have e2 := e (14 * ys.length)
  exact mulw (14 * xs.length + 1) (14 * ys.length + 1) z1 (by omega) z2 (by omega) (by omega) (by omega) (by omega)
theorem prod_lt {b : Int} (hb : 2 ≤ b) {xs ys : List Int} (h1 : limbs b xs) (h2 : limbs b ys) : wor b xs * wor b ys < b ^ (xs.length + ys.length) := by
  have a1 := wor_lt (by omega : (1:Int) ≤ b) h1
  have a2 := wor_lt (by omega : (1:Int) ≤ b) h2
  have z1 := wor_nn (by omega : (0:Int) ≤ b) h1
  have p3 : (0:Int) < b ^ ys.length := Int.pow_pos (by omega)
  rw [Int.pow_add]
  have m1 : wor b xs * wor b ys ≤ wor b xs * b ^ ys.length := Int.mul_le_mul_of_nonneg_left (by omega) z1
  have m2 : wor b xs * b ^ ys.length < b ^ xs.length * b ^ ys.length := Int.mul_lt_mul_of_pos_right a1 p3
  omega
theorem row_nilR (b : Int) : isRow b [] := ⟨(fun _ h => nomatch h), by simp⟩
theorem row_snoc {b : Int} {ys : List Int} (h : limbs b ys) {l : Int} (h0 : 1 ≤ l) (h1 : l < b) : isRow b (ys ++ [l]) := ⟨h.append fun n hn => by
  rw [List.mem_singleton] at hn
  subst hn
  omega, by
  rw [List.getLast?_concat]
  intro z
  have := Option.some.inj z
  omega⟩
theorem wor_snoc (b : Int) (ys : List Int) (l : Int) : wor b (ys ++ [l]) = wor b ys + l * b ^ ys.length := by
  rw [wor_append]
  show wor b ys + b ^ ys.length * (l + b * 0) = _
  rw [Int.mul_zero, Int.add_zero, Int.mul_comm]
theorem wor_nil (b : Int) : wor b [] = 0 := rfl
/-- the row of a number: its limbs, its worth, its length -/
theorem digs_ok {b n : Int} (hb : 2 ≤ b) (h0 : 0 ≤ n) {k : Nat} (h : n < b ^ k) : isRow b (digs b n) ∧ wor b (digs b n) = n ∧ (digs b n).length ≤ k :=
  ⟨(digs_row hb (n.toNat + 1) n (by omega) h0).1, (digs_row hb (n.toNat + 1) n (by omega) h0).2, digs_len hb h⟩
theorem digs_rok {b n : Int} (hb : base_ b) (h0 : 0 ≤ n) {k : Nat} (h : n < b ^ k) (hk : k ≤ 500) : rOk (row (digs b n)) = true :=
  let d := digs_ok hb.1 h0 h
  (sh_row d.1.lim hb.2 (Nat.le_trans d.2.2 hk)).ok (by decide) (by decide)
def small_ (ns : List Int) : Prop := ∀ n ∈ ns, 0 ≤ n ∧ n < 10000
theorem limbs.small {b : Int} {ns : List Int} (h : limbs b ns) (hb : b ≤ 10000) : small_ ns := fun n hn => ⟨(h n hn).1, by have := (h n hn).2; omega⟩
def aColumns : ASp DWd := fun ds ω Q _ => ∃ xs ys, ds = [row xs, row ys] ∧ small_ xs ∧ small_ ys ∧ xs.length ≤ 20000 ∧ ys.length ≤ 20000 ∧ Q (row (cols xs ys)) ω
def aCarried : ASp DWd := fun ds ω Q _ => ∃ ss b, (ds = [row ss, .int b] ∨ ds = [.lst (ss.map D.int), .int b]) ∧ base_ b ∧ ss.length ≤ 50000 ∧ Q (.tup [row (cAll b ss), row (cCar b 0 ss)]) ω
def aPlain : ASp DWd := fun ds ω Q _ => ∃ xs ys b, ds = [row xs, row ys, .int b] ∧ base_ b ∧ isRow b xs ∧ isRow b ys ∧ xs.length ≤ 20000 ∧ ys.length ≤ 20000 ∧ Q (row (digs b (wor b xs * wor b ys))) ω
def aPlainC : ASp DWd := fun ds ω Q _ => ∃ xs ys b, ds = [row xs, row ys, .int b] ∧ base_ b ∧ isRow b xs ∧ isRow b ys ∧ xs.length ≤ 20000 ∧ ys.length ≤ 20000 ∧ Q (row (cCar b 0 (cols xs ys))) ω
end MR
/-! the words at known kinds: one copy of what comes behind -/
namespace MR
open PySem PySem.Spec L2
theorem fTru_bl (b : Bool) (Q : Bool → Prop) : fTru (.bl b) Q = Q b := rfl
theorem fTru_non (Q : Bool → Prop) : fTru .non Q = Q false := rfl
theorem fTru_int (i : Int) (Q : Bool → Prop) : fTru (.int i) Q = Q (i != 0) := rfl
theorem fTru_str (y : Str) (Q : Bool → Prop) : fTru (.str y) Q = (y.length ≤ sizeLine ∧ Q ((y.length : Int) != 0)) := rfl
theorem fTru_lst (xs : List D) (Q : Bool → Prop) : fTru (.lst xs) Q = Q (!xs.isEmpty) := rfl
theorem fTru_tup (xs : List D) (Q : Bool → Prop) : fTru (.tup xs) Q = Q (!xs.isEmpty) := rfl
theorem fAdd_int (i j : Int) (Q : D → Prop) : fAdd (.int i) (.int j) Q = Q (.int (i + j)) := rfl
theorem fAdd_str (x y : Str) (Q : D → Prop) : fAdd (.str x) (.str y) Q = (x.length + y.length ≤ sizeLine ∧ Q (.str (x ++ y))) := rfl
theorem fAdd_tup (xs ys : List D) (Q : D → Prop) : fAdd (.tup xs) (.tup ys) Q = (xs.length + ys.length ≤ sizeLine ∧ Q (.tup (xs ++ ys))) := rfl
theorem fAdd_lst (xs ys : List D) (Q : D → Prop) : fAdd (.lst xs) (.lst ys) Q = (xs.length + ys.length ≤ sizeLine ∧ Q (.lst (xs ++ ys))) := rfl
theorem fMul_int (i j : Int) (Q : D → Prop) : fMul (.int i) (.int j) Q = (CMulW i j ∧ Q (.int (i * j))) := rfl
theorem fMul_tup (xs : List D) (k : Int) (Q : D → Prop) : fMul (.tup xs) (.int k) Q = (-(2 ^ 63) ≤ k ∧ k ≤ 1000 ∧ xs.length ≤ 1000 ∧ Q (.tup (List.replicate k.toNat xs).flatten)) := rfl
theorem fMul_lst (xs : List D) (k : Int) (Q : D → Prop) : fMul (.lst xs) (.int k) Q = (-(2 ^ 63) ≤ k ∧ k < 2 ^ 63 ∧ xs.length * k.toNat ≤ sizeLine ∧ Q (.lst (List.replicate k.toNat xs).flatten)) := rfl
theorem fEq_int (x y : Int) (Q : D → Prop) : fEq (.int x) (.int y) Q = Q (.bl (decide (x = y))) := rfl
theorem fEq_str (x y : Str) (Q : D → Prop) : fEq (.str x) (.str y) Q = Q (.bl (decide (x = y))) := rfl
theorem fEq_bl (x y : Bool) (Q : D → Prop) : fEq (.bl x) (.bl y) Q = Q (.bl (decide (x = y))) := rfl
theorem fEq_tup_tup (xs : List D) (ys : List D) (Q : D → Prop) : fEq (.tup xs) (.tup ys) Q = (eqOk (.tup xs) = true ∧ eqOk (.tup ys) = true ∧ Q (.bl (deq (.tup xs) (.tup ys)))) := rfl
theorem fEq_tup_lst (xs : List D) (ys : List D) (Q : D → Prop) : fEq (.tup xs) (.lst ys) Q = (eqOk (.tup xs) = true ∧ eqOk (.lst ys) = true ∧ Q (.bl (deq (.tup xs) (.lst ys)))) := rfl
theorem fEq_tup_int (xs : List D) (j : Int) (Q : D → Prop) : fEq (.tup xs) (.int j) Q = (eqOk (.tup xs) = true ∧ eqOk (.int j) = true ∧ Q (.bl (deq (.tup xs) (.int j)))) := rfl
theorem fEq_tup_non (xs : List D) (Q : D → Prop) : fEq (.tup xs) .non Q = (eqOk (.tup xs) = true ∧ eqOk .non = true ∧ Q (.bl (deq (.tup xs) .non))) := rfl
theorem fEq_tup_str (xs : List D) (t : Str) (Q : D → Prop) : fEq (.tup xs) (.str t) Q = (eqOk (.tup xs) = true ∧ eqOk (.str t) = true ∧ Q (.bl (deq (.tup xs) (.str t)))) := rfl
theorem fEq_tup_bl (xs : List D) (c : Bool) (Q : D → Prop) : fEq (.tup xs) (.bl c) Q = (eqOk (.tup xs) = true ∧ eqOk (.bl c) = true ∧ Q (.bl (deq (.tup xs) (.bl c)))) := rfl
theorem fEq_lst_tup (xs : List D) (ys : List D) (Q : D → Prop) : fEq (.lst xs) (.tup ys) Q = (eqOk (.lst xs) = true ∧ eqOk (.tup ys) = true ∧ Q (.bl (deq (.lst xs) (.tup ys)))) := rfl
theorem fEq_lst_lst (xs : List D) (ys : List D) (Q : D → Prop) : fEq (.lst xs) (.lst ys) Q = (eqOk (.lst xs) = true ∧ eqOk (.lst ys) = true ∧ Q (.bl (deq (.lst xs) (.lst ys)))) := rfl
theorem fEq_lst_int (xs : List D) (j : Int) (Q : D → Prop) : fEq (.lst xs) (.int j) Q = (eqOk (.lst xs) = true ∧ eqOk (.int j) = true ∧ Q (.bl (deq (.lst xs) (.int j)))) := rfl
theorem fEq_lst_non (xs : List D) (Q : D → Prop) : fEq (.lst xs) .non Q = (eqOk (.lst xs) = true ∧ eqOk .non = true ∧ Q (.bl (deq (.lst xs) .non))) := rfl
theorem fEq_lst_str (xs : List D) (t : Str) (Q : D → Prop) : fEq (.lst xs) (.str t) Q = (eqOk (.lst xs) = true ∧ eqOk (.str t) = true ∧ Q (.bl (deq (.lst xs) (.str t)))) := rfl
theorem fEq_lst_bl (xs : List D) (c : Bool) (Q : D → Prop) : fEq (.lst xs) (.bl c) Q = (eqOk (.lst xs) = true ∧ eqOk (.bl c) = true ∧ Q (.bl (deq (.lst xs) (.bl c)))) := rfl
theorem fEq_int_tup (i : Int) (ys : List D) (Q : D → Prop) : fEq (.int i) (.tup ys) Q = (eqOk (.int i) = true ∧ eqOk (.tup ys) = true ∧ Q (.bl (deq (.int i) (.tup ys)))) := rfl
theorem fEq_int_lst (i : Int) (ys : List D) (Q : D → Prop) : fEq (.int i) (.lst ys) Q = (eqOk (.int i) = true ∧ eqOk (.lst ys) = true ∧ Q (.bl (deq (.int i) (.lst ys)))) := rfl
theorem fEq_int_non (i : Int) (Q : D → Prop) : fEq (.int i) .non Q = (eqOk (.int i) = true ∧ eqOk .non = true ∧ Q (.bl (deq (.int i) .non))) := rfl
theorem fEq_int_str (i : Int) (t : Str) (Q : D → Prop) : fEq (.int i) (.str t) Q = (eqOk (.int i) = true ∧ eqOk (.str t) = true ∧ Q (.bl (deq (.int i) (.str t)))) := rfl
theorem fEq_int_bl (i : Int) (c : Bool) (Q : D → Prop) : fEq (.int i) (.bl c) Q = (eqOk (.int i) = true ∧ eqOk (.bl c) = true ∧ Q (.bl (deq (.int i) (.bl c)))) := rfl
theorem fEq_non_tup (ys : List D) (Q : D → Prop) : fEq .non (.tup ys) Q = (eqOk .non = true ∧ eqOk (.tup ys) = true ∧ Q (.bl (deq .non (.tup ys)))) := rfl
theorem fEq_non_lst (ys : List D) (Q : D → Prop) : fEq .non (.lst ys) Q = (eqOk .non = true ∧ eqOk (.lst ys) = true ∧ Q (.bl (deq .non (.lst ys)))) := rfl
theorem fEq_non_int (j : Int) (Q : D → Prop) : fEq .non (.int j) Q = (eqOk .non = true ∧ eqOk (.int j) = true ∧ Q (.bl (deq .non (.int j)))) := rfl
theorem fEq_non_non  (Q : D → Prop) : fEq .non .non Q = (eqOk .non = true ∧ eqOk .non = true ∧ Q (.bl (deq .non .non))) := rfl
theorem fEq_non_str (t : Str) (Q : D → Prop) : fEq .non (.str t) Q = (eqOk .non = true ∧ eqOk (.str t) = true ∧ Q (.bl (deq .non (.str t)))) := rfl
theorem fEq_non_bl (c : Bool) (Q : D → Prop) : fEq .non (.bl c) Q = (eqOk .non = true ∧ eqOk (.bl c) = true ∧ Q (.bl (deq .non (.bl c)))) := rfl
theorem fEq_str_tup (s : Str) (ys : List D) (Q : D → Prop) : fEq (.str s) (.tup ys) Q = (eqOk (.str s) = true ∧ eqOk (.tup ys) = true ∧ Q (.bl (deq (.str s) (.tup ys)))) := rfl
theorem fEq_str_lst (s : Str) (ys : List D) (Q : D → Prop) : fEq (.str s) (.lst ys) Q = (eqOk (.str s) = true ∧ eqOk (.lst ys) = true ∧ Q (.bl (deq (.str s) (.lst ys)))) := rfl
theorem fEq_str_int (s : Str) (j : Int) (Q : D → Prop) : fEq (.str s) (.int j) Q = (eqOk (.str s) = true ∧ eqOk (.int j) = true ∧ Q (.bl (deq (.str s) (.int j)))) := rfl
theorem fEq_str_non (s : Str) (Q : D → Prop) : fEq (.str s) .non Q = (eqOk (.str s) = true ∧ eqOk .non = true ∧ Q (.bl (deq (.str s) .non))) := rfl
theorem fEq_str_bl (s : Str) (c : Bool) (Q : D → Prop) : fEq (.str s) (.bl c) Q = (eqOk (.str s) = true ∧ eqOk (.bl c) = true ∧ Q (.bl (deq (.str s) (.bl c)))) := rfl
theorem fEq_bl_tup (b : Bool) (ys : List D) (Q : D → Prop) : fEq (.bl b) (.tup ys) Q = (eqOk (.bl b) = true ∧ eqOk (.tup ys) = true ∧ Q (.bl (deq (.bl b) (.tup ys)))) := rfl
theorem fEq_bl_lst (b : Bool) (ys : List D) (Q : D → Prop) : fEq (.bl b) (.lst ys) Q = (eqOk (.bl b) = true ∧ eqOk (.lst ys) = true ∧ Q (.bl (deq (.bl b) (.lst ys)))) := rfl
theorem fEq_bl_int (b : Bool) (j : Int) (Q : D → Prop) : fEq (.bl b) (.int j) Q = (eqOk (.bl b) = true ∧ eqOk (.int j) = true ∧ Q (.bl (deq (.bl b) (.int j)))) := rfl
theorem fEq_bl_non (b : Bool) (Q : D → Prop) : fEq (.bl b) .non Q = (eqOk (.bl b) = true ∧ eqOk .non = true ∧ Q (.bl (deq (.bl b) .non))) := rfl
theorem fEq_bl_str (b : Bool) (t : Str) (Q : D → Prop) : fEq (.bl b) (.str t) Q = (eqOk (.bl b) = true ∧ eqOk (.str t) = true ∧ Q (.bl (deq (.bl b) (.str t)))) := rfl
theorem fNe_int (x y : Int) (Q : D → Prop) : fNe (.int x) (.int y) Q = Q (.bl (!decide (x = y))) := rfl
theorem fNe_str (x y : Str) (Q : D → Prop) : fNe (.str x) (.str y) Q = Q (.bl (!decide (x = y))) := rfl
theorem fNe_bl (x y : Bool) (Q : D → Prop) : fNe (.bl x) (.bl y) Q = Q (.bl (!decide (x = y))) := rfl
theorem fNe_tup_tup (xs : List D) (ys : List D) (Q : D → Prop) : fNe (.tup xs) (.tup ys) Q = (eqOk (.tup xs) = true ∧ eqOk (.tup ys) = true ∧ Q (.bl (!deq (.tup xs) (.tup ys)))) := rfl
theorem fNe_tup_lst (xs : List D) (ys : List D) (Q : D → Prop) : fNe (.tup xs) (.lst ys) Q = (eqOk (.tup xs) = true ∧ eqOk (.lst ys) = true ∧ Q (.bl (!deq (.tup xs) (.lst ys)))) := rfl
theorem fNe_tup_int (xs : List D) (j : Int) (Q : D → Prop) : fNe (.tup xs) (.int j) Q = (eqOk (.tup xs) = true ∧ eqOk (.int j) = true ∧ Q (.bl (!deq (.tup xs) (.int j)))) := rfl
theorem fNe_tup_non (xs : List D) (Q : D → Prop) : fNe (.tup xs) .non Q = (eqOk (.tup xs) = true ∧ eqOk .non = true ∧ Q (.bl (!deq (.tup xs) .non))) := rfl
theorem fNe_tup_str (xs : List D) (t : Str) (Q : D → Prop) : fNe (.tup xs) (.str t) Q = (eqOk (.tup xs) = true ∧ eqOk (.str t) = true ∧ Q (.bl (!deq (.tup xs) (.str t)))) := rfl
theorem fNe_tup_bl (xs : List D) (c : Bool) (Q : D → Prop) : fNe (.tup xs) (.bl c) Q = (eqOk (.tup xs) = true ∧ eqOk (.bl c) = true ∧ Q (.bl (!deq (.tup xs) (.bl c)))) := rfl
theorem fNe_lst_tup (xs : List D) (ys : List D) (Q : D → Prop) : fNe (.lst xs) (.tup ys) Q = (eqOk (.lst xs) = true ∧ eqOk (.tup ys) = true ∧ Q (.bl (!deq (.lst xs) (.tup ys)))) := rfl
theorem fNe_lst_lst (xs : List D) (ys : List D) (Q : D → Prop) : fNe (.lst xs) (.lst ys) Q = (eqOk (.lst xs) = true ∧ eqOk (.lst ys) = true ∧ Q (.bl (!deq (.lst xs) (.lst ys)))) := rfl
theorem fNe_lst_int (xs : List D) (j : Int) (Q : D → Prop) : fNe (.lst xs) (.int j) Q = (eqOk (.lst xs) = true ∧ eqOk (.int j) = true ∧ Q (.bl (!deq (.lst xs) (.int j)))) := rfl
theorem fNe_lst_non (xs : List D) (Q : D → Prop) : fNe (.lst xs) .non Q = (eqOk (.lst xs) = true ∧ eqOk .non = true ∧ Q (.bl (!deq (.lst xs) .non))) := rfl
theorem fNe_lst_str (xs : List D) (t : Str) (Q : D → Prop) : fNe (.lst xs) (.str t) Q = (eqOk (.lst xs) = true ∧ eqOk (.str t) = true ∧ Q (.bl (!deq (.lst xs) (.str t)))) := rfl
theorem fNe_lst_bl (xs : List D) (c : Bool) (Q : D → Prop) : fNe (.lst xs) (.bl c) Q = (eqOk (.lst xs) = true ∧ eqOk (.bl c) = true ∧ Q (.bl (!deq (.lst xs) (.bl c)))) := rfl
theorem fNe_int_tup (i : Int) (ys : List D) (Q : D → Prop) : fNe (.int i) (.tup ys) Q = (eqOk (.int i) = true ∧ eqOk (.tup ys) = true ∧ Q (.bl (!deq (.int i) (.tup ys)))) := rfl
theorem fNe_int_lst (i : Int) (ys : List D) (Q : D → Prop) : fNe (.int i) (.lst ys) Q = (eqOk (.int i) = true ∧ eqOk (.lst ys) = true ∧ Q (.bl (!deq (.int i) (.lst ys)))) := rfl
theorem fNe_int_non (i : Int) (Q : D → Prop) : fNe (.int i) .non Q = (eqOk (.int i) = true ∧ eqOk .non = true ∧ Q (.bl (!deq (.int i) .non))) := rfl
theorem fNe_int_str (i : Int) (t : Str) (Q : D → Prop) : fNe (.int i) (.str t) Q = (eqOk (.int i) = true ∧ eqOk (.str t) = true ∧ Q (.bl (!deq (.int i) (.str t)))) := rfl
theorem fNe_int_bl (i : Int) (c : Bool) (Q : D → Prop) : fNe (.int i) (.bl c) Q = (eqOk (.int i) = true ∧ eqOk (.bl c) = true ∧ Q (.bl (!deq (.int i) (.bl c)))) := rfl
theorem fNe_non_tup (ys : List D) (Q : D → Prop) : fNe .non (.tup ys) Q = (eqOk .non = true ∧ eqOk (.tup ys) = true ∧ Q (.bl (!deq .non (.tup ys)))) := rfl
theorem fNe_non_lst (ys : List D) (Q : D → Prop) : fNe .non (.lst ys) Q = (eqOk .non = true ∧ eqOk (.lst ys) = true ∧ Q (.bl (!deq .non (.lst ys)))) := rfl
theorem fNe_non_int (j : Int) (Q : D → Prop) : fNe .non (.int j) Q = (eqOk .non = true ∧ eqOk (.int j) = true ∧ Q (.bl (!deq .non (.int j)))) := rfl
theorem fNe_non_non  (Q : D → Prop) : fNe .non .non Q = (eqOk .non = true ∧ eqOk .non = true ∧ Q (.bl (!deq .non .non))) := rfl
theorem fNe_non_str (t : Str) (Q : D → Prop) : fNe .non (.str t) Q = (eqOk .non = true ∧ eqOk (.str t) = true ∧ Q (.bl (!deq .non (.str t)))) := rfl
theorem fNe_non_bl (c : Bool) (Q : D → Prop) : fNe .non (.bl c) Q = (eqOk .non = true ∧ eqOk (.bl c) = true ∧ Q (.bl (!deq .non (.bl c)))) := rfl
theorem fNe_str_tup (s : Str) (ys : List D) (Q : D → Prop) : fNe (.str s) (.tup ys) Q = (eqOk (.str s) = true ∧ eqOk (.tup ys) = true ∧ Q (.bl (!deq (.str s) (.tup ys)))) := rfl
theorem fNe_str_lst (s : Str) (ys : List D) (Q : D → Prop) : fNe (.str s) (.lst ys) Q = (eqOk (.str s) = true ∧ eqOk (.lst ys) = true ∧ Q (.bl (!deq (.str s) (.lst ys)))) := rfl
theorem fNe_str_int (s : Str) (j : Int) (Q : D → Prop) : fNe (.str s) (.int j) Q = (eqOk (.str s) = true ∧ eqOk (.int j) = true ∧ Q (.bl (!deq (.str s) (.int j)))) := rfl
theorem fNe_str_non (s : Str) (Q : D → Prop) : fNe (.str s) .non Q = (eqOk (.str s) = true ∧ eqOk .non = true ∧ Q (.bl (!deq (.str s) .non))) := rfl
theorem fNe_str_bl (s : Str) (c : Bool) (Q : D → Prop) : fNe (.str s) (.bl c) Q = (eqOk (.str s) = true ∧ eqOk (.bl c) = true ∧ Q (.bl (!deq (.str s) (.bl c)))) := rfl
theorem fNe_bl_tup (b : Bool) (ys : List D) (Q : D → Prop) : fNe (.bl b) (.tup ys) Q = (eqOk (.bl b) = true ∧ eqOk (.tup ys) = true ∧ Q (.bl (!deq (.bl b) (.tup ys)))) := rfl
theorem fNe_bl_lst (b : Bool) (ys : List D) (Q : D → Prop) : fNe (.bl b) (.lst ys) Q = (eqOk (.bl b) = true ∧ eqOk (.lst ys) = true ∧ Q (.bl (!deq (.bl b) (.lst ys)))) := rfl
theorem fNe_bl_int (b : Bool) (j : Int) (Q : D → Prop) : fNe (.bl b) (.int j) Q = (eqOk (.bl b) = true ∧ eqOk (.int j) = true ∧ Q (.bl (!deq (.bl b) (.int j)))) := rfl
theorem fNe_bl_non (b : Bool) (Q : D → Prop) : fNe (.bl b) .non Q = (eqOk (.bl b) = true ∧ eqOk .non = true ∧ Q (.bl (!deq (.bl b) .non))) := rfl
theorem fNe_bl_str (b : Bool) (t : Str) (Q : D → Prop) : fNe (.bl b) (.str t) Q = (eqOk (.bl b) = true ∧ eqOk (.str t) = true ∧ Q (.bl (!deq (.bl b) (.str t)))) := rfl
theorem fLt_int (i j : Int) (Q : D → Prop) : fLt (.int i) (.int j) Q = Q (.bl (decide (i < j))) := rfl
theorem fIx_tup (xs : List D) (i : Int) (Q : D → Prop) : fIx (.tup xs) (.int i) Q = (match L2.atI xs i with
    | some d => Q d
    | none => False) := rfl
theorem fSl_tup (xs : List D) (lo hi : Option Int) (Q : D → Prop) : fSl (.tup xs) lo hi Q = Q (.tup (cutD xs lo hi)) := rfl
theorem fLen_tup (xs : List D) (Q : D → Prop) : fLen [.tup xs] Q = Q (.int xs.length) := rfl
theorem fTuple_tup (xs : List D) (Q : D → Prop) : fTuple [.tup xs] Q = Q (.tup xs) := rfl
theorem fRev_tup (xs : List D) (Q : D → Prop) : fRev (.tup xs) Q = Q (.tup xs.reverse) := rfl
theorem fIx_lst (xs : List D) (i : Int) (Q : D → Prop) : fIx (.lst xs) (.int i) Q = (match L2.atI xs i with
    | some d => Q d
    | none => False) := rfl
theorem fSl_lst (xs : List D) (lo hi : Option Int) (Q : D → Prop) : fSl (.lst xs) lo hi Q = Q (.lst (cutD xs lo hi)) := rfl
theorem fLen_lst (xs : List D) (Q : D → Prop) : fLen [.lst xs] Q = Q (.int xs.length) := rfl
theorem fTuple_lst (xs : List D) (Q : D → Prop) : fTuple [.lst xs] Q = Q (.tup xs) := rfl
theorem fRev_lst (xs : List D) (Q : D → Prop) : fRev (.lst xs) Q = Q (.lst xs.reverse) := rfl
theorem fIx_str (z : Str) (i : Int) (Q : D → Prop) : fIx (.str z) (.int i) Q = (z.length ≤ sizeLine ∧ match L2.atI z.cps.toList i with
    | some c => Q (.str ⟨#[c]⟩)
    | none => False) := rfl
theorem fSl_str (z : Str) (lo hi : Option Int) (Q : D → Prop) : fSl (.str z) lo hi Q = (z.length ≤ sizeLine ∧ Q (.str (cutS z lo hi))) := rfl
theorem fLen_str (z : Str) (Q : D → Prop) : fLen [.str z] Q = (z.length ≤ sizeLine ∧ Q (.int z.length)) := rfl
theorem fInt_int (i : Int) (Q : D → Prop) : fInt [.int i] Q = Q (.int i) := rfl
theorem fInt_bl (b : Bool) (Q : D → Prop) : fInt [.bl b] Q = Q (.int (if b then 1 else 0)) := rfl
end MR
/-! squares -/
namespace MR
open PySem PySem.Spec L2
theorem wor_set (b : Int) : ∀ (l : List Int) (k : Nat) (o v : Int), l[k]? = some o → wor b (l.set k (o + v)) = wor b l + b ^ k * v
  | [], k, o, v, h => by simp at h
  | x :: r, 0, o, v, h => by
    simp only [List.getElem?_cons_zero, Option.some.injEq] at h
    subst h
    show x + v + b * wor b r = x + b * wor b r + b ^ 0 * v
    rw [Int.pow_zero]
    omega
  | x :: r, k + 1, o, v, h => by
    have ih := wor_set b r k o v (by simpa using h)
    show x + b * wor b (r.set k (o + v)) = x + b * wor b r + b ^ (k + 1) * v
    rw [ih, Int.mul_add, Int.pow_succ, Int.mul_comm (b ^ k) b, Int.mul_assoc]
    omega
/-- a limb's part of a square: itself, the later ones twice -/
def dbl : List Int → List Int
  | [] => []
  | x :: r => x :: r.map (2 * ·)
theorem wor_twice (b : Int) : ∀ l : List Int, wor b (l.map (2 * ·)) = 2 * wor b l
  | [] => rfl
  | x :: r => by
    show 2 * x + b * wor b (r.map (2 * ·)) = 2 * (x + b * wor b r)
    rw [wor_twice b r, Int.mul_add, ← Int.mul_assoc, ← Int.mul_assoc, Int.mul_comm b 2]
theorem dbl_at {l : List Int} {j : Nat} {y : Int} (h : l[j]? = some y) : (dbl l)[j]? = some (y * (1 + if decide ((0:Int) < (j : Int)) = true then 1 else 0)) := by
  cases l with
  | nil => simp at h
  | cons x r =>
    cases j with
    | zero =>
      simp only [List.getElem?_cons_zero, Option.some.injEq] at h
      subst h
      simp [dbl]
    | succ j =>
      have h2 : r[j]? = some y := by simpa using h
      have c : decide ((0:Int) < ((j + 1 : Nat) : Int)) = true := decide_eq_true (by omega)
      rw [if_pos c]
      show (r.map (2 * ·))[j]? = _
      rw [List.getElem?_map, h2]
      show some (2 * y) = some (y * (1 + 1))
      congr 1
      omega
theorem sq_step (b x t : Int) (i : Nat) : b ^ (2 * i) * (x * (x + b * (2 * t))) + b ^ (2 * (i + 1)) * (t * t) = b ^ (2 * i) * ((x + b * t) * (x + b * t)) := by
  have e : b ^ (2 * (i + 1)) = b ^ (2 * i) * (b * b) := by
    rw [Nat.mul_add, Int.pow_add]
    congr 1
    rw [show 2 * 1 = 1 + 1 from rfl, Int.pow_succ, Int.pow_succ, Int.pow_zero, Int.one_mul]
  rw [e, Int.mul_assoc, ← Int.mul_add]
  congr 1
  rw [Int.add_mul, Int.mul_add, Int.mul_add, Int.mul_add]
  have a1 : x * (b * (2 * t)) = 2 * (x * (b * t)) := by
    rw [← Int.mul_assoc b 2 t, Int.mul_comm b 2, Int.mul_assoc, ← Int.mul_assoc x 2, Int.mul_comm x 2, Int.mul_assoc]
  have a2 : b * t * x = x * (b * t) := Int.mul_comm _ _
  have a3 : b * b * (t * t) = b * t * (b * t) := by
    rw [Int.mul_assoc, Int.mul_assoc, ← Int.mul_assoc b t t, ← Int.mul_assoc t b t, Int.mul_comm b t]
  rw [a1, a2, a3]
  omega
theorem sq_add (F P x s B y z : Int) : F + P * (x * s) + P * B * (x * y * z) = F + P * (x * (s + B * (y * z))) := by
  rw [Int.mul_add x, Int.mul_add P, Int.mul_left_comm x B, Int.mul_assoc x y z, Int.mul_assoc P B, Int.add_assoc]
def aSquared : ASp DWd := fun ds ω Q _ => ∃ ns b, ds = [row ns, .int b] ∧ base_ b ∧ isRow b ns ∧ ns.length ≤ 10000 ∧ Q (.tup [row (digs b (wor b ns * wor b ns)), .int ((ns.length : Int) * ((ns.length : Int) + 1) / 2)]) ω
end MR
/-! data that == may look at -/
namespace MR
open PySem PySem.Spec L2
structure Eo (k : Nat) (d : D) : Prop where
  pu : pureD d = true
  la : (toP d).canLay0 = true
  dp : (toP d).depth ≤ k
structure Eos (k : Nat) (ds : List D) : Prop where
  pu : pureDs ds = true
  la : PyData.canLayAll0 (toPs ds) = true
  dp : PyData.depthAll (toPs ds) ≤ k
theorem Eos.nil {k : Nat} : Eos k [] := ⟨by rw [pureDs], by rw [toPs, PyData.canLayAll0], by rw [toPs, PyData.depthAll]; omega⟩
theorem Eos.cons {k : Nat} {d : D} {ds : List D} (h : Eo k d) (r : Eos k ds) : Eos k (d :: ds) :=
  ⟨by rw [pureDs, h.pu, r.pu]; rfl, by rw [toPs, PyData.canLayAll0, h.la, r.la]; rfl, by rw [toPs, PyData.depthAll]; exact Nat.max_le.mpr ⟨h.dp, r.dp⟩⟩
theorem Eo.int {k : Nat} (i : Int) (hk : 1 ≤ k) : Eo k (.int i) := ⟨by rw [pureD], by rw [toP, PyData.canLay0], by rw [toP, PyData.depth]; omega⟩
theorem Eo.bl {k : Nat} (b : Bool) (hk : 1 ≤ k) : Eo k (.bl b) := ⟨by rw [pureD], by rw [toP, PyData.canLay0], by rw [toP, PyData.depth]; omega⟩
theorem Eo.tup {k : Nat} {ds : List D} (h : Eos k ds) : Eo (k + 1) (.tup ds) := ⟨by rw [pureD]; exact h.pu, by rw [toP, PyData.canLay0]; exact h.la, by rw [toP, PyData.depth]; have := h.dp; omega⟩
theorem Eo.lst {k : Nat} {ds : List D} (h : Eos k ds) : Eo (k + 1) (.lst ds) := ⟨by rw [pureD]; exact h.pu, by rw [toP, PyData.canLay0]; exact h.la, by rw [toP, PyData.depth]; have := h.dp; omega⟩
theorem Eo.mono {k j : Nat} {d : D} (h : Eo k d) (q : k ≤ j) : Eo j d := ⟨h.pu, h.la, Nat.le_trans h.dp q⟩
theorem Eos.ints {k : Nat} (hk : 1 ≤ k) : ∀ ns : List Int, Eos k (ns.map D.int)
  | [] => .nil
  | n :: ns => .cons (.int n hk) (Eos.ints hk ns)
theorem Eo.row {k : Nat} (ns : List Int) (hk : 2 ≤ k) : Eo k (row ns) := (Eo.tup (Eos.ints (Nat.le_refl 1) ns)).mono hk
theorem Eo.ok {k : Nat} {d : D} (h : Eo k d) (hk : k ≤ 64) : eqOk d = true := by
  unfold eqOk SeqAt.shaped
  rw [h.pu, h.la, Bool.true_and, Bool.true_and, decide_eq_true_eq]
  exact Nat.le_trans h.dp hk
end MR
/-! more rules: what is never come to; reversed, zip; x //= e; two targets -/
namespace MR
open PySem PySem.Spec L2 RZ
section
variable {wd : Wd} {X : Cx} {W : WX}
def sNever : AS wd := fun _ _ _ => False
def gNever : AE wd := fun _ _ _ _ => False
def tNev : AT wd := fun _ _ _ _ => False
theorem gs_never {st : Stmt} : GS wd X W st sNever := ⟨_, ps_never, fun _ _ _ _ _ _ _ _ _ _ q _ => q.elim⟩
theorem ge_never {e : Expr} : GE wd X W e gNever := ⟨fun _ _ _ => False, ⟨fun _ _ _ _ _ _ h => h.elim⟩, fun _ _ _ _ _ _ _ _ _ _ _ hg _ _ => hg.elim⟩
theorem gt_never {e : Expr} : GT wd X W e tNev := ⟨fun _ _ _ => False, ⟨fun _ _ _ _ _ _ h => h.elim⟩, fun _ _ _ _ _ _ _ _ _ _ _ hg _ _ => hg.elim⟩
end
/-! what is walked: a judgement of its own -/
structure WD (wd : Wd) (K : PySem.W.Frag) (B : Hp) (J : It) (ds : List D) : Prop where
  ex : ∃ (G : Hp → Prop) (Y : Nat → Hp → V → Hp → Prop), Walk J ds.length G Y ∧ (∀ F' B' ω' H', Same B B' → Hst wd K F' B' ω' H' → G H') ∧
    ∀ i F' B' ω' H v H', i < ds.length → Same B B' → Hst wd K F' B' ω' H → Y i H v H' → ∃ B'' d, Same B' B'' ∧ Hst wd K F' B'' ω' H' ∧ ds[i]? = some d ∧ Rep K B'' v d
def RI (wd : Wd) (K : PySem.W.Frag) (W : WX) (wi : TI) (g : AA wd) : Prop := ∀ F B ρ ω σ H Qa Ea R, Hst wd K F B ω H → EnvOk K F B ρ σ → g ρ ω Qa Ea →
  (∀ B' ω' H' J ds, Same B B' → Hst wd K F B' ω' H' → WD wd K B' J ds → Qa ds ω' → R J H') → XOk wd K F B Ea (fun c d h => W c d σ h) → wi σ H R
structure GI (wd : Wd) (X : Cx) (W : WX) (tg it : Expr) (g : AA wd) : Prop where
  ex : ∃ wi, PI X tg it wi ∧ RI wd X.K W wi g
section
variable {wd : Wd} {K : PySem.W.Frag} {W : WX} {t : AG} {g : TG} {body : AS wd} {tb : TS}
def sForG (g : AA wd) (t : AG) (body : AS wd) : AS wd := fun Da ρ ω => g ρ ω (fun ds ω1 => aFor ds t body Da ρ ω1) (fun x ω' => Da.ex x ρ ω')
theorem rs_forG {wi : TI} {gi : AA wd} (hi : RI wd K W wi gi) (hg : RG wd K g t) (hb : RS wd K W tb body) : RS wd K W (tFor wi g tb) (sForG gi t body) := fun F0 F B ρ ω σ H Da E s q k =>
  hi F B ρ ω σ H _ _ _ s.st s.env q (fun B1 ω1 H1 J ds s1 hs1 w g1 => by
    obtain ⟨Iv, h0, hs, hd⟩ := g1
    obtain ⟨G, Y, wk, hG, hY⟩ := w.ex
    refine for_it wk (Pv wd K F0 B1 Iv) ⟨F, B1, ρ, ω1, Same.refl _, s.up s1 hs1, h0⟩ (fun i σ H _ ⟨F', B', ρ', ω', m, s', _⟩ => hG _ _ _ _ m s'.st) (fun i x σ H H' hi p y => ?_) fun σ H ⟨F', B', ρ', ω', m, s', iv⟩ => k.nx (s1.trans m) s' (hd _ _ iv)
    obtain ⟨F', B', ρ', ω', m, s', iv⟩ := p
    obtain ⟨B'', d, m2, st2, hd2, r⟩ := hY i F' B' ω' H x H' hi m s'.st y
    exact turn_of hb hg (k.mono s1) hs hd2 ⟨F', B'', ρ', ω', m.trans m2, s'.up m2 st2, r, iv⟩) (k.xok s)
theorem gs_forG {X : Cx} {tg e : Expr} {body : List Stmt} {pos : Pos} {gb : AS wd} {gi : AA wd} (hp : PassesOwn (model X.prog X.w) X.A X.env X.xe) (hc : X.calm = true) (hi : GI wd X W tg e gi) (hg : GG wd X tg t) (hb : GSs wd X W body gb)
    (hs : ∀ x, foldedSetIterable e X.env x = pure x := by intro _; rfl) : GS wd X W (.For tg e body [] pos) (sForG gi t gb) :=
  let ⟨_, pi, ri⟩ := hi.ex; let ⟨_, pg, rg⟩ := hg.ex; let ⟨_, pb, rb⟩ := hb.ex; ⟨_, ps_for hp hc pi pg pb hs, rs_forG ri rg rb⟩
end
section
variable {wd : Wd} {X : Cx} {W : WX} {pos : Pos} {elt tg iter : Expr} {ifs : List Expr} {own : List (Str × Nat)} {t : TG} {a : AG} {gi : AA wd} {gel : AE wd} {gt : AT wd} {scope : Scope}
def gCompG (g : AA wd) (t : AG) (tt : AT wd) (te : AE wd) (vs : List Nat) : AA wd := fun ρ ω Q E => g ρ ω (fun ds ω1 => aComp ds t tt te vs ρ ω1 Q E) E
theorem rf_compG {K : PySem.W.Frag} {ti : TI} {tt : TT} {te : TE} {vs : List Nat} (ri : RI wd K W ti gi) (rg : RG wd K t a) (ro : Only vs t) (rt : RT wd K W0 tt gt) (re : RE wd K W0 te gel) : RF wd K W (tLc ti t tt te vs) (gCompG gi a gt gel vs) := fun F B ρ ω σ H Qa Ea Q hst henv q hk hx => ri F B ρ ω σ H _ _ _ hst henv q (fun B1 ω1 H1 J ds s1 hs1 w g1 => by
  have hk1 : KFOk wd K F B1 Qa Q := fun B2 ω2 H2 p vs ds m => hk B2 ω2 H2 p vs ds (s1.trans m)
  obtain ⟨Iv, h0, hstep, hd⟩ := g1
  obtain ⟨G, Y, wk, hG, hY⟩ := w.ex
  intro Dl hD
  have hF := hs1.sF.free hD
  refine lc_it wk (Cv wd K F B1 Dl Iv) ⟨B1, ω1, [], [], Same.refl _, hs1.owned hD, .nil, h0⟩ (fun i H _ ⟨B', ω', accV, acc, m, st, _, _⟩ => hG _ _ _ _ m st) (fun i x H H' hi p y => ?_) fun H p => comp_end hF hk1 hd p
  obtain ⟨B', ω', accV, acc, m, st, ra, iv⟩ := p
  obtain ⟨B'', d, m2, st2, hd2, r⟩ := hY i _ B' ω' H x H' hi m st y
  exact comp_turn hF (henv.mono s1) rg ro rt re hstep hd2 ⟨B'', ω', accV, acc, m.trans m2, st2, ra.mono m2, r, iv⟩) hx
theorem gf_compG (hc : X.calm = true) (hN : X.N.Nodup) (hi : GI wd X W tg iter gi) (ok : BlkOk X.N X.env.scope scope own) (hg : Blk X scope fun Y => GC wd Y tg (own.map (·.2)) t a) (ht : Blk X scope fun Y => GTs wd Y W0 ifs gt) (hel : Blk X scope fun Y => GE wd Y W0 elt gel)
    (hs : ∀ x, foldedSetIterable iter X.env x = pure x := by intro _; rfl) : GF wd X W (.ListComp elt [⟨tg, iter, ifs, 0⟩] scope pos) (gCompG gi a gt gel (own.map (·.2))) := by
  obtain ⟨ti, pi, ri⟩ := hi.ex
  obtain ⟨tt, pt, rt⟩ := blk_gt ht
  obtain ⟨te, pe, re⟩ := blk_ge hel
  exact ⟨_, pe_lc hc hN pi ok (fun s H C cl fp => (hg s H C cl fp).pg) pt pe hs, rf_compG ri (hg X.s_0 (fun _ => none) 0 [] []).rg (hg X.s_0 (fun _ => none) 0 [] []).only rt re⟩
/-- x = [..] on one line, x a local -/
theorem gs_setLc (i : Nat) {y : Str} {py spos : Pos} (hc : X.calm = true) (hN : X.N.Nodup) (hi : GI wd X W tg iter gi) (ok : BlkOk X.N X.env.scope scope own) (hg : Blk X scope fun Y => GC wd Y tg (own.map (·.2)) t a) (ht : Blk X scope fun Y => GTs wd Y W0 ifs gt) (hel : Blk X scope fun Y => GE wd Y W0 elt gel)
    (hy : X.N[i]? = some y := by rfl) (hyl : X.env.scope.names.lookup y = some .local := by rfl) (hsw : swapsWith (.ListComp elt [⟨tg, iter, ifs, 0⟩] scope pos) (some (.Name y py)) spos.line X.env = pure true := by exact sw_true rfl rfl rfl rfl)
    (hs : ∀ x, foldedSetIterable iter X.env x = pure x := by intro _; rfl) : GS wd X W (.Assign [.Name y py] (.ListComp elt [⟨tg, iter, ifs, 0⟩] scope pos) spos) (sSet i (gFz (gCompG gi a gt gel (own.map (·.2))))) := by
  obtain ⟨ti, pi, ri⟩ := hi.ex
  obtain ⟨tt, pt, rt⟩ := blk_gt ht
  obtain ⟨te, pe, re⟩ := blk_ge hel
  have r := rf_compG (W := W) ri (hg X.s_0 (fun _ => none) 0 [] []).rg (hg X.s_0 (fun _ => none) 0 [] []).only rt re
  refine ⟨_, ps_setLc hc hN hy hyl hsw pi ok (fun s H C cl fp => (hg s H C cl fp).pg) pt pe hs, fun F0 F B ρ ω σ H Da E s q k => r F B ρ ω σ H _ _ _ s.st s.env q (fun B1 ω1 H1 p vs ds s1 hs1 hp r1 g1 => ?_) (k.xok s)⟩
  obtain ⟨s2, h2⟩ := hs1.new (o := .lst vs) hp
  exact k.nx (s1.trans s2) ((s.up (s1.trans s2) h2).set i (.lst upd_same (r1.mono s2))) g1
theorem gs_ownLc (i : Nat) {y : Str} {py spos : Pos} (hc : X.calm = true) (hN : X.N.Nodup) (hi : GI wd X W tg iter gi) (ok : BlkOk X.N X.env.scope scope own) (hg : Blk X scope fun Y => GC wd Y tg (own.map (·.2)) t a) (ht : Blk X scope fun Y => GTs wd Y W0 ifs gt) (hel : Blk X scope fun Y => GE wd Y W0 elt gel)
    (hy : X.N[i]? = some y := by rfl) (hyl : X.env.scope.names.lookup y = some .local := by rfl) (hsw : swapsWith (.ListComp elt [⟨tg, iter, ifs, 0⟩] scope pos) (some (.Name y py)) spos.line X.env = pure true := by exact sw_true rfl rfl rfl rfl)
    (hs : ∀ x, foldedSetIterable iter X.env x = pure x := by intro _; rfl) : GS wd X W (.Assign [.Name y py] (.ListComp elt [⟨tg, iter, ifs, 0⟩] scope pos) spos) (sOwn i (gCompG gi a gt gel (own.map (·.2)))) := by
  obtain ⟨ti, pi, ri⟩ := hi.ex
  obtain ⟨tt, pt, rt⟩ := blk_gt ht
  obtain ⟨te, pe, re⟩ := blk_ge hel
  have r := rf_compG (W := W) ri (hg X.s_0 (fun _ => none) 0 [] []).rg (hg X.s_0 (fun _ => none) 0 [] []).only rt re
  refine ⟨_, ps_setLc hc hN hy hyl hsw pi ok (fun s H C cl fp => (hg s H C cl fp).pg) pt pe hs, fun F0 F B ρ ω σ H Da E s q k => r F B ρ ω σ H _ _ _ s.st s.env q (fun B1 ω1 H1 p vs ds s1 hs1 hp r1 g1 => ?_) (k.xok s)⟩
  exact k.nx s1 ((s.up s1 hs1).setOwn i (hs1.owned hp) r1 (s.f0.free (hs1.sF.free hp)) fun j l' a b => by
      obtain ⟨p', vs', a', b', c'⟩ := s.env.ent j _ a
      rw [b] at a'
      cases a'
      rw [hs1.sF _ _ b'] at hp
      cases hp) g1
end
/-! the kinds of what is walked -/
theorem Walk.cast {J : It} {n m : Nat} {G : Hp → Prop} {Y : Nat → Hp → V → Hp → Prop} (e : n = m) (w : Walk J n G Y) : Walk J m G Y := e ▸ w
section
variable {wd : Wd} {X : Cx} {W : WX} {tg e e2 e3 : Expr} {p pos tpos : Pos} {elts : List Expr} {kk : Nat}
theorem wd_tup {K : PySem.W.Frag} {B : Hp} {p : Addr} {vs : List V} {ds : List D} (h : SqT K B p vs) (r : RepAll K B vs ds) : WD wd K B (Itt K p) ds := by
  refine ⟨_, _, Walk.cast r.length (walk_tup (xs := vs)), fun F' B' ω' H' m st => Same.seqT (m.trans st.sB) h, fun i F' B' ω' H v H' hi m st y => ?_⟩
  obtain ⟨rfl, hv⟩ := y
  have hd := List.getElem?_eq_getElem hi
  obtain ⟨v', e1, e2⟩ := r.get hd
  rw [hv] at e1
  cases e1
  exact ⟨B', _, Same.refl _, st, hd, e2.mono m⟩
theorem wd_lst {K : PySem.W.Frag} {B : Hp} {p : Addr} {vs : List V} {ds : List D} (h : B p = some (.lst vs)) (r : RepAll K B vs ds) : WD wd K B (Itl K p) ds := by
  refine ⟨_, _, Walk.cast r.length (walk_list (xs := vs)), fun F' B' ω' H' m st => SqL.of ((m.trans st.sB) _ _ h), fun i F' B' ω' H v H' hi m st y => ?_⟩
  obtain ⟨rfl, hv⟩ := y
  have hd := List.getElem?_eq_getElem hi
  obtain ⟨v', e1, e2⟩ := r.get hd
  rw [hv] at e1
  cases e1
  exact ⟨B', _, Same.refl _, st, hd, e2.mono m⟩
theorem wd_rng {K : PySem.W.Frag} {B : Hp} (lo : Int) (n : Nat) : WD wd K B (Itr lo n) (rng lo n) := by
  refine ⟨_, _, Walk.cast (rng_len (lo := lo) (n := n)).symm (walk_range (lo := lo) (n := n)), fun _ _ _ _ _ _ => trivial, fun i F' B' ω' H v H' hi m st y => ?_⟩
  obtain ⟨rfl, rfl⟩ := y
  rw [rng_len] at hi
  exact ⟨B', _, Same.refl _, st, rng_at hi, .int _⟩
/-- what an expression's value is walked as -/
def seqD : D → Option (List D)
  | .tup xs => some xs
  | .lst xs => some xs
  | _ => none
def iSeqG (g : AE wd) : AA wd := fun ρ ω Q E => g ρ ω (fun d ω1 => match d with
  | .tup xs => Q xs ω1
  | .lst xs => Q xs ω1
  | _ => False) E
theorem gi_seq {g : AE wd} (h : GE wd X W e g) : GI wd X W tg e (iSeqG g) := by
  obtain ⟨te, pe, re⟩ := h.ex
  refine ⟨_, pi_seq pe, fun F B ρ ω σ H Qa Ea R hs he hg hk hx => re F B ρ ω σ H _ _ _ hs he hg (fun B1 ω1 H1 v1 d1 s1 hs1 r1 g1 => ?_) hx⟩
  cases d1 <;> try exact g1.elim
  case tup xs =>
    cases r1 with
    | tup h1 r1 => exact ⟨_, rfl, .inr ⟨⟨_, Same.seqT hs1.sB h1⟩, hk _ _ _ _ _ s1 hs1 (wd_tup h1 r1) g1⟩⟩
  case lst xs =>
    cases r1 with
    | lst h1 r1 => exact ⟨_, rfl, .inl ⟨⟨_, SqL.of (hs1.sB _ _ h1)⟩, hk _ _ _ _ _ s1 hs1 (wd_lst h1 r1) g1⟩⟩
def iR1G (g : AE wd) : AA wd := fun ρ ω Q E => g ρ ω (fun d ω1 => match d with
  | .int n => -(2 ^ 62) ≤ n ∧ n < 2 ^ 62 ∧ Q (rng 0 n.toNat) ω1
  | _ => False) E
theorem gi_r1 {g : AE wd} (hm : X.mg "range" = none) (h : GE wd X W e g) (hgr : Gl X "range" := by rfl) (hst : starEach [e] X.env = [(false, eval e X.env)] := by rfl) : GI wd X W tg (.Call (.Name "range" p) [e] [] pos) (iR1G g) := by
  obtain ⟨te, pe, re⟩ := h.ex
  refine ⟨_, pi_range1 hgr hm (pa_cons pe pa_nil hst) hst, fun F B ρ ω σ H Qa Ea R hs he hg hk hx => re F B ρ ω σ H _ _ _ hs he hg (fun B1 ω1 H1 v1 d1 s1 hs1 r1 g1 => ?_) hx⟩
  cases d1 <;> try exact g1.elim
  case int n =>
    cases r1
    exact ⟨n, rfl, g1.1, g1.2.1, hk _ _ _ _ _ s1 hs1 (wd_rng 0 _) g1.2.2⟩
def iR2G (g h : AE wd) : AA wd := fun ρ ω Q E => g ρ ω (fun d ω1 => h ρ ω1 (fun f ω2 => match d, f with
  | .int i, .int j => (-(2 ^ 62) ≤ i ∧ i < 2 ^ 62 ∧ -(2 ^ 62) ≤ j ∧ j < 2 ^ 62) ∧ Q (rng i (j - i).toNat) ω2
  | _, _ => False) E) E
theorem gi_r2 {g h : AE wd} (hm : X.mg "range" = none) (h1 : GE wd X W e g) (h2 : GE wd X W e2 h) (hgr : Gl X "range" := by rfl) (hst : starEach [e, e2] X.env = [(false, eval e X.env), (false, eval e2 X.env)] := by rfl) (hst2 : starEach [e2] X.env = [(false, eval e2 X.env)] := by rfl) :
    GI wd X W tg (.Call (.Name "range" p) [e, e2] [] pos) (iR2G g h) := by
  obtain ⟨ta, pa, ra⟩ := h1.ex
  obtain ⟨tb, pb, rb⟩ := h2.ex
  refine ⟨_, pi_range2 hgr hm (pa_cons pa (pa_cons pb pa_nil hst2) (by rw [hst, hst2])) hst hst2, fun F B ρ ω σ H Qa Ea R hs he hg hk hx => ra F B ρ ω σ H _ _ _ hs he hg (fun B1 ω1 H1 v1 d1 s1 hs1 r1 g1 =>
    rb F B1 ρ ω1 σ H1 _ _ _ hs1 (he.mono s1) g1 (fun B2 ω2 H2 v2 d2 s2 hs2 r2 g2 => ?_) (hx.mono s1)) hx⟩
  cases d1 <;> cases d2 <;> try exact g2.elim
  case int.int i j =>
    cases r1
    cases r2
    exact ⟨i, j, rfl, g2.1, hk _ _ _ _ _ (s1.trans s2) hs2 (wd_rng i _) g2.2⟩
/-- zip -/
def zipD (xs ys : List D) : List D := List.zipWith (fun x y => .tup [x, y]) xs ys
theorem zip_len (xs ys : List D) : (zipD xs ys).length = min xs.length ys.length := List.length_zipWith
theorem zip_at {xs ys : List D} {i : Nat} {x y : D} (h1 : xs[i]? = some x) (h2 : ys[i]? = some y) : (zipD xs ys)[i]? = some (.tup [x, y]) := by
  unfold zipD
  rw [List.getElem?_zipWith, h1, h2]
theorem zip_of {xs ys : List D} {i : Nat} {d : D} (h : (zipD xs ys)[i]? = some d) : ∃ x y, xs[i]? = some x ∧ ys[i]? = some y ∧ d = .tup [x, y] := by
  have hi := (List.getElem?_eq_some_iff.mp h).1
  rw [zip_len] at hi
  have h1 := List.getElem?_eq_getElem (by omega : i < xs.length)
  have h2 := List.getElem?_eq_getElem (by omega : i < ys.length)
  rw [zip_at h1 h2] at h
  exact ⟨_, _, h1, h2, (Option.some.inj h).symm⟩
theorem walk_zipT {K : PySem.W.Frag} {a b : Addr} {xs ys : List V} {n : Nat} (hn : n = min xs.length ys.length) : Walk (ItzT K a b) n (fun H => SqT K H a xs ∧ SqT K H b ys) (YPair (fun i => xs[i]?) (fun i => ys[i]?)) := by
  subst hn
  refine ⟨fun i _ hi q => ?_, fun _ q => ⟨xs, ys, q.1, q.2, by omega⟩, fun i H v H' _ q y => ?_⟩
  · have h1 : i < xs.length := by omega
    have h2 : i < ys.length := by omega
    exact ⟨xs, ys, xs[i], ys[i], q.1, q.2, by simp [h1], by simp [h2]⟩
  · obtain ⟨T, x, z, h1, h2, h3, h4, h5⟩ := y
    exact ⟨T, x, z, h1, h2, h3, h4 xs q.1, h5 ys q.2⟩
theorem wd_pair {K : PySem.W.Frag} {B : Hp} {J : It} {us vs : List V} {xs ys : List D} {G : Hp → Prop} (r1 : RepAll K B us xs) (r2 : RepAll K B vs ys) (w : Walk J (min us.length vs.length) G (YPair (fun i => us[i]?) (fun i => vs[i]?)))
    (hG : ∀ F' B' ω' H', Same B B' → Hst wd K F' B' ω' H' → G H') : WD wd K B J (zipD xs ys) := by
  have e : (zipD xs ys).length = min us.length vs.length := by rw [zip_len, r1.length, r2.length]
  refine ⟨_, _, Walk.cast e.symm w, hG, fun i F' B' ω' H v H' hi m st y => ?_⟩
  obtain ⟨T, x, z, rfl, hT, rfl, hx, hz⟩ := y
  rw [zip_len] at hi
  have g1 := List.getElem?_eq_getElem (by omega : i < xs.length)
  have g2 := List.getElem?_eq_getElem (by omega : i < ys.length)
  obtain ⟨u1, f1, q1⟩ := r1.get g1
  obtain ⟨u2, f2, q2⟩ := r2.get g2
  cases (Eq.symm hx).trans f1
  cases (Eq.symm hz).trans f2
  obtain ⟨s2, st2⟩ := st.new (o := .tup [x, z]) hT
  exact ⟨_, _, s2, st2, zip_at g1 g2, .tup (.inl (.inl upd_same)) (.cons (q1.mono (m.trans s2)) (.cons (q2.mono (m.trans s2)) .nil))⟩
def iZipG (g h : AE wd) : AA wd := fun ρ ω Q E => g ρ ω (fun d ω1 => h ρ ω1 (fun f ω2 => match d, f with
  | .tup xs, .tup ys => Q (zipD xs ys) ω2
  | .lst xs, .lst ys => Q (zipD xs ys) ω2
  | _, _ => False) E) E
theorem gi_zip {g h : AE wd} (hm : X.mg "zip" = none) (h1 : GE wd X W e g) (h2 : GE wd X W e2 h) (hgr : Gl X "zip" := by rfl) (hst : starEach [e, e2] X.env = (false, eval e X.env) :: starEach [e2] X.env := by rfl) (hst2 : starEach [e2] X.env = (false, eval e2 X.env) :: starEach [] X.env := by rfl) (hpl : (backTo pos (starEach [e2] X.env)).any (·.1) = false := by rfl) :
    GI wd X W (.Tuple elts kk tpos) (.Call (.Name "zip" p) [e, e2] [] pos) (iZipG g h) := by
  obtain ⟨ta, pa, ra⟩ := h1.ex
  obtain ⟨tb, pb, rb⟩ := h2.ex
  refine ⟨_, pi_zipA hgr hm (pa_cons pa (pa_cons pb pa_nil hst2) hst) hst hpl, fun F B ρ ω σ H Qa Ea R hs he hg hk hx => ra F B ρ ω σ H _ _ _ hs he hg (fun B1 ω1 H1 v1 d1 s1 hs1 r1 g1 =>
    rb F B1 ρ ω1 σ H1 _ _ _ hs1 (he.mono s1) g1 (fun B2 ω2 H2 v2 d2 s2 hs2 r2 g2 => ?_) (hx.mono s1)) hx⟩
  have r1 := r1.mono s2
  cases d1 <;> cases d2 <;> try exact g2.elim
  case tup.tup xs ys =>
    cases r1 with
    | tup h1 r1 =>
      cases r2 with
      | tup h2 r2 => exact ⟨_, _, _, _, rfl, .inr ⟨Same.seqT hs2.sB h1, Same.seqT hs2.sB h2, hk _ _ _ _ _ (s1.trans s2) hs2 (wd_pair r1 r2 (walk_zipT rfl) fun F' B' ω' H' m st => ⟨Same.seqT (m.trans st.sB) h1, Same.seqT (m.trans st.sB) h2⟩) g2⟩⟩
  case lst.lst xs ys =>
    cases r1 with
    | lst h1 r1 =>
      cases r2 with
      | lst h2 r2 => exact ⟨_, _, _, _, rfl, .inl ⟨SqL.of (hs2.sB _ _ h1), SqL.of (hs2.sB _ _ h2), hk _ _ _ _ _ (s1.trans s2) hs2 (wd_pair r1 r2 (walk_zip rfl) fun F' B' ω' H' m st => ⟨SqL.of ((m.trans st.sB) _ _ h1), SqL.of ((m.trans st.sB) _ _ h2)⟩) g2⟩⟩
/-- enumerate, a list or a tuple -/
theorem wd_enum {K : PySem.W.Frag} {B : Hp} {J : It} {vs : List V} {xs : List D} {G : Hp → Prop} (r1 : RepAll K B vs xs) (w : Walk J vs.length G (YPair (fun i => some (.int (i : Nat))) (fun i => vs[i]?)))
    (hG : ∀ F' B' ω' H', Same B B' → Hst wd K F' B' ω' H' → G H') : WD wd K B J (enumD xs) := by
  have e : (enumD xs).length = vs.length := by rw [enum_len, r1.length]
  refine ⟨_, _, Walk.cast e.symm w, hG, fun i F' B' ω' H v H' hi m st y => ?_⟩
  obtain ⟨T, x, z, rfl, hT, rfl, hx, hz⟩ := y
  rw [enum_len] at hi
  have g1 := List.getElem?_eq_getElem hi
  obtain ⟨u1, f1, q1⟩ := r1.get g1
  cases hx
  cases (Eq.symm hz).trans f1
  obtain ⟨s2, st2⟩ := st.new (o := .tup [.int (i : Nat), z]) hT
  exact ⟨_, _, s2, st2, enum_at g1, .tup (.inl (.inl upd_same)) (.cons (.int _) (.cons (q1.mono (m.trans s2)) .nil))⟩
def iEnumG (g : AE wd) : AA wd := fun ρ ω Q E => g ρ ω (fun d ω1 => match d with
  | .tup xs => Q (enumD xs) ω1
  | _ => False) E
theorem gi_enum {g : AE wd} (hm : X.mg "enumerate" = none) (h1 : GE wd X W e g) (hgr : Gl X "enumerate" := by rfl) (hst : starEach [e] X.env = [(false, eval e X.env)] := by rfl) : GI wd X W (.Tuple elts kk tpos) (.Call (.Name "enumerate" p) [e] [] pos) (iEnumG g) := by
  obtain ⟨ta, pa, ra⟩ := h1.ex
  refine ⟨_, pi_enumT hgr hm pa hst, fun F B ρ ω σ H Qa Ea R hs he hg hk hx => ra F B ρ ω σ H _ _ _ hs he hg (fun B1 ω1 H1 v1 d1 s1 hs1 r1 g1 => ?_) hx⟩
  cases d1 <;> try exact g1.elim
  case tup xs =>
    cases r1 with
    | tup h1 r1 => exact ⟨_, _, rfl, Same.seqT hs1.sB h1, hk _ _ _ _ _ s1 hs1 (wd_enum r1 walk_enumT fun F' B' ω' H' m st => Same.seqT (m.trans st.sB) h1) g1⟩
def iEnumLG (g : AE wd) : AA wd := fun ρ ω Q E => g ρ ω (fun d ω1 => match d with
  | .lst xs => Q (enumD xs) ω1
  | _ => False) E
theorem gi_enumL {g : AE wd} (hm : X.mg "enumerate" = none) (h1 : GE wd X W e g) (hgr : Gl X "enumerate" := by rfl) (hst : starEach [e] X.env = [(false, eval e X.env)] := by rfl) : GI wd X W (.Tuple elts kk tpos) (.Call (.Name "enumerate" p) [e] [] pos) (iEnumLG g) := by
  obtain ⟨ta, pa, ra⟩ := h1.ex
  refine ⟨_, pi_enum hgr hm (pa_cons pa pa_nil hst) hst, fun F B ρ ω σ H Qa Ea R hs he hg hk hx => ra F B ρ ω σ H _ _ _ hs he hg (fun B1 ω1 H1 v1 d1 s1 hs1 r1 g1 => ?_) hx⟩
  cases d1 <;> try exact g1.elim
  case lst xs =>
    cases r1 with
    | lst h1 r1 => exact ⟨_, _, rfl, SqL.of (hs1.sB _ _ h1), hk _ _ _ _ _ s1 hs1 (wd_enum r1 walk_enum fun F' B' ω' H' m st => SqL.of ((m.trans st.sB) _ _ h1)) g1⟩
/-- reversed -/
theorem wd_rev {K : PySem.W.Frag} {B : Hp} {J : It} {vs : List V} {xs : List D} {G : Hp → Prop} (r1 : RepAll K B vs xs) (w : Walk J vs.length G (fun i H x H' => H' = H ∧ vs[vs.length - 1 - i]? = some x))
    (hG : ∀ F' B' ω' H', Same B B' → Hst wd K F' B' ω' H' → G H') : WD wd K B J xs.reverse := by
  have e : xs.reverse.length = vs.length := by rw [List.length_reverse, r1.length]
  refine ⟨_, _, Walk.cast e.symm w, hG, fun i F' B' ω' H v H' hi m st y => ?_⟩
  obtain ⟨rfl, hv⟩ := y
  rw [List.length_reverse] at hi
  have hd := List.getElem?_eq_getElem (by omega : xs.length - 1 - i < xs.length)
  obtain ⟨v', e1, e2⟩ := r1.get hd
  rw [r1.length, e1] at hv
  cases hv
  exact ⟨B', _, Same.refl _, st, (List.getElem?_reverse hi).trans hd, e2.mono m⟩
theorem walk_revT {K : PySem.W.Frag} {a : Addr} {xs : List V} : Walk (RT.ItvT K a xs.length) xs.length (fun H => SqT K H a xs) (fun i H x H' => H' = H ∧ xs[xs.length - 1 - i]? = some x) :=
  ⟨fun i _ hi q => ⟨hi, xs, _, q, List.getElem?_eq_getElem (by omega)⟩, fun _ _ => Nat.le_refl _, fun i H v H' _ q y => ⟨y.1, y.2 xs q⟩⟩
def iRevG (g : AE wd) : AA wd := fun ρ ω Q E => g ρ ω (fun d ω1 => match d with
  | .tup xs => Q xs.reverse ω1
  | .lst xs => Q xs.reverse ω1
  | _ => False) E
theorem gi_rev {g : AE wd} (hm : X.mg "reversed" = none) (h : GE wd X W e g) (hgr : Gl X "reversed" := by rfl) (hst : starEach [e] X.env = (false, eval e X.env) :: starEach [] X.env := by rfl) : GI wd X W tg (.Call (.Name "reversed" p) [e] [] pos) (iRevG g) := by
  obtain ⟨te, pe, re⟩ := h.ex
  refine ⟨_, RT.pi_revA hgr hm pe hst, fun F B ρ ω σ H Qa Ea R hs he hg hk hx => re F B ρ ω σ H _ _ _ hs he hg (fun B1 ω1 H1 v1 d1 s1 hs1 r1 g1 => ?_) hx⟩
  cases d1 <;> try exact g1.elim
  case tup xs =>
    cases r1 with
    | tup h1 r1 => exact ⟨_, _, rfl, .inr ⟨Same.seqT hs1.sB h1, hk _ _ _ _ _ s1 hs1 (wd_rev r1 walk_revT fun F' B' ω' H' m st => Same.seqT (m.trans st.sB) h1) g1⟩⟩
  case lst xs =>
    cases r1 with
    | lst h1 r1 => exact ⟨_, _, rfl, .inl ⟨SqL.of (hs1.sB _ _ h1), hk _ _ _ _ _ s1 hs1 (wd_rev r1 walk_rev fun F' B' ω' H' m st => SqL.of ((m.trans st.sB) _ _ h1)) g1⟩⟩
end
/-! x //= e; t1 = t2 = e -/
section
variable {wd : Wd} {X : Cx} {W : WX} {e : Expr} {ge : AE wd} {pos : Pos}
def sAsg2 (g : AE wd) (t u : AG) : AS wd := fun Da ρ ω => g ρ ω (fun d ω' => t d ρ (fun ρ' => u d ρ' (fun ρ2 => Da.nx ρ2 ω'))) (fun x ω' => Da.ex x ρ ω')
theorem gs_asg2 {t1 t2 : Expr} {a b : AG} (he : GE wd X W e ge) (h1 : GG wd X t1 a) (h2 : GG wd X t2 b) (ha : (assignEach [t1, t2] X.env).map (·.2) = [assign t1 X.env, assign t2 X.env] := by rfl) (hw : swappedStores [t1, t2] e X.env = pure none := by rfl) :
    GS wd X W (.Assign [t1, t2] e pos) (sAsg2 ge a b) :=
  let ⟨_, p, r⟩ := he.ex; let ⟨_, p1, r1⟩ := h1.ex; let ⟨_, p2, r2⟩ := h2.ex; ⟨_, ps_asg2 p p1 p2 ha hw, fun F0 F B ρ ω σ H Da E s q k => r F B ρ ω σ H _ _ _ s.st s.env q (fun B1 ω1 H1 v1 d1 s1 hs1 rv g1 =>
    r1 F0 F B1 ρ ω1 σ H1 v1 d1 _ _ (s.up s1 hs1) rv g1 fun ρ' σ' s' q' => r2 F0 F B1 ρ' ω1 σ' H1 v1 d1 _ _ s' rv q' fun ρ2 σ2 s2 q2 => k.nx s1 s2 q2) (k.xok s)⟩
/-- a, b = [], [] : both own -/
def sParO (i j : Nat) (g h : AA wd) : AS wd := fun Da ρ ω => g ρ ω (fun l ω1 => h ρ ω1 (fun m ω2 => Da.nx ((ρ.set i (some (.own l))).set j (some (.own m))) ω2) (fun x ω' => Da.ex x ρ ω')) (fun x ω' => Da.ex x ρ ω')
theorem gs_parO (i j : Nat) {x y : Str} {a b : Expr} {ga gb : AA wd} {px py pt : Pos} {kt k2 pt2} (hc : X.calm = true) (hN : X.N.Nodup) (ha : GF wd X W a ga) (hb : GF wd X W b gb) (hi : X.N[i]? = some x := by rfl) (hj : X.N[j]? = some y := by rfl) (hij : i ≠ j := by decide)
    (hx : X.env.scope.names.lookup x = some .local := by rfl) (hy : X.env.scope.names.lookup y = some .local := by rfl)
    (hw : swappedStores [.Tuple [.Name x px, .Name y py] kt pt] (.Tuple [a, b] k2 pt2) X.env = pure (some [x, y]) := by rfl)
    (hs : swapsWithSole [.Tuple [.Name x px, .Name y py] kt pt] (.Tuple [a, b] k2 pt2) pos.line X.env = pure false := by rfl)
    (hsa : starEach [a, b] X.env = (false, eval a X.env) :: starEach [b] X.env := by rfl) (hsb : starEach [b] X.env = (false, eval b X.env) :: starEach [] X.env := by rfl) :
    GS wd X W (.Assign [.Tuple [.Name x px, .Name y py] kt pt] (.Tuple [a, b] k2 pt2) pos) (sParO i j ga gb) := by
  obtain ⟨_, pa, ra⟩ := ha.ex
  obtain ⟨_, pb, rb⟩ := hb.ex
  refine ⟨_, ps_par hc hN hi hj hij hx hy (pa_cons pa (pa_cons pb pa_nil hsb) hsa) hw hs, fun F0 F B ρ ω σ H Da E s q k => ra F B ρ ω σ H _ _ _ s.st s.env q (fun B1 ω1 H1 p vs ds s1 hs1 hp r1 g1 => ?_) (k.xok s)⟩
  have o1 := hs1.owned (vs := vs) hp
  have nF := hs1.sF.free hp
  have n0 := s.f0.free nF
  have sF : Same F (upd F p (.lst vs)) := fun z o e => by
    rw [upd_ne (ne_of_none e nF)]
    exact e
  have noP : ∀ (j' : Nat) (l' : List D), ρ[j']? = some (some (.own l')) → σ[j']? = some (some (.ref p)) → False := fun j' l' a b => by
    obtain ⟨p', vs', a', b', c'⟩ := s.env.ent j' _ a
    rw [b] at a'
    cases a'
    rw [nF] at b'
    cases b'
  have sm : Sim wd X.K F0 (upd F p (.lst vs)) B1 ρ ω1 σ (upd H1 p (.lst vs)) := ⟨o1, (s.env.mono s1).upF sF, s.f0.trans sF, s.own⟩
  refine rb _ B1 ρ ω1 σ _ _ _ _ o1 sm.env g1 (fun B2 ω2 H2 p2 vs2 ds2 s2 hs2 hp2 r2 g2 => ?_) ((k.mono s1).xok sm)
  have hp3 : H2 p = some (.lst vs) := hs2.sF _ _ upd_same
  have ne : p2 ≠ p := fun e => by
    rw [e, hp3] at hp2
    cases hp2
  have sm2 : Sim wd X.K F0 (upd F p (.lst vs)) B2 ρ ω2 σ H2 := sm.up s2 hs2
  have z1 := sm2.setOwn i (p := p) (vs := vs) (l := ds) (by rw [upd_id upd_same]; exact hs2) (r1.mono s2) n0 fun j' l' a b => (noP j' l' a b).elim
  rw [upd_id upd_same] at z1
  have z2 := z1.setOwn j (hs2.owned hp2) r2 (s.f0.free (sF.free (hs2.sF.free hp2))) fun j' l' a b => ?_
  · exact ⟨_, _, rfl, k.nx (s1.trans s2) z2 g2⟩
  · exfalso
    obtain ⟨p', vs', a', b', c'⟩ := z1.env.ent j' _ a
    rw [b] at a'
    cases a'
    have := hs2.sF _ _ b'
    rw [hp2] at this
    cases this
end
end MR
/-! short words for simp: rows as they are compared and handed on; columns in part -/
namespace MR
open PySem PySem.Spec L2
theorem sRet_e {wd : Wd} (g : AE wd) (Da : AEnds wd) (ρ : AEnv) (ω : wd.W) : sRet g Da ρ ω = g ρ ω Da.rt (fun x ω' => Da.ex x ρ ω') := Eq.trans rfl rfl
theorem sl : sizeLine = 16777216 := by decide
theorem map_int_inj {xs ys : List Int} : (xs.map D.int = ys.map D.int) = (xs = ys) := propext ⟨fun h => by
  have e : ∀ {as bs : List Int}, as.map D.int = bs.map D.int → as = bs := fun {as} => by
    induction as with
    | nil => intro bs h; cases bs with
      | nil => rfl
      | cons b bs => cases h
    | cons a as ih => intro bs h; cases bs with
      | nil => cases h
      | cons b bs =>
        simp only [List.map_cons, List.cons.injEq, D.int.injEq] at h
        rw [h.1, ih h.2]
  exact e h, fun h => by rw [h]⟩
theorem nil_map_int {xs : List Int} : (([] : List D) = xs.map D.int) = ([] = xs) := by cases xs <;> simp
theorem cons_map_int {a : Int} {l : List D} {xs : List Int} : (D.int a :: l = xs.map D.int) = ∃ ys : List Int, a :: ys = xs ∧ l = ys.map D.int := propext ⟨fun h => by
  cases xs with
  | nil => cases h
  | cons x xs =>
    simp only [List.map_cons, List.cons.injEq, D.int.injEq] at h
    exact ⟨xs, by rw [h.1], h.2⟩, fun ⟨ys, e1, e2⟩ => by rw [← e1, e2]; rfl⟩
theorem eqOk_nil : eqOk (.tup []) = true := eqOk_row []
theorem deq_nilr (ns : List Int) : deq (.tup (ns.map D.int)) (.tup []) = decide (ns = []) := deq_row ns []
theorem deq_nill (ns : List Int) : deq (.tup []) (.tup (ns.map D.int)) = decide ([] = ns) := deq_row [] ns
theorem deq_nils : deq (.tup []) (.tup []) = true := deq_refl eqOk_nil
theorem eqOk_pair {d e : D} (h1 : Eo 40 d) (h2 : Eo 40 e) : eqOk (.tup [d, e]) = true := (Eo.tup (.cons h1 (.cons h2 .nil))).ok (by decide)
theorem isE_map (ns : List Int) : (ns.map D.int).isEmpty = ns.isEmpty := by cases ns <;> rfl
theorem rng_zero {lo : Int} : rng lo 0 = [] := rfl
/-- columns of the first limbs alone -/
theorem co_zero {xs ys : List Int} {k i : Nat} (h : i + ys.length ≤ k + 1) : co (xs.take i) ys k = 0 := by
  induction i with
  | zero => rfl
  | succ i ih =>
    by_cases c : i < xs.length
    · have hx := List.getElem?_eq_getElem c
      rw [take_snoc hx, co_snoc, ih (by omega), len_take hx]
      split
      · rw [List.getD_eq_getElem?_getD, List.getElem?_eq_none (by omega)]
        show 0 + _ * 0 = (0:Int)
        omega
      · rfl
    · rw [List.take_of_length_le (by omega), ← List.take_of_length_le (by omega : xs.length ≤ i)]
      exact ih (by omega)
theorem co_full {xs ys : List Int} {k i : Nat} (h : k + 1 ≤ i) : co (xs.take i) ys k = co xs ys k := by
  induction xs generalizing i k with
  | nil => rw [List.take_nil]
  | cons x xs ih =>
    cases i with
    | zero => omega
    | succ i =>
      rw [List.take_succ_cons]
      cases k with
      | zero => rfl
      | succ k =>
        show _ + co (xs.take i) ys k = _ + co xs ys k
        rw [ih (by omega)]
theorem co_step {xs ys : List Int} {k i : Nat} {x : Int} (hx : xs[i]? = some x) (h : i ≤ k) : co (xs.take (i + 1)) ys k = co (xs.take i) ys k + x * ys.getD (k - i) 0 := by
  rw [take_snoc hx, co_snoc, len_take hx, if_pos h]
/-- bounds of the carries -/
theorem co_le {b : Int} (hb : 2 ≤ b) : ∀ (xs ys : List Int) (k : Nat), limbs b xs → limbs b ys → co xs ys k ≤ (xs.length : Int) * ((b - 1) * (b - 1))
  | [], ys, k, _, _ => by simp [co]
  | x :: xs, ys, k, h1, h2 => by
    have bb : (0:Int) ≤ (b - 1) * (b - 1) := Int.mul_nonneg (by omega) (by omega)
    have hx := h1 x (by simp)
    have hy : 0 ≤ ys.getD k 0 ∧ ys.getD k 0 ≤ b - 1 := by
      rw [List.getD_eq_getElem?_getD]
      cases e : ys[k]? with
      | none => exact ⟨by decide, by show (0:Int) ≤ b - 1; omega⟩
      | some y =>
        have := h2 y (List.mem_of_getElem? e)
        exact ⟨this.1, by show y ≤ b - 1; omega⟩
    have m1 : x * ys.getD k 0 ≤ x * (b - 1) := Int.mul_le_mul_of_nonneg_left hy.2 hx.1
    have m2 : x * (b - 1) ≤ (b - 1) * (b - 1) := Int.mul_le_mul_of_nonneg_right (by omega) (by omega)
    have e : ((x :: xs).length : Int) * ((b - 1) * (b - 1)) = (xs.length : Int) * ((b - 1) * (b - 1)) + (b - 1) * (b - 1) := by
      rw [List.length_cons, show ((xs.length + 1 : Nat) : Int) = (xs.length : Int) + 1 by omega, Int.add_mul, Int.one_mul]
    cases k with
    | zero =>
      show x * ys.getD 0 0 ≤ _
      have := Int.mul_nonneg (by omega : (0:Int) ≤ (xs.length : Int)) bb
      omega
    | succ k =>
      have ih := co_le hb xs ys k h1.tail h2
      show x * ys.getD (k + 1) 0 + co xs ys k ≤ _
      omega
/-- columns of the second row's length -/
theorem co_comm (xs ys : List Int) (k : Nat) : co xs ys k = co ys xs k := by
  induction ys generalizing xs k with
  | nil =>
    induction xs generalizing k with
    | nil => rfl
    | cons x xs ih =>
      cases k with
      | zero => show x * 0 = 0; omega
      | succ k => show x * 0 + co xs [] k = 0; rw [ih]; show x * 0 + 0 = 0; omega
  | cons y ys ih =>
    induction xs generalizing k with
    | nil =>
      have e := ih [] 
      cases k with
      | zero => show (0:Int) = y * 0; omega
      | succ k => show (0:Int) = y * 0 + co ys [] k; rw [← e k]; show (0:Int) = y * 0 + 0; omega
    | cons x xs ihx =>
      cases k with
      | zero => show x * y = y * x; exact Int.mul_comm _ _
      | succ k =>
        show x * ys.getD k 0 + co xs (y :: ys) k = y * xs.getD k 0 + co ys (x :: xs) k
        rw [ihx k]
        rw [← ih (x :: xs) k]
        cases k with
        | zero => show x * ys.getD 0 0 + y * xs.getD 0 0 = y * xs.getD 0 0 + x * ys.getD 0 0; omega
        | succ k =>
          show x * ys.getD (k + 1) 0 + (y * xs.getD (k + 1) 0 + co ys xs k) = y * xs.getD (k + 1) 0 + (x * ys.getD (k + 1) 0 + co xs ys k)
          rw [ih xs k]
          omega
theorem cCar_le {b L : Int} (hb : 2 ≤ b) (hL : 0 ≤ L) : ∀ (c : Int) (ss : List Int), 0 ≤ c → c ≤ (b - 1) * L → (∀ s ∈ ss, 0 ≤ s ∧ s ≤ L * ((b - 1) * (b - 1))) → ∀ y ∈ cCar b c ss, 0 ≤ y ∧ y ≤ (b - 1) * L
  | c, [], _, _, _ => fun _ h => nomatch h
  | c, s :: ss, h0, h1, hs => fun y hy => by
    have s1 := hs s (by simp)
    have n0 : 0 ≤ (c + s) / b := Int.ediv_nonneg (by omega) (by omega)
    have n1 : (c + s) / b ≤ (b - 1) * L := by
      refine Int.le_of_lt_add_one (Int.ediv_lt_of_lt_mul (by omega) ?_)
      have e1 : ((b - 1) * L + 1) * b = (b - 1) * L + L * ((b - 1) * (b - 1)) + b := by
        have a1 : L * ((b - 1) * (b - 1)) = (b - 1) * L * (b - 1) := by rw [← Int.mul_assoc, Int.mul_comm L (b - 1)]
        rw [a1, Int.add_mul, Int.one_mul, Int.mul_sub, Int.mul_one]
        omega
      omega
    rcases List.mem_cons.mp hy with rfl | hy
    · exact ⟨n0, n1⟩
    · exact cCar_le hb hL _ ss n0 n1 (fun t ht => hs t (by simp [ht])) y hy
theorem cols_le {b : Int} (hb : 2 ≤ b) {xs ys : List Int} (h1 : limbs b xs) (h2 : limbs b ys) : ∀ s ∈ cols xs ys, 0 ≤ s ∧ s ≤ ((min xs.length ys.length : Nat) : Int) * ((b - 1) * (b - 1)) := fun s hs => by
  refine ⟨cols_nn (fun x hx => (h1 x hx).1) (fun y hy => (h2 y hy).1) s hs, ?_⟩
  unfold cols at hs
  split at hs
  · cases hs
  · obtain ⟨k, _, rfl⟩ := List.mem_map.mp hs
    by_cases c : xs.length ≤ ys.length
    · rw [Nat.min_eq_left c]
      exact co_le hb xs ys k h1 h2
    · rw [Nat.min_eq_right (by omega), co_comm]
      exact co_le hb ys xs k h2 h1
theorem cCar_last {b : Int} : ∀ (c : Int) (ss : List Int), ss ≠ [] → (cCar b c ss).getLast? = some (cFin b c ss)
  | c, [], h => absurd rfl h
  | c, [s], _ => rfl
  | c, s :: t :: ss, _ => by
    have ih := cCar_last (b := b) ((c + s) / b) (t :: ss) (by simp)
    show ((c + s) / b :: cCar b ((c + s) / b) (t :: ss)).getLast? = _
    rw [List.getLast?_cons, ih]
    rfl
theorem cCar_nil {b c : Int} {ss : List Int} : cCar b c ss = [] ↔ ss = [] := by cases ss <;> simp [cCar]
theorem cCar_snoc {b : Int} : ∀ (c : Int) (ss : List Int) (s : Int), cCar b c (ss ++ [s]) = cCar b c ss ++ [(cFin b c ss + s) / b] ∧ cLow b c (ss ++ [s]) = cLow b c ss ++ [(cFin b c ss + s) % b] ∧ cFin b c (ss ++ [s]) = (cFin b c ss + s) / b
  | c, [], s => ⟨rfl, rfl, rfl⟩
  | c, t :: ss, s => by
    obtain ⟨h1, h2, h3⟩ := cCar_snoc (b := b) ((c + t) / b) ss s
    refine ⟨?_, ?_, h3⟩
    · show (c + t) / b :: cCar b ((c + t) / b) (ss ++ [s]) = _
      rw [h1]
      rfl
    · show (c + t) % b :: cLow b ((c + t) / b) (ss ++ [s]) = _
      rw [h2]
      rfl
theorem cols_take {xs ys : List Int} (h1 : xs ≠ []) (h2 : ys ≠ []) {k : Nat} (h : k < xs.length + ys.length - 1) : (cols xs ys)[k]? = some (co xs ys k) := by
  unfold cols
  rw [if_neg (by simp [h1, h2]), List.getElem?_map, List.getElem?_range h]
  rfl
theorem cols_comm (xs ys : List Int) : cols ys xs = cols xs ys := by
  unfold cols
  by_cases c : xs = [] ∨ ys = []
  · rw [if_pos c, if_pos (c.symm)]
  · rw [if_neg c, if_neg (fun z => c z.symm), Nat.add_comm]
    refine List.map_congr_left fun k _ => co_comm ys xs k
theorem cAll_len (b : Int) (ss : List Int) : (cAll b ss).length = ss.length + if 0 < cFin b 0 ss then 1 else 0 := by
  unfold cAll
  rw [List.length_append, cLow_len]
  split <;> rfl
theorem cAll_nil (b : Int) : cAll b [] = [] := by
  unfold cAll
  simp [cLow, cFin]
theorem cCar_nil0 (b c : Int) : cCar b c [] = [] := rfl
theorem log100 {n : Int} (h0 : 0 ≤ n) (h : n < 2 ^ 100) : n.natAbs.log2 < 1920 := Nat.lt_trans (log_lt h0 h (by decide)) (by decide)
theorem fl_repx (k : Nat) (x : Int) : (List.replicate k [D.int x]).flatten = (List.replicate k x).map D.int := by
  induction k with
  | zero => rfl
  | succ k ih => rw [List.replicate_succ, List.flatten_cons, ih, List.replicate_succ]; rfl
theorem row_rep {b x : Int} (k : Nat) (h : 0 < x) (h2 : x < b) : isRow b (List.replicate k x) := ⟨fun n hn => by
  have := (List.mem_replicate.mp hn).2
  omega, fun z => by
  have := (List.mem_replicate.mp (List.mem_of_getLast? z)).2
  omega⟩
theorem base10 : base_ 10 := ⟨by decide, by decide⟩
theorem rng_of {lo : Int} {n i : Nat} {d : D} (h : (rng lo n)[i]? = some d) : i < n ∧ d = .int (lo + (i : Int)) := by
  have hi := (List.getElem?_eq_some_iff.mp h).1
  rw [rng_len] at hi
  rw [rng_at hi] at h
  exact ⟨hi, (Option.some.inj h).symm⟩
theorem aFor_nil {wd : Wd} {t : AG} {body : AS wd} {Da : AEnds wd} {ρ : AEnv} {ω : wd.W} : aFor [] t body Da ρ ω = Da.nx ρ ω :=
  propext ⟨fun ⟨Iv, h0, _, hd⟩ => hd ρ ω h0, fun h => ⟨fun _ ρ' ω' => ρ' = ρ ∧ ω' = ω, ⟨rfl, rfl⟩, (fun i d _ _ hd => by simp at hd), fun ρ' ω' ⟨e1, e2⟩ => by rw [e1, e2]; exact h⟩⟩
theorem aComp_nil {wd : Wd} {t : AG} {tt : AT wd} {te : AE wd} {vs : List Nat} {ρ : AEnv} {ω : wd.W} {Q : List D → wd.W → Prop} {E : AX wd} : aComp [] t tt te vs ρ ω Q E = Q [] ω :=
  propext ⟨fun ⟨Iv, h0, _, hd⟩ => hd [] ω h0, fun h => ⟨fun _ acc ω' => acc = [] ∧ ω' = ω, ⟨rfl, rfl⟩, (fun i d _ _ hd => by simp at hd), fun acc ω' ⟨e1, e2⟩ => by rw [e1, e2]; exact h⟩⟩
/-- a comprehension of which nothing is kept -/
theorem comp_no {wd : Wd} {ds : List D} {t : AG} {tt : AT wd} {te : AE wd} {vs : List Nat} {ρ : AEnv} {ω : wd.W} {Q : List D → wd.W → Prop} {E : AX wd} (hl : ds.length ≤ 100000) (h0 : Q [] ω)
    (step : ∀ (i : Nat) (d : D) (acc : List D) (P : List D → Prop), ds[i]? = some d → P acc → t d (wipeA ρ vs) (fun ρ' => tt ρ' ω (fun b ω1 => if b = true then te ρ' ω1 (fun y ω2 => acc.length < sizeLine ∧ ω2 = ω ∧ P (acc ++ [y])) (fun _ _ => False) else ω1 = ω ∧ P acc) (fun _ _ => False))) : aComp ds t tt te vs ρ ω Q E :=
  comp_by (fun _ => []) (fun _ => Nat.zero_le _) hl (by rw [flat_none]; exact h0) fun i d acc P hd _ hP => step i d acc P hd (by rw [List.append_nil] at hP; exact hP)
end MR
/-! sums of rows, their carries; things of any kind -/
namespace MR
open PySem PySem.Spec L2
/-! things of any kind -/
def wholeD : D → Bool
  | .int _ => true
  | _ => false
def limbD (b : Int) : D → Bool
  | .int n => decide (0 ≤ n) && decide (n < b)
  | _ => false
def carB : D → Bool
  | .int n => decide (0 ≤ n) && decide (n ≤ 1)
  | _ => false
def topB : List D → Bool
  | [] => true
  | [.int n] => n != 0
  | [_] => true
  | _ :: x :: r => topB (x :: r)
def rowD (b : Int) : D → Bool
  | .tup xs => xs.all (limbD b) && topB xs
  | _ => false
def sameD : D → List Int → Bool
  | .tup xs, ns => decide (asInts xs = some ns)
  | _, _ => false
structure okD (d : D) : Prop where
  ty : tyD d ≠ none
  it : ∀ xs, d = .tup xs → xs.length ≤ 100000 ∧ ∀ x ∈ xs, tyD x ≠ none
theorem okD_row {ns : List Int} (h : ns.length ≤ 100000) : okD (row ns) := ⟨(by intro z; cases z), fun xs e => by
  cases e
  refine ⟨by rw [List.length_map]; exact h, fun x hx => ?_⟩
  obtain ⟨n, _, rfl⟩ := List.mem_map.mp hx
  intro z
  cases z⟩
theorem sameD_row (ns ms : List Int) : sameD (row ns) ms = decide (ns = ms) := by
  show decide (asInts (ns.map D.int) = some ms) = _
  rw [asInts_map]
  simp
theorem limbs_of {b : Int} : ∀ {xs : List D}, xs.all (limbD b) = true → ∃ ns : List Int, xs = ns.map D.int ∧ limbs b ns
  | [], _ => ⟨[], rfl, fun _ h => nomatch h⟩
  | x :: r, h => by
    rw [List.all_cons, Bool.and_eq_true] at h
    obtain ⟨ns, e, l⟩ := limbs_of h.2
    cases x <;> try (simp [limbD] at h; done)
    case int n =>
      have h1 := h.1
      simp only [limbD, Bool.and_eq_true, decide_eq_true_eq] at h1
      exact ⟨n :: ns, by rw [e]; rfl, fun m hm => by
        rcases List.mem_cons.mp hm with rfl | hm
        · exact h1
        · exact l m hm⟩
theorem all_limbD {b : Int} {ns : List Int} (h : limbs b ns) : (ns.map D.int).all (limbD b) = true := by
  rw [List.all_eq_true]
  intro x hx
  obtain ⟨n, hn, rfl⟩ := List.mem_map.mp hx
  have := h n hn
  simp [limbD, this.1, this.2]
theorem topB_map : ∀ ns : List Int, topB (ns.map D.int) = (ns.getLast? != some 0)
  | [] => rfl
  | [n] => by
    show (n != 0) = (some n != some 0)
    rw [Bool.eq_iff_iff, bne_iff_ne, bne_iff_ne]
    exact ⟨fun h z => h (Option.some.inj z), fun h z => h (by rw [z])⟩
  | n :: m :: r => by
    show topB ((m :: r).map D.int) = _
    rw [topB_map (m :: r)]
    rfl
theorem rowD_row {b : Int} {ns : List Int} (h : isRow b ns) : rowD b (row ns) = true := by
  show ((ns.map D.int).all (limbD b) && topB (ns.map D.int)) = true
  rw [all_limbD h.lim, topB_map]
  have := h.top
  simpa using this
theorem carr_of : ∀ {xs : List D}, xs.all carB = true → ∃ ns : List Int, xs = ns.map D.int ∧ ∀ n ∈ ns, 0 ≤ n ∧ n ≤ 1
  | [], _ => ⟨[], rfl, fun _ h => nomatch h⟩
  | x :: r, h => by
    rw [List.all_cons, Bool.and_eq_true] at h
    obtain ⟨ns, e, l⟩ := carr_of h.2
    cases x <;> try (simp [carB] at h; done)
    case int n =>
      have h1 := h.1
      simp only [carB, Bool.and_eq_true, decide_eq_true_eq] at h1
      exact ⟨n :: ns, by rw [e]; rfl, fun m hm => by
        rcases List.mem_cons.mp hm with rfl | hm
        · exact h1
        · exact l m hm⟩
theorem all_carB {ns : List Int} (h : ∀ n ∈ ns, 0 ≤ n ∧ n ≤ 1) : (ns.map D.int).all carB = true := by
  rw [List.all_eq_true]
  intro x hx
  obtain ⟨n, hn, rfl⟩ := List.mem_map.mp hx
  have := h n hn
  simp [carB, this.1, this.2]
theorem flat_one (g : D → Bool) : ∀ xs : List D, xs.flatMap (fun x => [D.bl (g x)]) = (xs.map g).map D.bl
  | [] => rfl
  | x :: xs => by rw [List.flatMap_cons, flat_one g xs]; rfl
theorem all_map (g : D → Bool) (xs : List D) : (xs.map g).all id = xs.all g := by
  rw [List.all_map]
  rfl
/-! sums -/
def psum (xs ys : List Int) : List Int := (List.range (max xs.length ys.length)).map fun k => xs.getD k 0 + ys.getD k 0
theorem psum_len (xs ys : List Int) : (psum xs ys).length = max xs.length ys.length := by
  unfold psum
  rw [List.length_map, List.length_range]
theorem psum_at {xs ys : List Int} {k : Nat} (h : k < max xs.length ys.length) : (psum xs ys)[k]? = some (xs.getD k 0 + ys.getD k 0) := by
  unfold psum
  rw [List.getElem?_map, List.getElem?_range h]
  rfl
theorem psum_comm (xs ys : List Int) : psum ys xs = psum xs ys := by
  unfold psum
  rw [Nat.max_comm]
  exact List.map_congr_left fun k _ => Int.add_comm _ _
theorem psum_wor (b : Int) (xs ys : List Int) : wor b (psum xs ys) = wor b xs + wor b ys := by
  unfold psum
  rw [wor_range, sumB_add, sumB_get b _ xs (Nat.le_max_left ..), sumB_get b _ ys (Nat.le_max_right ..)]
theorem lim_getD {b : Int} (hb : 1 ≤ b) {xs : List Int} (h : limbs b xs) (k : Nat) : 0 ≤ xs.getD k 0 ∧ xs.getD k 0 ≤ b - 1 := by
  rw [List.getD_eq_getElem?_getD]
  cases e : xs[k]? with
  | none => exact ⟨Int.le_refl 0, by show (0:Int) ≤ b - 1; omega⟩
  | some x =>
    have := h x (List.mem_of_getElem? e)
    exact ⟨this.1, by show x ≤ b - 1; omega⟩
theorem psum_le {b : Int} (hb : 2 ≤ b) {xs ys : List Int} (h1 : limbs b xs) (h2 : limbs b ys) : ∀ s ∈ psum xs ys, 0 ≤ s ∧ s ≤ 2 * (b - 1) := fun s hs => by
  obtain ⟨k, _, rfl⟩ := List.mem_map.mp hs
  have a1 := lim_getD (by omega : (1:Int) ≤ b) h1 k
  have a2 := lim_getD (by omega : (1:Int) ≤ b) h2 k
  show 0 ≤ xs.getD k 0 + ys.getD k 0 ∧ xs.getD k 0 + ys.getD k 0 ≤ 2 * (b - 1)
  omega
theorem car01 {b : Int} (hb : 2 ≤ b) : ∀ (c : Int) (ss : List Int), 0 ≤ c → c ≤ 1 → (∀ s ∈ ss, 0 ≤ s ∧ s ≤ 2 * (b - 1)) → (∀ y ∈ cCar b c ss, 0 ≤ y ∧ y ≤ 1) ∧ 0 ≤ cFin b c ss ∧ cFin b c ss ≤ 1
  | c, [], h0, h1, _ => ⟨(fun _ h => nomatch h), h0, h1⟩
  | c, s :: ss, h0, h1, hs => by
    have s1 := hs s (by simp)
    have n0 : 0 ≤ (c + s) / b := Int.ediv_nonneg (by omega) (by omega)
    have n1 : (c + s) / b ≤ 1 := by
      refine Int.le_of_lt_add_one (Int.ediv_lt_of_lt_mul (by omega) ?_)
      omega
    obtain ⟨i1, i2, i3⟩ := car01 hb ((c + s) / b) ss n0 n1 fun t ht => hs t (by simp [ht])
    refine ⟨fun y hy => ?_, i2, i3⟩
    rcases List.mem_cons.mp hy with rfl | hy
    · exact ⟨n0, n1⟩
    · exact i1 y hy
theorem row_ge {b : Int} (hb : 2 ≤ b) : ∀ {xs : List Int}, isRow b xs → xs ≠ [] → b ^ (xs.length - 1) ≤ wor b xs
  | [], _, h => absurd rfl h
  | [x], h, _ => by
    have h1 := h.lim x (by simp)
    have h2 := h.top
    have h3 : x ≠ 0 := fun z => h2 (by rw [z]; rfl)
    show b ^ 0 ≤ x + b * 0
    rw [Int.pow_zero, Int.mul_zero]
    omega
  | x :: y :: r, h, _ => by
    have ih := row_ge hb h.tail (by simp)
    have h1 := h.lim x (by simp)
    have m := Int.mul_le_mul_of_nonneg_left ih (by omega : (0:Int) ≤ b)
    show b ^ (r.length + 1) ≤ x + b * wor b (y :: r)
    have e : b ^ (r.length + 1) = b * b ^ r.length := by rw [Int.pow_succ, Int.mul_comm]
    have e2 : (y :: r).length - 1 = r.length := rfl
    rw [e2] at m
    omega
/-- the sum's row, by its carries -/
theorem sum_row {b : Int} (hb : 2 ≤ b) {xs ys : List Int} (h1 : isRow b xs) (h2 : isRow b ys) : cAll b (psum xs ys) = digs b (wor b xs + wor b ys) := by
  have w := psum_wor b xs ys
  have l := psum_len xs ys
  have u1 := wor_lt (by omega : (1:Int) ≤ b) h1.lim
  have u2 := wor_lt (by omega : (1:Int) ≤ b) h2.lim
  have z1 := wor_nn (by omega : (0:Int) ≤ b) h1.lim
  have z2 := wor_nn (by omega : (0:Int) ≤ b) h2.lim
  have p1 : b ^ xs.length ≤ b ^ max xs.length ys.length := ipow_le (by omega) (Nat.le_max_left ..)
  have p2 : b ^ ys.length ≤ b ^ max xs.length ys.length := ipow_le (by omega) (Nat.le_max_right ..)
  have pp : (0:Int) < b ^ max xs.length ys.length := Int.pow_pos (by omega)
  rw [← w]
  refine cAll_row hb (fun s hs => (psum_le hb h1.lim h2.lim s hs).1) ?_ fun hn => ?_
  · rw [l, w, Int.pow_succ]
    have := Int.mul_le_mul_of_nonneg_left hb (Int.le_of_lt pp)
    omega
  · rw [l, w]
    by_cases c : ys.length ≤ xs.length
    · rw [Nat.max_eq_left c]
      have n1 : xs ≠ [] := fun z => by
        subst z
        have : ys = [] := List.eq_nil_of_length_eq_zero (by simpa using c)
        subst this
        exact hn rfl
      have := row_ge hb h1 n1
      omega
    · rw [Nat.max_eq_right (by omega)]
      have n1 : ys ≠ [] := fun z => by
        subst z
        exact c (Nat.zero_le _)
      have := row_ge hb h2 n1
      omega
/-! a paper of a sum -/
def hold (b : Int) : Int → List Int → List Int → List Int → Bool
  | a, [], ts, [] => decide (ts = List.replicate a.toNat 1)
  | a, p :: ps, ts, z :: zs => decide (p + a = ts.headD 0 + b * z) && hold b z ps ts.tail zs
  | _, _, _, _ => false
theorem hold_to {b : Int} (hb : 2 ≤ b) : ∀ (a : Int) (ps ts zs : List Int), 0 ≤ a → a ≤ 1 → limbs b ts → (∀ z ∈ zs, 0 ≤ z ∧ z ≤ 1) → hold b a ps ts zs = true → zs = cCar b a ps ∧ wor b ts = a + wor b ps
  | a, [], ts, [], h0, h1, _, _, h => by
    have h : ts = List.replicate a.toNat 1 := of_decide_eq_true h
    refine ⟨rfl, ?_⟩
    rw [h]
    by_cases c : a = 0
    · subst c
      rfl
    · have : a = 1 := by omega
      subst this
      show (1:Int) + b * 0 = 1 + 0
      omega
  | a, p :: ps, ts, z :: zs, h0, h1, lt, hz, h => by
    rw [hold, Bool.and_eq_true, decide_eq_true_eq] at h
    have z1 := hz z (by simp)
    have ht : 0 ≤ ts.headD 0 ∧ ts.headD 0 < b ∧ limbs b ts.tail ∧ wor b ts = ts.headD 0 + b * wor b ts.tail := by
      cases ts with
      | nil => exact ⟨Int.le_refl 0, by show (0:Int) < b; omega, lt, by show (0:Int) = 0 + b * 0; omega⟩
      | cons t r => exact ⟨(lt t (by simp)).1, (lt t (by simp)).2, lt.tail, rfl⟩
    obtain ⟨t0, t1, tl, tw⟩ := ht
    obtain ⟨i1, i2⟩ := hold_to hb z ps ts.tail zs z1.1 z1.2 tl (fun y hy => hz y (by simp [hy])) h.2
    have e := h.1
    have q := qr_of (w := a + p) (q := z) (r := ts.headD 0) (l := b) (by omega) (by rw [Int.mul_comm]; omega) t0 t1
    refine ⟨?_, ?_⟩
    · show z :: zs = (a + p) / b :: cCar b ((a + p) / b) ps
      rw [q.1, i1]
    · rw [tw, i2]
      show _ = a + (p + b * wor b ps)
      rw [Int.mul_add]
      omega
  | _, [], _, _ :: _, _, _, _, _, h => by simp [hold] at h
  | _, _ :: _, _, [], _, _, _, _, h => by simp [hold] at h
theorem hold_of {b : Int} (hb : 2 ≤ b) : ∀ (a : Int) (ps : List Int), 0 ≤ a → a ≤ 1 → (∀ s ∈ ps, 0 ≤ s ∧ s ≤ 2 * (b - 1)) → hold b a ps (cLow b a ps ++ (if 0 < cFin b a ps then [cFin b a ps] else [])) (cCar b a ps) = true
  | a, [], h0, h1, _ => by
    show decide ([] ++ (if 0 < a then [a] else []) = List.replicate a.toNat 1) = true
    by_cases c : a = 0
    · subst c
      rfl
    · have : a = 1 := by omega
      subst this
      rfl
  | a, p :: ps, h0, h1, hs => by
    have s1 := hs p (by simp)
    have n0 : 0 ≤ (a + p) / b := Int.ediv_nonneg (by omega) (by omega)
    have n1 : (a + p) / b ≤ 1 := by
      refine Int.le_of_lt_add_one (Int.ediv_lt_of_lt_mul (by omega) ?_)
      omega
    have ih := hold_of hb ((a + p) / b) ps n0 n1 fun t ht => hs t (by simp [ht])
    show (decide (p + a = (a + p) % b + b * ((a + p) / b)) && hold b ((a + p) / b) ps (cLow b ((a + p) / b) ps ++ (if 0 < cFin b ((a + p) / b) ps then [cFin b ((a + p) / b) ps] else [])) (cCar b ((a + p) / b) ps)) = true
    rw [ih, Bool.and_true, decide_eq_true_eq, Int.emod_add_mul_ediv]
    exact Int.add_comm _ _
/-- just the sum's row, just its carries -/
theorem hold_iff {b : Int} (hb : 2 ≤ b) {xs ys ts zs : List Int} (h1 : isRow b xs) (h2 : isRow b ys) (h3 : isRow b ts) (hz : ∀ z ∈ zs, 0 ≤ z ∧ z ≤ 1) :
    hold b 0 (psum xs ys) ts zs = (decide (ts = digs b (wor b xs + wor b ys)) && decide (zs = cCar b 0 (psum xs ys))) := by
  rw [Bool.eq_iff_iff, Bool.and_eq_true, decide_eq_true_eq, decide_eq_true_eq]
  constructor
  · intro h
    obtain ⟨e1, e2⟩ := hold_to hb 0 _ _ _ (Int.le_refl 0) (by decide) h3.lim hz h
    refine ⟨?_, e1⟩
    rw [← psum_wor, ← Int.zero_add (wor b (psum xs ys)), ← e2, digs_wor hb h3]
  · rintro ⟨rfl, rfl⟩
    rw [← sum_row hb h1 h2]
    exact hold_of hb 0 _ (Int.le_refl 0) (by decide) (psum_le hb h1.lim h2.lim)
theorem hold_drop {b a : Int} {ps ts zs : List Int} {i : Nat} {p z : Int} (hp : ps[i]? = some p) (hz : zs[i]? = some z) : hold b a (ps.drop i) (ts.drop i) (zs.drop i) = (decide (p + a = ts.getD i 0 + b * z) && hold b z (ps.drop (i + 1)) (ts.drop (i + 1)) (zs.drop (i + 1))) := by
  rw [drop_cons hp, drop_cons hz]
  show (decide (p + a = (ts.drop i).headD 0 + b * z) && hold b z _ (ts.drop i).tail _) = _
  have e1 : (ts.drop i).headD 0 = ts.getD i 0 := by
    rw [List.headD_eq_head?_getD, List.head?_drop, List.getD_eq_getElem?_getD]
  rw [e1, List.tail_drop]
theorem cut_m1 {α : Type} (xs : List α) : cutD xs none (some (-1)) = xs.dropLast := by
  unfold cutD
  have e1 : HT.sIx xs.length 0 none = 0 := rfl
  have e2 : HT.sIx xs.length xs.length (some (-1)) = xs.length - 1 := by
    show (if (-1:Int) < 0 then ((-1:Int) + (xs.length : Int)).toNat else min (-1:Int).toNat xs.length) = xs.length - 1
    rw [if_pos (by decide)]
    omega
  rw [e1, e2, List.drop_zero, Nat.sub_zero, List.dropLast_eq_take]
theorem cut_mid {α : Type} (xs : List α) {lo hi : Int} (h0 : 0 ≤ lo) (h1 : 0 ≤ hi) : cutD xs (some lo) (some hi) = (xs.take hi.toNat).drop lo.toNat := by
  unfold cutD
  have e1 : HT.sIx xs.length 0 (some lo) = min lo.toNat xs.length := if_neg (by omega)
  have e2 : HT.sIx xs.length xs.length (some hi) = min hi.toNat xs.length := if_neg (by omega)
  rw [e1, e2]
  refine List.ext_getElem? fun i => ?_
  rw [List.getElem?_take, List.getElem?_drop, List.getElem?_drop, List.getElem?_take]
  by_cases c : lo.toNat + i < hi.toNat
  · by_cases d : lo.toNat + i < xs.length
    · rw [if_pos (by omega), if_pos c, Nat.min_eq_left (by omega)]
    · rw [if_pos c, List.getElem?_eq_none (by omega : xs.length ≤ lo.toNat + i)]
      split
      · exact List.getElem?_eq_none (by omega)
      · rfl
  · rw [if_neg c, if_neg (by omega)]
theorem isRow.dropLast_lim {b : Int} {ns : List Int} (h : limbs b ns) : limbs b ns.dropLast := fun n hn => h n (List.dropLast_subset _ hn)
theorem row_sn {b : Int} {ns : List Int} (h : limbs b ns) {x : Int} (h0 : 1 ≤ x) (h1 : x < b) : isRow b (ns ++ [x]) := row_snoc h h0 h1
theorem map_rows {ts us : List (List Int)} : (ts.map row = us.map row) = (ts = us) := propext ⟨fun h => by
  have e : ∀ {as bs : List (List Int)}, as.map row = bs.map row → as = bs := fun {as} => by
    induction as with
    | nil => intro bs h; cases bs with
      | nil => rfl
      | cons b bs => cases h
    | cons a as ih => intro bs h; cases bs with
      | nil => cases h
      | cons b bs =>
        simp only [List.map_cons, List.cons.injEq, D.tup.injEq, map_int_inj] at h
        rw [h.1, ih h.2]
  exact e h, fun h => by rw [h]⟩
theorem rok_bl (b : Bool) : rOk (.bl b) = true := (Sh.bl (b := b)).ok (by decide) (by decide)
def aLimbAt : ASp DWd := fun ds ω Q _ => ∃ xs k, ds = [row xs, .int k] ∧ 0 ≤ k ∧ Q (.int (xs.getD k.toNat 0)) ω
def aCarries : ASp DWd := fun ds ω Q _ => ∃ xs ys b, ds = [row xs, row ys, .int b] ∧ base_ b ∧ limbs b xs ∧ limbs b ys ∧ xs.length ≤ 20000 ∧ ys.length ≤ 20000 ∧ Q (row (cCar b 0 (psum xs ys))) ω
def aIsWhole : ASp DWd := fun ds ω Q _ => ∃ d, ds = [d] ∧ tyD d ≠ none ∧ Q (.bl (wholeD d)) ω
def aIsCarry : ASp DWd := fun ds ω Q _ => ∃ d, ds = [d] ∧ tyD d ≠ none ∧ Q (.bl (carB d)) ω
def aIsRow : ASp DWd := fun ds ω Q _ => ∃ d b, ds = [d, .int b] ∧ okD d ∧ Q (.bl (rowD b d)) ω
def aSumHolds : ASp DWd := fun ds ω Q _ => ∃ xs ys ts d b, ds = [row xs, row ys, row ts, d, .int b] ∧ base_ b ∧ isRow b xs ∧ isRow b ys ∧ isRow b ts ∧ xs.length ≤ 20000 ∧ ys.length ≤ 20000 ∧ okD d ∧
  Q (.bl (decide (ts = digs b (wor b xs + wor b ys)) && sameD d (cCar b 0 (psum xs ys)))) ω
end MR
/-! a text so many times; a text read as a number -/
namespace MR
open PySem PySem.Spec L2
def strRep (s : Str) (k : Int) : Str := ⟨(List.replicate k.toNat s.cps).foldl (· ++ ·) #[]⟩
def rStrRep : V → V → Hp → VK → Prop := fun x y H Q => ∃ s k, x = .str s ∧ y = .int k ∧ (2 ≤ k ∧ k ≤ 1000 ∧ 0 < s.length ∧ s.length ≤ 1000 ∧ (strRep s k).length ≤ sizeLine) ∧ Q (.str (strRep s k)) H
section
variable {X : Cx}
theorem op_strRep : OpR X (binaryOp .Mult) rStrRep := by
  rintro pins s σ H x y v u Q I rx ry ⟨z, k, rfl, rfl, ⟨k0, k1, l0, l1, l2⟩, q⟩
  obtain ⟨t, rfl⟩ := rx
  obtain ⟨t', rfl⟩ := ry
  have hd : z.length * k.toNat ≤ 1000 * 1000 := Nat.mul_le_mul l1 (by omega : k.toNat ≤ 1000)
  refine P.mul_str ?_ (fun _ _ => ?_) (fun _ _ => ?_) ?_
  · rw [decide_eq_false (by omega), decide_eq_false (by omega)]
    rfl
  · have h1 : ((z.length : Int)) ≤ (2 ^ 63 - 1) / k := by
      refine (Int.le_ediv_iff_mul_le (by omega)).mpr ?_
      have : (z.length : Int) * k ≤ 1000 * 1000 := Int.mul_le_mul (by omega) k1 (by omega) (by decide)
      omega
    omega
  · have h : sizeLine = 16777216 := sl
    unfold Builtin.Str.tooLong
    rw [decide_eq_false_iff_not]
    omega
  · rw [if_neg (by omega), if_neg]
    · exact ⟨l2, .str _, H, I.tok _, ⟨_, rfl⟩, q⟩
    · simp only [Bool.or_eq_true, beq_iff_eq]
      omega
end
def fMulS : FD2
  | .str s, .int k, Q => (2 ≤ k ∧ k ≤ 1000 ∧ 0 < s.length ∧ s.length ≤ 1000 ∧ (strRep s k).length ≤ sizeLine) ∧ Q (.str (strRep s k))
  | _, _, _ => False
theorem op2_mulS {K : PySem.W.Frag} : Op2 K rStrRep fMulS := by
  intro wd F B ω H x y d e Qa Q hs rx ry hf k
  cases d <;> cases e <;> try exact hf.elim
  case str.int i j =>
    cases rx; cases ry
    exact ⟨i, j, rfl, rfl, hf.1, ro_same hs (.str _) hf.2 k⟩
def fIntS : FC
  | [.str a], Q => ∃ n, intText? a = some n ∧ a.length ≤ 640 ∧ Q (.int n)
  | _, _ => False
theorem c_intS {K : PySem.W.Frag} : COp K (fun xs H Q => ∃ a n, xs = [.str a] ∧ PySem.intText? a = some n ∧ a.length ≤ 640 ∧ Q (.int n) H) fIntS := by
  intro wd F B ω H vs ds Qa Q hs r hf k
  match ds, r, hf with
  | [.str a], .cons (.str _) .nil, ⟨n, h1, h2, q⟩ => exact ⟨a, n, rfl, h1, h2, ro_same hs (.int _) q k⟩
theorem fMulS_str (s : Str) (k : Int) (Q : D → Prop) : fMulS (.str s) (.int k) Q = ((2 ≤ k ∧ k ≤ 1000 ∧ 0 < s.length ∧ s.length ≤ 1000 ∧ (strRep s k).length ≤ sizeLine) ∧ Q (.str (strRep s k))) := Eq.trans rfl rfl
theorem fIntS_str (a : Str) (Q : D → Prop) : fIntS [.str a] Q = ∃ n, intText? a = some n ∧ a.length ≤ 640 ∧ Q (.int n) := Eq.trans rfl rfl
end MR
/-! rows compared, taken away; division -/
namespace MR
open PySem PySem.Spec L2
theorem lexLt_rev {b : Int} (hb : 2 ≤ b) : ∀ (us vs : List Int), us.length = vs.length → limbs b us → limbs b vs → HT.lexLt us vs = decide (wor b us.reverse < wor b vs.reverse)
  | [], [], _, _, _ => by
    show false = decide ((0:Int) < 0)
    decide
  | [], _ :: _, h, _, _ => by cases h
  | _ :: _, [], h, _, _ => by cases h
  | u :: us, v :: vs, h, h1, h2 => by
    have hl : us.length = vs.length := by simpa using h
    have ih := lexLt_rev hb us vs hl h1.tail h2.tail
    have a1 := h1 u (by simp)
    have a2 := h2 v (by simp)
    have r1 : limbs b us.reverse := fun n hn => h1.tail n (List.mem_reverse.mp hn)
    have r2 : limbs b vs.reverse := fun n hn => h2.tail n (List.mem_reverse.mp hn)
    have z1 := wor_nn (by omega : (0:Int) ≤ b) r1
    have z2 := wor_nn (by omega : (0:Int) ≤ b) r2
    have w1 := wor_lt (by omega : (1:Int) ≤ b) r1
    have w2 := wor_lt (by omega : (1:Int) ≤ b) r2
    rw [List.length_reverse] at w1 w2
    have pp : (0:Int) < b ^ us.length := Int.pow_pos (by omega)
    show (if u = v then HT.lexLt us vs else decide (u < v)) = _
    rw [List.reverse_cons, List.reverse_cons, wor_snoc, wor_snoc, List.length_reverse, List.length_reverse, ← hl]
    rw [← hl] at w2
    by_cases c : u = v
    · subst c
      rw [if_pos rfl, ih]
      exact decide_eq_decide.mpr ⟨fun q => by omega, fun q => by omega⟩
    · rw [if_neg c]
      refine decide_eq_decide.mpr ⟨fun q => ?_, fun q => ?_⟩
      · have m : (u + 1) * b ^ us.length ≤ v * b ^ us.length := Int.mul_le_mul_of_nonneg_right (by omega) (by omega)
        rw [Int.add_mul, Int.one_mul] at m
        omega
      · refine Int.not_le.mp fun z => ?_
        have m : (v + 1) * b ^ us.length ≤ u * b ^ us.length := Int.mul_le_mul_of_nonneg_right (by omega) (by omega)
        rw [Int.add_mul, Int.one_mul] at m
        omega
/-- of rows the longer one is the greater one -/
theorem row_longer {b : Int} (hb : 2 ≤ b) {xs ys : List Int} (h1 : limbs b xs) (h2 : isRow b ys) (h : xs.length < ys.length) : wor b xs < wor b ys := by
  have w1 := wor_lt (by omega : (1:Int) ≤ b) h1
  have w2 := row_ge hb h2 (by intro z; rw [z] at h; exact absurd h (Nat.not_lt_zero _))
  have := ipow_le (by omega : (1:Int) ≤ b) (by omega : xs.length ≤ ys.length - 1)
  omega
theorem row_lenle {b : Int} (hb : 2 ≤ b) {xs ys : List Int} (h1 : isRow b xs) (h2 : isRow b ys) (h : wor b ys ≤ wor b xs) : ys.length ≤ xs.length :=
  Nat.not_lt.mp fun z => by have := row_longer hb h1.lim h2 z; omega
theorem asIntsRev (ns : List Int) : asInts ((ns.map D.int).reverse) = some ns.reverse := by rw [← List.map_reverse, asInts_map]
theorem worT (b : Int) (ys : List Int) (i : Nat) : wor b (ys.take (i + 1)) = wor b (ys.take i) + b ^ i * ys.getD i 0 := by
  by_cases c : i < ys.length
  · have hy := List.getElem?_eq_getElem c
    rw [take_snoc hy, wor_append, len_take hy, List.getD_eq_getElem?_getD, hy]
    show _ + b ^ i * (ys[i] + b * 0) = _
    rw [Int.mul_zero, Int.add_zero]
    rfl
  · rw [List.take_of_length_le (by omega), List.take_of_length_le (by omega), List.getD_eq_getElem?_getD, List.getElem?_eq_none (by omega)]
    show _ = _ + _ * 0
    omega
def aIsLess : ASp DWd := fun ds ω Q _ => ∃ xs ys b, ds = [row xs, row ys] ∧ 2 ≤ b ∧ isRow b xs ∧ isRow b ys ∧ Q (.bl (decide (wor b xs < wor b ys))) ω
def aSummed : ASp DWd := fun ds ω Q _ => ∃ xs ys b, ds = [row xs, row ys, .int b] ∧ base_ b ∧ isRow b xs ∧ isRow b ys ∧ xs.length ≤ 20000 ∧ ys.length ≤ 20000 ∧ Q (row (digs b (wor b xs + wor b ys))) ω
def aLess : ASp DWd := fun ds ω Q _ => ∃ xs ys b, ds = [row xs, row ys, .int b] ∧ base_ b ∧ isRow b xs ∧ isRow b ys ∧ xs.length ≤ 20000 ∧ wor b ys ≤ wor b xs ∧ Q (row (digs b (wor b xs - wor b ys))) ω
/-! division by guesses -/
def rowWor (b : Int) (xs : List Int) : Prop := True
/-- the guess of a row by another one -/
def guessI (b : Int) (rs ys : List Int) : Int := min (b - 1) (wor b (rs.drop (ys.length - 1)) / ys.getLast?.getD 1)
theorem guess_ge {b : Int} (hb : 2 ≤ b) {rs ys : List Int} (h1 : limbs b rs) (h2 : isRow b ys) (hy : ys ≠ []) (hq : wor b rs / wor b ys ≤ b - 1) : wor b rs / wor b ys ≤ guessI b rs ys := by
  unfold guessI
  refine Int.le_min.mpr ⟨hq, ?_⟩
  have e1 : ys.getLast? = some (ys.getLast hy) := List.getLast?_eq_getLast hy
  rw [e1, Option.getD_some]
  have lt : 1 ≤ ys.getLast hy := by
    have a := h2.lim _ (List.getLast_mem hy)
    have c := h2.top
    rw [e1] at c
    have : ys.getLast hy ≠ 0 := fun z => c (by rw [z])
    omega
  have yp : 0 < wor b ys := by
    have := row_ge hb h2 hy
    have p : (0:Int) < b ^ (ys.length - 1) := Int.pow_pos (by omega)
    omega
  have es : ys = ys.dropLast ++ [ys.getLast hy] := (List.dropLast_concat_getLast hy).symm
  have ew : wor b ys = wor b ys.dropLast + ys.getLast hy * b ^ (ys.length - 1) := by
    conv => lhs; rw [es]
    rw [wor_snoc, List.length_dropLast]
  have d0 := wor_nn (by omega : (0:Int) ≤ b) (isRow.dropLast_lim h2.lim)
  have cut := (wor_cut hb h1 (ys.length - 1)).2
  rw [cut]
  have p : (0:Int) < b ^ (ys.length - 1) := Int.pow_pos (by omega)
  rw [Int.le_ediv_iff_mul_le (by omega), Int.le_ediv_iff_mul_le p]
  have q0 : 0 ≤ wor b rs / wor b ys := Int.ediv_nonneg (wor_nn (by omega) h1) (by omega)
  have m1 : wor b rs / wor b ys * wor b ys ≤ wor b rs := Int.ediv_mul_le _ (by omega)
  have m2 : wor b rs / wor b ys * (ys.getLast hy * b ^ (ys.length - 1)) ≤ wor b rs / wor b ys * wor b ys := Int.mul_le_mul_of_nonneg_left (by omega) q0
  rw [Int.mul_assoc]
  omega
/-- the top limbs of a row, i of them -/
def topW (b : Int) (xs : List Int) (i : Nat) : Int := wor b (xs.drop (xs.length - i))
theorem topW_step {b : Int} {xs : List Int} {i : Nat} {x : Int} (h : xs.reverse[i]? = some x) : topW b xs (i + 1) = topW b xs i * b + x := by
  obtain ⟨hi, e⟩ := rev_at h
  unfold topW
  rw [e]
  show x + b * _ = _
  rw [Int.mul_comm]
  omega
def turnD (b : Int) (xs ys : List Int) (i : Nat) (x : Int) : D :=
  .tup [.int (guessI b (digs b ((topW b xs i % wor b ys) * b + x)) ys), .int (((topW b xs i % wor b ys) * b + x) / wor b ys), row (digs b (topW b xs (i + 1) % wor b ys))]
def turnsD (b : Int) (xs ys : List Int) : List D := xs.reverse.mapIdx fun i x => turnD b xs ys i x
theorem turns_len (b : Int) (xs ys : List Int) : (turnsD b xs ys).length = xs.length := by
  unfold turnsD
  rw [List.length_mapIdx, List.length_reverse]
theorem turns_at {b : Int} {xs ys : List Int} {i : Nat} {x : Int} (h : xs.reverse[i]? = some x) : (turnsD b xs ys)[i]? = some (turnD b xs ys i x) := by
  unfold turnsD
  rw [List.getElem?_mapIdx, h]
  rfl
theorem turn_math {b : Int} (hb : 2 ≤ b) {W Y x : Int} (hY : 0 < Y) (hx : 0 ≤ x ∧ x < b) : 0 ≤ (W % Y * b + x) / Y ∧ (W % Y * b + x) / Y ≤ b - 1 ∧ (W * b + x) % Y = (W % Y * b + x) % Y ∧ (W * b + x) / Y = W / Y * b + (W % Y * b + x) / Y ∧ 0 ≤ W % Y * b + x := by
  have r0 := Int.emod_nonneg W (by omega : Y ≠ 0)
  have r1 := Int.emod_lt_of_pos W hY
  have m0 := Int.mul_nonneg r0 (by omega : (0:Int) ≤ b)
  have m1 : W % Y * b ≤ (Y - 1) * b := Int.mul_le_mul_of_nonneg_right (by omega) (by omega)
  have m2 : (Y - 1) * b = Y * b - b := by rw [Int.sub_mul, Int.one_mul]
  have e : W * b + x = Y * (W / Y * b) + (W % Y * b + x) := by
    have := Int.mul_ediv_add_emod W Y
    have e2 : W * b = (Y * (W / Y) + W % Y) * b := by rw [this]
    rw [e2, Int.add_mul, Int.mul_assoc]
    omega
  refine ⟨Int.ediv_nonneg (by omega) (by omega), Int.le_of_lt_add_one (Int.ediv_lt_of_lt_mul hY ?_), ?_, ?_, by omega⟩
  · rw [show b - 1 + 1 = b by omega, Int.mul_comm b Y]
    omega
  · rw [e, Int.add_comm, Int.add_mul_emod_self_left]
  · rw [e, Int.add_comm, Int.add_mul_ediv_left _ _ (by omega)]
    omega
def aGuess : ASp DWd := fun ds ω Q _ => ∃ rs ys b, ds = [row rs, row ys, .int b] ∧ base_ b ∧ limbs b rs ∧ isRow b ys ∧ ys ≠ [] ∧ rs.length ≤ 10000 ∧ ys.length ≤ 10000 ∧ Q (.int (guessI b rs ys)) ω
def aTurns : ASp DWd := fun ds ω Q _ => ∃ xs ys b, ds = [row xs, row ys, .int b] ∧ base_ b ∧ limbs b xs ∧ isRow b ys ∧ ys ≠ [] ∧ xs.length ≤ 5000 ∧ ys.length ≤ 5000 ∧ Q (.lst (turnsD b xs ys)) ω
def aDivided : ASp DWd := fun ds ω Q _ => ∃ xs ys b, ds = [row xs, row ys, .int b] ∧ base_ b ∧ isRow b xs ∧ isRow b ys ∧ ys ≠ [] ∧ xs.length ≤ 2000 ∧ ys.length ≤ 2000 ∧ Q (.tup [row (digs b (wor b xs / wor b ys)), row (digs b (wor b xs % wor b ys))]) ω
def aLifted : ASp DWd := fun ds ω Q _ => ∃ xs ys b, ds = [row xs, row ys, .int b] ∧ base_ b ∧ isRow b xs ∧ isRow b ys ∧ ys ≠ [] ∧ xs.length ≤ 2000 ∧ ys.length ≤ 2000 ∧
  ∀ l, 0 < l → l < b → wor b ys * l < b ^ ys.length → Q (.tup [.int l, row (digs b (wor b xs * l)), row (digs b (wor b ys * l))]) ω
end MR
/-! Euclid's quotients; texts of small limbs -/
namespace MR
open PySem PySem.Spec L2
def eucl (x y : Int) : List Int := if h : 0 < y then x / y :: eucl y (x % y) else []
termination_by y.toNat
decreasing_by
  have h1 := Int.emod_lt_of_pos x h
  have h2 := Int.emod_nonneg x (by omega : y ≠ 0)
  omega
theorem eucl_nil {x y : Int} (h : y ≤ 0) : eucl x y = [] := by rw [eucl, dif_neg (by omega)]
theorem eucl_cons {x y : Int} (h : 0 < y) : eucl x y = x / y :: eucl y (x % y) := by rw [eucl, dif_pos h]
theorem eucl_len : ∀ (n : Nat) (x y : Int), y < 2 ^ n → (eucl x y).length ≤ 2 * n
  | 0, x, y, h => by
    rw [Int.pow_zero] at h
    rw [eucl_nil (by omega)]
    exact Nat.zero_le _
  | n + 1, x, y, h => by
    by_cases c : 0 < y
    · have r0 := Int.emod_nonneg x (by omega : y ≠ 0)
      have r1 := Int.emod_lt_of_pos x c
      rw [eucl_cons c]
      generalize x % y = r at r0 r1
      by_cases d : 0 < r
      · have s0 := Int.emod_nonneg y (by omega : r ≠ 0)
        have s1 := Int.emod_lt_of_pos y d
        have s2 : y % r * 2 < y := by
          by_cases e : r * 2 ≤ y
          · omega
          · have e1 := Int.mul_ediv_add_emod y r
            have e2 : 1 ≤ y / r := (Int.le_ediv_iff_mul_le d).mpr (by omega)
            have e3 : r * 1 ≤ r * (y / r) := Int.mul_le_mul_of_nonneg_left e2 (by omega)
            omega
        rw [Int.pow_succ] at h
        have ih := eucl_len n r (y % r) (by omega)
        rw [eucl_cons d, List.length_cons, List.length_cons]
        omega
      · rw [eucl_nil (by omega)]
        simp only [List.length_cons, List.length_nil]
        omega
    · rw [eucl_nil (by omega)]
      exact Nat.zero_le _
theorem eucl_le {m : Int} : ∀ (k : Nat) (x y : Int), y.toNat ≤ k → 0 ≤ x → x ≤ m → y ≤ m → ∀ q ∈ eucl x y, 0 ≤ q ∧ q ≤ m
  | k, x, y, hk, h0, h1, h2, q, hq => by
    by_cases c : 0 < y
    · rw [eucl_cons c] at hq
      have r0 := Int.emod_nonneg x (by omega : y ≠ 0)
      have r1 := Int.emod_lt_of_pos x c
      rcases List.mem_cons.mp hq with rfl | hq
      · exact ⟨Int.ediv_nonneg h0 (by omega), Int.le_trans (Int.ediv_le_self _ h0) h1⟩
      · match k, hk with
        | 0, hk => omega
        | k + 1, hk => exact eucl_le k y (x % y) (by omega) (by omega) h2 (by omega) q hq
    · rw [eucl_nil (by omega)] at hq
      cases hq
theorem Sh.intk {i : Int} {k : Nat} (h : i.natAbs.log2 < k) (hk : 1 ≤ k) (h2 : k ≤ 1920) : Sh 1 (k + 1) (.int i) := ⟨by rw [pureD], by rw [toP, PyData.showable]; exact decide_eq_true (by omega), by rw [toP, PyData.depth]; omega, by
  have := int_text_length_le (k := k) hk h
  unfold shownD
  rw [toP, PyData.shown]
  show (Str.ofString (toString i)).length ≤ k + 1
  rw [ofString_length]
  exact this⟩
theorem Shs.intk {k : Nat} (hk : 1 ≤ k) (h2 : k ≤ 1920) : ∀ ns : List Int, (∀ n ∈ ns, n.natAbs.log2 < k) → Shs 1 ((k + 3) * ns.length) (ns.map D.int)
  | [], _ => .nil
  | n :: ns, h => (Shs.cons (Sh.intk (h n (by simp)) hk h2) (Shs.intk hk h2 ns fun m hm => h m (by simp [hm]))).mono (Nat.le_refl _) (by rw [List.length_cons, Nat.mul_add]; omega)
/-- a row's text, by its limbs -/
theorem sh_rowk {b : Int} {ns : List Int} (h : limbs b ns) (hb : b ≤ 10000) : Sh 2 (17 * ns.length + 3) (.tup (ns.map D.int)) :=
  Sh.tup (Shs.intk (k := 14) (by decide) (by decide) ns fun n hn => log_lt (h n hn).1 (by have := (h n hn).2; omega) (by decide))
/-- a tuple of rows -/
theorem Shs.rows {b : Int} (hb : b ≤ 10000) {k : Nat} : ∀ ts : List (List Int), (∀ t ∈ ts, limbs b t ∧ t.length ≤ k) → Shs 2 ((17 * k + 5) * ts.length) (ts.map row)
  | [], _ => .nil
  | t :: ts, h => (Shs.cons ((sh_rowk (h t (by simp)).1 hb).mono (Nat.le_refl _) (by have := (h t (by simp)).2; omega : 17 * t.length + 3 ≤ 17 * k + 3)) (Shs.rows hb ts fun m hm => h m (by simp [hm]))).mono (Nat.le_refl _) (by rw [List.length_cons, Nat.mul_add]; omega)
theorem rok_rows {b : Int} (hb : b ≤ 10000) {k m : Nat} {ts : List (List Int)} (h : ∀ t ∈ ts, limbs b t ∧ t.length ≤ k) (hl : ts.length ≤ m) (hm : (17 * k + 5) * m ≤ 15000000) : rOk (.tup (ts.map row)) = true :=
  (Sh.tup (Shs.rows hb ts h)).ok (by decide) (by have := Nat.mul_le_mul_left (17 * k + 5) hl; omega)
theorem cut_last1 {α : Type} (xs : List α) : cutD xs (some (-1)) none = xs.drop (xs.length - 1) := by
  unfold cutD
  have e1 : HT.sIx xs.length 0 (some (-1)) = xs.length - 1 := by
    show (if (-1:Int) < 0 then ((-1:Int) + (xs.length : Int)).toNat else min (-1:Int).toNat xs.length) = xs.length - 1
    rw [if_pos (by decide)]
    omega
  have e2 : HT.sIx xs.length xs.length none = xs.length := rfl
  rw [e1, e2, List.take_of_length_le (by rw [List.length_drop]; omega)]
theorem rok_int {i : Int} (h0 : 0 ≤ i) (h : i < 2 ^ 1900) : rOk (.int i) = true := (Sh.int (Nat.lt_trans (log_lt h0 h (by decide)) (by decide))).ok (by decide) (by decide)
theorem rok_row {b : Int} {ns : List Int} (h : limbs b ns) (hb : b ≤ 10000) (hl : ns.length ≤ 5000) : rOk (.tup (ns.map D.int)) = true := (Sh.tup (Shs.ints _ fun n hn => log100 (h n hn).1 (by have := (h n hn).2; omega))).ok (by decide) (by omega)
theorem pow1900 {b v : Int} (hb : base_ b) {k : Nat} (h : v < b ^ k) (hk : k ≤ 130) : v < 2 ^ 1900 := by
  have h1 := pow14 (by have := hb.1; omega : (0:Int) ≤ b) hb.2 k
  have h2 : (2:Int) ^ (14 * k) ≤ 2 ^ 1900 := ipow_le (by decide) (by omega)
  omega
theorem pow2b {b : Int} (hb : 2 ≤ b) : ∀ k : Nat, (2:Int) ^ k ≤ b ^ k
  | 0 => by rw [Int.pow_zero, Int.pow_zero]; exact Int.le_refl _
  | k + 1 => by
    have ih := pow2b hb k
    have p : (0:Int) ≤ 2 ^ k := Int.pow_nonneg (by decide)
    have q : (0:Int) ≤ b ^ k := Int.pow_nonneg (by omega)
    rw [Int.pow_succ, Int.pow_succ]
    exact Int.mul_le_mul ih hb (by decide) q
def aEucl : ASp DWd := fun ds ω Q _ => ∃ x y, ds = [.int x, .int y] ∧ 0 ≤ x ∧ 0 ≤ y ∧ x < 2 ^ 3000 ∧ y < 2 ^ 3000 ∧ Q (.lst ((eucl x y).map D.int)) ω
def rowsD (b : Int) (qs : List Int) : D := .tup (qs.map fun q => row (digs b q))
def aQuot : ASp DWd := fun ds ω Q _ => ∃ xs ys b, ds = [row xs, row ys, .int b] ∧ base_ b ∧ isRow b xs ∧ isRow b ys ∧ xs.length ≤ 200 ∧ ys.length ≤ 200 ∧ Q (rowsD b (eucl (wor b xs) (wor b ys))) ω
end MR
/-! starred targets; a list as what is unpacked; slices of lists with a step -/
namespace MR
open PySem PySem.Spec PyProof.Rows PySem.W
section
variable {prog : Program} {w : World} {A : Around} {E : Value → Shared → Prop} {s : Shared}
theorem star_T {a : Addr} {ys : Array Value} {n i : Nat} {Q : List Value → Shared → Prop} (ht : IsTup s.heap a ys) (ha : A.handled = none) (hi : i < n) (hn : n ≤ ys.size + 1) (hz : ys.size ≤ 16384)
    (q : ∀ (D : Addr) (g : Heap) (tk : Nat), (∀ b o, s.heap.get? b = some o → g.get? b = some o) → s.heap.get? D = none → g.get? D = some { cls := .type "list", data := .seq ((ys.toList.drop i).take (ys.size + 1 - n)).toArray } →
      Q (ys.toList.take i ++ [.ref D] ++ (ys.toList.drop i).drop (ys.size + 1 - n)) { s with heap := g, toks := tk }) : wpAny (model prog w) A (unpackItems (.ref a) n (some i)) Q E s := by
  obtain ⟨o0, g0, _⟩ := id ht
  have la := Heap.lt_size g0
  have na : a ≠ s.heap.objs.size := Nat.ne_of_lt la
  have f1 : (ys.toList.take i).length = i := by rw [List.length_take, Array.length_toList]; omega
  have f2 : (ys.toList.drop i).length = ys.size - i := by rw [List.length_drop, Array.length_toList]
  have f3 : (ys.toList.drop i).length - (n - 1 - i) = ys.size + 1 - n := by rw [f2]; omega
  unfold unpackItems notIterableAtAll
  refine wpAny_bind (wpAny_bind (wpAny_specialOf ht.typeIs PyProof.Rows.slot_tuple_iter.lookup (wpAny_pure ?_)))
  simp only [Bool.false_eq_true, if_false]
  refine wpAny_bind (wpAny_holding (iter_tuple ht (wpAny_bind (wpAny_holding (draw_tuple na i 0 _ _ ⟨_, Heap.get?_push_size _ rfl, rfl, rfl⟩ (ht.push _) (by omega) fun g1 it1 sb1 => ?_)))))
  have t1 : IsTup g1 a ys := (ht.push _).extBut sb1.extBut na
  rw [Nat.zero_add] at it1
  obtain ⟨oi, goi, _⟩ := id it1
  obtain ⟨ol, gol, _⟩ := id t1
  rw [List.drop_zero, if_neg (show ¬ ((ys.toList.take i).length < i) by omega)]
  refine wpAny_bind (wpAny_holding (kun_collect (s := { s with heap := g1 }) (T := "tuple_iterator") (.inr (.inr (.inr rfl))) (Walks.tuple (A := A.in1) ha s.heap.objs.size a na ys) (fun j u st => st.1.typeIs) (k := i) (by omega) ⟨it1, t1⟩ (Heap.lt_size goi) (Heap.lt_size gol) (fun g2 tk k2 => ?_) (by rw [sizeLine_eq]; omega)))
  show wpAny _ _ (if (ys.toList.drop i).length < n - 1 - i then _ else _) _ _ _
  rw [if_neg (by omega)]
  show wpAny _ _ (newList ((ys.toList.drop i).take ((ys.toList.drop i).length - (n - 1 - i))) >>= fun d => pure (ys.toList.take i ++ [d] ++ (ys.toList.drop i).drop ((ys.toList.drop i).length - (n - 1 - i)))) _ _ _
  rw [f3]
  have kp : ∀ b o, s.heap.get? b = some o → g2.get? b = some o := fun b o e => by
    have nb : b ≠ s.heap.objs.size := Nat.ne_of_lt (Heap.lt_size e)
    exact k2 b o nb (sb1.extBut b o nb (Heap.get?_push_of_some _ e))
  have nD : s.heap.get? g2.objs.size = none := by
    cases e : s.heap.get? g2.objs.size with
    | none => rfl
    | some o => exact absurd (Heap.lt_size (kp _ _ e)) (Nat.lt_irrefl _)
  exact wpAny_bind (wpAny_newList (s := { s with heap := g2, toks := tk }) (wpAny_pure (q _ _ tk (fun b o e => Heap.get?_push_of_some _ (kp b o e)) nD (Heap.get?_push_size _ rfl))) (by rw [List.length_take, f2, sizeLine_eq]; omega))
theorem star_L {a : Addr} {ys : Array Value} {n i : Nat} {Q : List Value → Shared → Prop} (ht : s.heap.IsList a ys) (ha : A.handled = none) (hi : i < n) (hn : n ≤ ys.size + 1) (hz : ys.size ≤ 16384)
    (q : ∀ (D : Addr) (g : Heap) (tk : Nat), (∀ b o, s.heap.get? b = some o → g.get? b = some o) → s.heap.get? D = none → g.get? D = some { cls := .type "list", data := .seq ((ys.toList.drop i).take (ys.size + 1 - n)).toArray } →
      Q (ys.toList.take i ++ [.ref D] ++ (ys.toList.drop i).drop (ys.size + 1 - n)) { s with heap := g, toks := tk }) : wpAny (model prog w) A (unpackItems (.ref a) n (some i)) Q E s := by
  obtain ⟨o0, g0, _⟩ := id ht
  have la := Heap.lt_size g0
  have na : a ≠ s.heap.objs.size := Nat.ne_of_lt la
  have f1 : (ys.toList.take i).length = i := by rw [List.length_take, Array.length_toList]; omega
  have f2 : (ys.toList.drop i).length = ys.size - i := by rw [List.length_drop, Array.length_toList]
  have f3 : (ys.toList.drop i).length - (n - 1 - i) = ys.size + 1 - n := by rw [f2]; omega
  unfold unpackItems notIterableAtAll
  refine wpAny_bind (wpAny_bind (wpAny_specialOf ht.typeIs slot_list_iter.lookup (wpAny_pure ?_)))
  simp only [Bool.false_eq_true, if_false]
  refine wpAny_bind (wpAny_holding (wpAny_pyIter_list ht (wpAny_bind (wpAny_holding (kun_draw na i 0 _ _ ⟨_, Heap.get?_push_size _ rfl, rfl, rfl⟩ (ht.push _) (by omega) fun g1 it1 sb1 => ?_)))))
  have t1 : g1.IsList a ys := (ht.push _).extBut sb1.extBut na
  rw [Nat.zero_add] at it1
  obtain ⟨oi, goi, _⟩ := id it1
  obtain ⟨ol, gol, _⟩ := id t1
  rw [List.drop_zero, if_neg (show ¬ ((ys.toList.take i).length < i) by omega)]
  refine wpAny_bind (wpAny_holding (kun_collect (s := { s with heap := g1 }) (T := "list_iterator") (.inr (.inr (.inl rfl))) (Walks.list (A := A.in1) ha s.heap.objs.size a na ys) (fun j u st => st.1.typeIs) (k := i) (by omega) ⟨it1, t1⟩ (Heap.lt_size goi) (Heap.lt_size gol) (fun g2 tk k2 => ?_) (by rw [sizeLine_eq]; omega)))
  show wpAny _ _ (if (ys.toList.drop i).length < n - 1 - i then _ else _) _ _ _
  rw [if_neg (by omega)]
  show wpAny _ _ (newList ((ys.toList.drop i).take ((ys.toList.drop i).length - (n - 1 - i))) >>= fun d => pure (ys.toList.take i ++ [d] ++ (ys.toList.drop i).drop ((ys.toList.drop i).length - (n - 1 - i)))) _ _ _
  rw [f3]
  have kp : ∀ b o, s.heap.get? b = some o → g2.get? b = some o := fun b o e => by
    have nb : b ≠ s.heap.objs.size := Nat.ne_of_lt (Heap.lt_size e)
    exact k2 b o nb (sb1.extBut b o nb (Heap.get?_push_of_some _ e))
  have nD : s.heap.get? g2.objs.size = none := by
    cases e : s.heap.get? g2.objs.size with
    | none => rfl
    | some o => exact absurd (Heap.lt_size (kp _ _ e)) (Nat.lt_irrefl _)
  exact wpAny_bind (wpAny_newList (s := { s with heap := g2, toks := tk }) (wpAny_pure (q _ _ tk (fun b o e => Heap.get?_push_of_some _ (kp b o e)) nD (Heap.get?_push_size _ rfl))) (by rw [List.length_take, f2, sizeLine_eq]; omega))
end
end MR
namespace MR
open PySem PySem.Spec L2
/-! by the hand layer -/
section
variable {X : Cx} {pos : Pos}
def gStar (K : PySem.W.Frag) (n i : Nat) (t : TGs) : TG := fun v σ H Q => ∃ a xs, v = .ref a ∧ (SqT K H a xs ∨ SqL K H a xs) ∧ i < n ∧ n ≤ xs.length + 1 ∧ xs.length ≤ 16384 ∧
  ∀ D, H D = none → t (xs.take i ++ [.ref D] ++ (xs.drop i).drop (xs.length + 1 - n)) σ (upd H D (.lst ((xs.drop i).take (xs.length + 1 - n)))) Q
theorem pg_star {es : List Expr} {k n i : Nat} {t : TGs} (hc : X.calm = true) (h : PGs X es t) (hn : (assignEach es X.env).length = n := by rfl) (hst : (assignEach es X.env).findIdx? (·.1) = some i := by rfl) : PG X (.Tuple es k pos) (gStar X.K n i t) := by
  refine ⟨fun pins s σ H v u Q I r hw => ?_⟩
  obtain ⟨a, xs, rfl, hq, hi, hn1, hz, hw⟩ := hw
  cases r
  rw [PyProof.Rows.assign_Tuple]
  refine wpAny_bind (wpAny_standAt ?_)
  unfold unpack
  rw [hn, hst]
  have fin : ∀ (its : List Value), Vals xs its → ∀ (D : Addr) (g : Heap) (tk : Nat), (∀ b o, s.heap.get? b = some o → g.get? b = some o) → s.heap.get? D = none → g.get? D = some { cls := .type "list", data := .seq ((its.drop i).take (its.length + 1 - n)).toArray } →
      wpAny (model X.prog X.w) X.A (assignInOrder ((assignEach es X.env).map (·.2)) (its.take i ++ [.ref D] ++ (its.drop i).drop (its.length + 1 - n))) (fun _ s' => ∃ σ' H', Inv X pins σ' H' s' ∧ Q σ' H') X.xe { s with heap := g, toks := tk } := fun its rv D g tk kp nD gD => by
    have HD : H D = none := I.hok.gone nD
    have el := rv.length
    have I1 := I.laidN (t' := tk) (o := .lst ((xs.drop i).take (xs.length + 1 - n))) kp nD HD ⟨by rw [List.length_take, List.length_drop, sizeLine_eq]; omega, _, 0, (rv.drop i).take (xs.length + 1 - n), by rw [el]; exact gD⟩
    refine h.run pins _ σ _ _ _ Q I1 ?_ (hw D HD)
    rw [← el]
    exact ((rv.take i).append (Paired.cons (show RelV (.ref D) (.ref D) from rfl) .nil)).append ((rv.drop i).drop _)
  rcases hq with hq | hq
  · obtain ⟨its, rv, ht, _⟩ := I.tuple hq
    have el := rv.length
    refine wpAny_bind (wpAny_holding (star_T ht (I.ok.hd hc) hi (by rw [List.size_toArray]; omega) (by rw [List.size_toArray]; omega) fun D g tk k1 k2 k3 => ?_))
    simpa using fin its rv D g tk k1 k2 (by simpa using k3)
  · obtain ⟨its, rv, ht, _⟩ := I.list hq
    have el := rv.length
    refine wpAny_bind (wpAny_holding (star_L ht.isList (I.ok.hd hc) hi (by rw [List.size_toArray]; omega) (by rw [List.size_toArray]; omega) fun D g tk k1 k2 k3 => ?_))
    simpa using fin its rv D g tk k1 k2 (by simpa using k3)
theorem pgs_star {e : Expr} {p : Pos} {es : List Expr} {t : TG} {u : TGs} (h1 : PG X e t) (h2 : PGs X es u) (hs : (assignEach (e :: es) X.env).map (·.2) = assign e X.env :: (assignEach es X.env).map (·.2) := by rfl)
    (he : (assignEach (.Starred e p :: es) X.env).map (·.2) = (assignEach (e :: es) X.env).map (·.2) := by rfl) : PGs X (.Starred e p :: es) (L2.gCons t u) := ⟨fun pins s σ H vs us Q I r h => by
  rw [he]
  exact (pgs_cons h1 h2 hs).run pins s σ H vs us Q I r h⟩
theorem pg_or {tg : Expr} {t u : TG} (h1 : PG X tg t) (h2 : PG X tg u) : PG X tg (fun v σ H Q => t v σ H Q ∨ u v σ H Q) := ⟨fun pins s σ H v w Q I r h => h.elim (h1.run pins s σ H v w Q I r) (h2.run pins s σ H v w Q I r)⟩
end
/-! slices with a step -/
def pickV {α : Type} (xs : List α) (lo hi st : Option Int) : List α := (sliceRange (sliceBounds lo hi st xs.length).1 (sliceBounds lo hi st xs.length).2.1 (sliceBounds lo hi st xs.length).2.2).filterMap (xs[·]?)
theorem pick_arr (its : List Value) (lo hi st : Option Int) : slicePick its.toArray lo hi st = (pickV its lo hi st).toArray := by
  unfold slicePick pickV
  simp
theorem vals_js {vs : List V} {us : List Value} (r : Vals vs us) : ∀ js : List Nat, Vals (js.filterMap (vs[·]?)) (js.filterMap (us[·]?))
  | [] => .nil
  | j :: js => by
    cases e : vs[j]? with
    | none =>
      rw [List.filterMap_cons_none e, List.filterMap_cons_none (r.none_of e)]
      exact vals_js r js
    | some v =>
      obtain ⟨u, e2, h⟩ := r.get e
      rw [List.filterMap_cons_some e, List.filterMap_cons_some e2]
      exact .cons h (vals_js r js)
theorem vals_pick {vs : List V} {us : List Value} (r : Vals vs us) (lo hi st : Option Int) : Vals (pickV vs lo hi st) (pickV us lo hi st) := by
  unfold pickV
  rw [r.length]
  exact vals_js r _
theorem rep_js {K : PySem.W.Frag} {B : Hp} {vs : List V} {ds : List D} (r : RepAll K B vs ds) : ∀ js : List Nat, RepAll K B (js.filterMap (vs[·]?)) (js.filterMap (ds[·]?))
  | [] => .nil
  | j :: js => by
    cases e : ds[j]? with
    | none =>
      have e2 : vs[j]? = none := by
        rw [List.getElem?_eq_none_iff] at e ⊢
        rw [r.length]
        exact e
      rw [List.filterMap_cons_none e, List.filterMap_cons_none e2]
      exact rep_js r js
    | some d =>
      obtain ⟨v, e2, h⟩ := r.get e
      rw [List.filterMap_cons_some e, List.filterMap_cons_some e2]
      exact .cons h (rep_js r js)
theorem rep_pick {K : PySem.W.Frag} {B : Hp} {vs : List V} {ds : List D} (r : RepAll K B vs ds) (lo hi st : Option Int) : RepAll K B (pickV vs lo hi st) (pickV ds lo hi st) := by
  unfold pickV
  rw [r.length]
  exact rep_js r _
theorem pick_mem {α : Type} {xs : List α} {lo hi st : Option Int} {x : α} (h : x ∈ pickV xs lo hi st) : x ∈ xs := by
  obtain ⟨j, _, e⟩ := List.mem_filterMap.mp h
  exact List.mem_of_getElem? e
theorem pick_len (its : List Value) (lo hi st : Option Int) : (pickV its lo hi st).length ≤ its.length := by
  have := slicePick_size_le its.toArray lo hi st
  rw [pick_arr] at this
  simpa using this
theorem pick_lenV {vs : List V} {us : List Value} (r : Vals vs us) (lo hi st : Option Int) : (pickV vs lo hi st).length ≤ vs.length := by
  rw [(vals_pick r lo hi st).length, r.length]
  exact pick_len us lo hi st
theorem pick_map {α β : Type} (f : α → β) (xs : List α) (lo hi st : Option Int) : pickV (xs.map f) lo hi st = (pickV xs lo hi st).map f := by
  unfold pickV
  rw [List.map_filterMap, List.length_map]
  congr 1
  funext j
  rw [List.getElem?_map]
theorem pick_lenA {α : Type} (xs : List α) (lo hi st : Option Int) : (pickV xs lo hi st).length ≤ xs.length := by
  have h := pick_len (xs.map fun _ => Value.none) lo hi st
  rw [pick_map, List.length_map, List.length_map] at h
  exact h
def tSt (K : PySem.W.Frag) (te : TE) (tl th ts : TO) : TE := fun σ H Q => te σ H fun x H1 => tl σ H1 fun lo H2 => th σ H2 fun hi H3 => ts σ H3 fun st H4 => ∃ a xs, x = .ref a ∧ SqL K H4 a xs ∧ st ≠ some 0 ∧ ∀ p, H4 p = none → Q (.ref p) (upd H4 p (.lst (pickV xs lo hi st)))
section
variable {X : Cx}
theorem pe_step {e est : Expr} {lo hi : Option Expr} {te : TE} {tl th ts : TO} {p3 pos : Pos} (he : PE X e te) (hl : PO X lo tl) (hu : PO X hi th) (hs : PO X (some est) ts) : PE X (.Subscript e (.Slice lo hi (some est) p3) pos) (tSt X.K te tl th ts) := ⟨fun pins s σ H Q I h => by
  refine PyProof.Rows.Subscript_ (thn (he.run pins s σ H _ I h) fun v s1 ⟨x, H1, I1, r1, q1⟩ => ?_)
  refine wpAny_Slice (thn (hl.run pins s1 σ H1 _ I1 q1) fun vl s2 ⟨l, H2, I2, pl, q2⟩ => thn (hu.run pins s2 σ H2 _ I2 q2) fun vu s3 ⟨u, H3, I3, pu, q3⟩ => thn (hs.run pins s3 σ H3 _ I3 q3) ?_)
  rintro vs s4 ⟨st, H4, I4, ps, a, xs, rfl, hx, h0, q4⟩
  cases r1
  have isS := Heap.IsSliceOf.new s4.heap vl vu vs
  have I5 := I4.kept (h' := s4.heap.push { cls := .type "slice", data := .fields #[vl, vu, vs] }) (t' := s4.toks) fun b ob q => Heap.get?_push_of_some _ q
  refine (show wpAny (model X.prog X.w) X.A (PyProof.Rows.subscriptTail e (.Slice lo hi (some est) p3) (.ref a) (.ref s4.heap.objs.size)) (EP X pins σ Q) X.xe _ from ?_)
  obtain ⟨its, r, ht, hz⟩ := I5.list hx
  have hlen := r.length
  refine PyProof.Rows.tail_any (ops := [.ref a, .ref s4.heap.objs.size]) ht.isList.typeIs PySem.slot_list_getitem.lookup (wpAny_getItem_list_slice ht.isList isS pl pu ps h0 ?_ (by simpa [← hlen] using hz)) (by with_unfolding_all rfl)
  rw [pick_arr]
  refine ⟨.ref _, _, I5.laid (t' := s4.toks) (o := .lst (pickV xs l u st)) (fun b ob q => Heap.get?_push_of_some _ q) (Nat.le_refl _) ?_, rfl, q4 _ (I5.hok.fresh (Nat.le_refl _))⟩
  exact ⟨Nat.le_trans (pick_lenV r l u st) hz, _, 0, vals_pick r l u st, Heap.get?_push_size _ rfl⟩⟩
end
/-! the mirror -/
section
variable {wd : Wd} {X : Cx} {W : WX} {pos : Pos} {e : Expr} {ge : AE wd}
def gStp (g : AA wd) (gl gh gs : AO wd) : AA wd := fun ρ ω Q E => g ρ ω (fun x ω1 => gl ρ ω1 (fun lo ω2 => gh ρ ω2 (fun hi ω3 => gs ρ ω3 (fun st ω4 => st ≠ some 0 ∧ Q (pickV x lo hi st) ω4) E) E) E) E
theorem gf_step {est : Expr} {lo hi : Option Expr} {p3 : Pos} {g : AA wd} {gl gh gs : AO wd} (h : GL wd X W e g) (hl : GO wd X W lo gl) (hh : GO wd X W hi gh) (hs : GO wd X W (some est) gs) : GF wd X W (.Subscript e (.Slice lo hi (some est) p3) pos) (gStp g gl gh gs) := by
  obtain ⟨t, p, r⟩ := h.ex
  obtain ⟨tl, pl, rl⟩ := hl.ex
  obtain ⟨th, ph, rh⟩ := hh.ex
  obtain ⟨ts, ps, rs⟩ := hs.ex
  refine ⟨_, pe_step p pl ph ps, fun F B ρ ω σ H Qa Ea Q hs he hg hk hx => r F B ρ ω σ H _ Ea _ hs he hg (fun B1 ω1 H1 q1 vs ds s1 hs1 l1 r1 g1 =>
    rl F B1 ρ ω1 σ H1 _ Ea _ hs1 (he.mono s1) g1 (fun B2 ω2 H2 lo s2 hs2 g2 => rh F B2 ρ ω2 σ H2 _ Ea _ hs2 (he.mono (s1.trans s2)) g2 (fun B3 ω3 H3 hi s3 hs3 g3 => rs F B3 ρ ω3 σ H3 _ Ea _ hs3 (he.mono ((s1.trans s2).trans s3)) g3 (fun B4 ω4 H4 st s4 hs4 g4 => ?_) (hx.mono ((s1.trans s2).trans s3))) (hx.mono (s1.trans s2))) (hx.mono s1)) hx⟩
  have hp := hs4.lst (Or.up ((s2.trans s3).trans s4) l1)
  exact ⟨_, _, rfl, SqL.of hp, g4.1, fun p hp => hk _ _ _ p _ _ (((s1.trans s2).trans s3).trans s4) hs4 hp (rep_pick (r1.mono ((s2.trans s3).trans s4)) lo hi st) g4.2⟩
/-- targets, one of them starred -/
def sStar (n i : Nat) (g : AE wd) (t : AGs) : AS wd := fun Da ρ ω => g ρ ω (fun d ω' => match seqD d with
  | some xs => i < n ∧ n ≤ xs.length + 1 ∧ xs.length ≤ 16384 ∧ t (xs.take i ++ (.lst ((xs.drop i).take (xs.length + 1 - n)) :: (xs.drop i).drop (xs.length + 1 - n))) ρ (fun ρ' => Da.nx ρ' ω')
  | none => False) (fun x ω' => Da.ex x ρ ω')
theorem ggs_star {tg : Expr} {p : Pos} {es : List Expr} {a : AG} {b : AGs} (h1 : GG wd X tg a) (h2 : GGs wd X es b) (hs : (assignEach (tg :: es) X.env).map (·.2) = assign tg X.env :: (assignEach es X.env).map (·.2) := by rfl)
    (he : (assignEach (.Starred tg p :: es) X.env).map (·.2) = (assignEach (tg :: es) X.env).map (·.2) := by rfl) : GGs wd X (.Starred tg p :: es) (aCons a b) :=
  let ⟨_, p1, r1⟩ := h1.ex; let ⟨_, p2, r2⟩ := h2.ex; ⟨_, pgs_star p1 p2 hs he, fun F0 F B ρ ω σ H vs ds Qa Q s r q k => by
    cases r with
    | nil => exact q.elim
    | cons ra rb => exact ⟨_, _, rfl, r1 F0 F B ρ ω σ H _ _ _ _ s ra q fun ρ' σ' s' q' => r2 F0 F B ρ' ω σ' H _ _ _ _ s' rb q' k⟩⟩
theorem gs_star {es : List Expr} {k n i : Nat} {b : AGs} {p2 : Pos} (hc : X.calm = true) (he : GE wd X W e ge) (h : GGs wd X es b) (hn : (assignEach es X.env).length = n := by rfl) (hst : (assignEach es X.env).findIdx? (·.1) = some i := by rfl)
    (hs : swapsWithSole [.Tuple es k p2] e pos.line X.env = pure false := by rfl) (hw : swappedStores [.Tuple es k p2] e X.env = pure none := by rfl) (h1 : (assignEach [.Tuple es k p2] X.env).map (·.2) = [assign (.Tuple es k p2) X.env] := by rfl) :
    GS wd X W (.Assign [.Tuple es k p2] e pos) (sStar n i ge b) :=
  let ⟨_, p, r⟩ := he.ex; let ⟨_, pg, rg⟩ := h.ex; ⟨_, ps_asg p (pg_star hc pg hn hst) hs hw h1, fun F0 F B ρ ω σ H Da E s q k => r F B ρ ω σ H _ _ _ s.st s.env q (fun B1 ω1 H1 v1 d1 s1 hs1 rv g1 => by
    have S1 := s.up s1 hs1
    have go : ∀ (a : Addr) (xs : List V) (ds : List D), (SqT X.K H1 a xs ∨ SqL X.K H1 a xs) → RepAll X.K B1 xs ds → i < n ∧ n ≤ ds.length + 1 ∧ ds.length ≤ 16384 ∧ b (ds.take i ++ (.lst ((ds.drop i).take (ds.length + 1 - n)) :: (ds.drop i).drop (ds.length + 1 - n))) ρ (fun ρ' => Da.nx ρ' ω1) →
        gStar X.K n i _ (.ref a) σ H1 (E.nx) := fun a xs ds hq rr ⟨h1, h2, h3, h4⟩ => by
      have el := rr.length
      refine ⟨a, xs, rfl, hq, h1, by omega, by omega, fun D hD => ?_⟩
      obtain ⟨s2, h2'⟩ := S1.st.new (o := .lst ((xs.drop i).take (xs.length + 1 - n))) hD
      refine rg F0 F _ ρ ω1 σ _ _ _ _ _ (S1.up s2 h2') ?_ h4 fun ρ' σ' s' q' => k.nx (s1.trans s2) s' q'
      have r1 := rr.mono s2
      rw [← el, List.append_assoc]
      exact (r1.take i).append (.cons (.lst upd_same ((r1.drop i).take _)) ((r1.drop i).drop _))
    cases d1 <;> try exact g1.elim
    case tup xs =>
      cases rv with
      | tup h1 r1 => exact go _ _ _ (.inl (Same.seqT hs1.sB h1)) r1 g1
    case lst xs =>
      cases rv with
      | lst h1 r1 => exact go _ _ _ (.inr (SqL.of (hs1.sB _ _ h1))) r1 g1) (k.xok s)⟩
/-- targets of a tuple or a list -/
def aSeq (g : AGs) : AG := fun d ρ Q => match d with
  | .tup xs => g xs ρ Q
  | .lst xs => g xs ρ Q
  | _ => False
theorem gg_seq {es : List Expr} {k n : Nat} {b : AGs} (hc : X.calm = true) (h : GGs wd X es b) (hb : ∀ xs ρ Q, b xs ρ Q → xs.length = n) (hn : (assignEach es X.env).length = n := by rfl) (hst : (assignEach es X.env).findIdx? (·.1) = none := by rfl) : GG wd X (.Tuple es k pos) (aSeq b) :=
  let ⟨_, p, r⟩ := h.ex; ⟨_, pg_or (pg_tup hc p hn hst) (pg_lst hc p hn hst), fun F0 F B ρ ω σ H v d Qa Q s r0 q k => by
    cases d <;> try exact q.elim
    case tup xs =>
      cases r0 with
      | tup h1 r1 => exact .inl ⟨_, _, rfl, Same.seqT s.st.sB h1, r1.length.trans (hb _ _ _ q), r F0 F B ρ ω σ H _ _ _ _ s r1 q k⟩
    case lst xs =>
      cases r0 with
      | lst h1 r1 => exact .inr ⟨_, _, rfl, SqL.of (s.st.sB _ _ h1), r1.length.trans (hb _ _ _ q), r F0 F B ρ ω σ H _ _ _ _ s r1 q k⟩⟩
theorem aex_seq {n : Nat} {b : AGs} (h : AL n b) : AEx (aSeq b) := fun d ρ P q => by
  cases d <;> try exact q.elim
  all_goals exact (h _ _ _ q).2
end
/-! what comes behind kept as it is, unread -/
theorem ends_opq {wd : Wd} {S : AS wd} {n b c : AEnv → wd.W → Prop} {r : AQ wd} {x : EX → AEnv → wd.W → Prop} {ρ : AEnv} {ω : wd.W} (h : ∀ N, N = n → S ⟨N, r, b, c, x⟩ ρ ω) : S ⟨n, r, b, c, x⟩ ρ ω := h n rfl
theorem seq_opq {wd : Wd} {A B : AS wd} {Da : AEnds wd} {ρ : AEnv} {ω : wd.W} (h : ∀ N, N = B Da → A { Da with nx := N } ρ ω) : sSeq A B Da ρ ω := h _ rfl
theorem sRet_f {wd : Wd} (g : AE wd) (Da : AEnds wd) : sRet g Da = fun ρ ω => g ρ ω Da.rt (fun x ω' => Da.ex x ρ ω') := Eq.trans rfl rfl
end MR
/-! guesses: the limbs told, how far off they are; high rows -/
namespace MR
open PySem PySem.Spec L2
/-- for each limb a guess and the quotient's limb, r the rest so far -/
def gl (b Y B t : Int) : Int → List Int → List (Int × Int)
  | _, [] => []
  | r, u :: us => (min (b - 1) ((r * b + u) / B / t), (r * b + u) / Y) :: gl b Y B t ((r * b + u) % Y) us
def gD (p : Int × Int) : D := .tup [.int p.1, .int p.2]
theorem gl_len (b Y B t : Int) : ∀ (r : Int) (us : List Int), (gl b Y B t r us).length = us.length
  | _, [] => rfl
  | r, u :: us => by rw [gl, List.length_cons, List.length_cons, gl_len]
/-- a high row's top -/
structure High (b : Int) (ys : List Int) (t : Int) : Prop where
  r : isRow b ys
  ne : ys ≠ []
  top : ys.getLast? = some t
  hi : b / 2 ≤ t
theorem High.lt {b : Int} {ys : List Int} {t : Int} (h : High b ys t) : 1 ≤ t ∧ t < b := by
  have a := h.r.lim t (by
    have := h.top
    exact List.mem_of_getLast? this)
  have c := h.r.top
  rw [h.top] at c
  have : t ≠ 0 := fun z => c (by rw [z])
  omega
theorem top_wor {b : Int} (hb : 2 ≤ b) {ys : List Int} {t : Int} (h : isRow b ys) (ht : ys.getLast? = some t) : t * b ^ (ys.length - 1) ≤ wor b ys ∧ wor b ys < (t + 1) * b ^ (ys.length - 1) := by
  have hy : ys ≠ [] := by
    intro z
    rw [z] at ht
    cases ht
  have es : ys = ys.dropLast ++ [t] := by
    have e := (List.dropLast_concat_getLast hy).symm
    have e2 : ys.getLast hy = t := Option.some.inj ((List.getLast?_eq_getLast hy).symm.trans ht)
    rw [e2] at e
    exact e
  have ew : wor b ys = wor b ys.dropLast + t * b ^ (ys.length - 1) := by
    conv => lhs; rw [es]
    rw [wor_snoc, List.length_dropLast]
  have l0 := isRow.dropLast_lim h.lim
  have d0 := wor_nn (by omega : (0:Int) ≤ b) l0
  have d1 := wor_lt (by omega : (1:Int) ≤ b) l0
  rw [List.length_dropLast] at d1
  rw [Int.add_mul, Int.one_mul]
  omega
theorem High.pos {b : Int} (hb : 2 ≤ b) {ys : List Int} {t : Int} (h : High b ys t) : 0 < wor b ys := by
  have := row_ge hb h.r h.ne
  have p : (0:Int) < b ^ (ys.length - 1) := Int.pow_pos (by omega)
  omega
/-- Knuth: a guess is never more than two ahead -/
theorem guess_off {b t B Y w : Int} (hb : 2 ≤ b) (hB : 0 < B) (t1 : 1 ≤ t) (th : b / 2 ≤ t) (tb : t < b) (y0 : t * B ≤ Y) (y1 : Y < (t + 1) * B) (w0 : 0 ≤ w) (wq : w / Y ≤ b - 1) : w / Y ≤ min (b - 1) (w / B / t) ∧ min (b - 1) (w / B / t) ≤ w / Y + 2 := by
  have tB : 1 * B ≤ t * B := Int.mul_le_mul_of_nonneg_right t1 (by omega)
  have Yp : 0 < Y := by omega
  have q0 : 0 ≤ w / Y := Int.ediv_nonneg w0 (by omega)
  have qm : w / Y * Y ≤ w := Int.ediv_mul_le _ (by omega)
  refine ⟨Int.le_min.mpr ⟨wq, ?_⟩, ?_⟩
  · rw [Int.le_ediv_iff_mul_le (by omega), Int.le_ediv_iff_mul_le hB, Int.mul_assoc]
    have := Int.mul_le_mul_of_nonneg_left y0 q0
    omega
  · refine Int.not_lt.mp fun c => ?_
    obtain ⟨g, hg⟩ : ∃ g, g = min (b - 1) (w / B / t) := ⟨_, rfl⟩
    rw [← hg] at c
    have g1 : g ≤ b - 1 := by rw [hg]; exact Int.min_le_left _ _
    have g2 : g ≤ w / B / t := by rw [hg]; exact Int.min_le_right _ _
    have g3 : g * t * B ≤ w := by
      have a1 := (Int.le_ediv_iff_mul_le (by omega)).mp g2
      exact (Int.le_ediv_iff_mul_le hB).mp a1
    have g4 : w < (w / Y + 1) * Y := by
      have := Int.lt_ediv_add_one_mul_self w Yp
      exact this
    generalize w / Y = q at *
    have g5 : (q + 1) * Y ≤ (q + 1) * ((t + 1) * B) := Int.mul_le_mul_of_nonneg_left (by omega) (by omega)
    have g6 : (q + 3) * t * B ≤ g * t * B := Int.mul_le_mul_of_nonneg_right (Int.mul_le_mul_of_nonneg_right (by omega) (by omega)) (by omega)
    have g7 : (q + 3) * t * B < (q + 1) * (t + 1) * B := by rw [Int.mul_assoc (q + 1)]; omega
    have g8 : (q + 3) * t < (q + 1) * (t + 1) := Int.lt_of_mul_lt_mul_right g7 (by omega)
    rw [Int.add_mul, Int.add_mul, Int.mul_add] at g8
    omega
theorem gl_in {b Y B t : Int} (hb : 2 ≤ b) (hB : 0 < B) (t1 : 1 ≤ t) (th : b / 2 ≤ t) (tb : t < b) (y0 : t * B ≤ Y) (y1 : Y < (t + 1) * B) : ∀ (us : List Int) (r : Int), limbs b us → 0 ≤ r → r < Y → ∀ p ∈ gl b Y B t r us, 0 ≤ p.2 ∧ p.2 ≤ p.1 ∧ p.1 ≤ p.2 + 2 ∧ p.1 ≤ b - 1
  | [], _, _, _, _ => (fun _ h => nomatch h)
  | u :: us, r, hu, r0, r1 => fun p hp => by
    have tB : 1 * B ≤ t * B := Int.mul_le_mul_of_nonneg_right t1 (by omega)
    have Yp : 0 < Y := by omega
    have ux := hu u (by simp)
    have m := turn_math (W := r) hb Yp ux
    rw [Int.emod_eq_of_lt r0 r1] at m
    rcases List.mem_cons.mp hp with rfl | hp
    · have g := guess_off hb hB t1 th tb y0 y1 m.2.2.2.2 m.2.1
      exact ⟨m.1, g.1, g.2, Int.min_le_left _ _⟩
    · exact gl_in hb hB t1 th tb y0 y1 us _ hu.tail (Int.emod_nonneg _ (by omega)) (Int.emod_lt_of_pos _ Yp) p hp
/-- the limbs told are those of the quotient -/
theorem gl_quot {b Y B t : Int} (hb : 2 ≤ b) (hY : 0 < Y) : ∀ (us : List Int) (r : Int), limbs b us → 0 ≤ r → r < Y →
    limbs b ((gl b Y B t r us).map (·.2)) ∧ wor b ((gl b Y B t r us).map (·.2)).reverse = (r * b ^ us.length + wor b us.reverse) / Y
  | [], r, _, r0, r1 => by
    refine ⟨(fun _ h => nomatch h), ?_⟩
    show (0:Int) = (r * b ^ 0 + 0) / Y
    rw [Int.pow_zero, Int.mul_one, Int.add_zero, Int.ediv_eq_zero_of_lt r0 r1]
  | u :: us, r, hu, r0, r1 => by
    have ux := hu u (by simp)
    have m := turn_math (W := r) hb hY ux
    rw [Int.emod_eq_of_lt r0 r1] at m
    have s0 := Int.emod_nonneg (r * b + u) (by omega : Y ≠ 0)
    have s1 := Int.emod_lt_of_pos (r * b + u) hY
    obtain ⟨i1, i2⟩ := gl_quot (B := B) (t := t) hb hY us _ hu.tail s0 s1
    have lw : limbs b us.reverse := fun n hn => hu.tail n (List.mem_reverse.mp hn)
    refine ⟨fun n hn => ?_, ?_⟩
    · rw [gl, List.map_cons] at hn
      rcases List.mem_cons.mp hn with rfl | hn
      · exact ⟨m.1, by have := m.2.1; omega⟩
      · exact i1 n hn
    · rw [gl, List.map_cons, List.reverse_cons, wor_snoc, i2, List.length_reverse, List.length_map, gl_len, List.reverse_cons, wor_snoc, List.length_reverse, List.length_cons]
      show _ + (r * b + u) / Y * b ^ us.length = _
      have e : r * b ^ (us.length + 1) + (wor b us.reverse + u * b ^ us.length) = ((r * b + u) % Y * b ^ us.length + wor b us.reverse) + Y * ((r * b + u) / Y * b ^ us.length) := by
        have d := Int.mul_ediv_add_emod (r * b + u) Y
        have d2 : (r * b + u) * b ^ us.length = (Y * ((r * b + u) / Y) + (r * b + u) % Y) * b ^ us.length := by rw [d]
        rw [Int.add_mul, Int.add_mul, Int.mul_assoc Y, Int.mul_assoc r, Int.mul_comm b] at d2
        rw [Int.pow_succ]
        omega
      rw [e, Int.add_mul_ediv_left _ _ (by omega)]
theorem strip_app : ∀ ns : List Int, ns = strip ns ++ List.replicate (ns.length - (strip ns).length) 0
  | [] => rfl
  | n :: ns => by
    have ih := strip_app ns
    have hl := strip_len ns
    unfold strip
    split
    · rename_i c
      obtain ⟨c1, c2⟩ := c
      rw [c1] at ih
      rw [c2]
      simp only [List.nil_append, List.length_nil, Nat.sub_zero, List.length_cons, List.replicate_succ] at ih ⊢
      rw [← ih]
    · rw [List.cons_append, List.length_cons, List.length_cons, show ns.length + 1 - ((strip ns).length + 1) = ns.length - (strip ns).length by omega, ← ih]
def cut2 : D → D
  | .tup l => .tup (l.take 2)
  | d => d
theorem flat_g (g : D → D) : ∀ xs : List D, xs.flatMap (fun x => [g x]) = xs.map g
  | [] => rfl
  | x :: xs => by rw [List.flatMap_cons, List.map_cons, flat_g g xs]; rfl
/-- what is told of the guesses -/
theorem turns_gl {b : Int} (hb : 2 ≤ b) {xs ys : List Int} {t : Int} (h1 : limbs b xs) (h2 : isRow b ys) (ht : ys.getLast? = some t) (Yp : 0 < wor b ys) : ∀ (k i : Nat), i + k = xs.length →
    ((turnsD b xs ys).drop i).map cut2 = (gl b (wor b ys) (b ^ (ys.length - 1)) t (topW b xs i % wor b ys) (xs.reverse.drop i)).map gD
  | 0, i, h => by
    rw [List.drop_of_length_le (by rw [turns_len]; omega), List.drop_of_length_le (by rw [List.length_reverse]; omega)]
    rfl
  | k + 1, i, h => by
    have hi : i < xs.reverse.length := by rw [List.length_reverse]; omega
    have hx := List.getElem?_eq_getElem hi
    generalize xs.reverse[i] = x at hx
    have lx := h1 x (List.mem_reverse.mp (List.mem_of_getElem? hx))
    have m := turn_math (W := topW b xs i) hb Yp lx
    have r1 := Int.emod_lt_of_pos (topW b xs i) Yp
    have ih := turns_gl hb h1 h2 ht Yp k (i + 1) (by omega)
    have et := turns_at (b := b) (ys := ys) hx
    have d1 : (turnsD b xs ys).drop i = turnD b xs ys i x :: (turnsD b xs ys).drop (i + 1) := by
      obtain ⟨hi2, e⟩ := List.getElem?_eq_some_iff.mp et
      rw [List.drop_eq_getElem_cons hi2, e]
    have d2 : xs.reverse.drop i = x :: xs.reverse.drop (i + 1) := by
      obtain ⟨hi2, e⟩ := List.getElem?_eq_some_iff.mp hx
      rw [List.drop_eq_getElem_cons hi2, e]
    have wl : topW b xs i % wor b ys * b + x < b ^ (ys.length + 1) := by
      have yl := wor_lt (by omega : (1:Int) ≤ b) h2.lim
      have mm : topW b xs i % wor b ys * b ≤ (b ^ ys.length - 1) * b := Int.mul_le_mul_of_nonneg_right (by omega) (by omega)
      rw [Int.sub_mul, Int.one_mul] at mm
      rw [Int.pow_succ]
      omega
    have dw := digs_ok hb m.2.2.2.2 wl
    rw [d1, d2, List.map_cons, gl, List.map_cons, ih]
    congr 1
    · unfold turnD gD guessI
      rw [(wor_cut hb dw.1.lim (ys.length - 1)).2, dw.2.1, ht, Option.getD_some]
      rfl
    · rw [topW_step hx, m.2.2.1]
def highB (b : Int) (ns : List Int) : Bool := match ns.getLast? with
  | none => false
  | some t => decide (b / 2 ≤ t)
def aIsHigh : ASp DWd := fun ds ω Q _ => ∃ ns b, ds = [row ns, .int b] ∧ base_ b ∧ Q (.bl (highB b ns)) ω
def aHigh : ASp DWd := fun ds ω Q _ => ∃ p b m T, ds = [.adr p, .int b, .int m] ∧ Dk ω p T ∧ T < 2 ^ 58 ∧ base_ b ∧ 1 ≤ m ∧ m ≤ 60 ∧ ∀ ns t ω', High b ns t → (ns.length : Int) ≤ m → Dk ω' p (T + m + 8) → Q (row ns) ω'
def aGuesses : ASp DWd := fun ds ω Q _ => ∃ xs ys t b, ds = [row xs, row ys, .int b] ∧ base_ b ∧ limbs b xs ∧ isRow b ys ∧ ys.getLast? = some t ∧ xs.length ≤ 5000 ∧ ys.length ≤ 5000 ∧ Q (.tup ((gl b (wor b ys) (b ^ (ys.length - 1)) t 0 xs.reverse).map gD)) ω
end MR
/-! exceptions: raise of a class without __init__, try .. except, isinstance within the suite; facts of any kind at the head -/
namespace MR
open PySem PySem.Spec L2
/-! facts of any kind -/
abbrev FB : Type := PySem.W.Frag → Bool
def bsAll (bs : List FB) (K : PySem.W.Frag) : Bool := bs.all fun f => f K
def obB (n : Nat) (fa : List He.Fa) (fn : List He.DefD) (bs : List FB) (g : Addr → Option Obj) : Bool × He.AlD := (bsAll bs (He.frG g (He.asD g n)), He.obsDG n fa fn g)
def hookB (n : Nat) (fa : List He.Fa) (fn : List He.DefD) (bs : List FB) : PySem.W.Hook where
  α := Bool × He.AlD
  obs := fun s => obB n fa fn bs s.heap.get?
  val := fun _ => (true, He.valD fn)
  says := fun _ h => ∃ K : PySem.W.Frag, K.In h ∧ He.SaysD fa fn K ∧ bsAll bs K = true
  of := fun _ _ e => ⟨_, He.frG_in, (Prod.mk.inj e).2, (Prod.mk.inj e).1⟩
  keeps := fun _ _ _ ⟨K, hK, c⟩ k => ⟨K, PySem.W.Frag.In.keeps hK k, c⟩
theorem obB_eq {n : Nat} {fa : List He.Fa} {fn : List He.DefD} {bs : List FB} {g : Addr → Option Obj} {s : Shared} (h : ∀ a, g a = s.heap.get? a) : obB n fa fn bs g = (hookB n fa fn bs).obs s := by
  have e : g = s.heap.get? := funext h
  rw [e]
  rfl
theorem bs_at {bs : List FB} {K : PySem.W.Frag} (c : bsAll bs K = true) (i : Nat) {f : FB} (h : bs[i]? = some f := by rfl) : f K = true := List.all_eq_true.mp c f (List.mem_of_getElem? h)
/-! a class that may be raised -/
def aeB : List Value := [.type "ArithmeticError", .type "Exception", .type "BaseException", .type "object"]
structure ExcT (K : PySem.W.Frag) (C : Addr) : Prop where
  q : PySem.W.excIn K C aeB "ArithmeticError.__new__" = true
  kp : PySem.W.keepIn K (.ref C) = true
  sub : PySem.W.subIn K (.ref C) (.type "BaseException") = some true
  ty : PySem.W.typeIn K (.ref C) = some (.type "type")
  cc : ExcC K C
def excTB (x : Str) : FB := fun K => PySem.W.excIn K (He.ga K x) aeB "ArithmeticError.__new__" && (PySem.W.keepIn K (.ref (He.ga K x)) && (decide (PySem.W.subIn K (.ref (He.ga K x)) (.type "BaseException") = some true) && (decide (PySem.W.typeIn K (.ref (He.ga K x)) = some (.type "type")) &&
  (decide (PySem.W.findIn K (.ref (He.ga K x)) "__getattribute__" = some (some (.builtin "BaseException.__getattribute__"))) && (decide (PySem.W.findIn K (.ref (He.ga K x)) "__getattr__" = some none) && (PySem.W.hasDictIn K (He.ga K x) &&
  (decide (PySem.W.findIn K (.ref (He.ga K x)) "__class__" = some (some (.builtin "object.__class__"))) && (decide (PySem.W.specialIn K (.builtin "object.__class__") "__get__" = some (some (.builtin "getset_descriptor.__get__"))) &&
  (decide (PySem.W.takesIn K (.builtin "object.__class__") = some true) && decide (PySem.W.mroIn K (He.ga K x) (.type "object") = some true))))))))))
theorem excT_ok {x : Str} {K : PySem.W.Frag} (c : excTB x K = true) : ExcT K (He.ga K x) := by
  unfold excTB at c
  simp only [Bool.and_eq_true, decide_eq_true_eq] at c
  obtain ⟨c1, c2, c3, c4, c5, c6, c7, c8, c9, c10, c11⟩ := c
  exact ⟨c1, c2, c3, c4, ⟨c5, c6, c3, c7, c8, c9, c10, c11⟩⟩
def kitFB (x : Str) (c : PySem.W.Frag → Value) (b : Bool) : FB := fun K => decide (PySem.W.kitOne K (.ref (He.ga K x)) (c K) = some b)
def exmFB (x y : Str) (b : Bool) : FB := fun K => decide (PySem.W.exmOne K (.ref (He.ga K x)) (.ref (He.ga K y)) = some b)
theorem kit_ok {x : Str} {c : PySem.W.Frag → Value} {b : Bool} {K : PySem.W.Frag} (h : kitFB x c b K = true) : PySem.W.kitOne K (.ref (He.ga K x)) (c K) = some b := of_decide_eq_true h
theorem exm_ok2 {x y : Str} {b : Bool} {K : PySem.W.Frag} (h : exmFB x y b K = true) : PySem.W.exmOne K (.ref (He.ga K x)) (.ref (He.ga K y)) = some b := of_decide_eq_true h
/-! raise -/
section
variable {wd : Wd} {X : Cx} {W : WX}
def sRaise (c : Value) : AS wd := fun Da ρ ω => Da.ex ⟨c, none⟩ ρ ω
theorem gs_raise0 {x m : Str} {C : Addr} {j : Nat} {p p2 pos rpos : Pos} (T : ExcT X.K C) (gC : X.mg x = some (.ref C)) (tk : Takes X W) (hc : X.calm = true := by rfl) (hg : Gl X x := by rfl) (hdb : (x == ("__debug__" : Str)) = false := by decide) :
    GS wd X W (.Raise (some (.Call (.Name x p) [.Constant (.str m) j p2] [] pos)) none rpos) (sRaise (.ref C)) :=
  ⟨_, ps_raise hc tk (pmk_own PySem.F.excBase_ArithmeticError T.q gC T.kp (raises_own T.sub T.ty) hg hdb), fun F0 F B ρ ω σ H Da E s q k => k.ex (Same.refl _) s ⟨rfl, trivial⟩ q⟩
end
/-! isinstance of the exception that the suite holds -/
def tAll (vs : List V) : TA := fun _ H Q => Q vs H
structure CV (X : Cx) (es : List Expr) (vs : List V) (cs : List Value) : Prop where
  pa : PA X es (tAll vs)
  vl : ∀ us, Vals vs us → us = cs
section
variable {X : Cx} {p pos : Pos} {es : List Expr} {vs : List V} {cs : List Value}
theorem cv_nil : CV X [] [] [] := ⟨⟨fun pos pins s σ H Q I h => pa_nil.run pos pins s σ H Q I h⟩, fun us r => by cases r; rfl⟩
theorem cv_own {x : Str} {C : Addr} (hm : X.mg x = some (.ref C)) (h : CV X es vs cs) (hg : Gl X x := by rfl) (hdb : (x == ("__debug__" : Str)) = false := by decide) (hs : starEach (.Name x p :: es) X.env = (false, eval (.Name x p) X.env) :: starEach es X.env := by rfl) : CV X (.Name x p :: es) (.ref C :: vs) (.ref C :: cs) :=
  ⟨⟨fun pos pins s σ H Q I q => (pa_cons (pe_glob (v := .ref C) hg hm rfl hdb) h.pa hs).run pos pins s σ H Q I q⟩, fun us r => by
    cases r with
    | cons r1 r2 =>
      rw [h.vl _ r2, show _ = Value.ref C from r1]⟩
theorem cv_ty {x : Str} {T : String} (hm : X.mg x = none) (h : CV X es vs cs) (hg : Gl X x := by rfl) (hv : bootBuiltins x = some (.type T) := by decide +kernel) (hn : x ≠ "__name__" := by decide) (hdb : (x == ("__debug__" : Str)) = false := by decide)
    (hs : starEach (.Name x p :: es) X.env = (false, eval (.Name x p) X.env) :: starEach es X.env := by rfl) : CV X (.Name x p :: es) (.ty T :: vs) (.type T :: cs) :=
  ⟨⟨fun pos pins s σ H Q I q => (pa_cons (pe_bltn (v := .ty T) hg hm hv rfl hn hdb) h.pa hs).run pos pins s σ H Q I q⟩, fun us r => by
    cases r with
    | cons r1 r2 =>
      rw [h.vl _ r2, show _ = Value.type T from r1]⟩
end
theorem kit_single {K : PySem.W.Frag} {t c : Value} {b : Bool} (h : PySem.W.kitAny K t [c] = some b) : PySem.W.kitOne K t c = some b := by
  unfold PySem.W.kitAny at h
  split at h
  · rename_i e
    rw [e]
    exact h
  · rename_i e
    rw [e]
    exact h
  · cases h
def rIsET (K : PySem.W.Frag) (D a : Addr) (vs : List V) (cs : List Value) : List V → Hp → VK → Prop := fun xs H Q => ∃ (t : Addr) (b : Bool), xs = [.ref a, .ref t] ∧ H t = some (.tup vs) ∧ PySem.W.kitAny K (.ref D) cs = some b ∧ Q (.bl b) H
section
variable {X : Cx} {a : Addr} {oe : Obj} {cls : Value} {d : Option Addr} {pn : List (Addr × Obj)}
theorem call_isET {D : Addr} {vs : List V} {cs : List Value} (C : ExcC X.K D) (hz : Zc (.ref D) none oe) (hf : ∃ vs, oe.data = .fields vs) (hv : ∀ us, Vals vs us → us = cs) : CallR (X.suite a ((a, oe) :: pn)) (.builtin "isinstance") (rIsET X.K D a vs cs) := by
  intro pins s σ H xs us Q I r h
  obtain ⟨t, b, rfl, ht, e, q⟩ := h
  cases r with
  | cons rx rr =>
    cases rr with
    | cons rt rr =>
      cases rr
      cases rx
      cases rt
      obtain ⟨hget, _⟩ := I.pin (a, oe) (List.mem_append.mpr (.inl List.mem_cons_self))
      obtain ⟨ws, hd⟩ := hf
      have J : PySem.W.InstAt s.heap a oe D none := by
        obtain ⟨oc, od, oda, osl⟩ := oe
        obtain ⟨h1, h2⟩ := hz
        dsimp only at h1 h2 hd
        subst h1 h2 hd
        exact ⟨hget, rfl, rfl, trivial⟩
      obtain ⟨_, its, rv, o, h1, h2, n, h3⟩ := (show ObjOk X.prog X.w H s.heap t (.tup vs) from I.hok t _ ht)
      have e3 := hv _ rv
      subst e3
      obtain ⟨oc, od, dt, sl⟩ := o
      simp only at h2 h3
      subst h2 h3
      exact PySem.W.kia_tup (PySem.W.handS_kitx_exc C.hg C.hk C.hs C.hd C.ha C.hn C.ht C.hm) I.kIn J h1 e (fun z => nomatch z) fun tk => ⟨.bl b, H, I.kept (t' := tk) fun _ _ z => z, rfl, q⟩
/-- what is asked of the exception -/
def tIsE (K : PySem.W.Frag) (cls : Value) (d : Option Addr) (a : Addr) (i : Nat) (cs : List Value) : TE := fun σ H Q => ∃ (D : Addr) (b : Bool), cls = .ref D ∧ d = none ∧ ExcC K D ∧ σ[i]? = some (some (.ref a)) ∧ PySem.W.kitAny K (.ref D) cs = some b ∧ Q (.bl b) H
theorem pe_isE1 {n : Str} {i : Nat} {ce : Expr} {cV : V} {c : Value} {p p1 pos : Pos} (hz : Zc cls d oe) (hf : ∃ vs, oe.data = .fields vs) (hce : CV (X.suite a ((a, oe) :: pn)) [ce] [cV] [c]) (hm : X.mg "isinstance" = none) (hN : X.N[i]? = some n) (hv : Vis X.env.scope n)
    (hd : (n == ("__debug__" : Str)) = false) (hcd : (n == ("__classdict__" : Str)) = false) (hg : Gl (X.suite a ((a, oe) :: pn)) "isinstance")
    (hst : starEach [.Name n p1, ce] X.env = (false, eval (.Name n p1) X.env) :: starEach [ce] X.env) (hpl : (backTo pos (starEach [ce] X.env)).any (·.1) = false) :
    PE (X.suite a ((a, oe) :: pn)) (.Call (.Name "isinstance" p) [.Name n p1, ce] [] pos) (tIsE X.K cls d a i [c]) := ⟨fun pins s σ H Q I h => by
  obtain ⟨D, b, rfl, rfl, C, hs, e, q⟩ := h
  exact (pe_callB (call_isE C hz hf) hg hm (by decide +kernel) (pa_cons (pe_var (i := i) hN hv hd hcd) hce.pa hst) (by decide) (by decide) hst hpl).run pins s σ H Q I ⟨.ref a, hs, cV, c, b, rfl, fun u r => by
    have := hce.vl [u] (.cons r .nil)
    simpa using this, kit_single e, q⟩⟩
theorem pe_isET {n : Str} {i : Nat} {es : List Expr} {vs : List V} {cs : List Value} {p p1 p2 pos : Pos} {kk : Nat} (hz : Zc cls d oe) (hf : ∃ vs, oe.data = .fields vs) (hce : CV (X.suite a ((a, oe) :: pn)) es vs cs) (hm : X.mg "isinstance" = none) (hN : X.N[i]? = some n) (hv : Vis X.env.scope n)
    (hd : (n == ("__debug__" : Str)) = false) (hcd : (n == ("__classdict__" : Str)) = false) (hg : Gl (X.suite a ((a, oe) :: pn)) "isinstance") (hl : vs.length ≤ 1000)
    (hst : starEach [.Name n p1, .Tuple es kk p2] X.env = (false, eval (.Name n p1) X.env) :: starEach [.Tuple es kk p2] X.env) (hst2 : starEach [.Tuple es kk p2] X.env = (false, eval (.Tuple es kk p2) X.env) :: starEach [] X.env) (hpl : (backTo pos (starEach [.Tuple es kk p2] X.env)).any (·.1) = false) :
    PE (X.suite a ((a, oe) :: pn)) (.Call (.Name "isinstance" p) [.Name n p1, .Tuple es kk p2] [] pos) (fun σ H Q => ∃ (D : Addr) (b : Bool), cls = .ref D ∧ d = none ∧ ExcC X.K D ∧ σ[i]? = some (some (.ref a)) ∧ PySem.W.kitAny X.K (.ref D) cs = some b ∧ ∀ t, H t = none → Q (.bl b) (upd H t (.tup vs))) := ⟨fun pins s σ H Q I h => by
  obtain ⟨D, b, rfl, rfl, C, hs, e, q⟩ := h
  exact (pe_callB (call_isET C hz hf hce.vl) hg hm (by decide +kernel) (pa_cons (pe_var (i := i) hN hv hd hcd) (pa_cons (pe_tup hce.pa) pa_nil hst2) hst) (by decide) (by decide) hst hpl).run pins s σ H Q I
    ⟨.ref a, hs, line1000 (by omega), fun t ht => ⟨t, b, rfl, upd_same, e, q t ht⟩⟩⟩
end
section
variable {wd : Wd} {X : Cx} {W : WX} {a : Addr} {oe : Obj} {cls : Value} {d : Option Addr} {pn : List (Addr × Obj)} {x : EX}
def gIsE (K : PySem.W.Frag) (a : Addr) (x : EX) (i : Nat) (cs : List Value) : AE wd := fun ρ ω Q E => ∃ (D : Addr) (b : Bool), x.cls = .ref D ∧ x.fs = none ∧ ExcC K D ∧ ρ[i]? = some (some (.d (.adr a))) ∧ PySem.W.kitAny K (.ref D) cs = some b ∧ Q (.bl b) ω
theorem slot_adr {K : PySem.W.Frag} {F B : Hp} {ρ : AEnv} {σ : St} {i : Nat} (he : EnvOk K F B ρ σ) (h : ρ[i]? = some (some (.d (.adr a)))) : σ[i]? = some (some (.ref a)) := by
  obtain ⟨v, e, r⟩ := he.ent i _ h
  cases r
  exact e
theorem ge_isE1 (K' : PySem.W.Frag) (i : Nat) {n : Str} {ce : Expr} {cV : V} {c : Value} {p p1 pos : Pos} (hz : Zc cls d oe) (hf : ∃ vs, oe.data = .fields vs) (h1 : cls = x.cls) (h2 : x.fs = none → d = none) (hm : X.mg "isinstance" = none) (hce : CV (X.suite a ((a, oe) :: pn)) [ce] [cV] [c]) (hN : X.N[i]? = some n := by rfl) (hv : Vis X.env.scope n := by first | exact Or.inl rfl | exact Or.inr (Or.inl rfl) | exact Or.inr (Or.inr rfl))
    (hd : (n == ("__debug__" : Str)) = false := by decide) (hcd : (n == ("__classdict__" : Str)) = false := by decide) (hg : Gl (X.suite a ((a, oe) :: pn)) "isinstance" := by rfl)
    (hst : starEach [.Name n p1, ce] X.env = (false, eval (.Name n p1) X.env) :: starEach [ce] X.env := by rfl) (hpl : (backTo pos (starEach [ce] X.env)).any (·.1) = false := by rfl) (hK : X.K = K' := by rfl) :
    GE wd (X.suite a ((a, oe) :: pn)) W (.Call (.Name "isinstance" p) [.Name n p1, ce] [] pos) (gIsE K' a x i [c]) := by
  subst hK
  exact ⟨_, pe_isE1 hz hf hce hm hN hv hd hcd hg hst hpl, fun F B ρ ω σ H Qa Ea Q hs he ⟨D, b, e1, e2, C, e3, e4, q⟩ hk hx => ⟨D, b, h1.trans e1, h2 e2, C, slot_adr he e3, e4, ro_same hs (.bl b) q hk⟩⟩
theorem ge_isET (K' : PySem.W.Frag) (i : Nat) {n : Str} {es : List Expr} {vs : List V} {cs : List Value} {p p1 p2 pos : Pos} {kk : Nat} (hz : Zc cls d oe) (hf : ∃ vs, oe.data = .fields vs) (h1 : cls = x.cls) (h2 : x.fs = none → d = none) (hm : X.mg "isinstance" = none) (hce : CV (X.suite a ((a, oe) :: pn)) es vs cs) (hl : vs.length ≤ 1000 := by simp) (hN : X.N[i]? = some n := by rfl) (hv : Vis X.env.scope n := by first | exact Or.inl rfl | exact Or.inr (Or.inl rfl) | exact Or.inr (Or.inr rfl))
    (hd : (n == ("__debug__" : Str)) = false := by decide) (hcd : (n == ("__classdict__" : Str)) = false := by decide) (hg : Gl (X.suite a ((a, oe) :: pn)) "isinstance" := by rfl)
    (hst : starEach [.Name n p1, .Tuple es kk p2] X.env = (false, eval (.Name n p1) X.env) :: starEach [.Tuple es kk p2] X.env := by rfl) (hst2 : starEach [.Tuple es kk p2] X.env = (false, eval (.Tuple es kk p2) X.env) :: starEach [] X.env := by rfl) (hpl : (backTo pos (starEach [.Tuple es kk p2] X.env)).any (·.1) = false := by rfl) (hK : X.K = K' := by rfl) :
    GE wd (X.suite a ((a, oe) :: pn)) W (.Call (.Name "isinstance" p) [.Name n p1, .Tuple es kk p2] [] pos) (gIsE K' a x i cs) := by
  subst hK
  exact ⟨_, pe_isET hz hf hce hm hN hv hd hcd hg hl hst hst2 hpl, fun F B ρ ω σ H Qa Ea Q hs he ⟨D, b, e1, e2, C, e3, e4, q⟩ hk hx => ⟨D, b, h1.trans e1, h2 e2, C, slot_adr he e3, e4, fun t ht => by
    obtain ⟨s1, hs1⟩ := hs.new (o := .tup vs) ht
    exact hk _ _ _ _ _ s1 hs1 (.bl b) q⟩⟩
end
/-! try -/
section
variable {wd : Wd} {K : PySem.W.Frag} {F0 F B H : Hp} {ρ : AEnv} {ω : wd.W} {σ : St}
theorem Sim.gone (s : Sim wd K F0 F B ρ ω σ H) (i : Nat) : Sim wd K F0 F B (ρ.set i none) ω (σ.set i none) H := by
  have ne : ∀ {j : Nat} {e : Ent}, (ρ.set i none)[j]? = some (some e) → i ≠ j := fun {j e} h q => by
    subst q
    have hi : i < ρ.length := by
      have := (List.getElem?_eq_some_iff.mp h).1
      simpa using this
    rw [List.getElem?_set_self hi] at h
    cases h
  refine ⟨s.st, ⟨by simp [s.env.len], fun j e h => ?_, fun j1 j2 l l' p h1 h2 h3 h4 => ?_⟩, s.f0, fun j l p h1 h2 => ?_⟩
  · have n := ne h
    rw [List.getElem?_set_ne n] at h ⊢
    exact s.env.ent j e h
  · have n1 := ne h1
    have n2 := ne h2
    rw [List.getElem?_set_ne n1] at h1 h3
    rw [List.getElem?_set_ne n2] at h2 h4
    exact s.env.dist j1 j2 l l' p h1 h2 h3 h4
  · have n := ne h1
    rw [List.getElem?_set_ne n] at h1 h2
    exact s.own j l p h1 h2
def sTryAs (K : PySem.W.Frag) (i : Nat) (c : Value) (g : AS wd) (gs : Addr → EX → AS wd) : AS wd := fun Da ρ ω =>
  g { Da with ex := fun x ρ' ω' => ∃ b, PySem.W.exmOne K x.cls c = some b ∧ (b = true → ∀ a, gs a x { nx := fun ρ2 ω2 => Da.nx (ρ2.set i none) ω2, rt := Da.rt, bk := fun ρ2 ω2 => Da.bk (ρ2.set i none) ω2, ct := fun ρ2 ω2 => Da.ct (ρ2.set i none) ω2 } (ρ'.set i (some (.d (.adr a)))) ω') ∧ (b = false → Da.ex x ρ' ω') } ρ ω
def sTry (K : PySem.W.Frag) (c : Value) (g : AS wd) (gs : Addr → EX → AS wd) : AS wd := fun Da ρ ω =>
  g { Da with ex := fun x ρ' ω' => ∃ b, PySem.W.exmOne K x.cls c = some b ∧ (b = true → ∀ a, gs a x { nx := Da.nx, rt := Da.rt, bk := Da.bk, ct := Da.ct } ρ' ω') ∧ (b = false → Da.ex x ρ' ω') } ρ ω
end
section
variable {wd : Wd} {X : Cx} {W : WX} {x n : Str} {c : Value} {body suite : List Stmt} {b₀ : Stmt} {np pos pos' : Pos} {g : AS wd} {gs : Addr → EX → AS wd}
/-- the body's judgement, in any context of a try -/
abbrev TB (wd : Wd) (X : Cx) (body : List Stmt) (g : AS wd) : Prop := ∀ (W : WX) (pn : List (Addr × Obj)) (xe : Value → Shared → Prop), Takes (X.tr pn xe) W → PassesOwn (model X.prog X.w) X.A X.env xe → GSs wd (X.tr pn xe) W body g
/-- the suite's -/
abbrev SU (wd : Wd) (X : Cx) (suite : List Stmt) (gs : Addr → EX → AS wd) : Prop := ∀ (a : Addr) (oe : Obj) (cls : Value) (d : Option Addr) (pn : List (Addr × Obj)) (x : EX), Zc cls d oe → (∃ vs, oe.data = .fields vs) → cls = x.cls → (x.fs = none → d = none) → GSs wd (X.suite a ((a, oe) :: pn)) (fun _ _ _ _ => False) suite (gs a x)
def tbOf (h : TB wd X body g) : WX → TS := fun W D σ H => ∀ pn xe (tk : Takes (X.tr pn xe) W) po, Classical.choose (h W pn xe tk po).ex D σ H
theorem tb_ps (h : TB wd X body g) (W : WX) (pn : List (Addr × Obj)) (xe : Value → Shared → Prop) (tk : Takes (X.tr pn xe) W) (po : PassesOwn (model X.prog X.w) X.A X.env xe) : PSs (X.tr pn xe) body (tbOf h W) :=
  ⟨fun pins s σ H D I q => (Classical.choose_spec (h W pn xe tk po).ex).1.run pins s σ H D I (q pn xe tk po)⟩
theorem tb_rs (h : TB wd X body g) (W : WX) : RS wd X.K W (tbOf h W) g := fun F0 F B ρ ω σ H Da E s q k pn xe tk po => (Classical.choose_spec (h W pn xe tk po).ex).2 F0 F B ρ ω σ H Da E s q k
def tsOf (h : SU wd X suite gs) : Addr → Value → Option Addr → TS := fun a cls d D σ H => ∃ (x : EX) (h1 : cls = x.cls) (h2 : x.fs = none → d = none), ∀ oe pn (hz : Zc cls d oe) (hf : ∃ vs, oe.data = .fields vs), Classical.choose (h a oe cls d pn x hz hf h1 h2).ex D σ H
theorem ts_ps (h : SU wd X suite gs) (a : Addr) (oe : Obj) (cls : Value) (d : Option Addr) (pn : List (Addr × Obj)) (hz : Zc cls d oe) (hf : ∃ vs, oe.data = .fields vs) : PSs (X.suite a ((a, oe) :: pn)) suite (tsOf h a cls d) :=
  ⟨fun pins s σ H D I q => by
    obtain ⟨x, h1, h2, q⟩ := q
    exact (Classical.choose_spec (h a oe cls d pn x hz hf h1 h2).ex).1.run pins s σ H D I (q oe pn hz hf)⟩
theorem repx_fs {K : PySem.W.Frag} {B : Hp} {cls : Value} {dx : Option Addr} {x : EX} (r : RepX K B cls dx x) : cls = x.cls ∧ (x.fs = none → dx = none) := by
  obtain ⟨r1, r2⟩ := r
  refine ⟨r1, fun z => ?_⟩
  cases dx with
  | none => rfl
  | some q =>
    rw [z] at r2
    exact r2.elim
theorem gs_tryAs (K' : PySem.W.Frag) (i : Nat) (hs : X.stack = X.env :: X.outer) (hf : X.env.frame = some X.env.locals) (hN : X.N.Nodup) (tk : Takes X W) (gC : X.mg x = some c) (hb : TB wd X body g) (hsu : SU wd X (b₀ :: suite) gs) (hi : X.N[i]? = some n := by rfl) (hln : X.env.kindOf n = some .local := by rfl) (hgx : Gl X x := by rfl) (hdx : (x == ("__debug__" : Str)) = false := by decide) (hK : X.K = K' := by rfl) :
    GS wd X W (.Try body [.ExceptHandler (some (.Name x np)) (some n) (b₀ :: suite) pos'] [] [] pos) (sTryAs K' i c g gs) := by
  subst hK
  exact ⟨_, ps_try_as hs hf hN hi hln ⟨hgx, hdx, .inl gC⟩ tk (tb_ps hb) (ts_ps hsu), fun F0 F B ρ ω σ H Da E s q k => tb_rs hb _ F0 F B ρ ω σ H _ E s q ⟨k.nx, k.bk, k.ct, k.rt, fun {F' B' ρ' ω' σ' H' cls dx x} m s' rx q' => by
    obtain ⟨b, e, q1, q2⟩ := q'
    obtain ⟨r1, r2⟩ := repx_fs rx
    refine ⟨b, by rw [r1]; exact e, fun hb1 a na => ?_, fun hb0 => k.ex m s' rx (q2 hb0)⟩
    refine ⟨x, r1, r2, fun oe pn hz hff => (Classical.choose_spec (hsu a oe cls dx pn x hz hff r1 r2).ex).2 F0 F' B' _ ω' _ H' _ _ (s'.set i (.adr a)) (q1 hb1 a) ⟨fun m2 s2 z => k.nx (m.trans m2) (s2.gone i) z, fun m2 s2 z => k.bk (m.trans m2) (s2.gone i) z, fun m2 s2 z => k.ct (m.trans m2) (s2.gone i) z, fun m2 h2 rr z => k.rt (m.trans m2) h2 rr z, fun _ _ _ z => z.elim⟩⟩⟩⟩
theorem gs_try (K' : PySem.W.Frag) (hs : X.stack = X.env :: X.outer) (hf : X.env.frame = some X.env.locals) (tk : Takes X W) (gC : X.mg x = some c) (hb : TB wd X body g) (hsu : SU wd X (b₀ :: suite) gs) (hgx : Gl X x := by rfl) (hdx : (x == ("__debug__" : Str)) = false := by decide) (hK : X.K = K' := by rfl) :
    GS wd X W (.Try body [.ExceptHandler (some (.Name x np)) none (b₀ :: suite) pos'] [] [] pos) (sTry K' c g gs) := by
  subst hK
  exact ⟨_, ps_try_only hs hf ⟨hgx, hdx, .inl gC⟩ tk (tb_ps hb) (ts_ps hsu), fun F0 F B ρ ω σ H Da E s q k => tb_rs hb _ F0 F B ρ ω σ H _ E s q ⟨k.nx, k.bk, k.ct, k.rt, fun {F' B' ρ' ω' σ' H' cls dx x} m s' rx q' => by
    obtain ⟨b, e, q1, q2⟩ := q'
    obtain ⟨r1, r2⟩ := repx_fs rx
    refine ⟨b, by rw [r1]; exact e, fun hb1 a na => ?_, fun hb0 => k.ex m s' rx (q2 hb0)⟩
    refine ⟨x, r1, r2, fun oe pn hz hff => (Classical.choose_spec (hsu a oe cls dx pn x hz hff r1 r2).ex).2 F0 F' B' _ ω' _ H' _ _ s' (q1 hb1 a) ⟨fun m2 s2 z => k.nx (m.trans m2) s2 z, fun m2 s2 z => k.bk (m.trans m2) s2 z, fun m2 s2 z => k.ct (m.trans m2) s2 z, fun m2 h2 rr z => k.rt (m.trans m2) h2 rr z, fun _ _ _ z => z.elim⟩⟩⟩⟩
end
end MR
namespace MR.Lk09
open PySem PySem.Spec PyProof.Rows L2 MR
def top (i : Nat) : Stmt := PySem.Challenge.pw_manyroads_k09_sums_and_differences.main.body.getD i (.Pass ⟨0, 0, 0, 0⟩)
abbrev s__law_deck : Stmt := top 22
abbrev n__law_deck : List Str := ["_law_script", "_law_cells", "_law_cell"]
theorem S__law_deck : FnScope n__law_deck ["_law_script"] (defScope s__law_deck) := ⟨rfl, rfl, rfl, by decide +kernel, rfl, by decide +kernel, by decide +kernel⟩
abbrev s__law_draw : Stmt := top 23
abbrev n__law_draw : List Str := ["_law_deck_here", "_law_most", "_law_cell", "_law_number"]
theorem S__law_draw : FnScope n__law_draw ["_law_deck_here", "_law_most"] (defScope s__law_draw) := ⟨rfl, rfl, rfl, by decide +kernel, rfl, by decide +kernel, by decide +kernel⟩
abbrev s__law_any_base : Stmt := top 24
abbrev n__law_any_base : List Str := ["_law_deck_here", "_law_way", "_law_some"]
theorem S__law_any_base : FnScope n__law_any_base ["_law_deck_here"] (defScope s__law_any_base) := ⟨rfl, rfl, rfl, by decide +kernel, rfl, by decide +kernel, by decide +kernel⟩
abbrev s__law_row : Stmt := top 25
abbrev n__law_row : List Str := ["_law_deck_here", "_law_to", "_law_most", "_law_way", "_law_long", "_law_found", "_law_k", "_law_digit"]
theorem S__law_row : FnScope n__law_row ["_law_deck_here", "_law_to", "_law_most"] (defScope s__law_row) := ⟨rfl, rfl, rfl, by decide +kernel, rfl, by decide +kernel, by decide +kernel⟩
abbrev s__law_long_row : Stmt := top 26
abbrev n__law_long_row : List Str := ["_law_deck_here", "_law_to", "_law_most", "_law_great"]
theorem S__law_long_row : FnScope n__law_long_row ["_law_deck_here", "_law_to", "_law_most"] (defScope s__law_long_row) := ⟨rfl, rfl, rfl, by decide +kernel, rfl, by decide +kernel, by decide +kernel⟩
abbrev s__law_worth : Stmt := top 27
abbrev n__law_worth : List Str := ["_law_limbs", "_law_to", "_law_found", "_law_digit"]
theorem S__law_worth : FnScope n__law_worth ["_law_limbs", "_law_to"] (defScope s__law_worth) := ⟨rfl, rfl, rfl, by decide +kernel, rfl, by decide +kernel, by decide +kernel⟩
abbrev s__law_row_of : Stmt := top 28
abbrev n__law_row_of : List Str := ["_law_rest", "_law_to", "_law_found"]
theorem S__law_row_of : FnScope n__law_row_of ["_law_rest", "_law_to"] (defScope s__law_row_of) := ⟨rfl, rfl, rfl, by decide +kernel, rfl, by decide +kernel, by decide +kernel⟩
abbrev s__law_power : Stmt := top 29
abbrev n__law_power : List Str := ["_law_to", "_law_times", "_law_found", "_law_k"]
theorem S__law_power : FnScope n__law_power ["_law_to", "_law_times"] (defScope s__law_power) := ⟨rfl, rfl, rfl, by decide +kernel, rfl, by decide +kernel, by decide +kernel⟩
abbrev s__law_near : Stmt := top 30
abbrev n__law_near : List Str := ["_law_deck_here", "_law_mine", "_law_to", "_law_way", "_law_number", "_law_at", "_law_found"]
theorem S__law_near : FnScope n__law_near ["_law_deck_here", "_law_mine", "_law_to", "_law_way"] (defScope s__law_near) := ⟨rfl, rfl, rfl, by decide +kernel, rfl, by decide +kernel, by decide +kernel⟩
abbrev s_is_less : Stmt := top 18
abbrev n_is_less : List Str := ["one", "other"]
theorem S_is_less : FnScope n_is_less ["one", "other"] (defScope s_is_less) := ⟨rfl, rfl, rfl, by decide +kernel, rfl, by decide +kernel, by decide +kernel⟩
abbrev s_without_noughts : Stmt := top 16
abbrev n_without_noughts : List Str := ["limbs", "many"]
theorem S_without_noughts : FnScope n_without_noughts ["limbs"] (defScope s_without_noughts) := ⟨rfl, rfl, rfl, by decide +kernel, rfl, by decide +kernel, by decide +kernel⟩
abbrev s_limb_at : Stmt := top 17
abbrev n_limb_at : List Str := ["row", "place"]
theorem S_limb_at : FnScope n_limb_at ["row", "place"] (defScope s_limb_at) := ⟨rfl, rfl, rfl, by decide +kernel, rfl, by decide +kernel, by decide +kernel⟩
abbrev s_lessened : Stmt := top 20
abbrev n_lessened : List Str := ["one", "other", "base", "limbs", "lent", "place", "limb", "here"]
theorem S_lessened : FnScope n_lessened ["one", "other", "base"] (defScope s_lessened) := ⟨rfl, rfl, rfl, by decide +kernel, rfl, by decide +kernel, by decide +kernel⟩
abbrev s__law_is_refused : Stmt := top 31
abbrev n__law_is_refused : List Str := ["_law_mine", "_law_theirs", "_law_to", "_law_good", "e"]
theorem S__law_is_refused : FnScope n__law_is_refused ["_law_mine", "_law_theirs", "_law_to"] (defScope s__law_is_refused) := ⟨rfl, rfl, rfl, by decide +kernel, rfl, by decide +kernel, by decide +kernel⟩
abbrev s__law_differs_right : Stmt := top 32
abbrev n__law_differs_right : List Str := ["_law_mine", "_law_theirs", "_law_to", "_law_x", "_law_y", "_law_due"]
theorem S__law_differs_right : FnScope n__law_differs_right ["_law_mine", "_law_theirs", "_law_to"] (defScope s__law_differs_right) := ⟨rfl, rfl, rfl, by decide +kernel, rfl, by decide +kernel, by decide +kernel⟩
abbrev s_summed : Stmt := top 19
abbrev n_summed : List Str := ["one", "other", "base", "limbs", "carry", "place", "limb"]
theorem S_summed : FnScope n_summed ["one", "other", "base"] (defScope s_summed) := ⟨rfl, rfl, rfl, by decide +kernel, rfl, by decide +kernel, by decide +kernel⟩
abbrev s__law_right : Stmt := top 33
abbrev n__law_right : List Str := ["_law_mine", "_law_theirs", "_law_to", "_law_x", "_law_y", "_law_due"]
theorem S__law_right : FnScope n__law_right ["_law_mine", "_law_theirs", "_law_to"] (defScope s__law_right) := ⟨rfl, rfl, rfl, by decide +kernel, rfl, by decide +kernel, by decide +kernel⟩
abbrev s_law : Stmt := top 34
abbrev n_law : List Str := ["_law_script", "_law_deck_here", "_law_asked", "_law_turn", "_law_way", "_law_to", "_law_mine", "_law_theirs"]
theorem S_law : FnScope n_law ["_law_script"] (defScope s_law) := ⟨rfl, rfl, rfl, by decide +kernel, rfl, by decide +kernel, by decide +kernel⟩
def d__law_deck : He.DefD := ⟨("_law_deck", none), "_law_deck", "_law_deck", defArgs s__law_deck, defBody s__law_deck, defScope s__law_deck, [], []⟩
def d__law_draw : He.DefD := ⟨("_law_draw", none), "_law_draw", "_law_draw", defArgs s__law_draw, defBody s__law_draw, defScope s__law_draw, [], []⟩
def d__law_any_base : He.DefD := ⟨("_law_any_base", none), "_law_any_base", "_law_any_base", defArgs s__law_any_base, defBody s__law_any_base, defScope s__law_any_base, [], []⟩
def d__law_row : He.DefD := ⟨("_law_row", none), "_law_row", "_law_row", defArgs s__law_row, defBody s__law_row, defScope s__law_row, [], []⟩
def d__law_long_row : He.DefD := ⟨("_law_long_row", none), "_law_long_row", "_law_long_row", defArgs s__law_long_row, defBody s__law_long_row, defScope s__law_long_row, [], []⟩
def d__law_worth : He.DefD := ⟨("_law_worth", none), "_law_worth", "_law_worth", defArgs s__law_worth, defBody s__law_worth, defScope s__law_worth, [], []⟩
def d__law_row_of : He.DefD := ⟨("_law_row_of", none), "_law_row_of", "_law_row_of", defArgs s__law_row_of, defBody s__law_row_of, defScope s__law_row_of, [], []⟩
def d__law_power : He.DefD := ⟨("_law_power", none), "_law_power", "_law_power", defArgs s__law_power, defBody s__law_power, defScope s__law_power, [], []⟩
def d__law_near : He.DefD := ⟨("_law_near", none), "_law_near", "_law_near", defArgs s__law_near, defBody s__law_near, defScope s__law_near, [], []⟩
def d_is_less : He.DefD := ⟨("is_less", none), "is_less", "is_less", defArgs s_is_less, defBody s_is_less, defScope s_is_less, [], []⟩
def d_without_noughts : He.DefD := ⟨("without_noughts", none), "without_noughts", "without_noughts", defArgs s_without_noughts, defBody s_without_noughts, defScope s_without_noughts, [], []⟩
def d_limb_at : He.DefD := ⟨("limb_at", none), "limb_at", "limb_at", defArgs s_limb_at, defBody s_limb_at, defScope s_limb_at, [], []⟩
def d_lessened : He.DefD := ⟨("lessened", none), "lessened", "lessened", defArgs s_lessened, defBody s_lessened, defScope s_lessened, [], [("base", .int 10)]⟩
def d__law_is_refused : He.DefD := ⟨("_law_is_refused", none), "_law_is_refused", "_law_is_refused", defArgs s__law_is_refused, defBody s__law_is_refused, defScope s__law_is_refused, [], []⟩
def d__law_differs_right : He.DefD := ⟨("_law_differs_right", none), "_law_differs_right", "_law_differs_right", defArgs s__law_differs_right, defBody s__law_differs_right, defScope s__law_differs_right, [], []⟩
def d_summed : He.DefD := ⟨("summed", none), "summed", "summed", defArgs s_summed, defBody s_summed, defScope s_summed, [], [("base", .int 10)]⟩
def d__law_right : He.DefD := ⟨("_law_right", none), "_law_right", "_law_right", defArgs s__law_right, defBody s__law_right, defScope s__law_right, [], []⟩
def d_law : He.DefD := ⟨("law", none), "law", "law", defArgs s_law, defBody s_law, defScope s_law, [], []⟩
def fn : List He.DefD := ([d__law_deck, d__law_draw, d__law_any_base, d__law_row, d__law_long_row, d__law_worth, d__law_row_of, d__law_power, d__law_near, d_is_less, d_without_noughts, d_limb_at, d_lessened, d__law_is_refused, d__law_differs_right, d_summed, d__law_right, d_law] : List He.DefD)
def fa : List He.Fa := ([.glo "_law_deck", .glo "_law_draw", .glo "_law_any_base", .glo "_law_row", .glo "_law_long_row", .glo "_law_worth", .glo "_law_row_of", .glo "_law_power", .glo "_law_near", .glo "is_less", .glo "without_noughts", .glo "limb_at", .glo "lessened", .glo "_law_is_refused", .glo "_law_differs_right", .glo "summed", .glo "_law_right", .glo "law", .free "ArithmeticError", .free "divmod", .free "enumerate", .free "int", .free "isinstance", .free "len", .free "list", .free "max", .free "min", .free "range", .free "repr", .free "sum"] : List He.Fa) ++ ([.free "tuple", .int "BASE" 10, .glo "RoadError", .glo "NoText", .glo "TooGreat", .glo "NoQuotient", .glo "NoRing", .glo "NoDeed", .glo "NotSame", .glo "NoRoad", .glo "NoShare", .glo "NoName", .glo "Taken", .glo "NoRow", .glo "NoBack"] : List He.Fa)
structure T (K : PySem.W.Frag) (mg : Str → Option Value) : Prop where
  f__law_deck : ∃ fd, FunD K "_law_deck" "_law_deck" (defArgs s__law_deck) (defBody s__law_deck) (defScope s__law_deck) [] [] (He.ga K "_law_deck") fd
  g__law_deck : mg "_law_deck" = some (.ref (He.ga K "_law_deck"))
  f__law_draw : ∃ fd, FunD K "_law_draw" "_law_draw" (defArgs s__law_draw) (defBody s__law_draw) (defScope s__law_draw) [] [] (He.ga K "_law_draw") fd
  g__law_draw : mg "_law_draw" = some (.ref (He.ga K "_law_draw"))
  f__law_any_base : ∃ fd, FunD K "_law_any_base" "_law_any_base" (defArgs s__law_any_base) (defBody s__law_any_base) (defScope s__law_any_base) [] [] (He.ga K "_law_any_base") fd
  g__law_any_base : mg "_law_any_base" = some (.ref (He.ga K "_law_any_base"))
  f__law_row : ∃ fd, FunD K "_law_row" "_law_row" (defArgs s__law_row) (defBody s__law_row) (defScope s__law_row) [] [] (He.ga K "_law_row") fd
  g__law_row : mg "_law_row" = some (.ref (He.ga K "_law_row"))
  f__law_long_row : ∃ fd, FunD K "_law_long_row" "_law_long_row" (defArgs s__law_long_row) (defBody s__law_long_row) (defScope s__law_long_row) [] [] (He.ga K "_law_long_row") fd
  g__law_long_row : mg "_law_long_row" = some (.ref (He.ga K "_law_long_row"))
  f__law_worth : ∃ fd, FunD K "_law_worth" "_law_worth" (defArgs s__law_worth) (defBody s__law_worth) (defScope s__law_worth) [] [] (He.ga K "_law_worth") fd
  g__law_worth : mg "_law_worth" = some (.ref (He.ga K "_law_worth"))
  f__law_row_of : ∃ fd, FunD K "_law_row_of" "_law_row_of" (defArgs s__law_row_of) (defBody s__law_row_of) (defScope s__law_row_of) [] [] (He.ga K "_law_row_of") fd
  g__law_row_of : mg "_law_row_of" = some (.ref (He.ga K "_law_row_of"))
  f__law_power : ∃ fd, FunD K "_law_power" "_law_power" (defArgs s__law_power) (defBody s__law_power) (defScope s__law_power) [] [] (He.ga K "_law_power") fd
  g__law_power : mg "_law_power" = some (.ref (He.ga K "_law_power"))
  f__law_near : ∃ fd, FunD K "_law_near" "_law_near" (defArgs s__law_near) (defBody s__law_near) (defScope s__law_near) [] [] (He.ga K "_law_near") fd
  g__law_near : mg "_law_near" = some (.ref (He.ga K "_law_near"))
  f_is_less : ∃ fd, FunD K "is_less" "is_less" (defArgs s_is_less) (defBody s_is_less) (defScope s_is_less) [] [] (He.ga K "is_less") fd
  g_is_less : mg "is_less" = some (.ref (He.ga K "is_less"))
  f_without_noughts : ∃ fd, FunD K "without_noughts" "without_noughts" (defArgs s_without_noughts) (defBody s_without_noughts) (defScope s_without_noughts) [] [] (He.ga K "without_noughts") fd
  g_without_noughts : mg "without_noughts" = some (.ref (He.ga K "without_noughts"))
  f_limb_at : ∃ fd, FunD K "limb_at" "limb_at" (defArgs s_limb_at) (defBody s_limb_at) (defScope s_limb_at) [] [] (He.ga K "limb_at") fd
  g_limb_at : mg "limb_at" = some (.ref (He.ga K "limb_at"))
  f_lessened : ∃ fd, FunD K "lessened" "lessened" (defArgs s_lessened) (defBody s_lessened) (defScope s_lessened) [] [("base", .int 10)] (He.ga K "lessened") fd
  g_lessened : mg "lessened" = some (.ref (He.ga K "lessened"))
  f__law_is_refused : ∃ fd, FunD K "_law_is_refused" "_law_is_refused" (defArgs s__law_is_refused) (defBody s__law_is_refused) (defScope s__law_is_refused) [] [] (He.ga K "_law_is_refused") fd
  g__law_is_refused : mg "_law_is_refused" = some (.ref (He.ga K "_law_is_refused"))
  f__law_differs_right : ∃ fd, FunD K "_law_differs_right" "_law_differs_right" (defArgs s__law_differs_right) (defBody s__law_differs_right) (defScope s__law_differs_right) [] [] (He.ga K "_law_differs_right") fd
  g__law_differs_right : mg "_law_differs_right" = some (.ref (He.ga K "_law_differs_right"))
  f_summed : ∃ fd, FunD K "summed" "summed" (defArgs s_summed) (defBody s_summed) (defScope s_summed) [] [("base", .int 10)] (He.ga K "summed") fd
  g_summed : mg "summed" = some (.ref (He.ga K "summed"))
  f__law_right : ∃ fd, FunD K "_law_right" "_law_right" (defArgs s__law_right) (defBody s__law_right) (defScope s__law_right) [] [] (He.ga K "_law_right") fd
  g__law_right : mg "_law_right" = some (.ref (He.ga K "_law_right"))
  f_law : ∃ fd, FunD K "law" "law" (defArgs s_law) (defBody s_law) (defScope s_law) [] [] (He.ga K "law") fd
  g_law : mg "law" = some (.ref (He.ga K "law"))
  z_ArithmeticError : mg "ArithmeticError" = none
  z_divmod : mg "divmod" = none
  z_enumerate : mg "enumerate" = none
  z_int : mg "int" = none
  z_isinstance : mg "isinstance" = none
  z_len : mg "len" = none
  z_list : mg "list" = none
  z_max : mg "max" = none
  z_min : mg "min" = none
  z_range : mg "range" = none
  z_repr : mg "repr" = none
  z_sum : mg "sum" = none
  z_tuple : mg "tuple" = none
  i_BASE : mInt mg "BASE" 10
  c_RoadError : mg "RoadError" = some (.ref (He.ga K "RoadError"))
  c_NoText : mg "NoText" = some (.ref (He.ga K "NoText"))
  c_TooGreat : mg "TooGreat" = some (.ref (He.ga K "TooGreat"))
  c_NoQuotient : mg "NoQuotient" = some (.ref (He.ga K "NoQuotient"))
  c_NoRing : mg "NoRing" = some (.ref (He.ga K "NoRing"))
  c_NoDeed : mg "NoDeed" = some (.ref (He.ga K "NoDeed"))
  c_NotSame : mg "NotSame" = some (.ref (He.ga K "NotSame"))
  c_NoRoad : mg "NoRoad" = some (.ref (He.ga K "NoRoad"))
  c_NoShare : mg "NoShare" = some (.ref (He.ga K "NoShare"))
  c_NoName : mg "NoName" = some (.ref (He.ga K "NoName"))
  c_Taken : mg "Taken" = some (.ref (He.ga K "Taken"))
  c_NoRow : mg "NoRow" = some (.ref (He.ga K "NoRow"))
  c_NoBack : mg "NoBack" = some (.ref (He.ga K "NoBack"))
  x_TooGreat : ExcT K (He.ga K "TooGreat")
  xm_TooGreat_TooGreat : PySem.W.exmOne K (.ref (He.ga K "TooGreat")) (.ref (He.ga K "TooGreat")) = some true
  xk_TooGreat_NoBack : PySem.W.kitOne K (.ref (He.ga K "TooGreat")) (.ref (He.ga K "NoBack")) = some false
  xk_TooGreat_NoDeed : PySem.W.kitOne K (.ref (He.ga K "TooGreat")) (.ref (He.ga K "NoDeed")) = some false
  xk_TooGreat_NoName : PySem.W.kitOne K (.ref (He.ga K "TooGreat")) (.ref (He.ga K "NoName")) = some false
  xk_TooGreat_NoQuotient : PySem.W.kitOne K (.ref (He.ga K "TooGreat")) (.ref (He.ga K "NoQuotient")) = some false
  xk_TooGreat_NoRing : PySem.W.kitOne K (.ref (He.ga K "TooGreat")) (.ref (He.ga K "NoRing")) = some false
  xk_TooGreat_NoRoad : PySem.W.kitOne K (.ref (He.ga K "TooGreat")) (.ref (He.ga K "NoRoad")) = some false
  xk_TooGreat_NoRow : PySem.W.kitOne K (.ref (He.ga K "TooGreat")) (.ref (He.ga K "NoRow")) = some false
  xk_TooGreat_NoShare : PySem.W.kitOne K (.ref (He.ga K "TooGreat")) (.ref (He.ga K "NoShare")) = some false
  xk_TooGreat_NoText : PySem.W.kitOne K (.ref (He.ga K "TooGreat")) (.ref (He.ga K "NoText")) = some false
  xk_TooGreat_NotSame : PySem.W.kitOne K (.ref (He.ga K "TooGreat")) (.ref (He.ga K "NotSame")) = some false
  xk_TooGreat_Taken : PySem.W.kitOne K (.ref (He.ga K "TooGreat")) (.ref (He.ga K "Taken")) = some false
  xk_TooGreat_RoadError : PySem.W.kitOne K (.ref (He.ga K "TooGreat")) (.ref (He.ga K "RoadError")) = some true
  xk_TooGreat_ArithmeticError : PySem.W.kitOne K (.ref (He.ga K "TooGreat")) (.type "ArithmeticError") = some true
section
variable {w : World} {K : PySem.W.Frag} {mg : Str → Option Value} {base : Heap}
abbrev PR : Program := PySem.Challenge.rw_manyroads_k09_sums_and_differences.prog
theorem kn__law_deck (t : T K mg) : ∃ fd, Known PR w K mg base 1 "_law_deck" (He.ga K "_law_deck") fd ["_law_script"] DWd 1 aDeck ∧ Bnd K fd ["_law_script"] 1 [] [0] [] := by
  obtain ⟨fd, F⟩ := t.f__law_deck
  have ok : FnG PR w K mg base (L2.CX PR w) 1 (He.ga K "_law_deck") fd ["_law_script"] (toSp DWd K 1 aDeck) := by
    refine fn_ok (N := n__law_deck) DWd aDeck F S__law_deck fun cdv A outer s H E hr hG => ?_
    have S := S__law_deck
    refine ⟨_, (gss_cons (gs_set 1 S.nd (GF.ge (gf_list t.z_list (GF.gl (gf_scr 0)))))
      (gss_one (gs_deck (gf_rev (GE.gl (ge_var 1))) (ge_add (ge_fn (cr_sum rfl) c_sum t.z_sum (ga_cons (GF.ge (gf_comp rfl S.nd (ge_var 1) (blkOk_by (own := [("_law_cell", 2)]) rfl) (fun s2 H2 C2 cl2 fp2 => (gc_name 2 S.nd)) (fun s2 H2 C2 cl2 fp2 => gts_nil) (fun s2 H2 C2 cl2 fp2 => (ge_mod (ge_var 2) ge_int)))) ga_nil)) (ge_mul ge_int (ge_fn call_len c_len t.z_len (ga_cons (ge_var 1) ga_nil)))) ge_int))), ?_⟩
    clear S hr hG F t
    rintro ds ω Qa Ea ⟨a, ns, rfl, e, hl, hn, q⟩ _
    simp (maxSteps := 2000000) only [MR.sNil, MR.sSeq, MR.sDrop, MR.sRet, MR.sRetN, MR.sBreak, MR.sCont, MR.sIf, MR.sSet, MR.sOwn, MR.sAsg, MR.sPar, MR.sAug, MR.sFrz, MR.sApp, MR.sPut, MR.sExt, MR.aName, MR.aTup, MR.aNil, MR.aCons, MR.frz,
        MR.gVar, MR.gC, MR.gOp, MR.gB, MR.bK, MR.gTru, MR.gNotT, MR.gAndT, MR.gOrT, MR.gAndV, MR.gOrV, MR.gNotV, MR.gIf, MR.gChain, MR.gNil, MR.gCons, MR.gTup, MR.gLst, MR.gFz, MR.gOwn, MR.gAsL, MR.gNo, MR.gPart, MR.gSl, MR.gSlF, MR.gUn, MR.gIxL, MR.gFn, MR.gLenL, MR.gYes,
        MR.fAddI, MR.fSub, MR.fDiv, MR.fMod, MR.fPow, MR.fLe, MR.fGt, MR.fGe, MR.fIs, MR.fIsN, MR.fNeg, MR.fMin, MR.fMax, MR.fDivmod, MR.fSum, MR.fAll, MR.fRepr, MR.fIsi, MR.tyD, MR.dInt, MR.dBool, MR.dTup, MR.dStr, MR.dLst,
        MR.gDkT, MR.gDkS, MR.gDkNe, MR.gDkPop, MR.sDkApp, MR.sDkPut, MR.gScr, MR.sDeck, MR.gCall, MR.sel, MR.sFor, MR.sForR1, MR.sForR2, MR.sWhile, MR.sForE, MR.sAugP, MR.gRepL, MR.gCatL, MR.gComp, MR.gCompR, MR.startA, MR.wipeA, MR.sNever, MR.gNever, MR.tNev, MR.sAsg2, MR.fMulS_str, MR.fIntS_str, MR.sParO, MR.sForG, MR.gCompG, MR.iSeqG, MR.iR1G, MR.iR2G, MR.iZipG, MR.iEnumG, MR.iEnumLG, MR.iRevG,
        MR.fTru_bl, MR.fTru_non, MR.fTru_int, MR.fTru_str, MR.fTru_lst, MR.fTru_tup, MR.fAdd_int, MR.fAdd_str, MR.fAdd_tup, MR.fAdd_lst, MR.fMul_int, MR.fMul_tup, MR.fMul_lst, MR.fEq_int, MR.fEq_str, MR.fEq_bl, MR.fEq_tup_tup, MR.fEq_tup_lst, MR.fEq_tup_int, MR.fEq_tup_non, MR.fEq_tup_str, MR.fEq_tup_bl, MR.fEq_lst_tup, MR.fEq_lst_lst, MR.fEq_lst_int, MR.fEq_lst_non, MR.fEq_lst_str, MR.fEq_lst_bl, MR.fEq_int_tup, MR.fEq_int_lst, MR.fEq_int_non, MR.fEq_int_str, MR.fEq_int_bl, MR.fEq_non_tup, MR.fEq_non_lst, MR.fEq_non_int, MR.fEq_non_non, MR.fEq_non_str, MR.fEq_non_bl, MR.fEq_str_tup, MR.fEq_str_lst, MR.fEq_str_int, MR.fEq_str_non, MR.fEq_str_bl, MR.fEq_bl_tup, MR.fEq_bl_lst, MR.fEq_bl_int, MR.fEq_bl_non, MR.fEq_bl_str, MR.fNe_int, MR.fNe_str, MR.fNe_bl, MR.fNe_tup_tup, MR.fNe_tup_lst, MR.fNe_tup_int, MR.fNe_tup_non, MR.fNe_tup_str, MR.fNe_tup_bl, MR.fNe_lst_tup, MR.fNe_lst_lst, MR.fNe_lst_int, MR.fNe_lst_non, MR.fNe_lst_str, MR.fNe_lst_bl, MR.fNe_int_tup, MR.fNe_int_lst, MR.fNe_int_non, MR.fNe_int_str, MR.fNe_int_bl, MR.fNe_non_tup, MR.fNe_non_lst, MR.fNe_non_int, MR.fNe_non_non, MR.fNe_non_str, MR.fNe_non_bl, MR.fNe_str_tup, MR.fNe_str_lst, MR.fNe_str_int, MR.fNe_str_non, MR.fNe_str_bl, MR.fNe_bl_tup, MR.fNe_bl_lst, MR.fNe_bl_int, MR.fNe_bl_non, MR.fNe_bl_str, MR.fLt_int, MR.fIx_tup, MR.fSl_tup, MR.fLen_tup, MR.fTuple_tup, MR.fRev_tup, MR.fIx_lst, MR.fSl_lst, MR.fLen_lst, MR.fTuple_lst, MR.fRev_lst, MR.fIx_str, MR.fSl_str, MR.fLen_str, MR.fInt_int, MR.fInt_bl,
        List.map_cons, List.map_nil, List.cons_append, List.nil_append, List.append_nil, List.length_cons, List.length_nil, List.replicate_succ, List.replicate_zero, List.set_cons_zero, List.set_cons_succ, List.getElem?_cons_zero, List.getElem?_cons_succ, List.getD_cons_zero, List.getD_cons_succ, Nat.reduceAdd, Nat.reduceSub, Nat.zero_add, Option.some.injEq, reduceIte, Bool.not_true, Bool.not_false, true_and, and_true]
    have ec : cutD (ns.map D.int) none (some 63) = ns.map D.int := by
      rw [cut_hi (by decide), List.take_of_length_le (by rw [List.length_map]; exact hl)]
    refine ⟨a, ns, rfl, e, hn, ns.reverse, by rw [ec, List.map_reverse], ?_⟩
    rw [ec]
    refine comp_by (fun d => match d with | .int i => [.int (i % 1000003)] | _ => []) (fun d => by cases d <;> simp) (by rw [List.length_map]; omega) ?_ (fun i d acc P hd hl hP => ?_)
    · rw [flat_ints (fun i => i % 1000003) ns _ (fun n => rfl)]
      simp only [asInts_map]
      refine ⟨mulw 20 20 (by decide) (by decide) (by omega) (by rw [List.length_map]; omega) (by decide) (by decide) (by decide), ?_⟩
      exact ⟨trivial, _, rfl, _, rfl, fun p c => q p _ ⟨c, _, _, _, rfl, Int.le_refl 0, Int.le_refl 0, by rw [List.length_reverse]; exact hl⟩⟩
    · obtain ⟨n, e1, rfl⟩ := at_ints hd
      simp (maxSteps := 2000000) only [MR.sNil, MR.sSeq, MR.sDrop, MR.sRet, MR.sRetN, MR.sBreak, MR.sCont, MR.sIf, MR.sSet, MR.sOwn, MR.sAsg, MR.sPar, MR.sAug, MR.sFrz, MR.sApp, MR.sPut, MR.sExt, MR.aName, MR.aTup, MR.aNil, MR.aCons, MR.frz,
        MR.gVar, MR.gC, MR.gOp, MR.gB, MR.bK, MR.gTru, MR.gNotT, MR.gAndT, MR.gOrT, MR.gAndV, MR.gOrV, MR.gNotV, MR.gIf, MR.gChain, MR.gNil, MR.gCons, MR.gTup, MR.gLst, MR.gFz, MR.gOwn, MR.gAsL, MR.gNo, MR.gPart, MR.gSl, MR.gSlF, MR.gUn, MR.gIxL, MR.gFn, MR.gLenL, MR.gYes,
        MR.fAddI, MR.fSub, MR.fDiv, MR.fMod, MR.fPow, MR.fLe, MR.fGt, MR.fGe, MR.fIs, MR.fIsN, MR.fNeg, MR.fMin, MR.fMax, MR.fDivmod, MR.fSum, MR.fAll, MR.fRepr, MR.fIsi, MR.tyD, MR.dInt, MR.dBool, MR.dTup, MR.dStr, MR.dLst,
        MR.gDkT, MR.gDkS, MR.gDkNe, MR.gDkPop, MR.sDkApp, MR.sDkPut, MR.gScr, MR.sDeck, MR.gCall, MR.sel, MR.sFor, MR.sForR1, MR.sForR2, MR.sWhile, MR.sForE, MR.sAugP, MR.gRepL, MR.gCatL, MR.gComp, MR.gCompR, MR.startA, MR.wipeA, MR.sNever, MR.gNever, MR.tNev, MR.sAsg2, MR.fMulS_str, MR.fIntS_str, MR.sParO, MR.sForG, MR.gCompG, MR.iSeqG, MR.iR1G, MR.iR2G, MR.iZipG, MR.iEnumG, MR.iEnumLG, MR.iRevG,
        MR.fTru_bl, MR.fTru_non, MR.fTru_int, MR.fTru_str, MR.fTru_lst, MR.fTru_tup, MR.fAdd_int, MR.fAdd_str, MR.fAdd_tup, MR.fAdd_lst, MR.fMul_int, MR.fMul_tup, MR.fMul_lst, MR.fEq_int, MR.fEq_str, MR.fEq_bl, MR.fEq_tup_tup, MR.fEq_tup_lst, MR.fEq_tup_int, MR.fEq_tup_non, MR.fEq_tup_str, MR.fEq_tup_bl, MR.fEq_lst_tup, MR.fEq_lst_lst, MR.fEq_lst_int, MR.fEq_lst_non, MR.fEq_lst_str, MR.fEq_lst_bl, MR.fEq_int_tup, MR.fEq_int_lst, MR.fEq_int_non, MR.fEq_int_str, MR.fEq_int_bl, MR.fEq_non_tup, MR.fEq_non_lst, MR.fEq_non_int, MR.fEq_non_non, MR.fEq_non_str, MR.fEq_non_bl, MR.fEq_str_tup, MR.fEq_str_lst, MR.fEq_str_int, MR.fEq_str_non, MR.fEq_str_bl, MR.fEq_bl_tup, MR.fEq_bl_lst, MR.fEq_bl_int, MR.fEq_bl_non, MR.fEq_bl_str, MR.fNe_int, MR.fNe_str, MR.fNe_bl, MR.fNe_tup_tup, MR.fNe_tup_lst, MR.fNe_tup_int, MR.fNe_tup_non, MR.fNe_tup_str, MR.fNe_tup_bl, MR.fNe_lst_tup, MR.fNe_lst_lst, MR.fNe_lst_int, MR.fNe_lst_non, MR.fNe_lst_str, MR.fNe_lst_bl, MR.fNe_int_tup, MR.fNe_int_lst, MR.fNe_int_non, MR.fNe_int_str, MR.fNe_int_bl, MR.fNe_non_tup, MR.fNe_non_lst, MR.fNe_non_int, MR.fNe_non_non, MR.fNe_non_str, MR.fNe_non_bl, MR.fNe_str_tup, MR.fNe_str_lst, MR.fNe_str_int, MR.fNe_str_non, MR.fNe_str_bl, MR.fNe_bl_tup, MR.fNe_bl_lst, MR.fNe_bl_int, MR.fNe_bl_non, MR.fNe_bl_str, MR.fLt_int, MR.fIx_tup, MR.fSl_tup, MR.fLen_tup, MR.fTuple_tup, MR.fRev_tup, MR.fIx_lst, MR.fSl_lst, MR.fLen_lst, MR.fTuple_lst, MR.fRev_lst, MR.fIx_str, MR.fSl_str, MR.fLen_str, MR.fInt_int, MR.fInt_bl,
        List.map_cons, List.map_nil, List.cons_append, List.nil_append, List.append_nil, List.length_cons, List.length_nil, List.replicate_succ, List.replicate_zero, List.set_cons_zero, List.set_cons_succ, List.getElem?_cons_zero, List.getElem?_cons_succ, List.getD_cons_zero, List.getD_cons_succ, Nat.reduceAdd, Nat.reduceSub, Nat.zero_add, Option.some.injEq, reduceIte, Bool.not_true, Bool.not_false, true_and, and_true]
      exact ⟨by decide, hl, hP⟩
  refine ⟨fd, ⟨t.g__law_deck, F.kp, ok⟩, ?_⟩
  · refine bnd_of F 1 [] [] [0] [] (by simp) rfl ?_
    intro kV doc pm an cdv ct D us mv ws h1 h2 h3 h4
    match us, mv, ws, h1, h2, h3 with
    | [u0], [], [], _, _, _ => exact rfl
theorem kn__law_draw (t : T K mg) : ∃ fd, Known PR w K mg base 1 "_law_draw" (He.ga K "_law_draw") fd ["_law_deck_here", "_law_most"] DWd 2 aDraw ∧ Bnd K fd ["_law_deck_here", "_law_most"] 2 [] [0, 1] [] := by
  obtain ⟨fd, F⟩ := t.f__law_draw
  have ok : FnG PR w K mg base (L2.CX PR w) 1 (He.ga K "_law_draw") fd ["_law_deck_here", "_law_most"] (toSp DWd K 2 aDraw) := by
    refine fn_ok (N := n__law_draw) DWd aDraw F S__law_draw fun cdv A outer s H E hr hG => ?_
    have S := S__law_draw
    refine ⟨_, (gss_cons (gs_dkPut 0 (ge_add (ge_dkT 0) ge_int))
      (gss_cons (gs_set 2 S.nd (ge_dkS 0))
      (gss_cons (gs_if (gt_dkNe 0 (un64 hr))
      (gss_cons (gs_set 2 S.nd (ge_dkPop 0))
      (gss_one (gs_if (gt_cmp op_ge op2_ge (nomark _) (ge_var 2) (ge_pow ge_int ge_int))
      (gss_cons (gs_dkApp 0 (ge_div (ge_var 2) (ge_var 1)))
      (gss_one (gs_ret (ge_mod (ge_var 2) (ge_var 1)))))
      gss_nil)))
      gss_nil)
      (gss_cons (gs_set 3 S.nd (ge_mod (ge_mul (ge_add (ge_add (ge_mod (ge_var 2) ge_int) (ge_mul ge_int (ge_dkT 0))) ge_int) ge_int) ge_int))
      (gss_cons (gs_set 3 S.nd (ge_mod (ge_add (ge_add (ge_mul (ge_var 3) (ge_var 3)) (ge_mul ge_int (ge_dkT 0))) ge_int) ge_int))
      (gss_one (gs_ret (ge_mod (ge_div (ge_mod (ge_add (ge_mul (ge_var 3) (ge_var 3)) (ge_mul ge_int (ge_var 3))) ge_int) ge_int) (ge_var 1))))))))), ?_⟩
    clear S hr hG F t
    rintro ds ω Qa Ea ⟨p, m, T, rfl, ⟨c, cs, s, t, e, t0, tT, hc⟩, h0, hm, hT, q⟩ _
    simp (maxSteps := 2000000) only [MR.sNil, MR.sSeq, MR.sDrop, MR.sRet, MR.sRetN, MR.sBreak, MR.sCont, MR.sIf, MR.sSet, MR.sOwn, MR.sAsg, MR.sPar, MR.sAug, MR.sFrz, MR.sApp, MR.sPut, MR.sExt, MR.aName, MR.aTup, MR.aNil, MR.aCons, MR.frz,
        MR.gVar, MR.gC, MR.gOp, MR.gB, MR.bK, MR.gTru, MR.gNotT, MR.gAndT, MR.gOrT, MR.gAndV, MR.gOrV, MR.gNotV, MR.gIf, MR.gChain, MR.gNil, MR.gCons, MR.gTup, MR.gLst, MR.gFz, MR.gOwn, MR.gAsL, MR.gNo, MR.gPart, MR.gSl, MR.gSlF, MR.gUn, MR.gIxL, MR.gFn, MR.gLenL, MR.gYes,
        MR.fAddI, MR.fSub, MR.fDiv, MR.fMod, MR.fPow, MR.fLe, MR.fGt, MR.fGe, MR.fIs, MR.fIsN, MR.fNeg, MR.fMin, MR.fMax, MR.fDivmod, MR.fSum, MR.fAll, MR.fRepr, MR.fIsi, MR.tyD, MR.dInt, MR.dBool, MR.dTup, MR.dStr, MR.dLst,
        MR.gDkT, MR.gDkS, MR.gDkNe, MR.gDkPop, MR.sDkApp, MR.sDkPut, MR.gScr, MR.sDeck, MR.gCall, MR.sel, MR.sFor, MR.sForR1, MR.sForR2, MR.sWhile, MR.sForE, MR.sAugP, MR.gRepL, MR.gCatL, MR.gComp, MR.gCompR, MR.startA, MR.wipeA, MR.sNever, MR.gNever, MR.tNev, MR.sAsg2, MR.fMulS_str, MR.fIntS_str, MR.sParO, MR.sForG, MR.gCompG, MR.iSeqG, MR.iR1G, MR.iR2G, MR.iZipG, MR.iEnumG, MR.iEnumLG, MR.iRevG,
        MR.fTru_bl, MR.fTru_non, MR.fTru_int, MR.fTru_str, MR.fTru_lst, MR.fTru_tup, MR.fAdd_int, MR.fAdd_str, MR.fAdd_tup, MR.fAdd_lst, MR.fMul_int, MR.fMul_tup, MR.fMul_lst, MR.fEq_int, MR.fEq_str, MR.fEq_bl, MR.fEq_tup_tup, MR.fEq_tup_lst, MR.fEq_tup_int, MR.fEq_tup_non, MR.fEq_tup_str, MR.fEq_tup_bl, MR.fEq_lst_tup, MR.fEq_lst_lst, MR.fEq_lst_int, MR.fEq_lst_non, MR.fEq_lst_str, MR.fEq_lst_bl, MR.fEq_int_tup, MR.fEq_int_lst, MR.fEq_int_non, MR.fEq_int_str, MR.fEq_int_bl, MR.fEq_non_tup, MR.fEq_non_lst, MR.fEq_non_int, MR.fEq_non_non, MR.fEq_non_str, MR.fEq_non_bl, MR.fEq_str_tup, MR.fEq_str_lst, MR.fEq_str_int, MR.fEq_str_non, MR.fEq_str_bl, MR.fEq_bl_tup, MR.fEq_bl_lst, MR.fEq_bl_int, MR.fEq_bl_non, MR.fEq_bl_str, MR.fNe_int, MR.fNe_str, MR.fNe_bl, MR.fNe_tup_tup, MR.fNe_tup_lst, MR.fNe_tup_int, MR.fNe_tup_non, MR.fNe_tup_str, MR.fNe_tup_bl, MR.fNe_lst_tup, MR.fNe_lst_lst, MR.fNe_lst_int, MR.fNe_lst_non, MR.fNe_lst_str, MR.fNe_lst_bl, MR.fNe_int_tup, MR.fNe_int_lst, MR.fNe_int_non, MR.fNe_int_str, MR.fNe_int_bl, MR.fNe_non_tup, MR.fNe_non_lst, MR.fNe_non_int, MR.fNe_non_non, MR.fNe_non_str, MR.fNe_non_bl, MR.fNe_str_tup, MR.fNe_str_lst, MR.fNe_str_int, MR.fNe_str_non, MR.fNe_str_bl, MR.fNe_bl_tup, MR.fNe_bl_lst, MR.fNe_bl_int, MR.fNe_bl_non, MR.fNe_bl_str, MR.fLt_int, MR.fIx_tup, MR.fSl_tup, MR.fLen_tup, MR.fTuple_tup, MR.fRev_tup, MR.fIx_lst, MR.fSl_lst, MR.fLen_lst, MR.fTuple_lst, MR.fRev_lst, MR.fIx_str, MR.fSl_str, MR.fLen_str, MR.fInt_int, MR.fInt_bl,
        List.map_cons, List.map_nil, List.cons_append, List.nil_append, List.append_nil, List.length_cons, List.length_nil, List.replicate_succ, List.replicate_zero, List.set_cons_zero, List.set_cons_succ, List.getElem?_cons_zero, List.getElem?_cons_succ, List.getD_cons_zero, List.getD_cons_succ, Nat.reduceAdd, Nat.reduceSub, Nat.zero_add, Option.some.injEq, reduceIte, Bool.not_true, Bool.not_false, true_and, and_true]
    refine ⟨p, c, cs, s, t, ⟨rfl, e⟩, p, c, cs, s, t, ⟨rfl, e⟩, t + 1, rfl, ?_⟩
    refine ⟨p, c, cs, s, t + 1, ⟨rfl, rfl⟩, p, c, cs, s, t + 1, ⟨rfl, rfl⟩, ?_⟩
    have big : (t + 1) < 2 ^ 61 := by omega
    split
    · rename_i ne
      have e2 : cs = cs.dropLast ++ [cs.getLast (by intro z; subst z; exact absurd ne (by decide))] := (List.dropLast_concat_getLast _).symm
      refine ⟨p, c, cs.dropLast, cs.getLast (by intro z; subst z; exact absurd ne (by decide)), s, t + 1, ⟨rfl, by rw [← e2]⟩, ⟨by decide, by decide, by decide⟩, ?_⟩
      generalize cs.getLast (by intro z; subst z; exact absurd ne (by decide)) = x
      have hc2 : cs.dropLast.length + 1 ≤ 63 ∨ cs.dropLast.length + 1 ≤ 63 := by
        have : cs.length ≠ 0 := by intro z; rw [List.eq_nil_of_length_eq_zero z] at ne; exact absurd ne (by decide)
        rw [List.length_dropLast]
        omega
      have hc3 : cs.dropLast.length + 1 ≤ 63 := hc2.elim id id
      split
      · exact ⟨p, c, cs.dropLast, s, t + 1, ⟨rfl, rfl⟩, divw h0 hm, rfl, x / m, rfl, line1000l (by omega), h0, q _ _ (Int.emod_nonneg _ (by omega)) (Int.emod_lt_of_pos _ h0) ⟨c, _, s, t + 1, rfl, by omega, by omega, by rw [List.length_append]; exact hc3⟩⟩
      · refine ⟨by decide, p, c, cs.dropLast, s, t + 1, ⟨rfl, rfl⟩, mulw 100 100 (by omega) (by omega) (by omega) (by omega) (by decide) (by decide) (by decide), mulw 100 100 (by omega) (by omega) (by omega) (by omega) (by decide) (by decide) (by decide), by decide, mulw 100 100 (by omega) (by omega) (by omega) (by omega) (by decide) (by decide) (by decide), ?_⟩
        refine ⟨p, c, cs.dropLast, s, t + 1, ⟨rfl, rfl⟩, mulw 100 100 (by omega) (by omega) (by omega) (by omega) (by decide) (by decide) (by decide), by decide, mulw 100 100 (by omega) (by omega) (by omega) (by omega) (by decide) (by decide) (by decide), mulw 100 100 (by omega) (by omega) (by omega) (by omega) (by decide) (by decide) (by decide), by decide, ⟨by decide, by decide⟩, h0, ?_⟩
        exact q _ _ (Int.emod_nonneg _ (by omega)) (Int.emod_lt_of_pos _ h0) ⟨c, _, s, t + 1, rfl, by omega, by omega, by omega⟩
    · refine ⟨by decide, p, c, cs, s, t + 1, ⟨rfl, rfl⟩, mulw 100 100 (by omega) (by omega) (by omega) (by omega) (by decide) (by decide) (by decide), mulw 100 100 (by omega) (by omega) (by omega) (by omega) (by decide) (by decide) (by decide), by decide, mulw 100 100 (by omega) (by omega) (by omega) (by omega) (by decide) (by decide) (by decide), ?_⟩
      refine ⟨p, c, cs, s, t + 1, ⟨rfl, rfl⟩, mulw 100 100 (by omega) (by omega) (by omega) (by omega) (by decide) (by decide) (by decide), by decide, mulw 100 100 (by omega) (by omega) (by omega) (by omega) (by decide) (by decide) (by decide), mulw 100 100 (by omega) (by omega) (by omega) (by omega) (by decide) (by decide) (by decide), by decide, ⟨by decide, by decide⟩, h0, ?_⟩
      exact q _ _ (Int.emod_nonneg _ (by omega)) (Int.emod_lt_of_pos _ h0) ⟨c, _, s, t + 1, rfl, by omega, by omega, by omega⟩
  refine ⟨fd, ⟨t.g__law_draw, F.kp, ok⟩, ?_⟩
  · refine bnd_of F 2 [] [] [0, 1] [] (by simp) rfl ?_
    intro kV doc pm an cdv ct D us mv ws h1 h2 h3 h4
    match us, mv, ws, h1, h2, h3 with
    | [u0, u1], [], [], _, _, _ => exact rfl
theorem kn__law_any_base (t : T K mg) : ∃ fd, Known PR w K mg base 2 "_law_any_base" (He.ga K "_law_any_base") fd ["_law_deck_here"] DWd 1 aAnyBase ∧ Bnd K fd ["_law_deck_here"] 1 [] [0] [] := by
  obtain ⟨fd, F⟩ := t.f__law_any_base
  obtain ⟨fd__law_draw, k__law_draw, b__law_draw_0⟩ := kn__law_draw (w := w) (base := base) t
  have ok : FnG PR w K mg base (L2.CX PR w) 2 (He.ga K "_law_any_base") fd ["_law_deck_here"] (toSp DWd K 1 aAnyBase) := by
    refine fn_ok (N := n__law_any_base) DWd aAnyBase F S__law_any_base fun cdv A outer s H E hr hG => ?_
    have S := S__law_any_base
    refine ⟨_, (gss_cons (gs_set 1 S.nd (ge_call1 k__law_draw (Room.mono hr (by decide)) hG tk_cx b__law_draw_0 (fun B => .nil) (ga_cons (ge_var 0) (ga_cons ge_int ga_nil))))
      (gss_cons (gs_set 2 S.nd (GF.ge (gf_lst (ga_cons ge_int (ga_cons ge_int (ga_cons ge_int (ga_cons ge_int (ga_cons (ge_add ge_int (ge_call1 k__law_draw (Room.mono hr (by decide)) hG tk_cx b__law_draw_0 (fun B => .nil) (ga_cons (ge_var 0) (ga_cons ge_int ga_nil)))) (ga_cons ge_int (ga_cons (ge_add ge_int (ge_call1 k__law_draw (Room.mono hr (by decide)) hG tk_cx b__law_draw_0 (fun B => .nil) (ga_cons (ge_var 0) (ga_cons ge_int ga_nil)))) (ga_cons ge_int ga_nil)))))))))))
      (gss_one (gs_ret (ge_ix (ge_var 2) (ge_var 1)))))), ?_⟩
    clear S hr hG F t k__law_draw b__law_draw_0
    rintro ds ω Qa Ea ⟨p, T, rfl, hk, hT, q⟩ _
    simp (maxSteps := 2000000) only [MR.sNil, MR.sSeq, MR.sDrop, MR.sRet, MR.sRetN, MR.sBreak, MR.sCont, MR.sIf, MR.sSet, MR.sOwn, MR.sAsg, MR.sPar, MR.sAug, MR.sFrz, MR.sApp, MR.sPut, MR.sExt, MR.aName, MR.aTup, MR.aNil, MR.aCons, MR.frz,
        MR.gVar, MR.gC, MR.gOp, MR.gB, MR.bK, MR.gTru, MR.gNotT, MR.gAndT, MR.gOrT, MR.gAndV, MR.gOrV, MR.gNotV, MR.gIf, MR.gChain, MR.gNil, MR.gCons, MR.gTup, MR.gLst, MR.gFz, MR.gOwn, MR.gAsL, MR.gNo, MR.gPart, MR.gSl, MR.gSlF, MR.gUn, MR.gIxL, MR.gFn, MR.gLenL, MR.gYes,
        MR.fAddI, MR.fSub, MR.fDiv, MR.fMod, MR.fPow, MR.fLe, MR.fGt, MR.fGe, MR.fIs, MR.fIsN, MR.fNeg, MR.fMin, MR.fMax, MR.fDivmod, MR.fSum, MR.fAll, MR.fRepr, MR.fIsi, MR.tyD, MR.dInt, MR.dBool, MR.dTup, MR.dStr, MR.dLst,
        MR.gDkT, MR.gDkS, MR.gDkNe, MR.gDkPop, MR.sDkApp, MR.sDkPut, MR.gScr, MR.sDeck, MR.gCall, MR.sel, MR.sFor, MR.sForR1, MR.sForR2, MR.sWhile, MR.sForE, MR.sAugP, MR.gRepL, MR.gCatL, MR.gComp, MR.gCompR, MR.startA, MR.wipeA, MR.sNever, MR.gNever, MR.tNev, MR.sAsg2, MR.fMulS_str, MR.fIntS_str, MR.sParO, MR.sForG, MR.gCompG, MR.iSeqG, MR.iR1G, MR.iR2G, MR.iZipG, MR.iEnumG, MR.iEnumLG, MR.iRevG,
        MR.fTru_bl, MR.fTru_non, MR.fTru_int, MR.fTru_str, MR.fTru_lst, MR.fTru_tup, MR.fAdd_int, MR.fAdd_str, MR.fAdd_tup, MR.fAdd_lst, MR.fMul_int, MR.fMul_tup, MR.fMul_lst, MR.fEq_int, MR.fEq_str, MR.fEq_bl, MR.fEq_tup_tup, MR.fEq_tup_lst, MR.fEq_tup_int, MR.fEq_tup_non, MR.fEq_tup_str, MR.fEq_tup_bl, MR.fEq_lst_tup, MR.fEq_lst_lst, MR.fEq_lst_int, MR.fEq_lst_non, MR.fEq_lst_str, MR.fEq_lst_bl, MR.fEq_int_tup, MR.fEq_int_lst, MR.fEq_int_non, MR.fEq_int_str, MR.fEq_int_bl, MR.fEq_non_tup, MR.fEq_non_lst, MR.fEq_non_int, MR.fEq_non_non, MR.fEq_non_str, MR.fEq_non_bl, MR.fEq_str_tup, MR.fEq_str_lst, MR.fEq_str_int, MR.fEq_str_non, MR.fEq_str_bl, MR.fEq_bl_tup, MR.fEq_bl_lst, MR.fEq_bl_int, MR.fEq_bl_non, MR.fEq_bl_str, MR.fNe_int, MR.fNe_str, MR.fNe_bl, MR.fNe_tup_tup, MR.fNe_tup_lst, MR.fNe_tup_int, MR.fNe_tup_non, MR.fNe_tup_str, MR.fNe_tup_bl, MR.fNe_lst_tup, MR.fNe_lst_lst, MR.fNe_lst_int, MR.fNe_lst_non, MR.fNe_lst_str, MR.fNe_lst_bl, MR.fNe_int_tup, MR.fNe_int_lst, MR.fNe_int_non, MR.fNe_int_str, MR.fNe_int_bl, MR.fNe_non_tup, MR.fNe_non_lst, MR.fNe_non_int, MR.fNe_non_non, MR.fNe_non_str, MR.fNe_non_bl, MR.fNe_str_tup, MR.fNe_str_lst, MR.fNe_str_int, MR.fNe_str_non, MR.fNe_str_bl, MR.fNe_bl_tup, MR.fNe_bl_lst, MR.fNe_bl_int, MR.fNe_bl_non, MR.fNe_bl_str, MR.fLt_int, MR.fIx_tup, MR.fSl_tup, MR.fLen_tup, MR.fTuple_tup, MR.fRev_tup, MR.fIx_lst, MR.fSl_lst, MR.fLen_lst, MR.fTuple_lst, MR.fRev_lst, MR.fIx_str, MR.fSl_str, MR.fLen_str, MR.fInt_int, MR.fInt_bl,
        List.map_cons, List.map_nil, List.cons_append, List.nil_append, List.append_nil, List.length_cons, List.length_nil, List.replicate_succ, List.replicate_zero, List.set_cons_zero, List.set_cons_succ, List.getElem?_cons_zero, List.getElem?_cons_succ, List.getD_cons_zero, List.getD_cons_succ, Nat.reduceAdd, Nat.reduceSub, Nat.zero_add, Option.some.injEq, reduceIte, Bool.not_true, Bool.not_false, true_and, and_true]
    refine ⟨p, 8, T, rfl, hk, by decide, small_m (by decide), by omega, fun w1 ω1 a1 b1 k1 => ?_⟩
    simp (maxSteps := 2000000) only [MR.sNil, MR.sSeq, MR.sDrop, MR.sRet, MR.sRetN, MR.sBreak, MR.sCont, MR.sIf, MR.sSet, MR.sOwn, MR.sAsg, MR.sPar, MR.sAug, MR.sFrz, MR.sApp, MR.sPut, MR.sExt, MR.aName, MR.aTup, MR.aNil, MR.aCons, MR.frz,
        MR.gVar, MR.gC, MR.gOp, MR.gB, MR.bK, MR.gTru, MR.gNotT, MR.gAndT, MR.gOrT, MR.gAndV, MR.gOrV, MR.gNotV, MR.gIf, MR.gChain, MR.gNil, MR.gCons, MR.gTup, MR.gLst, MR.gFz, MR.gOwn, MR.gAsL, MR.gNo, MR.gPart, MR.gSl, MR.gSlF, MR.gUn, MR.gIxL, MR.gFn, MR.gLenL, MR.gYes,
        MR.fAddI, MR.fSub, MR.fDiv, MR.fMod, MR.fPow, MR.fLe, MR.fGt, MR.fGe, MR.fIs, MR.fIsN, MR.fNeg, MR.fMin, MR.fMax, MR.fDivmod, MR.fSum, MR.fAll, MR.fRepr, MR.fIsi, MR.tyD, MR.dInt, MR.dBool, MR.dTup, MR.dStr, MR.dLst,
        MR.gDkT, MR.gDkS, MR.gDkNe, MR.gDkPop, MR.sDkApp, MR.sDkPut, MR.gScr, MR.sDeck, MR.gCall, MR.sel, MR.sFor, MR.sForR1, MR.sForR2, MR.sWhile, MR.sForE, MR.sAugP, MR.gRepL, MR.gCatL, MR.gComp, MR.gCompR, MR.startA, MR.wipeA, MR.sNever, MR.gNever, MR.tNev, MR.sAsg2, MR.fMulS_str, MR.fIntS_str, MR.sParO, MR.sForG, MR.gCompG, MR.iSeqG, MR.iR1G, MR.iR2G, MR.iZipG, MR.iEnumG, MR.iEnumLG, MR.iRevG,
        MR.fTru_bl, MR.fTru_non, MR.fTru_int, MR.fTru_str, MR.fTru_lst, MR.fTru_tup, MR.fAdd_int, MR.fAdd_str, MR.fAdd_tup, MR.fAdd_lst, MR.fMul_int, MR.fMul_tup, MR.fMul_lst, MR.fEq_int, MR.fEq_str, MR.fEq_bl, MR.fEq_tup_tup, MR.fEq_tup_lst, MR.fEq_tup_int, MR.fEq_tup_non, MR.fEq_tup_str, MR.fEq_tup_bl, MR.fEq_lst_tup, MR.fEq_lst_lst, MR.fEq_lst_int, MR.fEq_lst_non, MR.fEq_lst_str, MR.fEq_lst_bl, MR.fEq_int_tup, MR.fEq_int_lst, MR.fEq_int_non, MR.fEq_int_str, MR.fEq_int_bl, MR.fEq_non_tup, MR.fEq_non_lst, MR.fEq_non_int, MR.fEq_non_non, MR.fEq_non_str, MR.fEq_non_bl, MR.fEq_str_tup, MR.fEq_str_lst, MR.fEq_str_int, MR.fEq_str_non, MR.fEq_str_bl, MR.fEq_bl_tup, MR.fEq_bl_lst, MR.fEq_bl_int, MR.fEq_bl_non, MR.fEq_bl_str, MR.fNe_int, MR.fNe_str, MR.fNe_bl, MR.fNe_tup_tup, MR.fNe_tup_lst, MR.fNe_tup_int, MR.fNe_tup_non, MR.fNe_tup_str, MR.fNe_tup_bl, MR.fNe_lst_tup, MR.fNe_lst_lst, MR.fNe_lst_int, MR.fNe_lst_non, MR.fNe_lst_str, MR.fNe_lst_bl, MR.fNe_int_tup, MR.fNe_int_lst, MR.fNe_int_non, MR.fNe_int_str, MR.fNe_int_bl, MR.fNe_non_tup, MR.fNe_non_lst, MR.fNe_non_int, MR.fNe_non_non, MR.fNe_non_str, MR.fNe_non_bl, MR.fNe_str_tup, MR.fNe_str_lst, MR.fNe_str_int, MR.fNe_str_non, MR.fNe_str_bl, MR.fNe_bl_tup, MR.fNe_bl_lst, MR.fNe_bl_int, MR.fNe_bl_non, MR.fNe_bl_str, MR.fLt_int, MR.fIx_tup, MR.fSl_tup, MR.fLen_tup, MR.fTuple_tup, MR.fRev_tup, MR.fIx_lst, MR.fSl_lst, MR.fLen_lst, MR.fTuple_lst, MR.fRev_lst, MR.fIx_str, MR.fSl_str, MR.fLen_str, MR.fInt_int, MR.fInt_bl,
        List.map_cons, List.map_nil, List.cons_append, List.nil_append, List.append_nil, List.length_cons, List.length_nil, List.replicate_succ, List.replicate_zero, List.set_cons_zero, List.set_cons_succ, List.getElem?_cons_zero, List.getElem?_cons_succ, List.getD_cons_zero, List.getD_cons_succ, Nat.reduceAdd, Nat.reduceSub, Nat.zero_add, Option.some.injEq, reduceIte, Bool.not_true, Bool.not_false, true_and, and_true]
    refine ⟨p, 8, T + 1, rfl, k1, by decide, small_m (by decide), by omega, fun w2 ω2 a2 b2 k2 => ?_⟩
    simp (maxSteps := 2000000) only [MR.sNil, MR.sSeq, MR.sDrop, MR.sRet, MR.sRetN, MR.sBreak, MR.sCont, MR.sIf, MR.sSet, MR.sOwn, MR.sAsg, MR.sPar, MR.sAug, MR.sFrz, MR.sApp, MR.sPut, MR.sExt, MR.aName, MR.aTup, MR.aNil, MR.aCons, MR.frz,
        MR.gVar, MR.gC, MR.gOp, MR.gB, MR.bK, MR.gTru, MR.gNotT, MR.gAndT, MR.gOrT, MR.gAndV, MR.gOrV, MR.gNotV, MR.gIf, MR.gChain, MR.gNil, MR.gCons, MR.gTup, MR.gLst, MR.gFz, MR.gOwn, MR.gAsL, MR.gNo, MR.gPart, MR.gSl, MR.gSlF, MR.gUn, MR.gIxL, MR.gFn, MR.gLenL, MR.gYes,
        MR.fAddI, MR.fSub, MR.fDiv, MR.fMod, MR.fPow, MR.fLe, MR.fGt, MR.fGe, MR.fIs, MR.fIsN, MR.fNeg, MR.fMin, MR.fMax, MR.fDivmod, MR.fSum, MR.fAll, MR.fRepr, MR.fIsi, MR.tyD, MR.dInt, MR.dBool, MR.dTup, MR.dStr, MR.dLst,
        MR.gDkT, MR.gDkS, MR.gDkNe, MR.gDkPop, MR.sDkApp, MR.sDkPut, MR.gScr, MR.sDeck, MR.gCall, MR.sel, MR.sFor, MR.sForR1, MR.sForR2, MR.sWhile, MR.sForE, MR.sAugP, MR.gRepL, MR.gCatL, MR.gComp, MR.gCompR, MR.startA, MR.wipeA, MR.sNever, MR.gNever, MR.tNev, MR.sAsg2, MR.fMulS_str, MR.fIntS_str, MR.sParO, MR.sForG, MR.gCompG, MR.iSeqG, MR.iR1G, MR.iR2G, MR.iZipG, MR.iEnumG, MR.iEnumLG, MR.iRevG,
        MR.fTru_bl, MR.fTru_non, MR.fTru_int, MR.fTru_str, MR.fTru_lst, MR.fTru_tup, MR.fAdd_int, MR.fAdd_str, MR.fAdd_tup, MR.fAdd_lst, MR.fMul_int, MR.fMul_tup, MR.fMul_lst, MR.fEq_int, MR.fEq_str, MR.fEq_bl, MR.fEq_tup_tup, MR.fEq_tup_lst, MR.fEq_tup_int, MR.fEq_tup_non, MR.fEq_tup_str, MR.fEq_tup_bl, MR.fEq_lst_tup, MR.fEq_lst_lst, MR.fEq_lst_int, MR.fEq_lst_non, MR.fEq_lst_str, MR.fEq_lst_bl, MR.fEq_int_tup, MR.fEq_int_lst, MR.fEq_int_non, MR.fEq_int_str, MR.fEq_int_bl, MR.fEq_non_tup, MR.fEq_non_lst, MR.fEq_non_int, MR.fEq_non_non, MR.fEq_non_str, MR.fEq_non_bl, MR.fEq_str_tup, MR.fEq_str_lst, MR.fEq_str_int, MR.fEq_str_non, MR.fEq_str_bl, MR.fEq_bl_tup, MR.fEq_bl_lst, MR.fEq_bl_int, MR.fEq_bl_non, MR.fEq_bl_str, MR.fNe_int, MR.fNe_str, MR.fNe_bl, MR.fNe_tup_tup, MR.fNe_tup_lst, MR.fNe_tup_int, MR.fNe_tup_non, MR.fNe_tup_str, MR.fNe_tup_bl, MR.fNe_lst_tup, MR.fNe_lst_lst, MR.fNe_lst_int, MR.fNe_lst_non, MR.fNe_lst_str, MR.fNe_lst_bl, MR.fNe_int_tup, MR.fNe_int_lst, MR.fNe_int_non, MR.fNe_int_str, MR.fNe_int_bl, MR.fNe_non_tup, MR.fNe_non_lst, MR.fNe_non_int, MR.fNe_non_non, MR.fNe_non_str, MR.fNe_non_bl, MR.fNe_str_tup, MR.fNe_str_lst, MR.fNe_str_int, MR.fNe_str_non, MR.fNe_str_bl, MR.fNe_bl_tup, MR.fNe_bl_lst, MR.fNe_bl_int, MR.fNe_bl_non, MR.fNe_bl_str, MR.fLt_int, MR.fIx_tup, MR.fSl_tup, MR.fLen_tup, MR.fTuple_tup, MR.fRev_tup, MR.fIx_lst, MR.fSl_lst, MR.fLen_lst, MR.fTuple_lst, MR.fRev_lst, MR.fIx_str, MR.fSl_str, MR.fLen_str, MR.fInt_int, MR.fInt_bl,
        List.map_cons, List.map_nil, List.cons_append, List.nil_append, List.append_nil, List.length_cons, List.length_nil, List.replicate_succ, List.replicate_zero, List.set_cons_zero, List.set_cons_succ, List.getElem?_cons_zero, List.getElem?_cons_succ, List.getD_cons_zero, List.getD_cons_succ, Nat.reduceAdd, Nat.reduceSub, Nat.zero_add, Option.some.injEq, reduceIte, Bool.not_true, Bool.not_false, true_and, and_true]
    refine ⟨p, 9999, T + 1 + 1, rfl, k2, by decide, small_m (by decide), by omega, fun w3 ω3 a3 b3 k3 => ?_⟩
    simp (maxSteps := 2000000) only [MR.sNil, MR.sSeq, MR.sDrop, MR.sRet, MR.sRetN, MR.sBreak, MR.sCont, MR.sIf, MR.sSet, MR.sOwn, MR.sAsg, MR.sPar, MR.sAug, MR.sFrz, MR.sApp, MR.sPut, MR.sExt, MR.aName, MR.aTup, MR.aNil, MR.aCons, MR.frz,
        MR.gVar, MR.gC, MR.gOp, MR.gB, MR.bK, MR.gTru, MR.gNotT, MR.gAndT, MR.gOrT, MR.gAndV, MR.gOrV, MR.gNotV, MR.gIf, MR.gChain, MR.gNil, MR.gCons, MR.gTup, MR.gLst, MR.gFz, MR.gOwn, MR.gAsL, MR.gNo, MR.gPart, MR.gSl, MR.gSlF, MR.gUn, MR.gIxL, MR.gFn, MR.gLenL, MR.gYes,
        MR.fAddI, MR.fSub, MR.fDiv, MR.fMod, MR.fPow, MR.fLe, MR.fGt, MR.fGe, MR.fIs, MR.fIsN, MR.fNeg, MR.fMin, MR.fMax, MR.fDivmod, MR.fSum, MR.fAll, MR.fRepr, MR.fIsi, MR.tyD, MR.dInt, MR.dBool, MR.dTup, MR.dStr, MR.dLst,
        MR.gDkT, MR.gDkS, MR.gDkNe, MR.gDkPop, MR.sDkApp, MR.sDkPut, MR.gScr, MR.sDeck, MR.gCall, MR.sel, MR.sFor, MR.sForR1, MR.sForR2, MR.sWhile, MR.sForE, MR.sAugP, MR.gRepL, MR.gCatL, MR.gComp, MR.gCompR, MR.startA, MR.wipeA, MR.sNever, MR.gNever, MR.tNev, MR.sAsg2, MR.fMulS_str, MR.fIntS_str, MR.sParO, MR.sForG, MR.gCompG, MR.iSeqG, MR.iR1G, MR.iR2G, MR.iZipG, MR.iEnumG, MR.iEnumLG, MR.iRevG,
        MR.fTru_bl, MR.fTru_non, MR.fTru_int, MR.fTru_str, MR.fTru_lst, MR.fTru_tup, MR.fAdd_int, MR.fAdd_str, MR.fAdd_tup, MR.fAdd_lst, MR.fMul_int, MR.fMul_tup, MR.fMul_lst, MR.fEq_int, MR.fEq_str, MR.fEq_bl, MR.fEq_tup_tup, MR.fEq_tup_lst, MR.fEq_tup_int, MR.fEq_tup_non, MR.fEq_tup_str, MR.fEq_tup_bl, MR.fEq_lst_tup, MR.fEq_lst_lst, MR.fEq_lst_int, MR.fEq_lst_non, MR.fEq_lst_str, MR.fEq_lst_bl, MR.fEq_int_tup, MR.fEq_int_lst, MR.fEq_int_non, MR.fEq_int_str, MR.fEq_int_bl, MR.fEq_non_tup, MR.fEq_non_lst, MR.fEq_non_int, MR.fEq_non_non, MR.fEq_non_str, MR.fEq_non_bl, MR.fEq_str_tup, MR.fEq_str_lst, MR.fEq_str_int, MR.fEq_str_non, MR.fEq_str_bl, MR.fEq_bl_tup, MR.fEq_bl_lst, MR.fEq_bl_int, MR.fEq_bl_non, MR.fEq_bl_str, MR.fNe_int, MR.fNe_str, MR.fNe_bl, MR.fNe_tup_tup, MR.fNe_tup_lst, MR.fNe_tup_int, MR.fNe_tup_non, MR.fNe_tup_str, MR.fNe_tup_bl, MR.fNe_lst_tup, MR.fNe_lst_lst, MR.fNe_lst_int, MR.fNe_lst_non, MR.fNe_lst_str, MR.fNe_lst_bl, MR.fNe_int_tup, MR.fNe_int_lst, MR.fNe_int_non, MR.fNe_int_str, MR.fNe_int_bl, MR.fNe_non_tup, MR.fNe_non_lst, MR.fNe_non_int, MR.fNe_non_non, MR.fNe_non_str, MR.fNe_non_bl, MR.fNe_str_tup, MR.fNe_str_lst, MR.fNe_str_int, MR.fNe_str_non, MR.fNe_str_bl, MR.fNe_bl_tup, MR.fNe_bl_lst, MR.fNe_bl_int, MR.fNe_bl_non, MR.fNe_bl_str, MR.fLt_int, MR.fIx_tup, MR.fSl_tup, MR.fLen_tup, MR.fTuple_tup, MR.fRev_tup, MR.fIx_lst, MR.fSl_lst, MR.fLen_lst, MR.fTuple_lst, MR.fRev_lst, MR.fIx_str, MR.fSl_str, MR.fLen_str, MR.fInt_int, MR.fInt_bl,
        List.map_cons, List.map_nil, List.cons_append, List.nil_append, List.append_nil, List.length_cons, List.length_nil, List.replicate_succ, List.replicate_zero, List.set_cons_zero, List.set_cons_succ, List.getElem?_cons_zero, List.getElem?_cons_succ, List.getD_cons_zero, List.getD_cons_succ, Nat.reduceAdd, Nat.reduceSub, Nat.zero_add, Option.some.injEq, reduceIte, Bool.not_true, Bool.not_false, true_and, and_true]
    refine ⟨by decide, atI_all (fun d hd => ?_) a1 b1⟩
    simp only [List.mem_cons, List.not_mem_nil, or_false] at hd
    rcases hd with rfl | rfl | rfl | rfl | rfl | rfl | rfl | rfl <;> exact q _ _ ⟨by omega, by omega⟩ (k3.le (by omega))
  refine ⟨fd, ⟨t.g__law_any_base, F.kp, ok⟩, ?_⟩
  · refine bnd_of F 1 [] [] [0] [] (by simp) rfl ?_
    intro kV doc pm an cdv ct D us mv ws h1 h2 h3 h4
    match us, mv, ws, h1, h2, h3 with
    | [u0], [], [], _, _, _ => exact rfl
theorem kn__law_row (t : T K mg) : ∃ fd, Known PR w K mg base 2 "_law_row" (He.ga K "_law_row") fd ["_law_deck_here", "_law_to", "_law_most"] DWd 3 aRow ∧ Bnd K fd ["_law_deck_here", "_law_to", "_law_most"] 3 [] [0, 1, 2] [] := by
  obtain ⟨fd, F⟩ := t.f__law_row
  obtain ⟨fd__law_draw, k__law_draw, b__law_draw_0⟩ := kn__law_draw (w := w) (base := base) t
  have ok : FnG PR w K mg base (L2.CX PR w) 2 (He.ga K "_law_row") fd ["_law_deck_here", "_law_to", "_law_most"] (toSp DWd K 3 aRow) := by
    refine fn_ok (N := n__law_row) DWd aRow F S__law_row fun cdv A outer s H E hr hG => ?_
    have S := S__law_row
    refine ⟨_, (gss_cons (gs_set 3 S.nd (ge_call1 k__law_draw (Room.mono hr (by decide)) hG tk_cx b__law_draw_0 (fun B => .nil) (ga_cons (ge_var 0) (ga_cons ge_int ga_nil))))
      (gss_cons (gs_set 4 S.nd (ge_call1 k__law_draw (Room.mono hr (by decide)) hG tk_cx b__law_draw_0 (fun B => .nil) (ga_cons (ge_var 0) (ga_cons (ge_add (ge_var 2) ge_int) ga_nil))))
      (gss_cons (gs_own 5 S.nd (gf_lst ga_nil))
      (gss_cons (gs_forR1 po_cx rfl t.z_range (ge_var 4) (gg_name 6 S.nd)
      (gss_cons (gs_set 7 S.nd (ge_call1 k__law_draw (Room.mono hr (by decide)) hG tk_cx b__law_draw_0 (fun B => .nil) (ga_cons (ge_var 0) (ga_cons (ge_var 1) ga_nil))))
      (gss_one (gs_app 5 (ge_ix (GF.ge (gf_lst (ga_cons (ge_var 7) (ga_cons (ge_sub (ge_var 1) ge_int) (ga_cons ge_int (ga_cons (ge_ix (GF.ge (gf_lst (ga_cons ge_int (ga_cons (ge_sub (ge_var 1) ge_int) ga_nil)))) (ge_mod (ge_var 7) ge_int)) (ga_cons (ge_mod (ge_var 7) ge_int) (ga_cons ge_int ga_nil)))))))) (ge_var 3))))))
      (gss_cons (gs_if (GW.gt (gw_and (gt_cmp op_gt op2_gt (nomark _) (ge_var 4) ge_int) (gw_and1 (gt_cmp (m_eq (un64 hr)) op2_eq (nomark _) (ge_ixL (gl_own 5) (ge_neg ge_int)) ge_int))))
      (gss_one (gs_put 5 (ge_ix (GF.ge (gf_lst (ga_cons (ge_add ge_int (ge_call1 k__law_draw (Room.mono hr (by decide)) hG tk_cx b__law_draw_0 (fun B => .nil) (ga_cons (ge_var 0) (ga_cons (ge_sub (ge_var 1) ge_int) ga_nil)))) (ga_cons (ge_sub (ge_var 1) ge_int) (ga_cons ge_int ga_nil))))) (ge_call1 k__law_draw (Room.mono hr (by decide)) hG tk_cx b__law_draw_0 (fun B => .nil) (ga_cons (ge_var 0) (ga_cons ge_int ga_nil)))) (ge_neg ge_int)))
      gss_nil)
      (gss_frz 5 (gss_one (gs_ret (ge_ty call_tuple_of c_tuple t.z_tuple (ga_cons (ge_var 5) ga_nil)))))))))), ?_⟩
    clear S hr hG F t k__law_draw b__law_draw_0
    rintro ds ω Qa Ea ⟨p, b, m, T, rfl, hk, hT, hb, m0, hm, q⟩ _
    have hb1 := hb.1
    have hb2 := hb.2
    simp (maxSteps := 2000000) only [MR.sNil, MR.sSeq, MR.sDrop, MR.sRet, MR.sRetN, MR.sBreak, MR.sCont, MR.sIf, MR.sSet, MR.sOwn, MR.sAsg, MR.sPar, MR.sAug, MR.sFrz, MR.sApp, MR.sPut, MR.sExt, MR.aName, MR.aTup, MR.aNil, MR.aCons, MR.frz,
        MR.gVar, MR.gC, MR.gOp, MR.gB, MR.bK, MR.gTru, MR.gNotT, MR.gAndT, MR.gOrT, MR.gAndV, MR.gOrV, MR.gNotV, MR.gIf, MR.gChain, MR.gNil, MR.gCons, MR.gTup, MR.gLst, MR.gFz, MR.gOwn, MR.gAsL, MR.gNo, MR.gPart, MR.gSl, MR.gSlF, MR.gUn, MR.gIxL, MR.gFn, MR.gLenL, MR.gYes,
        MR.fAddI, MR.fSub, MR.fDiv, MR.fMod, MR.fPow, MR.fLe, MR.fGt, MR.fGe, MR.fIs, MR.fIsN, MR.fNeg, MR.fMin, MR.fMax, MR.fDivmod, MR.fSum, MR.fAll, MR.fRepr, MR.fIsi, MR.tyD, MR.dInt, MR.dBool, MR.dTup, MR.dStr, MR.dLst,
        MR.gDkT, MR.gDkS, MR.gDkNe, MR.gDkPop, MR.sDkApp, MR.sDkPut, MR.gScr, MR.sDeck, MR.gCall, MR.sel, MR.sFor, MR.sForR1, MR.sForR2, MR.sWhile, MR.sForE, MR.sAugP, MR.gRepL, MR.gCatL, MR.gComp, MR.gCompR, MR.startA, MR.wipeA, MR.sNever, MR.gNever, MR.tNev, MR.sAsg2, MR.fMulS_str, MR.fIntS_str, MR.sParO, MR.sForG, MR.gCompG, MR.iSeqG, MR.iR1G, MR.iR2G, MR.iZipG, MR.iEnumG, MR.iEnumLG, MR.iRevG,
        MR.fTru_bl, MR.fTru_non, MR.fTru_int, MR.fTru_str, MR.fTru_lst, MR.fTru_tup, MR.fAdd_int, MR.fAdd_str, MR.fAdd_tup, MR.fAdd_lst, MR.fMul_int, MR.fMul_tup, MR.fMul_lst, MR.fEq_int, MR.fEq_str, MR.fEq_bl, MR.fEq_tup_tup, MR.fEq_tup_lst, MR.fEq_tup_int, MR.fEq_tup_non, MR.fEq_tup_str, MR.fEq_tup_bl, MR.fEq_lst_tup, MR.fEq_lst_lst, MR.fEq_lst_int, MR.fEq_lst_non, MR.fEq_lst_str, MR.fEq_lst_bl, MR.fEq_int_tup, MR.fEq_int_lst, MR.fEq_int_non, MR.fEq_int_str, MR.fEq_int_bl, MR.fEq_non_tup, MR.fEq_non_lst, MR.fEq_non_int, MR.fEq_non_non, MR.fEq_non_str, MR.fEq_non_bl, MR.fEq_str_tup, MR.fEq_str_lst, MR.fEq_str_int, MR.fEq_str_non, MR.fEq_str_bl, MR.fEq_bl_tup, MR.fEq_bl_lst, MR.fEq_bl_int, MR.fEq_bl_non, MR.fEq_bl_str, MR.fNe_int, MR.fNe_str, MR.fNe_bl, MR.fNe_tup_tup, MR.fNe_tup_lst, MR.fNe_tup_int, MR.fNe_tup_non, MR.fNe_tup_str, MR.fNe_tup_bl, MR.fNe_lst_tup, MR.fNe_lst_lst, MR.fNe_lst_int, MR.fNe_lst_non, MR.fNe_lst_str, MR.fNe_lst_bl, MR.fNe_int_tup, MR.fNe_int_lst, MR.fNe_int_non, MR.fNe_int_str, MR.fNe_int_bl, MR.fNe_non_tup, MR.fNe_non_lst, MR.fNe_non_int, MR.fNe_non_non, MR.fNe_non_str, MR.fNe_non_bl, MR.fNe_str_tup, MR.fNe_str_lst, MR.fNe_str_int, MR.fNe_str_non, MR.fNe_str_bl, MR.fNe_bl_tup, MR.fNe_bl_lst, MR.fNe_bl_int, MR.fNe_bl_non, MR.fNe_bl_str, MR.fLt_int, MR.fIx_tup, MR.fSl_tup, MR.fLen_tup, MR.fTuple_tup, MR.fRev_tup, MR.fIx_lst, MR.fSl_lst, MR.fLen_lst, MR.fTuple_lst, MR.fRev_lst, MR.fIx_str, MR.fSl_str, MR.fLen_str, MR.fInt_int, MR.fInt_bl,
        List.map_cons, List.map_nil, List.cons_append, List.nil_append, List.append_nil, List.length_cons, List.length_nil, List.replicate_succ, List.replicate_zero, List.set_cons_zero, List.set_cons_succ, List.getElem?_cons_zero, List.getElem?_cons_succ, List.getD_cons_zero, List.getD_cons_succ, Nat.reduceAdd, Nat.reduceSub, Nat.zero_add, Option.some.injEq, reduceIte, Bool.not_true, Bool.not_false, true_and, and_true]
    refine ⟨p, 6, T, rfl, hk, by decide, small_m (by decide), by omega, fun way ω1 a1 b1 k1 => ?_⟩
    simp (maxSteps := 2000000) only [MR.sNil, MR.sSeq, MR.sDrop, MR.sRet, MR.sRetN, MR.sBreak, MR.sCont, MR.sIf, MR.sSet, MR.sOwn, MR.sAsg, MR.sPar, MR.sAug, MR.sFrz, MR.sApp, MR.sPut, MR.sExt, MR.aName, MR.aTup, MR.aNil, MR.aCons, MR.frz,
        MR.gVar, MR.gC, MR.gOp, MR.gB, MR.bK, MR.gTru, MR.gNotT, MR.gAndT, MR.gOrT, MR.gAndV, MR.gOrV, MR.gNotV, MR.gIf, MR.gChain, MR.gNil, MR.gCons, MR.gTup, MR.gLst, MR.gFz, MR.gOwn, MR.gAsL, MR.gNo, MR.gPart, MR.gSl, MR.gSlF, MR.gUn, MR.gIxL, MR.gFn, MR.gLenL, MR.gYes,
        MR.fAddI, MR.fSub, MR.fDiv, MR.fMod, MR.fPow, MR.fLe, MR.fGt, MR.fGe, MR.fIs, MR.fIsN, MR.fNeg, MR.fMin, MR.fMax, MR.fDivmod, MR.fSum, MR.fAll, MR.fRepr, MR.fIsi, MR.tyD, MR.dInt, MR.dBool, MR.dTup, MR.dStr, MR.dLst,
        MR.gDkT, MR.gDkS, MR.gDkNe, MR.gDkPop, MR.sDkApp, MR.sDkPut, MR.gScr, MR.sDeck, MR.gCall, MR.sel, MR.sFor, MR.sForR1, MR.sForR2, MR.sWhile, MR.sForE, MR.sAugP, MR.gRepL, MR.gCatL, MR.gComp, MR.gCompR, MR.startA, MR.wipeA, MR.sNever, MR.gNever, MR.tNev, MR.sAsg2, MR.fMulS_str, MR.fIntS_str, MR.sParO, MR.sForG, MR.gCompG, MR.iSeqG, MR.iR1G, MR.iR2G, MR.iZipG, MR.iEnumG, MR.iEnumLG, MR.iRevG,
        MR.fTru_bl, MR.fTru_non, MR.fTru_int, MR.fTru_str, MR.fTru_lst, MR.fTru_tup, MR.fAdd_int, MR.fAdd_str, MR.fAdd_tup, MR.fAdd_lst, MR.fMul_int, MR.fMul_tup, MR.fMul_lst, MR.fEq_int, MR.fEq_str, MR.fEq_bl, MR.fEq_tup_tup, MR.fEq_tup_lst, MR.fEq_tup_int, MR.fEq_tup_non, MR.fEq_tup_str, MR.fEq_tup_bl, MR.fEq_lst_tup, MR.fEq_lst_lst, MR.fEq_lst_int, MR.fEq_lst_non, MR.fEq_lst_str, MR.fEq_lst_bl, MR.fEq_int_tup, MR.fEq_int_lst, MR.fEq_int_non, MR.fEq_int_str, MR.fEq_int_bl, MR.fEq_non_tup, MR.fEq_non_lst, MR.fEq_non_int, MR.fEq_non_non, MR.fEq_non_str, MR.fEq_non_bl, MR.fEq_str_tup, MR.fEq_str_lst, MR.fEq_str_int, MR.fEq_str_non, MR.fEq_str_bl, MR.fEq_bl_tup, MR.fEq_bl_lst, MR.fEq_bl_int, MR.fEq_bl_non, MR.fEq_bl_str, MR.fNe_int, MR.fNe_str, MR.fNe_bl, MR.fNe_tup_tup, MR.fNe_tup_lst, MR.fNe_tup_int, MR.fNe_tup_non, MR.fNe_tup_str, MR.fNe_tup_bl, MR.fNe_lst_tup, MR.fNe_lst_lst, MR.fNe_lst_int, MR.fNe_lst_non, MR.fNe_lst_str, MR.fNe_lst_bl, MR.fNe_int_tup, MR.fNe_int_lst, MR.fNe_int_non, MR.fNe_int_str, MR.fNe_int_bl, MR.fNe_non_tup, MR.fNe_non_lst, MR.fNe_non_int, MR.fNe_non_non, MR.fNe_non_str, MR.fNe_non_bl, MR.fNe_str_tup, MR.fNe_str_lst, MR.fNe_str_int, MR.fNe_str_non, MR.fNe_str_bl, MR.fNe_bl_tup, MR.fNe_bl_lst, MR.fNe_bl_int, MR.fNe_bl_non, MR.fNe_bl_str, MR.fLt_int, MR.fIx_tup, MR.fSl_tup, MR.fLen_tup, MR.fTuple_tup, MR.fRev_tup, MR.fIx_lst, MR.fSl_lst, MR.fLen_lst, MR.fTuple_lst, MR.fRev_lst, MR.fIx_str, MR.fSl_str, MR.fLen_str, MR.fInt_int, MR.fInt_bl,
        List.map_cons, List.map_nil, List.cons_append, List.nil_append, List.append_nil, List.length_cons, List.length_nil, List.replicate_succ, List.replicate_zero, List.set_cons_zero, List.set_cons_succ, List.getElem?_cons_zero, List.getElem?_cons_succ, List.getD_cons_zero, List.getD_cons_succ, Nat.reduceAdd, Nat.reduceSub, Nat.zero_add, Option.some.injEq, reduceIte, Bool.not_true, Bool.not_false, true_and, and_true]
    refine ⟨p, m + 1, T + 1, rfl, k1, by omega, small_m (by omega), by omega, fun lg ω2 a2 b2 k2 => ?_⟩
    simp (maxSteps := 2000000) only [MR.sNil, MR.sSeq, MR.sDrop, MR.sRet, MR.sRetN, MR.sBreak, MR.sCont, MR.sIf, MR.sSet, MR.sOwn, MR.sAsg, MR.sPar, MR.sAug, MR.sFrz, MR.sApp, MR.sPut, MR.sExt, MR.aName, MR.aTup, MR.aNil, MR.aCons, MR.frz,
        MR.gVar, MR.gC, MR.gOp, MR.gB, MR.bK, MR.gTru, MR.gNotT, MR.gAndT, MR.gOrT, MR.gAndV, MR.gOrV, MR.gNotV, MR.gIf, MR.gChain, MR.gNil, MR.gCons, MR.gTup, MR.gLst, MR.gFz, MR.gOwn, MR.gAsL, MR.gNo, MR.gPart, MR.gSl, MR.gSlF, MR.gUn, MR.gIxL, MR.gFn, MR.gLenL, MR.gYes,
        MR.fAddI, MR.fSub, MR.fDiv, MR.fMod, MR.fPow, MR.fLe, MR.fGt, MR.fGe, MR.fIs, MR.fIsN, MR.fNeg, MR.fMin, MR.fMax, MR.fDivmod, MR.fSum, MR.fAll, MR.fRepr, MR.fIsi, MR.tyD, MR.dInt, MR.dBool, MR.dTup, MR.dStr, MR.dLst,
        MR.gDkT, MR.gDkS, MR.gDkNe, MR.gDkPop, MR.sDkApp, MR.sDkPut, MR.gScr, MR.sDeck, MR.gCall, MR.sel, MR.sFor, MR.sForR1, MR.sForR2, MR.sWhile, MR.sForE, MR.sAugP, MR.gRepL, MR.gCatL, MR.gComp, MR.gCompR, MR.startA, MR.wipeA, MR.sNever, MR.gNever, MR.tNev, MR.sAsg2, MR.fMulS_str, MR.fIntS_str, MR.sParO, MR.sForG, MR.gCompG, MR.iSeqG, MR.iR1G, MR.iR2G, MR.iZipG, MR.iEnumG, MR.iEnumLG, MR.iRevG,
        MR.fTru_bl, MR.fTru_non, MR.fTru_int, MR.fTru_str, MR.fTru_lst, MR.fTru_tup, MR.fAdd_int, MR.fAdd_str, MR.fAdd_tup, MR.fAdd_lst, MR.fMul_int, MR.fMul_tup, MR.fMul_lst, MR.fEq_int, MR.fEq_str, MR.fEq_bl, MR.fEq_tup_tup, MR.fEq_tup_lst, MR.fEq_tup_int, MR.fEq_tup_non, MR.fEq_tup_str, MR.fEq_tup_bl, MR.fEq_lst_tup, MR.fEq_lst_lst, MR.fEq_lst_int, MR.fEq_lst_non, MR.fEq_lst_str, MR.fEq_lst_bl, MR.fEq_int_tup, MR.fEq_int_lst, MR.fEq_int_non, MR.fEq_int_str, MR.fEq_int_bl, MR.fEq_non_tup, MR.fEq_non_lst, MR.fEq_non_int, MR.fEq_non_non, MR.fEq_non_str, MR.fEq_non_bl, MR.fEq_str_tup, MR.fEq_str_lst, MR.fEq_str_int, MR.fEq_str_non, MR.fEq_str_bl, MR.fEq_bl_tup, MR.fEq_bl_lst, MR.fEq_bl_int, MR.fEq_bl_non, MR.fEq_bl_str, MR.fNe_int, MR.fNe_str, MR.fNe_bl, MR.fNe_tup_tup, MR.fNe_tup_lst, MR.fNe_tup_int, MR.fNe_tup_non, MR.fNe_tup_str, MR.fNe_tup_bl, MR.fNe_lst_tup, MR.fNe_lst_lst, MR.fNe_lst_int, MR.fNe_lst_non, MR.fNe_lst_str, MR.fNe_lst_bl, MR.fNe_int_tup, MR.fNe_int_lst, MR.fNe_int_non, MR.fNe_int_str, MR.fNe_int_bl, MR.fNe_non_tup, MR.fNe_non_lst, MR.fNe_non_int, MR.fNe_non_non, MR.fNe_non_str, MR.fNe_non_bl, MR.fNe_str_tup, MR.fNe_str_lst, MR.fNe_str_int, MR.fNe_str_non, MR.fNe_str_bl, MR.fNe_bl_tup, MR.fNe_bl_lst, MR.fNe_bl_int, MR.fNe_bl_non, MR.fNe_bl_str, MR.fLt_int, MR.fIx_tup, MR.fSl_tup, MR.fLen_tup, MR.fTuple_tup, MR.fRev_tup, MR.fIx_lst, MR.fSl_lst, MR.fLen_lst, MR.fTuple_lst, MR.fRev_lst, MR.fIx_str, MR.fSl_str, MR.fLen_str, MR.fInt_int, MR.fInt_bl,
        List.map_cons, List.map_nil, List.cons_append, List.nil_append, List.append_nil, List.length_cons, List.length_nil, List.replicate_succ, List.replicate_zero, List.set_cons_zero, List.set_cons_succ, List.getElem?_cons_zero, List.getElem?_cons_succ, List.getD_cons_zero, List.getD_cons_succ, Nat.reduceAdd, Nat.reduceSub, Nat.zero_add, Option.some.injEq, reduceIte, Bool.not_true, Bool.not_false, true_and, and_true]
    refine ⟨by decide, by omega, by omega, fun i ρ ω' => Dk ω' p (T + 2 + i) ∧ ∃ x6 x7 ns, limbs b ns ∧ ns.length = i ∧ ρ = [some (.d (.adr p)), some (.d (.int b)), some (.d (.int m)), some (.d (.int way)), some (.d (.int lg)), some (.own (ns.map D.int)), x6, x7], ⟨k2.le (by omega), none, none, [], (fun _ h => nomatch h), rfl, rfl⟩, fun i d ρ ω' hd ⟨e1, x6, x7, ns, e2, e3, e4⟩ => ?_, fun ρ ω' ⟨e1, x6, x7, ns, e2, e3, e4⟩ => ?_⟩
    · subst e4
      have hi : i < lg.toNat := by
        have := (List.getElem?_eq_some_iff.mp hd).1
        rwa [rng_len] at this
      simp (maxSteps := 2000000) only [MR.sNil, MR.sSeq, MR.sDrop, MR.sRet, MR.sRetN, MR.sBreak, MR.sCont, MR.sIf, MR.sSet, MR.sOwn, MR.sAsg, MR.sPar, MR.sAug, MR.sFrz, MR.sApp, MR.sPut, MR.sExt, MR.aName, MR.aTup, MR.aNil, MR.aCons, MR.frz,
        MR.gVar, MR.gC, MR.gOp, MR.gB, MR.bK, MR.gTru, MR.gNotT, MR.gAndT, MR.gOrT, MR.gAndV, MR.gOrV, MR.gNotV, MR.gIf, MR.gChain, MR.gNil, MR.gCons, MR.gTup, MR.gLst, MR.gFz, MR.gOwn, MR.gAsL, MR.gNo, MR.gPart, MR.gSl, MR.gSlF, MR.gUn, MR.gIxL, MR.gFn, MR.gLenL, MR.gYes,
        MR.fAddI, MR.fSub, MR.fDiv, MR.fMod, MR.fPow, MR.fLe, MR.fGt, MR.fGe, MR.fIs, MR.fIsN, MR.fNeg, MR.fMin, MR.fMax, MR.fDivmod, MR.fSum, MR.fAll, MR.fRepr, MR.fIsi, MR.tyD, MR.dInt, MR.dBool, MR.dTup, MR.dStr, MR.dLst,
        MR.gDkT, MR.gDkS, MR.gDkNe, MR.gDkPop, MR.sDkApp, MR.sDkPut, MR.gScr, MR.sDeck, MR.gCall, MR.sel, MR.sFor, MR.sForR1, MR.sForR2, MR.sWhile, MR.sForE, MR.sAugP, MR.gRepL, MR.gCatL, MR.gComp, MR.gCompR, MR.startA, MR.wipeA, MR.sNever, MR.gNever, MR.tNev, MR.sAsg2, MR.fMulS_str, MR.fIntS_str, MR.sParO, MR.sForG, MR.gCompG, MR.iSeqG, MR.iR1G, MR.iR2G, MR.iZipG, MR.iEnumG, MR.iEnumLG, MR.iRevG,
        MR.fTru_bl, MR.fTru_non, MR.fTru_int, MR.fTru_str, MR.fTru_lst, MR.fTru_tup, MR.fAdd_int, MR.fAdd_str, MR.fAdd_tup, MR.fAdd_lst, MR.fMul_int, MR.fMul_tup, MR.fMul_lst, MR.fEq_int, MR.fEq_str, MR.fEq_bl, MR.fEq_tup_tup, MR.fEq_tup_lst, MR.fEq_tup_int, MR.fEq_tup_non, MR.fEq_tup_str, MR.fEq_tup_bl, MR.fEq_lst_tup, MR.fEq_lst_lst, MR.fEq_lst_int, MR.fEq_lst_non, MR.fEq_lst_str, MR.fEq_lst_bl, MR.fEq_int_tup, MR.fEq_int_lst, MR.fEq_int_non, MR.fEq_int_str, MR.fEq_int_bl, MR.fEq_non_tup, MR.fEq_non_lst, MR.fEq_non_int, MR.fEq_non_non, MR.fEq_non_str, MR.fEq_non_bl, MR.fEq_str_tup, MR.fEq_str_lst, MR.fEq_str_int, MR.fEq_str_non, MR.fEq_str_bl, MR.fEq_bl_tup, MR.fEq_bl_lst, MR.fEq_bl_int, MR.fEq_bl_non, MR.fEq_bl_str, MR.fNe_int, MR.fNe_str, MR.fNe_bl, MR.fNe_tup_tup, MR.fNe_tup_lst, MR.fNe_tup_int, MR.fNe_tup_non, MR.fNe_tup_str, MR.fNe_tup_bl, MR.fNe_lst_tup, MR.fNe_lst_lst, MR.fNe_lst_int, MR.fNe_lst_non, MR.fNe_lst_str, MR.fNe_lst_bl, MR.fNe_int_tup, MR.fNe_int_lst, MR.fNe_int_non, MR.fNe_int_str, MR.fNe_int_bl, MR.fNe_non_tup, MR.fNe_non_lst, MR.fNe_non_int, MR.fNe_non_non, MR.fNe_non_str, MR.fNe_non_bl, MR.fNe_str_tup, MR.fNe_str_lst, MR.fNe_str_int, MR.fNe_str_non, MR.fNe_str_bl, MR.fNe_bl_tup, MR.fNe_bl_lst, MR.fNe_bl_int, MR.fNe_bl_non, MR.fNe_bl_str, MR.fLt_int, MR.fIx_tup, MR.fSl_tup, MR.fLen_tup, MR.fTuple_tup, MR.fRev_tup, MR.fIx_lst, MR.fSl_lst, MR.fLen_lst, MR.fTuple_lst, MR.fRev_lst, MR.fIx_str, MR.fSl_str, MR.fLen_str, MR.fInt_int, MR.fInt_bl,
        List.map_cons, List.map_nil, List.cons_append, List.nil_append, List.append_nil, List.length_cons, List.length_nil, List.replicate_succ, List.replicate_zero, List.set_cons_zero, List.set_cons_succ, List.getElem?_cons_zero, List.getElem?_cons_succ, List.getD_cons_zero, List.getD_cons_succ, Nat.reduceAdd, Nat.reduceSub, Nat.zero_add, Option.some.injEq, reduceIte, Bool.not_true, Bool.not_false, true_and, and_true]
      refine ⟨p, b, T + 2 + i, rfl, e1, by omega, small_m (by omega), by omega, fun dg ω3 a3 b3 k3 => ?_⟩
      simp (maxSteps := 2000000) only [MR.sNil, MR.sSeq, MR.sDrop, MR.sRet, MR.sRetN, MR.sBreak, MR.sCont, MR.sIf, MR.sSet, MR.sOwn, MR.sAsg, MR.sPar, MR.sAug, MR.sFrz, MR.sApp, MR.sPut, MR.sExt, MR.aName, MR.aTup, MR.aNil, MR.aCons, MR.frz,
        MR.gVar, MR.gC, MR.gOp, MR.gB, MR.bK, MR.gTru, MR.gNotT, MR.gAndT, MR.gOrT, MR.gAndV, MR.gOrV, MR.gNotV, MR.gIf, MR.gChain, MR.gNil, MR.gCons, MR.gTup, MR.gLst, MR.gFz, MR.gOwn, MR.gAsL, MR.gNo, MR.gPart, MR.gSl, MR.gSlF, MR.gUn, MR.gIxL, MR.gFn, MR.gLenL, MR.gYes,
        MR.fAddI, MR.fSub, MR.fDiv, MR.fMod, MR.fPow, MR.fLe, MR.fGt, MR.fGe, MR.fIs, MR.fIsN, MR.fNeg, MR.fMin, MR.fMax, MR.fDivmod, MR.fSum, MR.fAll, MR.fRepr, MR.fIsi, MR.tyD, MR.dInt, MR.dBool, MR.dTup, MR.dStr, MR.dLst,
        MR.gDkT, MR.gDkS, MR.gDkNe, MR.gDkPop, MR.sDkApp, MR.sDkPut, MR.gScr, MR.sDeck, MR.gCall, MR.sel, MR.sFor, MR.sForR1, MR.sForR2, MR.sWhile, MR.sForE, MR.sAugP, MR.gRepL, MR.gCatL, MR.gComp, MR.gCompR, MR.startA, MR.wipeA, MR.sNever, MR.gNever, MR.tNev, MR.sAsg2, MR.fMulS_str, MR.fIntS_str, MR.sParO, MR.sForG, MR.gCompG, MR.iSeqG, MR.iR1G, MR.iR2G, MR.iZipG, MR.iEnumG, MR.iEnumLG, MR.iRevG,
        MR.fTru_bl, MR.fTru_non, MR.fTru_int, MR.fTru_str, MR.fTru_lst, MR.fTru_tup, MR.fAdd_int, MR.fAdd_str, MR.fAdd_tup, MR.fAdd_lst, MR.fMul_int, MR.fMul_tup, MR.fMul_lst, MR.fEq_int, MR.fEq_str, MR.fEq_bl, MR.fEq_tup_tup, MR.fEq_tup_lst, MR.fEq_tup_int, MR.fEq_tup_non, MR.fEq_tup_str, MR.fEq_tup_bl, MR.fEq_lst_tup, MR.fEq_lst_lst, MR.fEq_lst_int, MR.fEq_lst_non, MR.fEq_lst_str, MR.fEq_lst_bl, MR.fEq_int_tup, MR.fEq_int_lst, MR.fEq_int_non, MR.fEq_int_str, MR.fEq_int_bl, MR.fEq_non_tup, MR.fEq_non_lst, MR.fEq_non_int, MR.fEq_non_non, MR.fEq_non_str, MR.fEq_non_bl, MR.fEq_str_tup, MR.fEq_str_lst, MR.fEq_str_int, MR.fEq_str_non, MR.fEq_str_bl, MR.fEq_bl_tup, MR.fEq_bl_lst, MR.fEq_bl_int, MR.fEq_bl_non, MR.fEq_bl_str, MR.fNe_int, MR.fNe_str, MR.fNe_bl, MR.fNe_tup_tup, MR.fNe_tup_lst, MR.fNe_tup_int, MR.fNe_tup_non, MR.fNe_tup_str, MR.fNe_tup_bl, MR.fNe_lst_tup, MR.fNe_lst_lst, MR.fNe_lst_int, MR.fNe_lst_non, MR.fNe_lst_str, MR.fNe_lst_bl, MR.fNe_int_tup, MR.fNe_int_lst, MR.fNe_int_non, MR.fNe_int_str, MR.fNe_int_bl, MR.fNe_non_tup, MR.fNe_non_lst, MR.fNe_non_int, MR.fNe_non_non, MR.fNe_non_str, MR.fNe_non_bl, MR.fNe_str_tup, MR.fNe_str_lst, MR.fNe_str_int, MR.fNe_str_non, MR.fNe_str_bl, MR.fNe_bl_tup, MR.fNe_bl_lst, MR.fNe_bl_int, MR.fNe_bl_non, MR.fNe_bl_str, MR.fLt_int, MR.fIx_tup, MR.fSl_tup, MR.fLen_tup, MR.fTuple_tup, MR.fRev_tup, MR.fIx_lst, MR.fSl_lst, MR.fLen_lst, MR.fTuple_lst, MR.fRev_lst, MR.fIx_str, MR.fSl_str, MR.fLen_str, MR.fInt_int, MR.fInt_bl,
        List.map_cons, List.map_nil, List.cons_append, List.nil_append, List.append_nil, List.length_cons, List.length_nil, List.replicate_succ, List.replicate_zero, List.set_cons_zero, List.set_cons_succ, List.getElem?_cons_zero, List.getElem?_cons_succ, List.getD_cons_zero, List.getD_cons_succ, Nat.reduceAdd, Nat.reduceSub, Nat.zero_add, Option.some.injEq, reduceIte, Bool.not_true, Bool.not_false, true_and, and_true]
      refine ⟨by decide, by decide, ?_⟩
      obtain ⟨d1, f1, a1'⟩ := atI_at (ds := [D.int 0, D.int (b - 1)]) (k := dg % 2) (Int.emod_nonneg _ (by decide)) (Int.emod_lt_of_pos _ (by decide))
      rw [a1']
      have in1 : ∃ y, d1 = .int y ∧ 0 ≤ y ∧ y < b := by
        have := List.mem_of_getElem? f1
        simp only [List.mem_cons, List.not_mem_nil, or_false] at this
        rcases this with rfl | rfl
        · exact ⟨0, rfl, by omega, by omega⟩
        · exact ⟨b - 1, rfl, by omega, by omega⟩
      obtain ⟨y1, rfl, y10, y1b⟩ := in1
      refine ⟨by decide, by decide, ?_⟩
      obtain ⟨d2, f2, a2'⟩ := atI_at (ds := [D.int dg, D.int (b - 1), D.int 0, D.int y1, D.int (dg % 2), D.int 0]) (k := way) a1 b1
      rw [a2']
      have in2 : ∃ y, d2 = .int y ∧ 0 ≤ y ∧ y < b := by
        have := List.mem_of_getElem? f2
        simp only [List.mem_cons, List.not_mem_nil, or_false] at this
        rcases this with rfl | rfl | rfl | rfl | rfl | rfl
        · exact ⟨_, rfl, a3, b3⟩
        · exact ⟨b - 1, rfl, by omega, by omega⟩
        · exact ⟨0, rfl, by omega, by omega⟩
        · exact ⟨_, rfl, y10, y1b⟩
        · exact ⟨_, rfl, by omega, by omega⟩
        · exact ⟨0, rfl, by omega, by omega⟩
      obtain ⟨y2, rfl, y20, y2b⟩ := in2
      refine ⟨line1000l (by rw [List.length_map]; omega), k3.le (by omega), _, _, ns ++ [y2], fun n hn => ?_, by rw [List.length_append]; exact congrArg (· + 1) e3, by rw [List.map_append]; rfl⟩
      rcases List.mem_append.mp hn with hn | hn
      · exact e2 n hn
      · rw [List.mem_singleton] at hn
        subst hn
        exact ⟨y20, y2b⟩
    · subst e4
      rw [rng_len] at e3 e1
      simp (maxSteps := 2000000) only [MR.sNil, MR.sSeq, MR.sDrop, MR.sRet, MR.sRetN, MR.sBreak, MR.sCont, MR.sIf, MR.sSet, MR.sOwn, MR.sAsg, MR.sPar, MR.sAug, MR.sFrz, MR.sApp, MR.sPut, MR.sExt, MR.aName, MR.aTup, MR.aNil, MR.aCons, MR.frz,
        MR.gVar, MR.gC, MR.gOp, MR.gB, MR.bK, MR.gTru, MR.gNotT, MR.gAndT, MR.gOrT, MR.gAndV, MR.gOrV, MR.gNotV, MR.gIf, MR.gChain, MR.gNil, MR.gCons, MR.gTup, MR.gLst, MR.gFz, MR.gOwn, MR.gAsL, MR.gNo, MR.gPart, MR.gSl, MR.gSlF, MR.gUn, MR.gIxL, MR.gFn, MR.gLenL, MR.gYes,
        MR.fAddI, MR.fSub, MR.fDiv, MR.fMod, MR.fPow, MR.fLe, MR.fGt, MR.fGe, MR.fIs, MR.fIsN, MR.fNeg, MR.fMin, MR.fMax, MR.fDivmod, MR.fSum, MR.fAll, MR.fRepr, MR.fIsi, MR.tyD, MR.dInt, MR.dBool, MR.dTup, MR.dStr, MR.dLst,
        MR.gDkT, MR.gDkS, MR.gDkNe, MR.gDkPop, MR.sDkApp, MR.sDkPut, MR.gScr, MR.sDeck, MR.gCall, MR.sel, MR.sFor, MR.sForR1, MR.sForR2, MR.sWhile, MR.sForE, MR.sAugP, MR.gRepL, MR.gCatL, MR.gComp, MR.gCompR, MR.startA, MR.wipeA, MR.sNever, MR.gNever, MR.tNev, MR.sAsg2, MR.fMulS_str, MR.fIntS_str, MR.sParO, MR.sForG, MR.gCompG, MR.iSeqG, MR.iR1G, MR.iR2G, MR.iZipG, MR.iEnumG, MR.iEnumLG, MR.iRevG,
        MR.fTru_bl, MR.fTru_non, MR.fTru_int, MR.fTru_str, MR.fTru_lst, MR.fTru_tup, MR.fAdd_int, MR.fAdd_str, MR.fAdd_tup, MR.fAdd_lst, MR.fMul_int, MR.fMul_tup, MR.fMul_lst, MR.fEq_int, MR.fEq_str, MR.fEq_bl, MR.fEq_tup_tup, MR.fEq_tup_lst, MR.fEq_tup_int, MR.fEq_tup_non, MR.fEq_tup_str, MR.fEq_tup_bl, MR.fEq_lst_tup, MR.fEq_lst_lst, MR.fEq_lst_int, MR.fEq_lst_non, MR.fEq_lst_str, MR.fEq_lst_bl, MR.fEq_int_tup, MR.fEq_int_lst, MR.fEq_int_non, MR.fEq_int_str, MR.fEq_int_bl, MR.fEq_non_tup, MR.fEq_non_lst, MR.fEq_non_int, MR.fEq_non_non, MR.fEq_non_str, MR.fEq_non_bl, MR.fEq_str_tup, MR.fEq_str_lst, MR.fEq_str_int, MR.fEq_str_non, MR.fEq_str_bl, MR.fEq_bl_tup, MR.fEq_bl_lst, MR.fEq_bl_int, MR.fEq_bl_non, MR.fEq_bl_str, MR.fNe_int, MR.fNe_str, MR.fNe_bl, MR.fNe_tup_tup, MR.fNe_tup_lst, MR.fNe_tup_int, MR.fNe_tup_non, MR.fNe_tup_str, MR.fNe_tup_bl, MR.fNe_lst_tup, MR.fNe_lst_lst, MR.fNe_lst_int, MR.fNe_lst_non, MR.fNe_lst_str, MR.fNe_lst_bl, MR.fNe_int_tup, MR.fNe_int_lst, MR.fNe_int_non, MR.fNe_int_str, MR.fNe_int_bl, MR.fNe_non_tup, MR.fNe_non_lst, MR.fNe_non_int, MR.fNe_non_non, MR.fNe_non_str, MR.fNe_non_bl, MR.fNe_str_tup, MR.fNe_str_lst, MR.fNe_str_int, MR.fNe_str_non, MR.fNe_str_bl, MR.fNe_bl_tup, MR.fNe_bl_lst, MR.fNe_bl_int, MR.fNe_bl_non, MR.fNe_bl_str, MR.fLt_int, MR.fIx_tup, MR.fSl_tup, MR.fLen_tup, MR.fTuple_tup, MR.fRev_tup, MR.fIx_lst, MR.fSl_lst, MR.fLen_lst, MR.fTuple_lst, MR.fRev_lst, MR.fIx_str, MR.fSl_str, MR.fLen_str, MR.fInt_int, MR.fInt_bl,
        List.map_cons, List.map_nil, List.cons_append, List.nil_append, List.append_nil, List.length_cons, List.length_nil, List.replicate_succ, List.replicate_zero, List.set_cons_zero, List.set_cons_succ, List.getElem?_cons_zero, List.getElem?_cons_succ, List.getD_cons_zero, List.getD_cons_succ, Nat.reduceAdd, Nat.reduceSub, Nat.zero_add, Option.some.injEq, reduceIte, Bool.not_true, Bool.not_false, true_and, and_true]
      have fin : ∀ (ns : List Int) (ω' : DW), isRow b ns → (ns.length : Int) ≤ m → Dk ω' p (T + m + 4) → Qa (D.tup (ns.map D.int)) ω' := q
      split
      · rename_i c
        have hl : 0 < lg := of_decide_eq_true c
        have hn : ns ≠ [] := by intro z; subst z; simp at e3; omega
        obtain ⟨x, hx⟩ : ∃ x, ns.getLast? = some x := ⟨_, List.getLast?_eq_getLast hn⟩
        rw [atI_last hx]
        simp (maxSteps := 2000000) only [MR.sNil, MR.sSeq, MR.sDrop, MR.sRet, MR.sRetN, MR.sBreak, MR.sCont, MR.sIf, MR.sSet, MR.sOwn, MR.sAsg, MR.sPar, MR.sAug, MR.sFrz, MR.sApp, MR.sPut, MR.sExt, MR.aName, MR.aTup, MR.aNil, MR.aCons, MR.frz,
        MR.gVar, MR.gC, MR.gOp, MR.gB, MR.bK, MR.gTru, MR.gNotT, MR.gAndT, MR.gOrT, MR.gAndV, MR.gOrV, MR.gNotV, MR.gIf, MR.gChain, MR.gNil, MR.gCons, MR.gTup, MR.gLst, MR.gFz, MR.gOwn, MR.gAsL, MR.gNo, MR.gPart, MR.gSl, MR.gSlF, MR.gUn, MR.gIxL, MR.gFn, MR.gLenL, MR.gYes,
        MR.fAddI, MR.fSub, MR.fDiv, MR.fMod, MR.fPow, MR.fLe, MR.fGt, MR.fGe, MR.fIs, MR.fIsN, MR.fNeg, MR.fMin, MR.fMax, MR.fDivmod, MR.fSum, MR.fAll, MR.fRepr, MR.fIsi, MR.tyD, MR.dInt, MR.dBool, MR.dTup, MR.dStr, MR.dLst,
        MR.gDkT, MR.gDkS, MR.gDkNe, MR.gDkPop, MR.sDkApp, MR.sDkPut, MR.gScr, MR.sDeck, MR.gCall, MR.sel, MR.sFor, MR.sForR1, MR.sForR2, MR.sWhile, MR.sForE, MR.sAugP, MR.gRepL, MR.gCatL, MR.gComp, MR.gCompR, MR.startA, MR.wipeA, MR.sNever, MR.gNever, MR.tNev, MR.sAsg2, MR.fMulS_str, MR.fIntS_str, MR.sParO, MR.sForG, MR.gCompG, MR.iSeqG, MR.iR1G, MR.iR2G, MR.iZipG, MR.iEnumG, MR.iEnumLG, MR.iRevG,
        MR.fTru_bl, MR.fTru_non, MR.fTru_int, MR.fTru_str, MR.fTru_lst, MR.fTru_tup, MR.fAdd_int, MR.fAdd_str, MR.fAdd_tup, MR.fAdd_lst, MR.fMul_int, MR.fMul_tup, MR.fMul_lst, MR.fEq_int, MR.fEq_str, MR.fEq_bl, MR.fEq_tup_tup, MR.fEq_tup_lst, MR.fEq_tup_int, MR.fEq_tup_non, MR.fEq_tup_str, MR.fEq_tup_bl, MR.fEq_lst_tup, MR.fEq_lst_lst, MR.fEq_lst_int, MR.fEq_lst_non, MR.fEq_lst_str, MR.fEq_lst_bl, MR.fEq_int_tup, MR.fEq_int_lst, MR.fEq_int_non, MR.fEq_int_str, MR.fEq_int_bl, MR.fEq_non_tup, MR.fEq_non_lst, MR.fEq_non_int, MR.fEq_non_non, MR.fEq_non_str, MR.fEq_non_bl, MR.fEq_str_tup, MR.fEq_str_lst, MR.fEq_str_int, MR.fEq_str_non, MR.fEq_str_bl, MR.fEq_bl_tup, MR.fEq_bl_lst, MR.fEq_bl_int, MR.fEq_bl_non, MR.fEq_bl_str, MR.fNe_int, MR.fNe_str, MR.fNe_bl, MR.fNe_tup_tup, MR.fNe_tup_lst, MR.fNe_tup_int, MR.fNe_tup_non, MR.fNe_tup_str, MR.fNe_tup_bl, MR.fNe_lst_tup, MR.fNe_lst_lst, MR.fNe_lst_int, MR.fNe_lst_non, MR.fNe_lst_str, MR.fNe_lst_bl, MR.fNe_int_tup, MR.fNe_int_lst, MR.fNe_int_non, MR.fNe_int_str, MR.fNe_int_bl, MR.fNe_non_tup, MR.fNe_non_lst, MR.fNe_non_int, MR.fNe_non_non, MR.fNe_non_str, MR.fNe_non_bl, MR.fNe_str_tup, MR.fNe_str_lst, MR.fNe_str_int, MR.fNe_str_non, MR.fNe_str_bl, MR.fNe_bl_tup, MR.fNe_bl_lst, MR.fNe_bl_int, MR.fNe_bl_non, MR.fNe_bl_str, MR.fLt_int, MR.fIx_tup, MR.fSl_tup, MR.fLen_tup, MR.fTuple_tup, MR.fRev_tup, MR.fIx_lst, MR.fSl_lst, MR.fLen_lst, MR.fTuple_lst, MR.fRev_lst, MR.fIx_str, MR.fSl_str, MR.fLen_str, MR.fInt_int, MR.fInt_bl,
        List.map_cons, List.map_nil, List.cons_append, List.nil_append, List.append_nil, List.length_cons, List.length_nil, List.replicate_succ, List.replicate_zero, List.set_cons_zero, List.set_cons_succ, List.getElem?_cons_zero, List.getElem?_cons_succ, List.getD_cons_zero, List.getD_cons_succ, Nat.reduceAdd, Nat.reduceSub, Nat.zero_add, Option.some.injEq, reduceIte, Bool.not_true, Bool.not_false, true_and, and_true]
        split
        · refine ⟨p, b - 1, T + 2 + lg.toNat, rfl, e1, by omega, small_m (by omega), by omega, fun w3 ω3 a3 b3 k3 => ?_⟩
          simp (maxSteps := 2000000) only [MR.sNil, MR.sSeq, MR.sDrop, MR.sRet, MR.sRetN, MR.sBreak, MR.sCont, MR.sIf, MR.sSet, MR.sOwn, MR.sAsg, MR.sPar, MR.sAug, MR.sFrz, MR.sApp, MR.sPut, MR.sExt, MR.aName, MR.aTup, MR.aNil, MR.aCons, MR.frz,
        MR.gVar, MR.gC, MR.gOp, MR.gB, MR.bK, MR.gTru, MR.gNotT, MR.gAndT, MR.gOrT, MR.gAndV, MR.gOrV, MR.gNotV, MR.gIf, MR.gChain, MR.gNil, MR.gCons, MR.gTup, MR.gLst, MR.gFz, MR.gOwn, MR.gAsL, MR.gNo, MR.gPart, MR.gSl, MR.gSlF, MR.gUn, MR.gIxL, MR.gFn, MR.gLenL, MR.gYes,
        MR.fAddI, MR.fSub, MR.fDiv, MR.fMod, MR.fPow, MR.fLe, MR.fGt, MR.fGe, MR.fIs, MR.fIsN, MR.fNeg, MR.fMin, MR.fMax, MR.fDivmod, MR.fSum, MR.fAll, MR.fRepr, MR.fIsi, MR.tyD, MR.dInt, MR.dBool, MR.dTup, MR.dStr, MR.dLst,
        MR.gDkT, MR.gDkS, MR.gDkNe, MR.gDkPop, MR.sDkApp, MR.sDkPut, MR.gScr, MR.sDeck, MR.gCall, MR.sel, MR.sFor, MR.sForR1, MR.sForR2, MR.sWhile, MR.sForE, MR.sAugP, MR.gRepL, MR.gCatL, MR.gComp, MR.gCompR, MR.startA, MR.wipeA, MR.sNever, MR.gNever, MR.tNev, MR.sAsg2, MR.fMulS_str, MR.fIntS_str, MR.sParO, MR.sForG, MR.gCompG, MR.iSeqG, MR.iR1G, MR.iR2G, MR.iZipG, MR.iEnumG, MR.iEnumLG, MR.iRevG,
        MR.fTru_bl, MR.fTru_non, MR.fTru_int, MR.fTru_str, MR.fTru_lst, MR.fTru_tup, MR.fAdd_int, MR.fAdd_str, MR.fAdd_tup, MR.fAdd_lst, MR.fMul_int, MR.fMul_tup, MR.fMul_lst, MR.fEq_int, MR.fEq_str, MR.fEq_bl, MR.fEq_tup_tup, MR.fEq_tup_lst, MR.fEq_tup_int, MR.fEq_tup_non, MR.fEq_tup_str, MR.fEq_tup_bl, MR.fEq_lst_tup, MR.fEq_lst_lst, MR.fEq_lst_int, MR.fEq_lst_non, MR.fEq_lst_str, MR.fEq_lst_bl, MR.fEq_int_tup, MR.fEq_int_lst, MR.fEq_int_non, MR.fEq_int_str, MR.fEq_int_bl, MR.fEq_non_tup, MR.fEq_non_lst, MR.fEq_non_int, MR.fEq_non_non, MR.fEq_non_str, MR.fEq_non_bl, MR.fEq_str_tup, MR.fEq_str_lst, MR.fEq_str_int, MR.fEq_str_non, MR.fEq_str_bl, MR.fEq_bl_tup, MR.fEq_bl_lst, MR.fEq_bl_int, MR.fEq_bl_non, MR.fEq_bl_str, MR.fNe_int, MR.fNe_str, MR.fNe_bl, MR.fNe_tup_tup, MR.fNe_tup_lst, MR.fNe_tup_int, MR.fNe_tup_non, MR.fNe_tup_str, MR.fNe_tup_bl, MR.fNe_lst_tup, MR.fNe_lst_lst, MR.fNe_lst_int, MR.fNe_lst_non, MR.fNe_lst_str, MR.fNe_lst_bl, MR.fNe_int_tup, MR.fNe_int_lst, MR.fNe_int_non, MR.fNe_int_str, MR.fNe_int_bl, MR.fNe_non_tup, MR.fNe_non_lst, MR.fNe_non_int, MR.fNe_non_non, MR.fNe_non_str, MR.fNe_non_bl, MR.fNe_str_tup, MR.fNe_str_lst, MR.fNe_str_int, MR.fNe_str_non, MR.fNe_str_bl, MR.fNe_bl_tup, MR.fNe_bl_lst, MR.fNe_bl_int, MR.fNe_bl_non, MR.fNe_bl_str, MR.fLt_int, MR.fIx_tup, MR.fSl_tup, MR.fLen_tup, MR.fTuple_tup, MR.fRev_tup, MR.fIx_lst, MR.fSl_lst, MR.fLen_lst, MR.fTuple_lst, MR.fRev_lst, MR.fIx_str, MR.fSl_str, MR.fLen_str, MR.fInt_int, MR.fInt_bl,
        List.map_cons, List.map_nil, List.cons_append, List.nil_append, List.append_nil, List.length_cons, List.length_nil, List.replicate_succ, List.replicate_zero, List.set_cons_zero, List.set_cons_succ, List.getElem?_cons_zero, List.getElem?_cons_succ, List.getD_cons_zero, List.getD_cons_succ, Nat.reduceAdd, Nat.reduceSub, Nat.zero_add, Option.some.injEq, reduceIte, Bool.not_true, Bool.not_false, true_and, and_true]
          refine ⟨by decide, p, 3, T + 2 + lg.toNat + 1, rfl, k3, by decide, small_m (by decide), by omega, fun w4 ω4 a4 b4 k4 => ?_⟩
          simp (maxSteps := 2000000) only [MR.sNil, MR.sSeq, MR.sDrop, MR.sRet, MR.sRetN, MR.sBreak, MR.sCont, MR.sIf, MR.sSet, MR.sOwn, MR.sAsg, MR.sPar, MR.sAug, MR.sFrz, MR.sApp, MR.sPut, MR.sExt, MR.aName, MR.aTup, MR.aNil, MR.aCons, MR.frz,
        MR.gVar, MR.gC, MR.gOp, MR.gB, MR.bK, MR.gTru, MR.gNotT, MR.gAndT, MR.gOrT, MR.gAndV, MR.gOrV, MR.gNotV, MR.gIf, MR.gChain, MR.gNil, MR.gCons, MR.gTup, MR.gLst, MR.gFz, MR.gOwn, MR.gAsL, MR.gNo, MR.gPart, MR.gSl, MR.gSlF, MR.gUn, MR.gIxL, MR.gFn, MR.gLenL, MR.gYes,
        MR.fAddI, MR.fSub, MR.fDiv, MR.fMod, MR.fPow, MR.fLe, MR.fGt, MR.fGe, MR.fIs, MR.fIsN, MR.fNeg, MR.fMin, MR.fMax, MR.fDivmod, MR.fSum, MR.fAll, MR.fRepr, MR.fIsi, MR.tyD, MR.dInt, MR.dBool, MR.dTup, MR.dStr, MR.dLst,
        MR.gDkT, MR.gDkS, MR.gDkNe, MR.gDkPop, MR.sDkApp, MR.sDkPut, MR.gScr, MR.sDeck, MR.gCall, MR.sel, MR.sFor, MR.sForR1, MR.sForR2, MR.sWhile, MR.sForE, MR.sAugP, MR.gRepL, MR.gCatL, MR.gComp, MR.gCompR, MR.startA, MR.wipeA, MR.sNever, MR.gNever, MR.tNev, MR.sAsg2, MR.fMulS_str, MR.fIntS_str, MR.sParO, MR.sForG, MR.gCompG, MR.iSeqG, MR.iR1G, MR.iR2G, MR.iZipG, MR.iEnumG, MR.iEnumLG, MR.iRevG,
        MR.fTru_bl, MR.fTru_non, MR.fTru_int, MR.fTru_str, MR.fTru_lst, MR.fTru_tup, MR.fAdd_int, MR.fAdd_str, MR.fAdd_tup, MR.fAdd_lst, MR.fMul_int, MR.fMul_tup, MR.fMul_lst, MR.fEq_int, MR.fEq_str, MR.fEq_bl, MR.fEq_tup_tup, MR.fEq_tup_lst, MR.fEq_tup_int, MR.fEq_tup_non, MR.fEq_tup_str, MR.fEq_tup_bl, MR.fEq_lst_tup, MR.fEq_lst_lst, MR.fEq_lst_int, MR.fEq_lst_non, MR.fEq_lst_str, MR.fEq_lst_bl, MR.fEq_int_tup, MR.fEq_int_lst, MR.fEq_int_non, MR.fEq_int_str, MR.fEq_int_bl, MR.fEq_non_tup, MR.fEq_non_lst, MR.fEq_non_int, MR.fEq_non_non, MR.fEq_non_str, MR.fEq_non_bl, MR.fEq_str_tup, MR.fEq_str_lst, MR.fEq_str_int, MR.fEq_str_non, MR.fEq_str_bl, MR.fEq_bl_tup, MR.fEq_bl_lst, MR.fEq_bl_int, MR.fEq_bl_non, MR.fEq_bl_str, MR.fNe_int, MR.fNe_str, MR.fNe_bl, MR.fNe_tup_tup, MR.fNe_tup_lst, MR.fNe_tup_int, MR.fNe_tup_non, MR.fNe_tup_str, MR.fNe_tup_bl, MR.fNe_lst_tup, MR.fNe_lst_lst, MR.fNe_lst_int, MR.fNe_lst_non, MR.fNe_lst_str, MR.fNe_lst_bl, MR.fNe_int_tup, MR.fNe_int_lst, MR.fNe_int_non, MR.fNe_int_str, MR.fNe_int_bl, MR.fNe_non_tup, MR.fNe_non_lst, MR.fNe_non_int, MR.fNe_non_non, MR.fNe_non_str, MR.fNe_non_bl, MR.fNe_str_tup, MR.fNe_str_lst, MR.fNe_str_int, MR.fNe_str_non, MR.fNe_str_bl, MR.fNe_bl_tup, MR.fNe_bl_lst, MR.fNe_bl_int, MR.fNe_bl_non, MR.fNe_bl_str, MR.fLt_int, MR.fIx_tup, MR.fSl_tup, MR.fLen_tup, MR.fTuple_tup, MR.fRev_tup, MR.fIx_lst, MR.fSl_lst, MR.fLen_lst, MR.fTuple_lst, MR.fRev_lst, MR.fIx_str, MR.fSl_str, MR.fLen_str, MR.fInt_int, MR.fInt_bl,
        List.map_cons, List.map_nil, List.cons_append, List.nil_append, List.append_nil, List.length_cons, List.length_nil, List.replicate_succ, List.replicate_zero, List.set_cons_zero, List.set_cons_succ, List.getElem?_cons_zero, List.getElem?_cons_succ, List.getD_cons_zero, List.getD_cons_succ, Nat.reduceAdd, Nat.reduceSub, Nat.zero_add, Option.some.injEq, reduceIte, Bool.not_true, Bool.not_false, true_and, and_true]
          obtain ⟨d2, f2, a2'⟩ := atI_at (ds := [D.int (1 + w3), D.int (b - 1), D.int 1]) (k := w4) a4 b4
          rw [a2']
          have in2 : ∃ y, d2 = .int y ∧ 1 ≤ y ∧ y < b := by
            have := List.mem_of_getElem? f2
            simp only [List.mem_cons, List.not_mem_nil, or_false] at this
            rcases this with rfl | rfl | rfl
            · exact ⟨_, rfl, by omega, by omega⟩
            · exact ⟨b - 1, rfl, by omega, by omega⟩
            · exact ⟨1, rfl, by omega, by omega⟩
          obtain ⟨y2, rfl, y20, y2b⟩ := in2
          simp (maxSteps := 2000000) only [MR.sNil, MR.sSeq, MR.sDrop, MR.sRet, MR.sRetN, MR.sBreak, MR.sCont, MR.sIf, MR.sSet, MR.sOwn, MR.sAsg, MR.sPar, MR.sAug, MR.sFrz, MR.sApp, MR.sPut, MR.sExt, MR.aName, MR.aTup, MR.aNil, MR.aCons, MR.frz,
        MR.gVar, MR.gC, MR.gOp, MR.gB, MR.bK, MR.gTru, MR.gNotT, MR.gAndT, MR.gOrT, MR.gAndV, MR.gOrV, MR.gNotV, MR.gIf, MR.gChain, MR.gNil, MR.gCons, MR.gTup, MR.gLst, MR.gFz, MR.gOwn, MR.gAsL, MR.gNo, MR.gPart, MR.gSl, MR.gSlF, MR.gUn, MR.gIxL, MR.gFn, MR.gLenL, MR.gYes,
        MR.fAddI, MR.fSub, MR.fDiv, MR.fMod, MR.fPow, MR.fLe, MR.fGt, MR.fGe, MR.fIs, MR.fIsN, MR.fNeg, MR.fMin, MR.fMax, MR.fDivmod, MR.fSum, MR.fAll, MR.fRepr, MR.fIsi, MR.tyD, MR.dInt, MR.dBool, MR.dTup, MR.dStr, MR.dLst,
        MR.gDkT, MR.gDkS, MR.gDkNe, MR.gDkPop, MR.sDkApp, MR.sDkPut, MR.gScr, MR.sDeck, MR.gCall, MR.sel, MR.sFor, MR.sForR1, MR.sForR2, MR.sWhile, MR.sForE, MR.sAugP, MR.gRepL, MR.gCatL, MR.gComp, MR.gCompR, MR.startA, MR.wipeA, MR.sNever, MR.gNever, MR.tNev, MR.sAsg2, MR.fMulS_str, MR.fIntS_str, MR.sParO, MR.sForG, MR.gCompG, MR.iSeqG, MR.iR1G, MR.iR2G, MR.iZipG, MR.iEnumG, MR.iEnumLG, MR.iRevG,
        MR.fTru_bl, MR.fTru_non, MR.fTru_int, MR.fTru_str, MR.fTru_lst, MR.fTru_tup, MR.fAdd_int, MR.fAdd_str, MR.fAdd_tup, MR.fAdd_lst, MR.fMul_int, MR.fMul_tup, MR.fMul_lst, MR.fEq_int, MR.fEq_str, MR.fEq_bl, MR.fEq_tup_tup, MR.fEq_tup_lst, MR.fEq_tup_int, MR.fEq_tup_non, MR.fEq_tup_str, MR.fEq_tup_bl, MR.fEq_lst_tup, MR.fEq_lst_lst, MR.fEq_lst_int, MR.fEq_lst_non, MR.fEq_lst_str, MR.fEq_lst_bl, MR.fEq_int_tup, MR.fEq_int_lst, MR.fEq_int_non, MR.fEq_int_str, MR.fEq_int_bl, MR.fEq_non_tup, MR.fEq_non_lst, MR.fEq_non_int, MR.fEq_non_non, MR.fEq_non_str, MR.fEq_non_bl, MR.fEq_str_tup, MR.fEq_str_lst, MR.fEq_str_int, MR.fEq_str_non, MR.fEq_str_bl, MR.fEq_bl_tup, MR.fEq_bl_lst, MR.fEq_bl_int, MR.fEq_bl_non, MR.fEq_bl_str, MR.fNe_int, MR.fNe_str, MR.fNe_bl, MR.fNe_tup_tup, MR.fNe_tup_lst, MR.fNe_tup_int, MR.fNe_tup_non, MR.fNe_tup_str, MR.fNe_tup_bl, MR.fNe_lst_tup, MR.fNe_lst_lst, MR.fNe_lst_int, MR.fNe_lst_non, MR.fNe_lst_str, MR.fNe_lst_bl, MR.fNe_int_tup, MR.fNe_int_lst, MR.fNe_int_non, MR.fNe_int_str, MR.fNe_int_bl, MR.fNe_non_tup, MR.fNe_non_lst, MR.fNe_non_int, MR.fNe_non_non, MR.fNe_non_str, MR.fNe_non_bl, MR.fNe_str_tup, MR.fNe_str_lst, MR.fNe_str_int, MR.fNe_str_non, MR.fNe_str_bl, MR.fNe_bl_tup, MR.fNe_bl_lst, MR.fNe_bl_int, MR.fNe_bl_non, MR.fNe_bl_str, MR.fLt_int, MR.fIx_tup, MR.fSl_tup, MR.fLen_tup, MR.fTuple_tup, MR.fRev_tup, MR.fIx_lst, MR.fSl_lst, MR.fLen_lst, MR.fTuple_lst, MR.fRev_lst, MR.fIx_str, MR.fSl_str, MR.fLen_str, MR.fInt_int, MR.fInt_bl,
        List.map_cons, List.map_nil, List.cons_append, List.nil_append, List.append_nil, List.length_cons, List.length_nil, List.replicate_succ, List.replicate_zero, List.set_cons_zero, List.set_cons_succ, List.getElem?_cons_zero, List.getElem?_cons_succ, List.getD_cons_zero, List.getD_cons_succ, Nat.reduceAdd, Nat.reduceSub, Nat.zero_add, Option.some.injEq, reduceIte, Bool.not_true, Bool.not_false, true_and, and_true]
          rw [List.length_map, ixN_last (List.length_pos_iff.mpr hn)]
          simp (maxSteps := 2000000) only [MR.sNil, MR.sSeq, MR.sDrop, MR.sRet, MR.sRetN, MR.sBreak, MR.sCont, MR.sIf, MR.sSet, MR.sOwn, MR.sAsg, MR.sPar, MR.sAug, MR.sFrz, MR.sApp, MR.sPut, MR.sExt, MR.aName, MR.aTup, MR.aNil, MR.aCons, MR.frz,
        MR.gVar, MR.gC, MR.gOp, MR.gB, MR.bK, MR.gTru, MR.gNotT, MR.gAndT, MR.gOrT, MR.gAndV, MR.gOrV, MR.gNotV, MR.gIf, MR.gChain, MR.gNil, MR.gCons, MR.gTup, MR.gLst, MR.gFz, MR.gOwn, MR.gAsL, MR.gNo, MR.gPart, MR.gSl, MR.gSlF, MR.gUn, MR.gIxL, MR.gFn, MR.gLenL, MR.gYes,
        MR.fAddI, MR.fSub, MR.fDiv, MR.fMod, MR.fPow, MR.fLe, MR.fGt, MR.fGe, MR.fIs, MR.fIsN, MR.fNeg, MR.fMin, MR.fMax, MR.fDivmod, MR.fSum, MR.fAll, MR.fRepr, MR.fIsi, MR.tyD, MR.dInt, MR.dBool, MR.dTup, MR.dStr, MR.dLst,
        MR.gDkT, MR.gDkS, MR.gDkNe, MR.gDkPop, MR.sDkApp, MR.sDkPut, MR.gScr, MR.sDeck, MR.gCall, MR.sel, MR.sFor, MR.sForR1, MR.sForR2, MR.sWhile, MR.sForE, MR.sAugP, MR.gRepL, MR.gCatL, MR.gComp, MR.gCompR, MR.startA, MR.wipeA, MR.sNever, MR.gNever, MR.tNev, MR.sAsg2, MR.fMulS_str, MR.fIntS_str, MR.sParO, MR.sForG, MR.gCompG, MR.iSeqG, MR.iR1G, MR.iR2G, MR.iZipG, MR.iEnumG, MR.iEnumLG, MR.iRevG,
        MR.fTru_bl, MR.fTru_non, MR.fTru_int, MR.fTru_str, MR.fTru_lst, MR.fTru_tup, MR.fAdd_int, MR.fAdd_str, MR.fAdd_tup, MR.fAdd_lst, MR.fMul_int, MR.fMul_tup, MR.fMul_lst, MR.fEq_int, MR.fEq_str, MR.fEq_bl, MR.fEq_tup_tup, MR.fEq_tup_lst, MR.fEq_tup_int, MR.fEq_tup_non, MR.fEq_tup_str, MR.fEq_tup_bl, MR.fEq_lst_tup, MR.fEq_lst_lst, MR.fEq_lst_int, MR.fEq_lst_non, MR.fEq_lst_str, MR.fEq_lst_bl, MR.fEq_int_tup, MR.fEq_int_lst, MR.fEq_int_non, MR.fEq_int_str, MR.fEq_int_bl, MR.fEq_non_tup, MR.fEq_non_lst, MR.fEq_non_int, MR.fEq_non_non, MR.fEq_non_str, MR.fEq_non_bl, MR.fEq_str_tup, MR.fEq_str_lst, MR.fEq_str_int, MR.fEq_str_non, MR.fEq_str_bl, MR.fEq_bl_tup, MR.fEq_bl_lst, MR.fEq_bl_int, MR.fEq_bl_non, MR.fEq_bl_str, MR.fNe_int, MR.fNe_str, MR.fNe_bl, MR.fNe_tup_tup, MR.fNe_tup_lst, MR.fNe_tup_int, MR.fNe_tup_non, MR.fNe_tup_str, MR.fNe_tup_bl, MR.fNe_lst_tup, MR.fNe_lst_lst, MR.fNe_lst_int, MR.fNe_lst_non, MR.fNe_lst_str, MR.fNe_lst_bl, MR.fNe_int_tup, MR.fNe_int_lst, MR.fNe_int_non, MR.fNe_int_str, MR.fNe_int_bl, MR.fNe_non_tup, MR.fNe_non_lst, MR.fNe_non_int, MR.fNe_non_non, MR.fNe_non_str, MR.fNe_non_bl, MR.fNe_str_tup, MR.fNe_str_lst, MR.fNe_str_int, MR.fNe_str_non, MR.fNe_str_bl, MR.fNe_bl_tup, MR.fNe_bl_lst, MR.fNe_bl_int, MR.fNe_bl_non, MR.fNe_bl_str, MR.fLt_int, MR.fIx_tup, MR.fSl_tup, MR.fLen_tup, MR.fTuple_tup, MR.fRev_tup, MR.fIx_lst, MR.fSl_lst, MR.fLen_lst, MR.fTuple_lst, MR.fRev_lst, MR.fIx_str, MR.fSl_str, MR.fLen_str, MR.fInt_int, MR.fInt_bl,
        List.map_cons, List.map_nil, List.cons_append, List.nil_append, List.append_nil, List.length_cons, List.length_nil, List.replicate_succ, List.replicate_zero, List.set_cons_zero, List.set_cons_succ, List.getElem?_cons_zero, List.getElem?_cons_succ, List.getD_cons_zero, List.getD_cons_succ, Nat.reduceAdd, Nat.reduceSub, Nat.zero_add, Option.some.injEq, reduceIte, Bool.not_true, Bool.not_false, true_and, and_true]
          rw [set_last y2 hn]
          refine fin _ _ ⟨fun n hm => ?_, by simp; omega⟩ (by rw [List.length_append, List.length_dropLast]; simp; omega) (k4.le (by omega))
          rcases List.mem_append.mp hm with hm | hm
          · exact e2 n (List.dropLast_subset _ hm)
          · rw [List.mem_singleton] at hm
            subst hm
            exact ⟨by omega, y2b⟩
        · rename_i c2
          refine fin ns ω' ⟨e2, fun z => ?_⟩ (by omega) (e1.le (by omega))
          rw [hx] at z
          exact c2 (by rw [decide_eq_true_eq]; exact Option.some.inj z)
      · rename_i c
        have hl : lg = 0 := by
          have : ¬ 0 < lg := fun z => c (decide_eq_true z)
          omega
        have hn : ns = [] := List.eq_nil_of_length_eq_zero (by rw [e3, hl]; rfl)
        subst hn
        exact fin [] ω' ⟨e2, by simp⟩ m0 (e1.le (by omega))
  refine ⟨fd, ⟨t.g__law_row, F.kp, ok⟩, ?_⟩
  · refine bnd_of F 3 [] [] [0, 1, 2] [] (by simp) rfl ?_
    intro kV doc pm an cdv ct D us mv ws h1 h2 h3 h4
    match us, mv, ws, h1, h2, h3 with
    | [u0, u1, u2], [], [], _, _, _ => exact rfl
theorem kn__law_long_row (t : T K mg) : ∃ fd, Known PR w K mg base 3 "_law_long_row" (He.ga K "_law_long_row") fd ["_law_deck_here", "_law_to", "_law_most"] DWd 3 aLongRow ∧ Bnd K fd ["_law_deck_here", "_law_to", "_law_most"] 3 [] [0, 1, 2] [] := by
  obtain ⟨fd, F⟩ := t.f__law_long_row
  obtain ⟨fd__law_row, k__law_row, b__law_row_0⟩ := kn__law_row (w := w) (base := base) t
  obtain ⟨fd__law_draw, k__law_draw, b__law_draw_0⟩ := kn__law_draw (w := w) (base := base) t
  have ok : FnG PR w K mg base (L2.CX PR w) 3 (He.ga K "_law_long_row") fd ["_law_deck_here", "_law_to", "_law_most"] (toSp DWd K 3 aLongRow) := by
    refine fn_ok (N := n__law_long_row) DWd aLongRow F S__law_long_row fun cdv A outer s H E hr hG => ?_
    have S := S__law_long_row
    refine ⟨_, (gss_cons (gs_set 3 S.nd (ge_cmp (m_eq (un64 hr)) op2_eq (nomark _) (ge_call1 k__law_draw (Room.mono hr (by decide)) hG tk_cx b__law_draw_0 (fun B => .nil) (ga_cons (ge_var 0) (ga_cons ge_int ga_nil))) ge_int))
      (gss_one (gs_ret (ge_call1 k__law_row (Room.mono hr (by decide)) hG tk_cx b__law_row_0 (fun B => .nil) (ga_cons (ge_var 0) (ga_cons (ge_var 1) (ga_cons (ge_ix (GF.ge (gf_lst (ga_cons (ge_fn (call_min2 rfl) c_min t.z_min (ga_cons ge_int (ga_cons (ge_var 2) ga_nil))) (ga_cons (ge_var 2) ga_nil)))) (ge_ty call_int1 c_int t.z_int (ga_cons (ge_var 3) ga_nil))) ga_nil))))))), ?_⟩
    clear S hr hG F t k__law_row b__law_row_0 k__law_draw b__law_draw_0
    rintro ds ω Qa Ea ⟨p, b, m, T, rfl, hk, hT, hb, m0, hm, q⟩ _
    simp (maxSteps := 2000000) only [MR.sNil, MR.sSeq, MR.sDrop, MR.sRet, MR.sRetN, MR.sBreak, MR.sCont, MR.sIf, MR.sSet, MR.sOwn, MR.sAsg, MR.sPar, MR.sAug, MR.sFrz, MR.sApp, MR.sPut, MR.sExt, MR.aName, MR.aTup, MR.aNil, MR.aCons, MR.frz,
        MR.gVar, MR.gC, MR.gOp, MR.gB, MR.bK, MR.gTru, MR.gNotT, MR.gAndT, MR.gOrT, MR.gAndV, MR.gOrV, MR.gNotV, MR.gIf, MR.gChain, MR.gNil, MR.gCons, MR.gTup, MR.gLst, MR.gFz, MR.gOwn, MR.gAsL, MR.gNo, MR.gPart, MR.gSl, MR.gSlF, MR.gUn, MR.gIxL, MR.gFn, MR.gLenL, MR.gYes,
        MR.fAddI, MR.fSub, MR.fDiv, MR.fMod, MR.fPow, MR.fLe, MR.fGt, MR.fGe, MR.fIs, MR.fIsN, MR.fNeg, MR.fMin, MR.fMax, MR.fDivmod, MR.fSum, MR.fAll, MR.fRepr, MR.fIsi, MR.tyD, MR.dInt, MR.dBool, MR.dTup, MR.dStr, MR.dLst,
        MR.gDkT, MR.gDkS, MR.gDkNe, MR.gDkPop, MR.sDkApp, MR.sDkPut, MR.gScr, MR.sDeck, MR.gCall, MR.sel, MR.sFor, MR.sForR1, MR.sForR2, MR.sWhile, MR.sForE, MR.sAugP, MR.gRepL, MR.gCatL, MR.gComp, MR.gCompR, MR.startA, MR.wipeA, MR.sNever, MR.gNever, MR.tNev, MR.sAsg2, MR.fMulS_str, MR.fIntS_str, MR.sParO, MR.sForG, MR.gCompG, MR.iSeqG, MR.iR1G, MR.iR2G, MR.iZipG, MR.iEnumG, MR.iEnumLG, MR.iRevG,
        MR.fTru_bl, MR.fTru_non, MR.fTru_int, MR.fTru_str, MR.fTru_lst, MR.fTru_tup, MR.fAdd_int, MR.fAdd_str, MR.fAdd_tup, MR.fAdd_lst, MR.fMul_int, MR.fMul_tup, MR.fMul_lst, MR.fEq_int, MR.fEq_str, MR.fEq_bl, MR.fEq_tup_tup, MR.fEq_tup_lst, MR.fEq_tup_int, MR.fEq_tup_non, MR.fEq_tup_str, MR.fEq_tup_bl, MR.fEq_lst_tup, MR.fEq_lst_lst, MR.fEq_lst_int, MR.fEq_lst_non, MR.fEq_lst_str, MR.fEq_lst_bl, MR.fEq_int_tup, MR.fEq_int_lst, MR.fEq_int_non, MR.fEq_int_str, MR.fEq_int_bl, MR.fEq_non_tup, MR.fEq_non_lst, MR.fEq_non_int, MR.fEq_non_non, MR.fEq_non_str, MR.fEq_non_bl, MR.fEq_str_tup, MR.fEq_str_lst, MR.fEq_str_int, MR.fEq_str_non, MR.fEq_str_bl, MR.fEq_bl_tup, MR.fEq_bl_lst, MR.fEq_bl_int, MR.fEq_bl_non, MR.fEq_bl_str, MR.fNe_int, MR.fNe_str, MR.fNe_bl, MR.fNe_tup_tup, MR.fNe_tup_lst, MR.fNe_tup_int, MR.fNe_tup_non, MR.fNe_tup_str, MR.fNe_tup_bl, MR.fNe_lst_tup, MR.fNe_lst_lst, MR.fNe_lst_int, MR.fNe_lst_non, MR.fNe_lst_str, MR.fNe_lst_bl, MR.fNe_int_tup, MR.fNe_int_lst, MR.fNe_int_non, MR.fNe_int_str, MR.fNe_int_bl, MR.fNe_non_tup, MR.fNe_non_lst, MR.fNe_non_int, MR.fNe_non_non, MR.fNe_non_str, MR.fNe_non_bl, MR.fNe_str_tup, MR.fNe_str_lst, MR.fNe_str_int, MR.fNe_str_non, MR.fNe_str_bl, MR.fNe_bl_tup, MR.fNe_bl_lst, MR.fNe_bl_int, MR.fNe_bl_non, MR.fNe_bl_str, MR.fLt_int, MR.fIx_tup, MR.fSl_tup, MR.fLen_tup, MR.fTuple_tup, MR.fRev_tup, MR.fIx_lst, MR.fSl_lst, MR.fLen_lst, MR.fTuple_lst, MR.fRev_lst, MR.fIx_str, MR.fSl_str, MR.fLen_str, MR.fInt_int, MR.fInt_bl,
        List.map_cons, List.map_nil, List.cons_append, List.nil_append, List.append_nil, List.length_cons, List.length_nil, List.replicate_succ, List.replicate_zero, List.set_cons_zero, List.set_cons_succ, List.getElem?_cons_zero, List.getElem?_cons_succ, List.getD_cons_zero, List.getD_cons_succ, Nat.reduceAdd, Nat.reduceSub, Nat.zero_add, Option.some.injEq, reduceIte, Bool.not_true, Bool.not_false, true_and, and_true]
    refine ⟨p, 8, T, rfl, hk, by decide, small_m (by decide), by omega, fun way ω1 a1 b1 k1 => ?_⟩
    simp (maxSteps := 2000000) only [MR.sNil, MR.sSeq, MR.sDrop, MR.sRet, MR.sRetN, MR.sBreak, MR.sCont, MR.sIf, MR.sSet, MR.sOwn, MR.sAsg, MR.sPar, MR.sAug, MR.sFrz, MR.sApp, MR.sPut, MR.sExt, MR.aName, MR.aTup, MR.aNil, MR.aCons, MR.frz,
        MR.gVar, MR.gC, MR.gOp, MR.gB, MR.bK, MR.gTru, MR.gNotT, MR.gAndT, MR.gOrT, MR.gAndV, MR.gOrV, MR.gNotV, MR.gIf, MR.gChain, MR.gNil, MR.gCons, MR.gTup, MR.gLst, MR.gFz, MR.gOwn, MR.gAsL, MR.gNo, MR.gPart, MR.gSl, MR.gSlF, MR.gUn, MR.gIxL, MR.gFn, MR.gLenL, MR.gYes,
        MR.fAddI, MR.fSub, MR.fDiv, MR.fMod, MR.fPow, MR.fLe, MR.fGt, MR.fGe, MR.fIs, MR.fIsN, MR.fNeg, MR.fMin, MR.fMax, MR.fDivmod, MR.fSum, MR.fAll, MR.fRepr, MR.fIsi, MR.tyD, MR.dInt, MR.dBool, MR.dTup, MR.dStr, MR.dLst,
        MR.gDkT, MR.gDkS, MR.gDkNe, MR.gDkPop, MR.sDkApp, MR.sDkPut, MR.gScr, MR.sDeck, MR.gCall, MR.sel, MR.sFor, MR.sForR1, MR.sForR2, MR.sWhile, MR.sForE, MR.sAugP, MR.gRepL, MR.gCatL, MR.gComp, MR.gCompR, MR.startA, MR.wipeA, MR.sNever, MR.gNever, MR.tNev, MR.sAsg2, MR.fMulS_str, MR.fIntS_str, MR.sParO, MR.sForG, MR.gCompG, MR.iSeqG, MR.iR1G, MR.iR2G, MR.iZipG, MR.iEnumG, MR.iEnumLG, MR.iRevG,
        MR.fTru_bl, MR.fTru_non, MR.fTru_int, MR.fTru_str, MR.fTru_lst, MR.fTru_tup, MR.fAdd_int, MR.fAdd_str, MR.fAdd_tup, MR.fAdd_lst, MR.fMul_int, MR.fMul_tup, MR.fMul_lst, MR.fEq_int, MR.fEq_str, MR.fEq_bl, MR.fEq_tup_tup, MR.fEq_tup_lst, MR.fEq_tup_int, MR.fEq_tup_non, MR.fEq_tup_str, MR.fEq_tup_bl, MR.fEq_lst_tup, MR.fEq_lst_lst, MR.fEq_lst_int, MR.fEq_lst_non, MR.fEq_lst_str, MR.fEq_lst_bl, MR.fEq_int_tup, MR.fEq_int_lst, MR.fEq_int_non, MR.fEq_int_str, MR.fEq_int_bl, MR.fEq_non_tup, MR.fEq_non_lst, MR.fEq_non_int, MR.fEq_non_non, MR.fEq_non_str, MR.fEq_non_bl, MR.fEq_str_tup, MR.fEq_str_lst, MR.fEq_str_int, MR.fEq_str_non, MR.fEq_str_bl, MR.fEq_bl_tup, MR.fEq_bl_lst, MR.fEq_bl_int, MR.fEq_bl_non, MR.fEq_bl_str, MR.fNe_int, MR.fNe_str, MR.fNe_bl, MR.fNe_tup_tup, MR.fNe_tup_lst, MR.fNe_tup_int, MR.fNe_tup_non, MR.fNe_tup_str, MR.fNe_tup_bl, MR.fNe_lst_tup, MR.fNe_lst_lst, MR.fNe_lst_int, MR.fNe_lst_non, MR.fNe_lst_str, MR.fNe_lst_bl, MR.fNe_int_tup, MR.fNe_int_lst, MR.fNe_int_non, MR.fNe_int_str, MR.fNe_int_bl, MR.fNe_non_tup, MR.fNe_non_lst, MR.fNe_non_int, MR.fNe_non_non, MR.fNe_non_str, MR.fNe_non_bl, MR.fNe_str_tup, MR.fNe_str_lst, MR.fNe_str_int, MR.fNe_str_non, MR.fNe_str_bl, MR.fNe_bl_tup, MR.fNe_bl_lst, MR.fNe_bl_int, MR.fNe_bl_non, MR.fNe_bl_str, MR.fLt_int, MR.fIx_tup, MR.fSl_tup, MR.fLen_tup, MR.fTuple_tup, MR.fRev_tup, MR.fIx_lst, MR.fSl_lst, MR.fLen_lst, MR.fTuple_lst, MR.fRev_lst, MR.fIx_str, MR.fSl_str, MR.fLen_str, MR.fInt_int, MR.fInt_bl,
        List.map_cons, List.map_nil, List.cons_append, List.nil_append, List.append_nil, List.length_cons, List.length_nil, List.replicate_succ, List.replicate_zero, List.set_cons_zero, List.set_cons_succ, List.getElem?_cons_zero, List.getElem?_cons_succ, List.getD_cons_zero, List.getD_cons_succ, Nat.reduceAdd, Nat.reduceSub, Nat.zero_add, Option.some.injEq, reduceIte, Bool.not_true, Bool.not_false, true_and, and_true]
    refine ⟨by decide, atI_all (P := fun d => aRow [D.adr p, D.int b, d] ω1 Qa fun x ω' => Ea x ω') (fun d hd => ?_) (by split <;> decide) (by rw [List.length_cons, List.length_cons, List.length_nil]; split <;> decide)⟩
    have go : ∀ m' : Int, 0 ≤ m' → m' ≤ m → aRow [D.adr p, D.int b, D.int m'] ω1 Qa fun x ω' => Ea x ω' := fun m' h1 h2 =>
      ⟨p, b, m', T + 1, rfl, k1, by omega, hb, h1, by omega, fun ns ω' r l k => q ns ω' r (by omega) (k.le (by omega))⟩
    simp only [List.mem_cons, List.not_mem_nil, or_false] at hd
    rcases hd with rfl | rfl
    · refine go _ ?_ ?_ <;> split <;> omega
    · exact go m m0 (Int.le_refl _)
  refine ⟨fd, ⟨t.g__law_long_row, F.kp, ok⟩, ?_⟩
  · refine bnd_of F 3 [] [] [0, 1, 2] [] (by simp) rfl ?_
    intro kV doc pm an cdv ct D us mv ws h1 h2 h3 h4
    match us, mv, ws, h1, h2, h3 with
    | [u0, u1, u2], [], [], _, _, _ => exact rfl
theorem kn__law_worth (t : T K mg) : ∃ fd, Known PR w K mg base 1 "_law_worth" (He.ga K "_law_worth") fd ["_law_limbs", "_law_to"] DWd 2 aWorth ∧ Bnd K fd ["_law_limbs", "_law_to"] 2 [] [0, 1] [] := by
  obtain ⟨fd, F⟩ := t.f__law_worth
  have ok : FnG PR w K mg base (L2.CX PR w) 1 (He.ga K "_law_worth") fd ["_law_limbs", "_law_to"] (toSp DWd K 2 aWorth) := by
    refine fn_ok (N := n__law_worth) DWd aWorth F S__law_worth fun cdv A outer s H E hr hG => ?_
    have S := S__law_worth
    refine ⟨_, (gss_cons (gs_set 2 S.nd ge_int)
      (gss_cons (gs_for po_cx rfl (ge_rev (ge_var 0)) (gg_name 3 S.nd)
      (gss_one (gs_set 2 S.nd (ge_add (ge_mul (ge_var 2) (ge_var 1)) (ge_var 3)))))
      (gss_one (gs_ret (ge_var 2))))), ?_⟩
    clear S hr hG F t
    rintro ds ω Qa Ea ⟨ns, b, rfl, hb, hl, hn, q⟩ _
    simp (maxSteps := 2000000) only [MR.sNil, MR.sSeq, MR.sDrop, MR.sRet, MR.sRetN, MR.sBreak, MR.sCont, MR.sIf, MR.sSet, MR.sOwn, MR.sAsg, MR.sPar, MR.sAug, MR.sFrz, MR.sApp, MR.sPut, MR.sExt, MR.aName, MR.aTup, MR.aNil, MR.aCons, MR.frz,
        MR.gVar, MR.gC, MR.gOp, MR.gB, MR.bK, MR.gTru, MR.gNotT, MR.gAndT, MR.gOrT, MR.gAndV, MR.gOrV, MR.gNotV, MR.gIf, MR.gChain, MR.gNil, MR.gCons, MR.gTup, MR.gLst, MR.gFz, MR.gOwn, MR.gAsL, MR.gNo, MR.gPart, MR.gSl, MR.gSlF, MR.gUn, MR.gIxL, MR.gFn, MR.gLenL, MR.gYes,
        MR.fAddI, MR.fSub, MR.fDiv, MR.fMod, MR.fPow, MR.fLe, MR.fGt, MR.fGe, MR.fIs, MR.fIsN, MR.fNeg, MR.fMin, MR.fMax, MR.fDivmod, MR.fSum, MR.fAll, MR.fRepr, MR.fIsi, MR.tyD, MR.dInt, MR.dBool, MR.dTup, MR.dStr, MR.dLst,
        MR.gDkT, MR.gDkS, MR.gDkNe, MR.gDkPop, MR.sDkApp, MR.sDkPut, MR.gScr, MR.sDeck, MR.gCall, MR.sel, MR.sFor, MR.sForR1, MR.sForR2, MR.sWhile, MR.sForE, MR.sAugP, MR.gRepL, MR.gCatL, MR.gComp, MR.gCompR, MR.startA, MR.wipeA, MR.sNever, MR.gNever, MR.tNev, MR.sAsg2, MR.fMulS_str, MR.fIntS_str, MR.sParO, MR.sForG, MR.gCompG, MR.iSeqG, MR.iR1G, MR.iR2G, MR.iZipG, MR.iEnumG, MR.iEnumLG, MR.iRevG,
        MR.fTru_bl, MR.fTru_non, MR.fTru_int, MR.fTru_str, MR.fTru_lst, MR.fTru_tup, MR.fAdd_int, MR.fAdd_str, MR.fAdd_tup, MR.fAdd_lst, MR.fMul_int, MR.fMul_tup, MR.fMul_lst, MR.fEq_int, MR.fEq_str, MR.fEq_bl, MR.fEq_tup_tup, MR.fEq_tup_lst, MR.fEq_tup_int, MR.fEq_tup_non, MR.fEq_tup_str, MR.fEq_tup_bl, MR.fEq_lst_tup, MR.fEq_lst_lst, MR.fEq_lst_int, MR.fEq_lst_non, MR.fEq_lst_str, MR.fEq_lst_bl, MR.fEq_int_tup, MR.fEq_int_lst, MR.fEq_int_non, MR.fEq_int_str, MR.fEq_int_bl, MR.fEq_non_tup, MR.fEq_non_lst, MR.fEq_non_int, MR.fEq_non_non, MR.fEq_non_str, MR.fEq_non_bl, MR.fEq_str_tup, MR.fEq_str_lst, MR.fEq_str_int, MR.fEq_str_non, MR.fEq_str_bl, MR.fEq_bl_tup, MR.fEq_bl_lst, MR.fEq_bl_int, MR.fEq_bl_non, MR.fEq_bl_str, MR.fNe_int, MR.fNe_str, MR.fNe_bl, MR.fNe_tup_tup, MR.fNe_tup_lst, MR.fNe_tup_int, MR.fNe_tup_non, MR.fNe_tup_str, MR.fNe_tup_bl, MR.fNe_lst_tup, MR.fNe_lst_lst, MR.fNe_lst_int, MR.fNe_lst_non, MR.fNe_lst_str, MR.fNe_lst_bl, MR.fNe_int_tup, MR.fNe_int_lst, MR.fNe_int_non, MR.fNe_int_str, MR.fNe_int_bl, MR.fNe_non_tup, MR.fNe_non_lst, MR.fNe_non_int, MR.fNe_non_non, MR.fNe_non_str, MR.fNe_non_bl, MR.fNe_str_tup, MR.fNe_str_lst, MR.fNe_str_int, MR.fNe_str_non, MR.fNe_str_bl, MR.fNe_bl_tup, MR.fNe_bl_lst, MR.fNe_bl_int, MR.fNe_bl_non, MR.fNe_bl_str, MR.fLt_int, MR.fIx_tup, MR.fSl_tup, MR.fLen_tup, MR.fTuple_tup, MR.fRev_tup, MR.fIx_lst, MR.fSl_lst, MR.fLen_lst, MR.fTuple_lst, MR.fRev_lst, MR.fIx_str, MR.fSl_str, MR.fLen_str, MR.fInt_int, MR.fInt_bl,
        List.map_cons, List.map_nil, List.cons_append, List.nil_append, List.append_nil, List.length_cons, List.length_nil, List.replicate_succ, List.replicate_zero, List.set_cons_zero, List.set_cons_succ, List.getElem?_cons_zero, List.getElem?_cons_succ, List.getD_cons_zero, List.getD_cons_succ, Nat.reduceAdd, Nat.reduceSub, Nat.zero_add, Option.some.injEq, reduceIte, Bool.not_true, Bool.not_false, true_and, and_true]
    refine ⟨fun i ρ ω' => ω' = ω ∧ ∃ x3, ρ = [some (.d (row ns)), some (.d (.int b)), some (.d (.int (wor b (ns.drop (ns.length - i))))), x3], ⟨rfl, none, ?_⟩, fun i d ρ ω' hd ⟨e1, x3, e2⟩ => ?_, fun ρ ω' ⟨e1, x3, e2⟩ => ?_⟩
    · rw [Nat.sub_zero, List.drop_length]
      rfl
    · subst e1 e2
      rw [← List.map_reverse] at hd
      obtain ⟨n, e, rfl⟩ := at_ints hd
      have hi : i < ns.length := by
        have := (List.getElem?_eq_some_iff.mp e).1
        rwa [List.length_reverse] at this
      rw [List.getElem?_reverse hi] at e
      have ed : ns.drop (ns.length - (i + 1)) = n :: ns.drop (ns.length - i) := by
        have h1 : ns.length - 1 - i = ns.length - (i + 1) := by omega
        have h2 : ns.length - i = ns.length - (i + 1) + 1 := by omega
        rw [h1] at e
        obtain ⟨h3, h4⟩ := List.getElem?_eq_some_iff.mp e
        rw [h2, List.drop_eq_getElem_cons h3, h4]
      simp (maxSteps := 2000000) only [MR.sNil, MR.sSeq, MR.sDrop, MR.sRet, MR.sRetN, MR.sBreak, MR.sCont, MR.sIf, MR.sSet, MR.sOwn, MR.sAsg, MR.sPar, MR.sAug, MR.sFrz, MR.sApp, MR.sPut, MR.sExt, MR.aName, MR.aTup, MR.aNil, MR.aCons, MR.frz,
        MR.gVar, MR.gC, MR.gOp, MR.gB, MR.bK, MR.gTru, MR.gNotT, MR.gAndT, MR.gOrT, MR.gAndV, MR.gOrV, MR.gNotV, MR.gIf, MR.gChain, MR.gNil, MR.gCons, MR.gTup, MR.gLst, MR.gFz, MR.gOwn, MR.gAsL, MR.gNo, MR.gPart, MR.gSl, MR.gSlF, MR.gUn, MR.gIxL, MR.gFn, MR.gLenL, MR.gYes,
        MR.fAddI, MR.fSub, MR.fDiv, MR.fMod, MR.fPow, MR.fLe, MR.fGt, MR.fGe, MR.fIs, MR.fIsN, MR.fNeg, MR.fMin, MR.fMax, MR.fDivmod, MR.fSum, MR.fAll, MR.fRepr, MR.fIsi, MR.tyD, MR.dInt, MR.dBool, MR.dTup, MR.dStr, MR.dLst,
        MR.gDkT, MR.gDkS, MR.gDkNe, MR.gDkPop, MR.sDkApp, MR.sDkPut, MR.gScr, MR.sDeck, MR.gCall, MR.sel, MR.sFor, MR.sForR1, MR.sForR2, MR.sWhile, MR.sForE, MR.sAugP, MR.gRepL, MR.gCatL, MR.gComp, MR.gCompR, MR.startA, MR.wipeA, MR.sNever, MR.gNever, MR.tNev, MR.sAsg2, MR.fMulS_str, MR.fIntS_str, MR.sParO, MR.sForG, MR.gCompG, MR.iSeqG, MR.iR1G, MR.iR2G, MR.iZipG, MR.iEnumG, MR.iEnumLG, MR.iRevG,
        MR.fTru_bl, MR.fTru_non, MR.fTru_int, MR.fTru_str, MR.fTru_lst, MR.fTru_tup, MR.fAdd_int, MR.fAdd_str, MR.fAdd_tup, MR.fAdd_lst, MR.fMul_int, MR.fMul_tup, MR.fMul_lst, MR.fEq_int, MR.fEq_str, MR.fEq_bl, MR.fEq_tup_tup, MR.fEq_tup_lst, MR.fEq_tup_int, MR.fEq_tup_non, MR.fEq_tup_str, MR.fEq_tup_bl, MR.fEq_lst_tup, MR.fEq_lst_lst, MR.fEq_lst_int, MR.fEq_lst_non, MR.fEq_lst_str, MR.fEq_lst_bl, MR.fEq_int_tup, MR.fEq_int_lst, MR.fEq_int_non, MR.fEq_int_str, MR.fEq_int_bl, MR.fEq_non_tup, MR.fEq_non_lst, MR.fEq_non_int, MR.fEq_non_non, MR.fEq_non_str, MR.fEq_non_bl, MR.fEq_str_tup, MR.fEq_str_lst, MR.fEq_str_int, MR.fEq_str_non, MR.fEq_str_bl, MR.fEq_bl_tup, MR.fEq_bl_lst, MR.fEq_bl_int, MR.fEq_bl_non, MR.fEq_bl_str, MR.fNe_int, MR.fNe_str, MR.fNe_bl, MR.fNe_tup_tup, MR.fNe_tup_lst, MR.fNe_tup_int, MR.fNe_tup_non, MR.fNe_tup_str, MR.fNe_tup_bl, MR.fNe_lst_tup, MR.fNe_lst_lst, MR.fNe_lst_int, MR.fNe_lst_non, MR.fNe_lst_str, MR.fNe_lst_bl, MR.fNe_int_tup, MR.fNe_int_lst, MR.fNe_int_non, MR.fNe_int_str, MR.fNe_int_bl, MR.fNe_non_tup, MR.fNe_non_lst, MR.fNe_non_int, MR.fNe_non_non, MR.fNe_non_str, MR.fNe_non_bl, MR.fNe_str_tup, MR.fNe_str_lst, MR.fNe_str_int, MR.fNe_str_non, MR.fNe_str_bl, MR.fNe_bl_tup, MR.fNe_bl_lst, MR.fNe_bl_int, MR.fNe_bl_non, MR.fNe_bl_str, MR.fLt_int, MR.fIx_tup, MR.fSl_tup, MR.fLen_tup, MR.fTuple_tup, MR.fRev_tup, MR.fIx_lst, MR.fSl_lst, MR.fLen_lst, MR.fTuple_lst, MR.fRev_lst, MR.fIx_str, MR.fSl_str, MR.fLen_str, MR.fInt_int, MR.fInt_bl,
        List.map_cons, List.map_nil, List.cons_append, List.nil_append, List.append_nil, List.length_cons, List.length_nil, List.replicate_succ, List.replicate_zero, List.set_cons_zero, List.set_cons_succ, List.getElem?_cons_zero, List.getElem?_cons_succ, List.getD_cons_zero, List.getD_cons_succ, Nat.reduceAdd, Nat.reduceSub, Nat.zero_add, Option.some.injEq, reduceIte, Bool.not_true, Bool.not_false, true_and, and_true]
      have l1 := hl.drop (ns.length - i)
      have l2 := wor_lt (by have := hb.1; omega) l1
      refine ⟨mulw_row (k := (ns.drop (ns.length - i)).length) (wor_nn (by have := hb.1; omega) l1) (by omega) (by have := hb.1; omega) hb.2 (by rw [List.length_drop]; omega) (by have := hb.1; omega) hb.2, some (.d (.int n)), ?_⟩
      rw [ed]
      show _ = [_, _, some (Ent.d (D.int (n + b * wor b (ns.drop (ns.length - i))))), _]
      rw [Int.mul_comm, Int.add_comm]
    · subst e1 e2
      rw [List.length_reverse, List.length_map, Nat.sub_self, List.drop_zero]
      exact q
  refine ⟨fd, ⟨t.g__law_worth, F.kp, ok⟩, ?_⟩
  · refine bnd_of F 2 [] [] [0, 1] [] (by simp) rfl ?_
    intro kV doc pm an cdv ct D us mv ws h1 h2 h3 h4
    match us, mv, ws, h1, h2, h3 with
    | [u0, u1], [], [], _, _, _ => exact rfl
theorem kn__law_row_of (t : T K mg) : ∃ fd, Known PR w K mg base 1 "_law_row_of" (He.ga K "_law_row_of") fd ["_law_rest", "_law_to"] DWd 2 aRowOf ∧ Bnd K fd ["_law_rest", "_law_to"] 2 [] [0, 1] [] := by
  obtain ⟨fd, F⟩ := t.f__law_row_of
  have ok : FnG PR w K mg base (L2.CX PR w) 1 (He.ga K "_law_row_of") fd ["_law_rest", "_law_to"] (toSp DWd K 2 aRowOf) := by
    refine fn_ok (N := n__law_row_of) DWd aRowOf F S__law_row_of fun cdv A outer s H E hr hG => ?_
    have S := S__law_row_of
    refine ⟨_, (gss_cons (gs_own 2 S.nd (gf_lst ga_nil))
      (gss_cons (gs_while po_cx (gt_cmp op_gt op2_gt (nomark _) (ge_var 0) ge_int)
      (gss_cons (gs_app 2 (ge_mod (ge_var 0) (ge_var 1)))
      (gss_one (gs_set 0 S.nd (ge_div (ge_var 0) (ge_var 1))))))
      (gss_frz 2 (gss_one (gs_ret (ge_ty call_tuple_of c_tuple t.z_tuple (ga_cons (ge_var 2) ga_nil))))))), ?_⟩
    clear S hr hG F t
    rintro ds ω Qa Ea ⟨n, b, rfl, hb, ⟨k, hn, hk⟩, q⟩ _
    simp (maxSteps := 2000000) only [MR.sNil, MR.sSeq, MR.sDrop, MR.sRet, MR.sRetN, MR.sBreak, MR.sCont, MR.sIf, MR.sSet, MR.sOwn, MR.sAsg, MR.sPar, MR.sAug, MR.sFrz, MR.sApp, MR.sPut, MR.sExt, MR.aName, MR.aTup, MR.aNil, MR.aCons, MR.frz,
        MR.gVar, MR.gC, MR.gOp, MR.gB, MR.bK, MR.gTru, MR.gNotT, MR.gAndT, MR.gOrT, MR.gAndV, MR.gOrV, MR.gNotV, MR.gIf, MR.gChain, MR.gNil, MR.gCons, MR.gTup, MR.gLst, MR.gFz, MR.gOwn, MR.gAsL, MR.gNo, MR.gPart, MR.gSl, MR.gSlF, MR.gUn, MR.gIxL, MR.gFn, MR.gLenL, MR.gYes,
        MR.fAddI, MR.fSub, MR.fDiv, MR.fMod, MR.fPow, MR.fLe, MR.fGt, MR.fGe, MR.fIs, MR.fIsN, MR.fNeg, MR.fMin, MR.fMax, MR.fDivmod, MR.fSum, MR.fAll, MR.fRepr, MR.fIsi, MR.tyD, MR.dInt, MR.dBool, MR.dTup, MR.dStr, MR.dLst,
        MR.gDkT, MR.gDkS, MR.gDkNe, MR.gDkPop, MR.sDkApp, MR.sDkPut, MR.gScr, MR.sDeck, MR.gCall, MR.sel, MR.sFor, MR.sForR1, MR.sForR2, MR.sWhile, MR.sForE, MR.sAugP, MR.gRepL, MR.gCatL, MR.gComp, MR.gCompR, MR.startA, MR.wipeA, MR.sNever, MR.gNever, MR.tNev, MR.sAsg2, MR.fMulS_str, MR.fIntS_str, MR.sParO, MR.sForG, MR.gCompG, MR.iSeqG, MR.iR1G, MR.iR2G, MR.iZipG, MR.iEnumG, MR.iEnumLG, MR.iRevG,
        MR.fTru_bl, MR.fTru_non, MR.fTru_int, MR.fTru_str, MR.fTru_lst, MR.fTru_tup, MR.fAdd_int, MR.fAdd_str, MR.fAdd_tup, MR.fAdd_lst, MR.fMul_int, MR.fMul_tup, MR.fMul_lst, MR.fEq_int, MR.fEq_str, MR.fEq_bl, MR.fEq_tup_tup, MR.fEq_tup_lst, MR.fEq_tup_int, MR.fEq_tup_non, MR.fEq_tup_str, MR.fEq_tup_bl, MR.fEq_lst_tup, MR.fEq_lst_lst, MR.fEq_lst_int, MR.fEq_lst_non, MR.fEq_lst_str, MR.fEq_lst_bl, MR.fEq_int_tup, MR.fEq_int_lst, MR.fEq_int_non, MR.fEq_int_str, MR.fEq_int_bl, MR.fEq_non_tup, MR.fEq_non_lst, MR.fEq_non_int, MR.fEq_non_non, MR.fEq_non_str, MR.fEq_non_bl, MR.fEq_str_tup, MR.fEq_str_lst, MR.fEq_str_int, MR.fEq_str_non, MR.fEq_str_bl, MR.fEq_bl_tup, MR.fEq_bl_lst, MR.fEq_bl_int, MR.fEq_bl_non, MR.fEq_bl_str, MR.fNe_int, MR.fNe_str, MR.fNe_bl, MR.fNe_tup_tup, MR.fNe_tup_lst, MR.fNe_tup_int, MR.fNe_tup_non, MR.fNe_tup_str, MR.fNe_tup_bl, MR.fNe_lst_tup, MR.fNe_lst_lst, MR.fNe_lst_int, MR.fNe_lst_non, MR.fNe_lst_str, MR.fNe_lst_bl, MR.fNe_int_tup, MR.fNe_int_lst, MR.fNe_int_non, MR.fNe_int_str, MR.fNe_int_bl, MR.fNe_non_tup, MR.fNe_non_lst, MR.fNe_non_int, MR.fNe_non_non, MR.fNe_non_str, MR.fNe_non_bl, MR.fNe_str_tup, MR.fNe_str_lst, MR.fNe_str_int, MR.fNe_str_non, MR.fNe_str_bl, MR.fNe_bl_tup, MR.fNe_bl_lst, MR.fNe_bl_int, MR.fNe_bl_non, MR.fNe_bl_str, MR.fLt_int, MR.fIx_tup, MR.fSl_tup, MR.fLen_tup, MR.fTuple_tup, MR.fRev_tup, MR.fIx_lst, MR.fSl_lst, MR.fLen_lst, MR.fTuple_lst, MR.fRev_lst, MR.fIx_str, MR.fSl_str, MR.fLen_str, MR.fInt_int, MR.fInt_bl,
        List.map_cons, List.map_nil, List.cons_append, List.nil_append, List.append_nil, List.length_cons, List.length_nil, List.replicate_succ, List.replicate_zero, List.set_cons_zero, List.set_cons_succ, List.getElem?_cons_zero, List.getElem?_cons_succ, List.getD_cons_zero, List.getD_cons_succ, Nat.reduceAdd, Nat.reduceSub, Nat.zero_add, Option.some.injEq, reduceIte, Bool.not_true, Bool.not_false, true_and, and_true]
    have hb1 := hb.1
    have dl := digs_len hb1 hn
    refine ⟨by decide, fun m' ρ ω' => ω' = ω ∧ ∃ r acc, ρ = [some (.d (.int r)), some (.d (.int b)), some (.own (acc.map D.int))] ∧ acc ++ digs b r = digs b n ∧ m' = r.toNat, ⟨n.toNat, rfl, n, [], rfl, rfl, rfl⟩, fun m' ρ ω' ⟨e1, r, acc, e2, e3, e4⟩ => ?_⟩
    subst e1 e2
    simp (maxSteps := 2000000) only [MR.sNil, MR.sSeq, MR.sDrop, MR.sRet, MR.sRetN, MR.sBreak, MR.sCont, MR.sIf, MR.sSet, MR.sOwn, MR.sAsg, MR.sPar, MR.sAug, MR.sFrz, MR.sApp, MR.sPut, MR.sExt, MR.aName, MR.aTup, MR.aNil, MR.aCons, MR.frz,
        MR.gVar, MR.gC, MR.gOp, MR.gB, MR.bK, MR.gTru, MR.gNotT, MR.gAndT, MR.gOrT, MR.gAndV, MR.gOrV, MR.gNotV, MR.gIf, MR.gChain, MR.gNil, MR.gCons, MR.gTup, MR.gLst, MR.gFz, MR.gOwn, MR.gAsL, MR.gNo, MR.gPart, MR.gSl, MR.gSlF, MR.gUn, MR.gIxL, MR.gFn, MR.gLenL, MR.gYes,
        MR.fAddI, MR.fSub, MR.fDiv, MR.fMod, MR.fPow, MR.fLe, MR.fGt, MR.fGe, MR.fIs, MR.fIsN, MR.fNeg, MR.fMin, MR.fMax, MR.fDivmod, MR.fSum, MR.fAll, MR.fRepr, MR.fIsi, MR.tyD, MR.dInt, MR.dBool, MR.dTup, MR.dStr, MR.dLst,
        MR.gDkT, MR.gDkS, MR.gDkNe, MR.gDkPop, MR.sDkApp, MR.sDkPut, MR.gScr, MR.sDeck, MR.gCall, MR.sel, MR.sFor, MR.sForR1, MR.sForR2, MR.sWhile, MR.sForE, MR.sAugP, MR.gRepL, MR.gCatL, MR.gComp, MR.gCompR, MR.startA, MR.wipeA, MR.sNever, MR.gNever, MR.tNev, MR.sAsg2, MR.fMulS_str, MR.fIntS_str, MR.sParO, MR.sForG, MR.gCompG, MR.iSeqG, MR.iR1G, MR.iR2G, MR.iZipG, MR.iEnumG, MR.iEnumLG, MR.iRevG,
        MR.fTru_bl, MR.fTru_non, MR.fTru_int, MR.fTru_str, MR.fTru_lst, MR.fTru_tup, MR.fAdd_int, MR.fAdd_str, MR.fAdd_tup, MR.fAdd_lst, MR.fMul_int, MR.fMul_tup, MR.fMul_lst, MR.fEq_int, MR.fEq_str, MR.fEq_bl, MR.fEq_tup_tup, MR.fEq_tup_lst, MR.fEq_tup_int, MR.fEq_tup_non, MR.fEq_tup_str, MR.fEq_tup_bl, MR.fEq_lst_tup, MR.fEq_lst_lst, MR.fEq_lst_int, MR.fEq_lst_non, MR.fEq_lst_str, MR.fEq_lst_bl, MR.fEq_int_tup, MR.fEq_int_lst, MR.fEq_int_non, MR.fEq_int_str, MR.fEq_int_bl, MR.fEq_non_tup, MR.fEq_non_lst, MR.fEq_non_int, MR.fEq_non_non, MR.fEq_non_str, MR.fEq_non_bl, MR.fEq_str_tup, MR.fEq_str_lst, MR.fEq_str_int, MR.fEq_str_non, MR.fEq_str_bl, MR.fEq_bl_tup, MR.fEq_bl_lst, MR.fEq_bl_int, MR.fEq_bl_non, MR.fEq_bl_str, MR.fNe_int, MR.fNe_str, MR.fNe_bl, MR.fNe_tup_tup, MR.fNe_tup_lst, MR.fNe_tup_int, MR.fNe_tup_non, MR.fNe_tup_str, MR.fNe_tup_bl, MR.fNe_lst_tup, MR.fNe_lst_lst, MR.fNe_lst_int, MR.fNe_lst_non, MR.fNe_lst_str, MR.fNe_lst_bl, MR.fNe_int_tup, MR.fNe_int_lst, MR.fNe_int_non, MR.fNe_int_str, MR.fNe_int_bl, MR.fNe_non_tup, MR.fNe_non_lst, MR.fNe_non_int, MR.fNe_non_non, MR.fNe_non_str, MR.fNe_non_bl, MR.fNe_str_tup, MR.fNe_str_lst, MR.fNe_str_int, MR.fNe_str_non, MR.fNe_str_bl, MR.fNe_bl_tup, MR.fNe_bl_lst, MR.fNe_bl_int, MR.fNe_bl_non, MR.fNe_bl_str, MR.fLt_int, MR.fIx_tup, MR.fSl_tup, MR.fLen_tup, MR.fTuple_tup, MR.fRev_tup, MR.fIx_lst, MR.fSl_lst, MR.fLen_lst, MR.fTuple_lst, MR.fRev_lst, MR.fIx_str, MR.fSl_str, MR.fLen_str, MR.fInt_int, MR.fInt_bl,
        List.map_cons, List.map_nil, List.cons_append, List.nil_append, List.append_nil, List.length_cons, List.length_nil, List.replicate_succ, List.replicate_zero, List.set_cons_zero, List.set_cons_succ, List.getElem?_cons_zero, List.getElem?_cons_succ, List.getD_cons_zero, List.getD_cons_succ, Nat.reduceAdd, Nat.reduceSub, Nat.zero_add, Option.some.injEq, reduceIte, Bool.not_true, Bool.not_false, true_and, and_true]
    split
    · rename_i c
      have hr : 0 < r := of_decide_eq_true c
      rw [digs_cons hb1 hr] at e3
      have dv := div_less hb1 hr
      have l3 : acc.length + 1 ≤ 50000 := by
        have := congrArg List.length e3
        rw [List.length_append, List.length_cons] at this
        omega
      refine ⟨by omega, line1000l (by rw [List.length_map]; omega), divw10 (by omega) hb.2, (r / b).toNat, by omega, r / b, acc ++ [r % b], by rw [List.map_append]; rfl, by rw [List.append_assoc]; exact e3, rfl⟩
    · rename_i c
      have hr : ¬ 0 < r := fun z => c (decide_eq_true z)
      rw [digs_nil (by omega), List.append_nil] at e3
      rw [e3]
      exact q
  refine ⟨fd, ⟨t.g__law_row_of, F.kp, ok⟩, ?_⟩
  · refine bnd_of F 2 [] [] [0, 1] [] (by simp) rfl ?_
    intro kV doc pm an cdv ct D us mv ws h1 h2 h3 h4
    match us, mv, ws, h1, h2, h3 with
    | [u0, u1], [], [], _, _, _ => exact rfl
theorem kn__law_power (t : T K mg) : ∃ fd, Known PR w K mg base 1 "_law_power" (He.ga K "_law_power") fd ["_law_to", "_law_times"] DWd 2 aPower ∧ Bnd K fd ["_law_to", "_law_times"] 2 [] [0, 1] [] := by
  obtain ⟨fd, F⟩ := t.f__law_power
  have ok : FnG PR w K mg base (L2.CX PR w) 1 (He.ga K "_law_power") fd ["_law_to", "_law_times"] (toSp DWd K 2 aPower) := by
    refine fn_ok (N := n__law_power) DWd aPower F S__law_power fun cdv A outer s H E hr hG => ?_
    have S := S__law_power
    refine ⟨_, (gss_cons (gs_set 2 S.nd ge_int)
      (gss_cons (gs_forR1 po_cx rfl t.z_range (ge_var 1) (gg_name 3 S.nd)
      (gss_one (gs_set 2 S.nd (ge_mul (ge_var 2) (ge_var 0)))))
      (gss_one (gs_ret (ge_var 2))))), ?_⟩
    clear S hr hG F t
    rintro ds ω Qa Ea ⟨b, k, rfl, hb, k0, hk, q⟩ _
    simp (maxSteps := 2000000) only [MR.sNil, MR.sSeq, MR.sDrop, MR.sRet, MR.sRetN, MR.sBreak, MR.sCont, MR.sIf, MR.sSet, MR.sOwn, MR.sAsg, MR.sPar, MR.sAug, MR.sFrz, MR.sApp, MR.sPut, MR.sExt, MR.aName, MR.aTup, MR.aNil, MR.aCons, MR.frz,
        MR.gVar, MR.gC, MR.gOp, MR.gB, MR.bK, MR.gTru, MR.gNotT, MR.gAndT, MR.gOrT, MR.gAndV, MR.gOrV, MR.gNotV, MR.gIf, MR.gChain, MR.gNil, MR.gCons, MR.gTup, MR.gLst, MR.gFz, MR.gOwn, MR.gAsL, MR.gNo, MR.gPart, MR.gSl, MR.gSlF, MR.gUn, MR.gIxL, MR.gFn, MR.gLenL, MR.gYes,
        MR.fAddI, MR.fSub, MR.fDiv, MR.fMod, MR.fPow, MR.fLe, MR.fGt, MR.fGe, MR.fIs, MR.fIsN, MR.fNeg, MR.fMin, MR.fMax, MR.fDivmod, MR.fSum, MR.fAll, MR.fRepr, MR.fIsi, MR.tyD, MR.dInt, MR.dBool, MR.dTup, MR.dStr, MR.dLst,
        MR.gDkT, MR.gDkS, MR.gDkNe, MR.gDkPop, MR.sDkApp, MR.sDkPut, MR.gScr, MR.sDeck, MR.gCall, MR.sel, MR.sFor, MR.sForR1, MR.sForR2, MR.sWhile, MR.sForE, MR.sAugP, MR.gRepL, MR.gCatL, MR.gComp, MR.gCompR, MR.startA, MR.wipeA, MR.sNever, MR.gNever, MR.tNev, MR.sAsg2, MR.fMulS_str, MR.fIntS_str, MR.sParO, MR.sForG, MR.gCompG, MR.iSeqG, MR.iR1G, MR.iR2G, MR.iZipG, MR.iEnumG, MR.iEnumLG, MR.iRevG,
        MR.fTru_bl, MR.fTru_non, MR.fTru_int, MR.fTru_str, MR.fTru_lst, MR.fTru_tup, MR.fAdd_int, MR.fAdd_str, MR.fAdd_tup, MR.fAdd_lst, MR.fMul_int, MR.fMul_tup, MR.fMul_lst, MR.fEq_int, MR.fEq_str, MR.fEq_bl, MR.fEq_tup_tup, MR.fEq_tup_lst, MR.fEq_tup_int, MR.fEq_tup_non, MR.fEq_tup_str, MR.fEq_tup_bl, MR.fEq_lst_tup, MR.fEq_lst_lst, MR.fEq_lst_int, MR.fEq_lst_non, MR.fEq_lst_str, MR.fEq_lst_bl, MR.fEq_int_tup, MR.fEq_int_lst, MR.fEq_int_non, MR.fEq_int_str, MR.fEq_int_bl, MR.fEq_non_tup, MR.fEq_non_lst, MR.fEq_non_int, MR.fEq_non_non, MR.fEq_non_str, MR.fEq_non_bl, MR.fEq_str_tup, MR.fEq_str_lst, MR.fEq_str_int, MR.fEq_str_non, MR.fEq_str_bl, MR.fEq_bl_tup, MR.fEq_bl_lst, MR.fEq_bl_int, MR.fEq_bl_non, MR.fEq_bl_str, MR.fNe_int, MR.fNe_str, MR.fNe_bl, MR.fNe_tup_tup, MR.fNe_tup_lst, MR.fNe_tup_int, MR.fNe_tup_non, MR.fNe_tup_str, MR.fNe_tup_bl, MR.fNe_lst_tup, MR.fNe_lst_lst, MR.fNe_lst_int, MR.fNe_lst_non, MR.fNe_lst_str, MR.fNe_lst_bl, MR.fNe_int_tup, MR.fNe_int_lst, MR.fNe_int_non, MR.fNe_int_str, MR.fNe_int_bl, MR.fNe_non_tup, MR.fNe_non_lst, MR.fNe_non_int, MR.fNe_non_non, MR.fNe_non_str, MR.fNe_non_bl, MR.fNe_str_tup, MR.fNe_str_lst, MR.fNe_str_int, MR.fNe_str_non, MR.fNe_str_bl, MR.fNe_bl_tup, MR.fNe_bl_lst, MR.fNe_bl_int, MR.fNe_bl_non, MR.fNe_bl_str, MR.fLt_int, MR.fIx_tup, MR.fSl_tup, MR.fLen_tup, MR.fTuple_tup, MR.fRev_tup, MR.fIx_lst, MR.fSl_lst, MR.fLen_lst, MR.fTuple_lst, MR.fRev_lst, MR.fIx_str, MR.fSl_str, MR.fLen_str, MR.fInt_int, MR.fInt_bl,
        List.map_cons, List.map_nil, List.cons_append, List.nil_append, List.append_nil, List.length_cons, List.length_nil, List.replicate_succ, List.replicate_zero, List.set_cons_zero, List.set_cons_succ, List.getElem?_cons_zero, List.getElem?_cons_succ, List.getD_cons_zero, List.getD_cons_succ, Nat.reduceAdd, Nat.reduceSub, Nat.zero_add, Option.some.injEq, reduceIte, Bool.not_true, Bool.not_false, true_and, and_true]
    refine ⟨by omega, by omega, fun i ρ ω' => ω' = ω ∧ ∃ x3, ρ = [some (.d (.int b)), some (.d (.int k)), some (.d (.int (b ^ i))), x3], ⟨rfl, none, by rw [Int.pow_zero]⟩, fun i d ρ ω' hd ⟨e1, x3, e2⟩ => ?_, fun ρ ω' ⟨e1, x3, e2⟩ => ?_⟩
    · subst e1 e2
      have hi : i < k.toNat := by
        have := (List.getElem?_eq_some_iff.mp hd).1
        rwa [rng_len] at this
      simp (maxSteps := 2000000) only [MR.sNil, MR.sSeq, MR.sDrop, MR.sRet, MR.sRetN, MR.sBreak, MR.sCont, MR.sIf, MR.sSet, MR.sOwn, MR.sAsg, MR.sPar, MR.sAug, MR.sFrz, MR.sApp, MR.sPut, MR.sExt, MR.aName, MR.aTup, MR.aNil, MR.aCons, MR.frz,
        MR.gVar, MR.gC, MR.gOp, MR.gB, MR.bK, MR.gTru, MR.gNotT, MR.gAndT, MR.gOrT, MR.gAndV, MR.gOrV, MR.gNotV, MR.gIf, MR.gChain, MR.gNil, MR.gCons, MR.gTup, MR.gLst, MR.gFz, MR.gOwn, MR.gAsL, MR.gNo, MR.gPart, MR.gSl, MR.gSlF, MR.gUn, MR.gIxL, MR.gFn, MR.gLenL, MR.gYes,
        MR.fAddI, MR.fSub, MR.fDiv, MR.fMod, MR.fPow, MR.fLe, MR.fGt, MR.fGe, MR.fIs, MR.fIsN, MR.fNeg, MR.fMin, MR.fMax, MR.fDivmod, MR.fSum, MR.fAll, MR.fRepr, MR.fIsi, MR.tyD, MR.dInt, MR.dBool, MR.dTup, MR.dStr, MR.dLst,
        MR.gDkT, MR.gDkS, MR.gDkNe, MR.gDkPop, MR.sDkApp, MR.sDkPut, MR.gScr, MR.sDeck, MR.gCall, MR.sel, MR.sFor, MR.sForR1, MR.sForR2, MR.sWhile, MR.sForE, MR.sAugP, MR.gRepL, MR.gCatL, MR.gComp, MR.gCompR, MR.startA, MR.wipeA, MR.sNever, MR.gNever, MR.tNev, MR.sAsg2, MR.fMulS_str, MR.fIntS_str, MR.sParO, MR.sForG, MR.gCompG, MR.iSeqG, MR.iR1G, MR.iR2G, MR.iZipG, MR.iEnumG, MR.iEnumLG, MR.iRevG,
        MR.fTru_bl, MR.fTru_non, MR.fTru_int, MR.fTru_str, MR.fTru_lst, MR.fTru_tup, MR.fAdd_int, MR.fAdd_str, MR.fAdd_tup, MR.fAdd_lst, MR.fMul_int, MR.fMul_tup, MR.fMul_lst, MR.fEq_int, MR.fEq_str, MR.fEq_bl, MR.fEq_tup_tup, MR.fEq_tup_lst, MR.fEq_tup_int, MR.fEq_tup_non, MR.fEq_tup_str, MR.fEq_tup_bl, MR.fEq_lst_tup, MR.fEq_lst_lst, MR.fEq_lst_int, MR.fEq_lst_non, MR.fEq_lst_str, MR.fEq_lst_bl, MR.fEq_int_tup, MR.fEq_int_lst, MR.fEq_int_non, MR.fEq_int_str, MR.fEq_int_bl, MR.fEq_non_tup, MR.fEq_non_lst, MR.fEq_non_int, MR.fEq_non_non, MR.fEq_non_str, MR.fEq_non_bl, MR.fEq_str_tup, MR.fEq_str_lst, MR.fEq_str_int, MR.fEq_str_non, MR.fEq_str_bl, MR.fEq_bl_tup, MR.fEq_bl_lst, MR.fEq_bl_int, MR.fEq_bl_non, MR.fEq_bl_str, MR.fNe_int, MR.fNe_str, MR.fNe_bl, MR.fNe_tup_tup, MR.fNe_tup_lst, MR.fNe_tup_int, MR.fNe_tup_non, MR.fNe_tup_str, MR.fNe_tup_bl, MR.fNe_lst_tup, MR.fNe_lst_lst, MR.fNe_lst_int, MR.fNe_lst_non, MR.fNe_lst_str, MR.fNe_lst_bl, MR.fNe_int_tup, MR.fNe_int_lst, MR.fNe_int_non, MR.fNe_int_str, MR.fNe_int_bl, MR.fNe_non_tup, MR.fNe_non_lst, MR.fNe_non_int, MR.fNe_non_non, MR.fNe_non_str, MR.fNe_non_bl, MR.fNe_str_tup, MR.fNe_str_lst, MR.fNe_str_int, MR.fNe_str_non, MR.fNe_str_bl, MR.fNe_bl_tup, MR.fNe_bl_lst, MR.fNe_bl_int, MR.fNe_bl_non, MR.fNe_bl_str, MR.fLt_int, MR.fIx_tup, MR.fSl_tup, MR.fLen_tup, MR.fTuple_tup, MR.fRev_tup, MR.fIx_lst, MR.fSl_lst, MR.fLen_lst, MR.fTuple_lst, MR.fRev_lst, MR.fIx_str, MR.fSl_str, MR.fLen_str, MR.fInt_int, MR.fInt_bl,
        List.map_cons, List.map_nil, List.cons_append, List.nil_append, List.append_nil, List.length_cons, List.length_nil, List.replicate_succ, List.replicate_zero, List.set_cons_zero, List.set_cons_succ, List.getElem?_cons_zero, List.getElem?_cons_succ, List.getD_cons_zero, List.getD_cons_succ, Nat.reduceAdd, Nat.reduceSub, Nat.zero_add, Option.some.injEq, reduceIte, Bool.not_true, Bool.not_false, true_and, and_true]
      refine ⟨mulw_row (k := i) (Int.pow_nonneg (by have := hb.1; omega)) (Int.le_refl _) (by have := hb.1; omega) hb.2 (by omega) (by have := hb.1; omega) hb.2, some (.d d), ?_⟩
      rw [Int.pow_succ]
    · subst e1 e2
      rw [rng_len]
      exact q
  refine ⟨fd, ⟨t.g__law_power, F.kp, ok⟩, ?_⟩
  · refine bnd_of F 2 [] [] [0, 1] [] (by simp) rfl ?_
    intro kV doc pm an cdv ct D us mv ws h1 h2 h3 h4
    match us, mv, ws, h1, h2, h3 with
    | [u0, u1], [], [], _, _, _ => exact rfl

def aNear : ASp DWd := fun ds ω Q _ => ∃ p ns b way T, ds = [.adr p, row ns, .int b, .int way] ∧ Dk ω p T ∧ T < 2 ^ 57 ∧ base_ b ∧ isRow b ns ∧ ns.length ≤ 40 ∧ 0 ≤ way ∧ way < 7 ∧ ∀ ms ω', isRow b ms → ms.length ≤ 40 → Dk ω' p (T + 70) → Q (row ms) ω'

theorem kn__law_near (t : T K mg) : ∃ fd, Known PR w K mg base 4 "_law_near" (He.ga K "_law_near") fd ["_law_deck_here", "_law_mine", "_law_to", "_law_way"] DWd 4 aNear ∧ Bnd K fd ["_law_deck_here", "_law_mine", "_law_to", "_law_way"] 4 [] [0, 1, 2, 3] [] := by
  obtain ⟨fd, F⟩ := t.f__law_near
  obtain ⟨fd__law_worth, k__law_worth, b__law_worth_0⟩ := kn__law_worth (w := w) (base := base) t
  obtain ⟨fd__law_row_of, k__law_row_of, b__law_row_of_0⟩ := kn__law_row_of (w := w) (base := base) t
  obtain ⟨fd__law_long_row, k__law_long_row, b__law_long_row_0⟩ := kn__law_long_row (w := w) (base := base) t
  obtain ⟨fd__law_draw, k__law_draw, b__law_draw_0⟩ := kn__law_draw (w := w) (base := base) t
  obtain ⟨fd__law_power, k__law_power, b__law_power_0⟩ := kn__law_power (w := w) (base := base) t
  have ok : FnG PR w K mg base (L2.CX PR w) 4 (He.ga K "_law_near") fd ["_law_deck_here", "_law_mine", "_law_to", "_law_way"] (toSp DWd K 4 aNear) := by
    refine fn_ok (N := n__law_near) DWd aNear F S__law_near fun cdv A outer s H E hr hG => ?_
    have S := S__law_near
    refine ⟨_, (gss_cons (gs_set 4 S.nd (ge_call1 k__law_worth (Room.mono hr (by decide)) hG tk_cx b__law_worth_0 (fun B => .nil) (ga_cons (ge_var 1) (ga_cons (ge_var 2) ga_nil))))
      (gss_cons (gs_if (GW.gt (gw_or (gt_cmp (m_eq (un64 hr)) op2_eq (nomark _) (ge_var 3) ge_int) (gw_or1 (gt_cmp (m_eq (un64 hr)) op2_eq (nomark _) (ge_var 1) (ge_tup ga_nil)))))
      (gss_one (gs_ret (ge_call1 k__law_long_row (Room.mono hr (by decide)) hG tk_cx b__law_long_row_0 (fun B => .nil) (ga_cons (ge_var 0) (ga_cons (ge_var 2) (ga_cons ge_int ga_nil))))))
      gss_nil)
      (gss_cons (gs_if (gt_cmp (m_eq (un64 hr)) op2_eq (nomark _) (ge_var 3) ge_int)
      (gss_one (gs_ret (ge_var 1)))
      gss_nil)
      (gss_cons (gs_if (gt_cmp (m_eq (un64 hr)) op2_eq (nomark _) (ge_var 3) ge_int)
      (gss_cons (gs_set 5 S.nd (ge_call1 k__law_draw (Room.mono hr (by decide)) hG tk_cx b__law_draw_0 (fun B => .nil) (ga_cons (ge_var 0) (ga_cons (ge_fn call_len c_len t.z_len (ga_cons (ge_var 1) ga_nil)) ga_nil))))
      (gss_one (gs_ret (ge_call1 k__law_row_of (Room.mono hr (by decide)) hG tk_cx b__law_row_of_0 (fun B => .nil) (ga_cons (ge_call1 k__law_worth (Room.mono hr (by decide)) hG tk_cx b__law_worth_0 (fun B => .nil) (ga_cons (ge_add (ge_add (ge_slice (ge_var 1) go_none (go_some (ge_var 5))) (ge_tup (ga_cons (ge_call1 k__law_draw (Room.mono hr (by decide)) hG tk_cx b__law_draw_0 (fun B => .nil) (ga_cons (ge_var 0) (ga_cons (ge_var 2) ga_nil))) ga_nil))) (ge_slice (ge_var 1) (go_some (ge_add (ge_var 5) ge_int)) go_none)) (ga_cons (ge_var 2) ga_nil))) (ga_cons (ge_var 2) ga_nil))))))
      gss_nil)
      (gss_cons (gs_if (gt_cmp (m_eq (un64 hr)) op2_eq (nomark _) (ge_var 3) ge_int)
      (gss_one (gs_ret (ge_call1 k__law_row_of (Room.mono hr (by decide)) hG tk_cx b__law_row_of_0 (fun B => .nil) (ga_cons (ge_sub (ge_call1 k__law_power (Room.mono hr (by decide)) hG tk_cx b__law_power_0 (fun B => .nil) (ga_cons (ge_var 2) (ga_cons (ge_fn call_len c_len t.z_len (ga_cons (ge_var 1) ga_nil)) ga_nil))) (ge_var 4)) (ga_cons (ge_var 2) ga_nil)))))
      gss_nil)
      (gss_cons (gs_set 6 S.nd (ge_call1 k__law_row_of (Room.mono hr (by decide)) hG tk_cx b__law_row_of_0 (fun B => .nil) (ga_cons (ge_add (ge_var 4) (ge_ix (GF.ge (gf_lst (ga_cons ge_int (ga_cons (ge_neg ge_int) (ga_cons (ge_var 2) ga_nil))))) (ge_sub (ge_var 3) ge_int))) (ga_cons (ge_var 2) ga_nil))))
      (gss_one (gs_ret (ge_if (gt_cmp (m_lt (un0 hr)) op2_lt (nomark _) (ge_fn call_len c_len t.z_len (ga_cons (ge_var 6) ga_nil)) ge_int) (ge_var 6) (ge_var 1)))))))))), ?_⟩
    clear S hr hG F t k__law_worth b__law_worth_0 k__law_row_of b__law_row_of_0 k__law_long_row b__law_long_row_0 k__law_draw b__law_draw_0 k__law_power b__law_power_0
    rintro ds ω Qa Ea ⟨p, ns, b, way, T, rfl, hk, hT, hb, hr, hl, w0, w1, q⟩ _
    have hb1 := hb.1
    have hb2 := hb.2
    have z0 := wor_nn (by omega : (0:Int) ≤ b) hr.lim
    have u0 := wor_lt (by omega : (1:Int) ≤ b) hr.lim
    have L1 : ns.length ≤ 50000 := by omega
    have ok : ∀ (v : Int) (k : Nat), 0 ≤ v → v < b ^ k → k ≤ 40 → ∀ ω', Dk ω' p (T + 70) → Qa (row (digs b v)) ω' := fun v k v0 v1 hk ω' k' => q _ _ (digs_ok hb1 v0 v1).1 (Nat.le_trans (digs_ok hb1 v0 v1).2.2 hk) k'
    simp -implicitDefEqProofs only [MR.sNil, MR.sSeq, MR.sDrop, MR.sRet_e, MR.sRet_f, MR.sRetN, MR.sBreak, MR.sCont, MR.sIf, MR.sSet, MR.sOwn, MR.sAsg, MR.sPar, MR.sAug, MR.sFrz, MR.sApp, MR.sPut, MR.sExt, MR.aName, MR.aTup, MR.aNil, MR.aCons, MR.frz,
        MR.gVar, MR.gC, MR.gOp, MR.gB, MR.bK, MR.gTru, MR.gNotT, MR.gAndT, MR.gOrT, MR.gAndV, MR.gOrV, MR.gNotV, MR.gIf, MR.gChain, MR.gNil, MR.gCons, MR.gTup, MR.gLst, MR.gFz, MR.gOwn, MR.gAsL, MR.gNo, MR.gPart, MR.gSl, MR.gSlF, MR.gUn, MR.gIxL, MR.gFn, MR.gLenL, MR.gYes,
        MR.fAddI, MR.fSub, MR.fDiv, MR.fMod, MR.fPow, MR.fLe, MR.fGt, MR.fGe, MR.fIs, MR.fIsN, MR.fNeg, MR.fMin, MR.fMax, MR.fDivmod, MR.fSum, MR.fAll, MR.fRepr, MR.fIsi, MR.tyD, MR.dInt, MR.dBool, MR.dTup, MR.dStr, MR.dLst,
        MR.gDkT, MR.gDkS, MR.gDkNe, MR.gDkPop, MR.sDkApp, MR.sDkPut, MR.gScr, MR.sDeck, MR.gCall, MR.sel, MR.sFor, MR.sForR1, MR.sForR2, MR.sWhile, MR.sForE, MR.sAugP, MR.gRepL, MR.gCatL, MR.gComp, MR.gCompR, MR.startA, MR.wipeA, MR.sNever, MR.gNever, MR.tNev, MR.sAsg2, MR.fMulS_str, MR.fIntS_str, MR.sParO, MR.sForG, MR.gCompG, MR.iSeqG, MR.iR1G, MR.iR2G, MR.iZipG, MR.iEnumG, MR.iEnumLG, MR.iRevG,
        MR.fTru_bl, MR.fTru_non, MR.fTru_int, MR.fTru_str, MR.fTru_lst, MR.fTru_tup, MR.fAdd_int, MR.fAdd_str, MR.fAdd_tup, MR.fAdd_lst, MR.fMul_int, MR.fMul_tup, MR.fMul_lst, MR.fEq_int, MR.fEq_str, MR.fEq_bl, MR.fEq_tup_tup, MR.fEq_tup_lst, MR.fEq_tup_int, MR.fEq_tup_non, MR.fEq_tup_str, MR.fEq_tup_bl, MR.fEq_lst_tup, MR.fEq_lst_lst, MR.fEq_lst_int, MR.fEq_lst_non, MR.fEq_lst_str, MR.fEq_lst_bl, MR.fEq_int_tup, MR.fEq_int_lst, MR.fEq_int_non, MR.fEq_int_str, MR.fEq_int_bl, MR.fEq_non_tup, MR.fEq_non_lst, MR.fEq_non_int, MR.fEq_non_non, MR.fEq_non_str, MR.fEq_non_bl, MR.fEq_str_tup, MR.fEq_str_lst, MR.fEq_str_int, MR.fEq_str_non, MR.fEq_str_bl, MR.fEq_bl_tup, MR.fEq_bl_lst, MR.fEq_bl_int, MR.fEq_bl_non, MR.fEq_bl_str, MR.fNe_int, MR.fNe_str, MR.fNe_bl, MR.fNe_tup_tup, MR.fNe_tup_lst, MR.fNe_tup_int, MR.fNe_tup_non, MR.fNe_tup_str, MR.fNe_tup_bl, MR.fNe_lst_tup, MR.fNe_lst_lst, MR.fNe_lst_int, MR.fNe_lst_non, MR.fNe_lst_str, MR.fNe_lst_bl, MR.fNe_int_tup, MR.fNe_int_lst, MR.fNe_int_non, MR.fNe_int_str, MR.fNe_int_bl, MR.fNe_non_tup, MR.fNe_non_lst, MR.fNe_non_int, MR.fNe_non_non, MR.fNe_non_str, MR.fNe_non_bl, MR.fNe_str_tup, MR.fNe_str_lst, MR.fNe_str_int, MR.fNe_str_non, MR.fNe_str_bl, MR.fNe_bl_tup, MR.fNe_bl_lst, MR.fNe_bl_int, MR.fNe_bl_non, MR.fNe_bl_str, MR.fLt_int, MR.fIx_tup, MR.fSl_tup, MR.fLen_tup, MR.fTuple_tup, MR.fRev_tup, MR.fIx_lst, MR.fSl_lst, MR.fLen_lst, MR.fTuple_lst, MR.fRev_lst, MR.fIx_str, MR.fSl_str, MR.fLen_str, MR.fInt_int, MR.fInt_bl,
        List.map_cons, List.map_nil, List.cons_append, List.nil_append, List.append_nil, List.length_cons, List.length_nil, List.replicate_succ, List.replicate_zero, List.set_cons_zero, List.set_cons_succ, List.getElem?_cons_zero, List.getElem?_cons_succ, List.getD_cons_zero, List.getD_cons_succ, Nat.reduceAdd, Nat.reduceSub, Nat.zero_add, Option.some.injEq, reduceIte, Bool.not_true, Bool.not_false, true_and, and_true, true_implies, false_implies, implies_true, MR.sRaise, MR.sTryAs, MR.sTry, MR.gIsE, PySem.W.kitAny, PySem.Value.ref.injEq, MR.sStar, MR.aSeq, MR.seqD, MR.gStp, List.take_succ_cons, List.take_zero, List.drop_succ_cons, List.drop_zero, MR.sl, MR.aFor_nil, MR.aComp_nil, Int.zero_add, MR.map_int_inj, MR.nil_map_int, MR.cons_map_int, List.map_eq_nil_iff, MR.eqOk_row, MR.eqOk_rowL, MR.eqOk_nil, MR.nil_eq, MR.nil_deq, MR.deq_row, MR.deq_rowL, MR.deq_nilr, MR.deq_nill, MR.deq_nils, MR.rng_zero, MR.isE_map, List.length_map, List.length_append, List.length_reverse,
        Nat.reduceLeDiff, Nat.reduceLT, Int.reduceLE, Int.reduceLT, Int.reducePow, Int.reduceNeg, Int.toNat_zero, Int.reduceToNat, Bool.not_eq_eq_eq_not, Bool.not_eq_true', decide_eq_false_iff_not, decide_eq_true_eq, Bool.false_eq_true, ite_not, ite_false, ite_true, decide_true, decide_false, not_true_eq_false, not_false_eq_true, List.cons.injEq, MR.D.tup.injEq, MR.D.lst.injEq, MR.D.int.injEq, MR.D.str.injEq, MR.D.bl.injEq, MR.D.adr.injEq, MR.Ent.d.injEq, MR.Ent.own.injEq, Option.some.injEq, Prod.mk.injEq, MR.fl_repx, List.length_replicate, exists_eq, exists_eq', and_assoc, exists_and_left, exists_and_right, exists_eq_left, exists_eq_left', exists_eq_right, exists_eq_right', ne_eq, eq_self, and_self, reduceCtorEq, false_and, and_false, or_false, false_or, Int.reduceEq, Int.reduceSub, Int.reduceAdd, Int.reduceMul, Nat.reduceMul, aWorth, hb, hr.lim, L1]
    by_cases c0 : way = 0
    · simp -implicitDefEqProofs only [MR.sNil, MR.sSeq, MR.sDrop, MR.sRet_e, MR.sRet_f, MR.sRetN, MR.sBreak, MR.sCont, MR.sIf, MR.sSet, MR.sOwn, MR.sAsg, MR.sPar, MR.sAug, MR.sFrz, MR.sApp, MR.sPut, MR.sExt, MR.aName, MR.aTup, MR.aNil, MR.aCons, MR.frz,
        MR.gVar, MR.gC, MR.gOp, MR.gB, MR.bK, MR.gTru, MR.gNotT, MR.gAndT, MR.gOrT, MR.gAndV, MR.gOrV, MR.gNotV, MR.gIf, MR.gChain, MR.gNil, MR.gCons, MR.gTup, MR.gLst, MR.gFz, MR.gOwn, MR.gAsL, MR.gNo, MR.gPart, MR.gSl, MR.gSlF, MR.gUn, MR.gIxL, MR.gFn, MR.gLenL, MR.gYes,
        MR.fAddI, MR.fSub, MR.fDiv, MR.fMod, MR.fPow, MR.fLe, MR.fGt, MR.fGe, MR.fIs, MR.fIsN, MR.fNeg, MR.fMin, MR.fMax, MR.fDivmod, MR.fSum, MR.fAll, MR.fRepr, MR.fIsi, MR.tyD, MR.dInt, MR.dBool, MR.dTup, MR.dStr, MR.dLst,
        MR.gDkT, MR.gDkS, MR.gDkNe, MR.gDkPop, MR.sDkApp, MR.sDkPut, MR.gScr, MR.sDeck, MR.gCall, MR.sel, MR.sFor, MR.sForR1, MR.sForR2, MR.sWhile, MR.sForE, MR.sAugP, MR.gRepL, MR.gCatL, MR.gComp, MR.gCompR, MR.startA, MR.wipeA, MR.sNever, MR.gNever, MR.tNev, MR.sAsg2, MR.fMulS_str, MR.fIntS_str, MR.sParO, MR.sForG, MR.gCompG, MR.iSeqG, MR.iR1G, MR.iR2G, MR.iZipG, MR.iEnumG, MR.iEnumLG, MR.iRevG,
        MR.fTru_bl, MR.fTru_non, MR.fTru_int, MR.fTru_str, MR.fTru_lst, MR.fTru_tup, MR.fAdd_int, MR.fAdd_str, MR.fAdd_tup, MR.fAdd_lst, MR.fMul_int, MR.fMul_tup, MR.fMul_lst, MR.fEq_int, MR.fEq_str, MR.fEq_bl, MR.fEq_tup_tup, MR.fEq_tup_lst, MR.fEq_tup_int, MR.fEq_tup_non, MR.fEq_tup_str, MR.fEq_tup_bl, MR.fEq_lst_tup, MR.fEq_lst_lst, MR.fEq_lst_int, MR.fEq_lst_non, MR.fEq_lst_str, MR.fEq_lst_bl, MR.fEq_int_tup, MR.fEq_int_lst, MR.fEq_int_non, MR.fEq_int_str, MR.fEq_int_bl, MR.fEq_non_tup, MR.fEq_non_lst, MR.fEq_non_int, MR.fEq_non_non, MR.fEq_non_str, MR.fEq_non_bl, MR.fEq_str_tup, MR.fEq_str_lst, MR.fEq_str_int, MR.fEq_str_non, MR.fEq_str_bl, MR.fEq_bl_tup, MR.fEq_bl_lst, MR.fEq_bl_int, MR.fEq_bl_non, MR.fEq_bl_str, MR.fNe_int, MR.fNe_str, MR.fNe_bl, MR.fNe_tup_tup, MR.fNe_tup_lst, MR.fNe_tup_int, MR.fNe_tup_non, MR.fNe_tup_str, MR.fNe_tup_bl, MR.fNe_lst_tup, MR.fNe_lst_lst, MR.fNe_lst_int, MR.fNe_lst_non, MR.fNe_lst_str, MR.fNe_lst_bl, MR.fNe_int_tup, MR.fNe_int_lst, MR.fNe_int_non, MR.fNe_int_str, MR.fNe_int_bl, MR.fNe_non_tup, MR.fNe_non_lst, MR.fNe_non_int, MR.fNe_non_non, MR.fNe_non_str, MR.fNe_non_bl, MR.fNe_str_tup, MR.fNe_str_lst, MR.fNe_str_int, MR.fNe_str_non, MR.fNe_str_bl, MR.fNe_bl_tup, MR.fNe_bl_lst, MR.fNe_bl_int, MR.fNe_bl_non, MR.fNe_bl_str, MR.fLt_int, MR.fIx_tup, MR.fSl_tup, MR.fLen_tup, MR.fTuple_tup, MR.fRev_tup, MR.fIx_lst, MR.fSl_lst, MR.fLen_lst, MR.fTuple_lst, MR.fRev_lst, MR.fIx_str, MR.fSl_str, MR.fLen_str, MR.fInt_int, MR.fInt_bl,
        List.map_cons, List.map_nil, List.cons_append, List.nil_append, List.append_nil, List.length_cons, List.length_nil, List.replicate_succ, List.replicate_zero, List.set_cons_zero, List.set_cons_succ, List.getElem?_cons_zero, List.getElem?_cons_succ, List.getD_cons_zero, List.getD_cons_succ, Nat.reduceAdd, Nat.reduceSub, Nat.zero_add, Option.some.injEq, reduceIte, Bool.not_true, Bool.not_false, true_and, and_true, true_implies, false_implies, implies_true, MR.sRaise, MR.sTryAs, MR.sTry, MR.gIsE, PySem.W.kitAny, PySem.Value.ref.injEq, MR.sStar, MR.aSeq, MR.seqD, MR.gStp, List.take_succ_cons, List.take_zero, List.drop_succ_cons, List.drop_zero, MR.sl, MR.aFor_nil, MR.aComp_nil, Int.zero_add, MR.map_int_inj, MR.nil_map_int, MR.cons_map_int, List.map_eq_nil_iff, MR.eqOk_row, MR.eqOk_rowL, MR.eqOk_nil, MR.nil_eq, MR.nil_deq, MR.deq_row, MR.deq_rowL, MR.deq_nilr, MR.deq_nill, MR.deq_nils, MR.rng_zero, MR.isE_map, List.length_map, List.length_append, List.length_reverse,
        Nat.reduceLeDiff, Nat.reduceLT, Int.reduceLE, Int.reduceLT, Int.reducePow, Int.reduceNeg, Int.toNat_zero, Int.reduceToNat, Bool.not_eq_eq_eq_not, Bool.not_eq_true', decide_eq_false_iff_not, decide_eq_true_eq, Bool.false_eq_true, ite_not, ite_false, ite_true, decide_true, decide_false, not_true_eq_false, not_false_eq_true, List.cons.injEq, MR.D.tup.injEq, MR.D.lst.injEq, MR.D.int.injEq, MR.D.str.injEq, MR.D.bl.injEq, MR.D.adr.injEq, MR.Ent.d.injEq, MR.Ent.own.injEq, Option.some.injEq, Prod.mk.injEq, MR.fl_repx, List.length_replicate, exists_eq, exists_eq', and_assoc, exists_and_left, exists_and_right, exists_eq_left, exists_eq_left', exists_eq_right, exists_eq_right', ne_eq, eq_self, and_self, reduceCtorEq, false_and, and_false, or_false, false_or, Int.reduceEq, Int.reduceSub, Int.reduceAdd, Int.reduceMul, Nat.reduceMul, c0, aLongRow]
      exact ⟨_, hk, by omega, hb, fun ms ω' h1 l1 k1 => q ms ω' h1 (by omega) (k1.le (by omega))⟩
    by_cases cn : ns = []
    · simp -implicitDefEqProofs only [MR.sNil, MR.sSeq, MR.sDrop, MR.sRet_e, MR.sRet_f, MR.sRetN, MR.sBreak, MR.sCont, MR.sIf, MR.sSet, MR.sOwn, MR.sAsg, MR.sPar, MR.sAug, MR.sFrz, MR.sApp, MR.sPut, MR.sExt, MR.aName, MR.aTup, MR.aNil, MR.aCons, MR.frz,
        MR.gVar, MR.gC, MR.gOp, MR.gB, MR.bK, MR.gTru, MR.gNotT, MR.gAndT, MR.gOrT, MR.gAndV, MR.gOrV, MR.gNotV, MR.gIf, MR.gChain, MR.gNil, MR.gCons, MR.gTup, MR.gLst, MR.gFz, MR.gOwn, MR.gAsL, MR.gNo, MR.gPart, MR.gSl, MR.gSlF, MR.gUn, MR.gIxL, MR.gFn, MR.gLenL, MR.gYes,
        MR.fAddI, MR.fSub, MR.fDiv, MR.fMod, MR.fPow, MR.fLe, MR.fGt, MR.fGe, MR.fIs, MR.fIsN, MR.fNeg, MR.fMin, MR.fMax, MR.fDivmod, MR.fSum, MR.fAll, MR.fRepr, MR.fIsi, MR.tyD, MR.dInt, MR.dBool, MR.dTup, MR.dStr, MR.dLst,
        MR.gDkT, MR.gDkS, MR.gDkNe, MR.gDkPop, MR.sDkApp, MR.sDkPut, MR.gScr, MR.sDeck, MR.gCall, MR.sel, MR.sFor, MR.sForR1, MR.sForR2, MR.sWhile, MR.sForE, MR.sAugP, MR.gRepL, MR.gCatL, MR.gComp, MR.gCompR, MR.startA, MR.wipeA, MR.sNever, MR.gNever, MR.tNev, MR.sAsg2, MR.fMulS_str, MR.fIntS_str, MR.sParO, MR.sForG, MR.gCompG, MR.iSeqG, MR.iR1G, MR.iR2G, MR.iZipG, MR.iEnumG, MR.iEnumLG, MR.iRevG,
        MR.fTru_bl, MR.fTru_non, MR.fTru_int, MR.fTru_str, MR.fTru_lst, MR.fTru_tup, MR.fAdd_int, MR.fAdd_str, MR.fAdd_tup, MR.fAdd_lst, MR.fMul_int, MR.fMul_tup, MR.fMul_lst, MR.fEq_int, MR.fEq_str, MR.fEq_bl, MR.fEq_tup_tup, MR.fEq_tup_lst, MR.fEq_tup_int, MR.fEq_tup_non, MR.fEq_tup_str, MR.fEq_tup_bl, MR.fEq_lst_tup, MR.fEq_lst_lst, MR.fEq_lst_int, MR.fEq_lst_non, MR.fEq_lst_str, MR.fEq_lst_bl, MR.fEq_int_tup, MR.fEq_int_lst, MR.fEq_int_non, MR.fEq_int_str, MR.fEq_int_bl, MR.fEq_non_tup, MR.fEq_non_lst, MR.fEq_non_int, MR.fEq_non_non, MR.fEq_non_str, MR.fEq_non_bl, MR.fEq_str_tup, MR.fEq_str_lst, MR.fEq_str_int, MR.fEq_str_non, MR.fEq_str_bl, MR.fEq_bl_tup, MR.fEq_bl_lst, MR.fEq_bl_int, MR.fEq_bl_non, MR.fEq_bl_str, MR.fNe_int, MR.fNe_str, MR.fNe_bl, MR.fNe_tup_tup, MR.fNe_tup_lst, MR.fNe_tup_int, MR.fNe_tup_non, MR.fNe_tup_str, MR.fNe_tup_bl, MR.fNe_lst_tup, MR.fNe_lst_lst, MR.fNe_lst_int, MR.fNe_lst_non, MR.fNe_lst_str, MR.fNe_lst_bl, MR.fNe_int_tup, MR.fNe_int_lst, MR.fNe_int_non, MR.fNe_int_str, MR.fNe_int_bl, MR.fNe_non_tup, MR.fNe_non_lst, MR.fNe_non_int, MR.fNe_non_non, MR.fNe_non_str, MR.fNe_non_bl, MR.fNe_str_tup, MR.fNe_str_lst, MR.fNe_str_int, MR.fNe_str_non, MR.fNe_str_bl, MR.fNe_bl_tup, MR.fNe_bl_lst, MR.fNe_bl_int, MR.fNe_bl_non, MR.fNe_bl_str, MR.fLt_int, MR.fIx_tup, MR.fSl_tup, MR.fLen_tup, MR.fTuple_tup, MR.fRev_tup, MR.fIx_lst, MR.fSl_lst, MR.fLen_lst, MR.fTuple_lst, MR.fRev_lst, MR.fIx_str, MR.fSl_str, MR.fLen_str, MR.fInt_int, MR.fInt_bl,
        List.map_cons, List.map_nil, List.cons_append, List.nil_append, List.append_nil, List.length_cons, List.length_nil, List.replicate_succ, List.replicate_zero, List.set_cons_zero, List.set_cons_succ, List.getElem?_cons_zero, List.getElem?_cons_succ, List.getD_cons_zero, List.getD_cons_succ, Nat.reduceAdd, Nat.reduceSub, Nat.zero_add, Option.some.injEq, reduceIte, Bool.not_true, Bool.not_false, true_and, and_true, true_implies, false_implies, implies_true, MR.sRaise, MR.sTryAs, MR.sTry, MR.gIsE, PySem.W.kitAny, PySem.Value.ref.injEq, MR.sStar, MR.aSeq, MR.seqD, MR.gStp, List.take_succ_cons, List.take_zero, List.drop_succ_cons, List.drop_zero, MR.sl, MR.aFor_nil, MR.aComp_nil, Int.zero_add, MR.map_int_inj, MR.nil_map_int, MR.cons_map_int, List.map_eq_nil_iff, MR.eqOk_row, MR.eqOk_rowL, MR.eqOk_nil, MR.nil_eq, MR.nil_deq, MR.deq_row, MR.deq_rowL, MR.deq_nilr, MR.deq_nill, MR.deq_nils, MR.rng_zero, MR.isE_map, List.length_map, List.length_append, List.length_reverse,
        Nat.reduceLeDiff, Nat.reduceLT, Int.reduceLE, Int.reduceLT, Int.reducePow, Int.reduceNeg, Int.toNat_zero, Int.reduceToNat, Bool.not_eq_eq_eq_not, Bool.not_eq_true', decide_eq_false_iff_not, decide_eq_true_eq, Bool.false_eq_true, ite_not, ite_false, ite_true, decide_true, decide_false, not_true_eq_false, not_false_eq_true, List.cons.injEq, MR.D.tup.injEq, MR.D.lst.injEq, MR.D.int.injEq, MR.D.str.injEq, MR.D.bl.injEq, MR.D.adr.injEq, MR.Ent.d.injEq, MR.Ent.own.injEq, Option.some.injEq, Prod.mk.injEq, MR.fl_repx, List.length_replicate, exists_eq, exists_eq', and_assoc, exists_and_left, exists_and_right, exists_eq_left, exists_eq_left', exists_eq_right, exists_eq_right', ne_eq, eq_self, and_self, reduceCtorEq, false_and, and_false, or_false, false_or, Int.reduceEq, Int.reduceSub, Int.reduceAdd, Int.reduceMul, Nat.reduceMul, c0, cn, aLongRow]
      exact ⟨_, hk, by omega, hb, fun ms ω' h1 l1 k1 => q ms ω' h1 (by omega) (k1.le (by omega))⟩
    have hp : 0 < ns.length := List.length_pos_iff.mpr cn
    have pp : (0:Int) < b ^ (ns.length - 1) := Int.pow_pos (by omega)
    have g0 := row_ge hb1 hr cn
    by_cases c1 : way = 1
    · simp -implicitDefEqProofs only [MR.sNil, MR.sSeq, MR.sDrop, MR.sRet_e, MR.sRet_f, MR.sRetN, MR.sBreak, MR.sCont, MR.sIf, MR.sSet, MR.sOwn, MR.sAsg, MR.sPar, MR.sAug, MR.sFrz, MR.sApp, MR.sPut, MR.sExt, MR.aName, MR.aTup, MR.aNil, MR.aCons, MR.frz,
        MR.gVar, MR.gC, MR.gOp, MR.gB, MR.bK, MR.gTru, MR.gNotT, MR.gAndT, MR.gOrT, MR.gAndV, MR.gOrV, MR.gNotV, MR.gIf, MR.gChain, MR.gNil, MR.gCons, MR.gTup, MR.gLst, MR.gFz, MR.gOwn, MR.gAsL, MR.gNo, MR.gPart, MR.gSl, MR.gSlF, MR.gUn, MR.gIxL, MR.gFn, MR.gLenL, MR.gYes,
        MR.fAddI, MR.fSub, MR.fDiv, MR.fMod, MR.fPow, MR.fLe, MR.fGt, MR.fGe, MR.fIs, MR.fIsN, MR.fNeg, MR.fMin, MR.fMax, MR.fDivmod, MR.fSum, MR.fAll, MR.fRepr, MR.fIsi, MR.tyD, MR.dInt, MR.dBool, MR.dTup, MR.dStr, MR.dLst,
        MR.gDkT, MR.gDkS, MR.gDkNe, MR.gDkPop, MR.sDkApp, MR.sDkPut, MR.gScr, MR.sDeck, MR.gCall, MR.sel, MR.sFor, MR.sForR1, MR.sForR2, MR.sWhile, MR.sForE, MR.sAugP, MR.gRepL, MR.gCatL, MR.gComp, MR.gCompR, MR.startA, MR.wipeA, MR.sNever, MR.gNever, MR.tNev, MR.sAsg2, MR.fMulS_str, MR.fIntS_str, MR.sParO, MR.sForG, MR.gCompG, MR.iSeqG, MR.iR1G, MR.iR2G, MR.iZipG, MR.iEnumG, MR.iEnumLG, MR.iRevG,
        MR.fTru_bl, MR.fTru_non, MR.fTru_int, MR.fTru_str, MR.fTru_lst, MR.fTru_tup, MR.fAdd_int, MR.fAdd_str, MR.fAdd_tup, MR.fAdd_lst, MR.fMul_int, MR.fMul_tup, MR.fMul_lst, MR.fEq_int, MR.fEq_str, MR.fEq_bl, MR.fEq_tup_tup, MR.fEq_tup_lst, MR.fEq_tup_int, MR.fEq_tup_non, MR.fEq_tup_str, MR.fEq_tup_bl, MR.fEq_lst_tup, MR.fEq_lst_lst, MR.fEq_lst_int, MR.fEq_lst_non, MR.fEq_lst_str, MR.fEq_lst_bl, MR.fEq_int_tup, MR.fEq_int_lst, MR.fEq_int_non, MR.fEq_int_str, MR.fEq_int_bl, MR.fEq_non_tup, MR.fEq_non_lst, MR.fEq_non_int, MR.fEq_non_non, MR.fEq_non_str, MR.fEq_non_bl, MR.fEq_str_tup, MR.fEq_str_lst, MR.fEq_str_int, MR.fEq_str_non, MR.fEq_str_bl, MR.fEq_bl_tup, MR.fEq_bl_lst, MR.fEq_bl_int, MR.fEq_bl_non, MR.fEq_bl_str, MR.fNe_int, MR.fNe_str, MR.fNe_bl, MR.fNe_tup_tup, MR.fNe_tup_lst, MR.fNe_tup_int, MR.fNe_tup_non, MR.fNe_tup_str, MR.fNe_tup_bl, MR.fNe_lst_tup, MR.fNe_lst_lst, MR.fNe_lst_int, MR.fNe_lst_non, MR.fNe_lst_str, MR.fNe_lst_bl, MR.fNe_int_tup, MR.fNe_int_lst, MR.fNe_int_non, MR.fNe_int_str, MR.fNe_int_bl, MR.fNe_non_tup, MR.fNe_non_lst, MR.fNe_non_int, MR.fNe_non_non, MR.fNe_non_str, MR.fNe_non_bl, MR.fNe_str_tup, MR.fNe_str_lst, MR.fNe_str_int, MR.fNe_str_non, MR.fNe_str_bl, MR.fNe_bl_tup, MR.fNe_bl_lst, MR.fNe_bl_int, MR.fNe_bl_non, MR.fNe_bl_str, MR.fLt_int, MR.fIx_tup, MR.fSl_tup, MR.fLen_tup, MR.fTuple_tup, MR.fRev_tup, MR.fIx_lst, MR.fSl_lst, MR.fLen_lst, MR.fTuple_lst, MR.fRev_lst, MR.fIx_str, MR.fSl_str, MR.fLen_str, MR.fInt_int, MR.fInt_bl,
        List.map_cons, List.map_nil, List.cons_append, List.nil_append, List.append_nil, List.length_cons, List.length_nil, List.replicate_succ, List.replicate_zero, List.set_cons_zero, List.set_cons_succ, List.getElem?_cons_zero, List.getElem?_cons_succ, List.getD_cons_zero, List.getD_cons_succ, Nat.reduceAdd, Nat.reduceSub, Nat.zero_add, Option.some.injEq, reduceIte, Bool.not_true, Bool.not_false, true_and, and_true, true_implies, false_implies, implies_true, MR.sRaise, MR.sTryAs, MR.sTry, MR.gIsE, PySem.W.kitAny, PySem.Value.ref.injEq, MR.sStar, MR.aSeq, MR.seqD, MR.gStp, List.take_succ_cons, List.take_zero, List.drop_succ_cons, List.drop_zero, MR.sl, MR.aFor_nil, MR.aComp_nil, Int.zero_add, MR.map_int_inj, MR.nil_map_int, MR.cons_map_int, List.map_eq_nil_iff, MR.eqOk_row, MR.eqOk_rowL, MR.eqOk_nil, MR.nil_eq, MR.nil_deq, MR.deq_row, MR.deq_rowL, MR.deq_nilr, MR.deq_nill, MR.deq_nils, MR.rng_zero, MR.isE_map, List.length_map, List.length_append, List.length_reverse,
        Nat.reduceLeDiff, Nat.reduceLT, Int.reduceLE, Int.reduceLT, Int.reducePow, Int.reduceNeg, Int.toNat_zero, Int.reduceToNat, Bool.not_eq_eq_eq_not, Bool.not_eq_true', decide_eq_false_iff_not, decide_eq_true_eq, Bool.false_eq_true, ite_not, ite_false, ite_true, decide_true, decide_false, not_true_eq_false, not_false_eq_true, List.cons.injEq, MR.D.tup.injEq, MR.D.lst.injEq, MR.D.int.injEq, MR.D.str.injEq, MR.D.bl.injEq, MR.D.adr.injEq, MR.Ent.d.injEq, MR.Ent.own.injEq, Option.some.injEq, Prod.mk.injEq, MR.fl_repx, List.length_replicate, exists_eq, exists_eq', and_assoc, exists_and_left, exists_and_right, exists_eq_left, exists_eq_left', exists_eq_right, exists_eq_right', ne_eq, eq_self, and_self, reduceCtorEq, false_and, and_false, or_false, false_or, Int.reduceEq, Int.reduceSub, Int.reduceAdd, Int.reduceMul, Nat.reduceMul, c1, cn]
      exact q _ _ hr hl (hk.le (by omega))
    by_cases c2 : way = 2
    · simp -implicitDefEqProofs only [MR.sNil, MR.sSeq, MR.sDrop, MR.sRet_e, MR.sRet_f, MR.sRetN, MR.sBreak, MR.sCont, MR.sIf, MR.sSet, MR.sOwn, MR.sAsg, MR.sPar, MR.sAug, MR.sFrz, MR.sApp, MR.sPut, MR.sExt, MR.aName, MR.aTup, MR.aNil, MR.aCons, MR.frz,
        MR.gVar, MR.gC, MR.gOp, MR.gB, MR.bK, MR.gTru, MR.gNotT, MR.gAndT, MR.gOrT, MR.gAndV, MR.gOrV, MR.gNotV, MR.gIf, MR.gChain, MR.gNil, MR.gCons, MR.gTup, MR.gLst, MR.gFz, MR.gOwn, MR.gAsL, MR.gNo, MR.gPart, MR.gSl, MR.gSlF, MR.gUn, MR.gIxL, MR.gFn, MR.gLenL, MR.gYes,
        MR.fAddI, MR.fSub, MR.fDiv, MR.fMod, MR.fPow, MR.fLe, MR.fGt, MR.fGe, MR.fIs, MR.fIsN, MR.fNeg, MR.fMin, MR.fMax, MR.fDivmod, MR.fSum, MR.fAll, MR.fRepr, MR.fIsi, MR.tyD, MR.dInt, MR.dBool, MR.dTup, MR.dStr, MR.dLst,
        MR.gDkT, MR.gDkS, MR.gDkNe, MR.gDkPop, MR.sDkApp, MR.sDkPut, MR.gScr, MR.sDeck, MR.gCall, MR.sel, MR.sFor, MR.sForR1, MR.sForR2, MR.sWhile, MR.sForE, MR.sAugP, MR.gRepL, MR.gCatL, MR.gComp, MR.gCompR, MR.startA, MR.wipeA, MR.sNever, MR.gNever, MR.tNev, MR.sAsg2, MR.fMulS_str, MR.fIntS_str, MR.sParO, MR.sForG, MR.gCompG, MR.iSeqG, MR.iR1G, MR.iR2G, MR.iZipG, MR.iEnumG, MR.iEnumLG, MR.iRevG,
        MR.fTru_bl, MR.fTru_non, MR.fTru_int, MR.fTru_str, MR.fTru_lst, MR.fTru_tup, MR.fAdd_int, MR.fAdd_str, MR.fAdd_tup, MR.fAdd_lst, MR.fMul_int, MR.fMul_tup, MR.fMul_lst, MR.fEq_int, MR.fEq_str, MR.fEq_bl, MR.fEq_tup_tup, MR.fEq_tup_lst, MR.fEq_tup_int, MR.fEq_tup_non, MR.fEq_tup_str, MR.fEq_tup_bl, MR.fEq_lst_tup, MR.fEq_lst_lst, MR.fEq_lst_int, MR.fEq_lst_non, MR.fEq_lst_str, MR.fEq_lst_bl, MR.fEq_int_tup, MR.fEq_int_lst, MR.fEq_int_non, MR.fEq_int_str, MR.fEq_int_bl, MR.fEq_non_tup, MR.fEq_non_lst, MR.fEq_non_int, MR.fEq_non_non, MR.fEq_non_str, MR.fEq_non_bl, MR.fEq_str_tup, MR.fEq_str_lst, MR.fEq_str_int, MR.fEq_str_non, MR.fEq_str_bl, MR.fEq_bl_tup, MR.fEq_bl_lst, MR.fEq_bl_int, MR.fEq_bl_non, MR.fEq_bl_str, MR.fNe_int, MR.fNe_str, MR.fNe_bl, MR.fNe_tup_tup, MR.fNe_tup_lst, MR.fNe_tup_int, MR.fNe_tup_non, MR.fNe_tup_str, MR.fNe_tup_bl, MR.fNe_lst_tup, MR.fNe_lst_lst, MR.fNe_lst_int, MR.fNe_lst_non, MR.fNe_lst_str, MR.fNe_lst_bl, MR.fNe_int_tup, MR.fNe_int_lst, MR.fNe_int_non, MR.fNe_int_str, MR.fNe_int_bl, MR.fNe_non_tup, MR.fNe_non_lst, MR.fNe_non_int, MR.fNe_non_non, MR.fNe_non_str, MR.fNe_non_bl, MR.fNe_str_tup, MR.fNe_str_lst, MR.fNe_str_int, MR.fNe_str_non, MR.fNe_str_bl, MR.fNe_bl_tup, MR.fNe_bl_lst, MR.fNe_bl_int, MR.fNe_bl_non, MR.fNe_bl_str, MR.fLt_int, MR.fIx_tup, MR.fSl_tup, MR.fLen_tup, MR.fTuple_tup, MR.fRev_tup, MR.fIx_lst, MR.fSl_lst, MR.fLen_lst, MR.fTuple_lst, MR.fRev_lst, MR.fIx_str, MR.fSl_str, MR.fLen_str, MR.fInt_int, MR.fInt_bl,
        List.map_cons, List.map_nil, List.cons_append, List.nil_append, List.append_nil, List.length_cons, List.length_nil, List.replicate_succ, List.replicate_zero, List.set_cons_zero, List.set_cons_succ, List.getElem?_cons_zero, List.getElem?_cons_succ, List.getD_cons_zero, List.getD_cons_succ, Nat.reduceAdd, Nat.reduceSub, Nat.zero_add, Option.some.injEq, reduceIte, Bool.not_true, Bool.not_false, true_and, and_true, true_implies, false_implies, implies_true, MR.sRaise, MR.sTryAs, MR.sTry, MR.gIsE, PySem.W.kitAny, PySem.Value.ref.injEq, MR.sStar, MR.aSeq, MR.seqD, MR.gStp, List.take_succ_cons, List.take_zero, List.drop_succ_cons, List.drop_zero, MR.sl, MR.aFor_nil, MR.aComp_nil, Int.zero_add, MR.map_int_inj, MR.nil_map_int, MR.cons_map_int, List.map_eq_nil_iff, MR.eqOk_row, MR.eqOk_rowL, MR.eqOk_nil, MR.nil_eq, MR.nil_deq, MR.deq_row, MR.deq_rowL, MR.deq_nilr, MR.deq_nill, MR.deq_nils, MR.rng_zero, MR.isE_map, List.length_map, List.length_append, List.length_reverse,
        Nat.reduceLeDiff, Nat.reduceLT, Int.reduceLE, Int.reduceLT, Int.reducePow, Int.reduceNeg, Int.toNat_zero, Int.reduceToNat, Bool.not_eq_eq_eq_not, Bool.not_eq_true', decide_eq_false_iff_not, decide_eq_true_eq, Bool.false_eq_true, ite_not, ite_false, ite_true, decide_true, decide_false, not_true_eq_false, not_false_eq_true, List.cons.injEq, MR.D.tup.injEq, MR.D.lst.injEq, MR.D.int.injEq, MR.D.str.injEq, MR.D.bl.injEq, MR.D.adr.injEq, MR.Ent.d.injEq, MR.Ent.own.injEq, Option.some.injEq, Prod.mk.injEq, MR.fl_repx, List.length_replicate, exists_eq, exists_eq', and_assoc, exists_and_left, exists_and_right, exists_eq_left, exists_eq_left', exists_eq_right, exists_eq_right', ne_eq, eq_self, and_self, reduceCtorEq, false_and, and_false, or_false, false_or, Int.reduceEq, Int.reduceSub, Int.reduceAdd, Int.reduceMul, Nat.reduceMul, c2, cn, aDraw]
      refine ⟨_, hk, by omega, small_m (by omega), by omega, fun r ω1 r0 r1 k1 => ?_⟩
      have cu1 : cutD (ns.map D.int) none (some r) = (ns.take r.toNat).map D.int := by rw [cut_hi r0, ← List.map_take]
      have cu2 : cutD (ns.map D.int) (some (r + 1)) none = (ns.drop (r + 1).toNat).map D.int := by rw [cut_lo (by omega), ← List.map_drop]
      simp -implicitDefEqProofs only [MR.sNil, MR.sSeq, MR.sDrop, MR.sRet_e, MR.sRet_f, MR.sRetN, MR.sBreak, MR.sCont, MR.sIf, MR.sSet, MR.sOwn, MR.sAsg, MR.sPar, MR.sAug, MR.sFrz, MR.sApp, MR.sPut, MR.sExt, MR.aName, MR.aTup, MR.aNil, MR.aCons, MR.frz,
        MR.gVar, MR.gC, MR.gOp, MR.gB, MR.bK, MR.gTru, MR.gNotT, MR.gAndT, MR.gOrT, MR.gAndV, MR.gOrV, MR.gNotV, MR.gIf, MR.gChain, MR.gNil, MR.gCons, MR.gTup, MR.gLst, MR.gFz, MR.gOwn, MR.gAsL, MR.gNo, MR.gPart, MR.gSl, MR.gSlF, MR.gUn, MR.gIxL, MR.gFn, MR.gLenL, MR.gYes,
        MR.fAddI, MR.fSub, MR.fDiv, MR.fMod, MR.fPow, MR.fLe, MR.fGt, MR.fGe, MR.fIs, MR.fIsN, MR.fNeg, MR.fMin, MR.fMax, MR.fDivmod, MR.fSum, MR.fAll, MR.fRepr, MR.fIsi, MR.tyD, MR.dInt, MR.dBool, MR.dTup, MR.dStr, MR.dLst,
        MR.gDkT, MR.gDkS, MR.gDkNe, MR.gDkPop, MR.sDkApp, MR.sDkPut, MR.gScr, MR.sDeck, MR.gCall, MR.sel, MR.sFor, MR.sForR1, MR.sForR2, MR.sWhile, MR.sForE, MR.sAugP, MR.gRepL, MR.gCatL, MR.gComp, MR.gCompR, MR.startA, MR.wipeA, MR.sNever, MR.gNever, MR.tNev, MR.sAsg2, MR.fMulS_str, MR.fIntS_str, MR.sParO, MR.sForG, MR.gCompG, MR.iSeqG, MR.iR1G, MR.iR2G, MR.iZipG, MR.iEnumG, MR.iEnumLG, MR.iRevG,
        MR.fTru_bl, MR.fTru_non, MR.fTru_int, MR.fTru_str, MR.fTru_lst, MR.fTru_tup, MR.fAdd_int, MR.fAdd_str, MR.fAdd_tup, MR.fAdd_lst, MR.fMul_int, MR.fMul_tup, MR.fMul_lst, MR.fEq_int, MR.fEq_str, MR.fEq_bl, MR.fEq_tup_tup, MR.fEq_tup_lst, MR.fEq_tup_int, MR.fEq_tup_non, MR.fEq_tup_str, MR.fEq_tup_bl, MR.fEq_lst_tup, MR.fEq_lst_lst, MR.fEq_lst_int, MR.fEq_lst_non, MR.fEq_lst_str, MR.fEq_lst_bl, MR.fEq_int_tup, MR.fEq_int_lst, MR.fEq_int_non, MR.fEq_int_str, MR.fEq_int_bl, MR.fEq_non_tup, MR.fEq_non_lst, MR.fEq_non_int, MR.fEq_non_non, MR.fEq_non_str, MR.fEq_non_bl, MR.fEq_str_tup, MR.fEq_str_lst, MR.fEq_str_int, MR.fEq_str_non, MR.fEq_str_bl, MR.fEq_bl_tup, MR.fEq_bl_lst, MR.fEq_bl_int, MR.fEq_bl_non, MR.fEq_bl_str, MR.fNe_int, MR.fNe_str, MR.fNe_bl, MR.fNe_tup_tup, MR.fNe_tup_lst, MR.fNe_tup_int, MR.fNe_tup_non, MR.fNe_tup_str, MR.fNe_tup_bl, MR.fNe_lst_tup, MR.fNe_lst_lst, MR.fNe_lst_int, MR.fNe_lst_non, MR.fNe_lst_str, MR.fNe_lst_bl, MR.fNe_int_tup, MR.fNe_int_lst, MR.fNe_int_non, MR.fNe_int_str, MR.fNe_int_bl, MR.fNe_non_tup, MR.fNe_non_lst, MR.fNe_non_int, MR.fNe_non_non, MR.fNe_non_str, MR.fNe_non_bl, MR.fNe_str_tup, MR.fNe_str_lst, MR.fNe_str_int, MR.fNe_str_non, MR.fNe_str_bl, MR.fNe_bl_tup, MR.fNe_bl_lst, MR.fNe_bl_int, MR.fNe_bl_non, MR.fNe_bl_str, MR.fLt_int, MR.fIx_tup, MR.fSl_tup, MR.fLen_tup, MR.fTuple_tup, MR.fRev_tup, MR.fIx_lst, MR.fSl_lst, MR.fLen_lst, MR.fTuple_lst, MR.fRev_lst, MR.fIx_str, MR.fSl_str, MR.fLen_str, MR.fInt_int, MR.fInt_bl,
        List.map_cons, List.map_nil, List.cons_append, List.nil_append, List.append_nil, List.length_cons, List.length_nil, List.replicate_succ, List.replicate_zero, List.set_cons_zero, List.set_cons_succ, List.getElem?_cons_zero, List.getElem?_cons_succ, List.getD_cons_zero, List.getD_cons_succ, Nat.reduceAdd, Nat.reduceSub, Nat.zero_add, Option.some.injEq, reduceIte, Bool.not_true, Bool.not_false, true_and, and_true, true_implies, false_implies, implies_true, MR.sRaise, MR.sTryAs, MR.sTry, MR.gIsE, PySem.W.kitAny, PySem.Value.ref.injEq, MR.sStar, MR.aSeq, MR.seqD, MR.gStp, List.take_succ_cons, List.take_zero, List.drop_succ_cons, List.drop_zero, MR.sl, MR.aFor_nil, MR.aComp_nil, Int.zero_add, MR.map_int_inj, MR.nil_map_int, MR.cons_map_int, List.map_eq_nil_iff, MR.eqOk_row, MR.eqOk_rowL, MR.eqOk_nil, MR.nil_eq, MR.nil_deq, MR.deq_row, MR.deq_rowL, MR.deq_nilr, MR.deq_nill, MR.deq_nils, MR.rng_zero, MR.isE_map, List.length_map, List.length_append, List.length_reverse,
        Nat.reduceLeDiff, Nat.reduceLT, Int.reduceLE, Int.reduceLT, Int.reducePow, Int.reduceNeg, Int.toNat_zero, Int.reduceToNat, Bool.not_eq_eq_eq_not, Bool.not_eq_true', decide_eq_false_iff_not, decide_eq_true_eq, Bool.false_eq_true, ite_not, ite_false, ite_true, decide_true, decide_false, not_true_eq_false, not_false_eq_true, List.cons.injEq, MR.D.tup.injEq, MR.D.lst.injEq, MR.D.int.injEq, MR.D.str.injEq, MR.D.bl.injEq, MR.D.adr.injEq, MR.Ent.d.injEq, MR.Ent.own.injEq, Option.some.injEq, Prod.mk.injEq, MR.fl_repx, List.length_replicate, exists_eq, exists_eq', and_assoc, exists_and_left, exists_and_right, exists_eq_left, exists_eq_left', exists_eq_right, exists_eq_right', ne_eq, eq_self, and_self, reduceCtorEq, false_and, and_false, or_false, false_or, Int.reduceEq, Int.reduceSub, Int.reduceAdd, Int.reduceMul, Nat.reduceMul, cu1, cu2]
      refine ⟨_, k1, by omega, small_m (by omega), by omega, fun s ω2 s0 s1 k2 => ?_⟩
      have e : (ns.take r.toNat).map D.int ++ D.int s :: (ns.drop (r + 1).toNat).map D.int = (ns.take r.toNat ++ s :: ns.drop (r + 1).toNat).map D.int := by simp
      have lm : limbs b (ns.take r.toNat ++ s :: ns.drop (r + 1).toNat) := (hr.lim.take _).append fun n hn => by
        rcases List.mem_cons.mp hn with rfl | hn
        · exact ⟨s0, s1⟩
        · exact (hr.lim.drop _) n hn
      have ll : (ns.take r.toNat ++ s :: ns.drop (r + 1).toNat).length ≤ 40 := by simp only [List.length_append, List.length_take, List.length_cons, List.length_drop]; omega
      simp -implicitDefEqProofs only [MR.sNil, MR.sSeq, MR.sDrop, MR.sRet_e, MR.sRet_f, MR.sRetN, MR.sBreak, MR.sCont, MR.sIf, MR.sSet, MR.sOwn, MR.sAsg, MR.sPar, MR.sAug, MR.sFrz, MR.sApp, MR.sPut, MR.sExt, MR.aName, MR.aTup, MR.aNil, MR.aCons, MR.frz,
        MR.gVar, MR.gC, MR.gOp, MR.gB, MR.bK, MR.gTru, MR.gNotT, MR.gAndT, MR.gOrT, MR.gAndV, MR.gOrV, MR.gNotV, MR.gIf, MR.gChain, MR.gNil, MR.gCons, MR.gTup, MR.gLst, MR.gFz, MR.gOwn, MR.gAsL, MR.gNo, MR.gPart, MR.gSl, MR.gSlF, MR.gUn, MR.gIxL, MR.gFn, MR.gLenL, MR.gYes,
        MR.fAddI, MR.fSub, MR.fDiv, MR.fMod, MR.fPow, MR.fLe, MR.fGt, MR.fGe, MR.fIs, MR.fIsN, MR.fNeg, MR.fMin, MR.fMax, MR.fDivmod, MR.fSum, MR.fAll, MR.fRepr, MR.fIsi, MR.tyD, MR.dInt, MR.dBool, MR.dTup, MR.dStr, MR.dLst,
        MR.gDkT, MR.gDkS, MR.gDkNe, MR.gDkPop, MR.sDkApp, MR.sDkPut, MR.gScr, MR.sDeck, MR.gCall, MR.sel, MR.sFor, MR.sForR1, MR.sForR2, MR.sWhile, MR.sForE, MR.sAugP, MR.gRepL, MR.gCatL, MR.gComp, MR.gCompR, MR.startA, MR.wipeA, MR.sNever, MR.gNever, MR.tNev, MR.sAsg2, MR.fMulS_str, MR.fIntS_str, MR.sParO, MR.sForG, MR.gCompG, MR.iSeqG, MR.iR1G, MR.iR2G, MR.iZipG, MR.iEnumG, MR.iEnumLG, MR.iRevG,
        MR.fTru_bl, MR.fTru_non, MR.fTru_int, MR.fTru_str, MR.fTru_lst, MR.fTru_tup, MR.fAdd_int, MR.fAdd_str, MR.fAdd_tup, MR.fAdd_lst, MR.fMul_int, MR.fMul_tup, MR.fMul_lst, MR.fEq_int, MR.fEq_str, MR.fEq_bl, MR.fEq_tup_tup, MR.fEq_tup_lst, MR.fEq_tup_int, MR.fEq_tup_non, MR.fEq_tup_str, MR.fEq_tup_bl, MR.fEq_lst_tup, MR.fEq_lst_lst, MR.fEq_lst_int, MR.fEq_lst_non, MR.fEq_lst_str, MR.fEq_lst_bl, MR.fEq_int_tup, MR.fEq_int_lst, MR.fEq_int_non, MR.fEq_int_str, MR.fEq_int_bl, MR.fEq_non_tup, MR.fEq_non_lst, MR.fEq_non_int, MR.fEq_non_non, MR.fEq_non_str, MR.fEq_non_bl, MR.fEq_str_tup, MR.fEq_str_lst, MR.fEq_str_int, MR.fEq_str_non, MR.fEq_str_bl, MR.fEq_bl_tup, MR.fEq_bl_lst, MR.fEq_bl_int, MR.fEq_bl_non, MR.fEq_bl_str, MR.fNe_int, MR.fNe_str, MR.fNe_bl, MR.fNe_tup_tup, MR.fNe_tup_lst, MR.fNe_tup_int, MR.fNe_tup_non, MR.fNe_tup_str, MR.fNe_tup_bl, MR.fNe_lst_tup, MR.fNe_lst_lst, MR.fNe_lst_int, MR.fNe_lst_non, MR.fNe_lst_str, MR.fNe_lst_bl, MR.fNe_int_tup, MR.fNe_int_lst, MR.fNe_int_non, MR.fNe_int_str, MR.fNe_int_bl, MR.fNe_non_tup, MR.fNe_non_lst, MR.fNe_non_int, MR.fNe_non_non, MR.fNe_non_str, MR.fNe_non_bl, MR.fNe_str_tup, MR.fNe_str_lst, MR.fNe_str_int, MR.fNe_str_non, MR.fNe_str_bl, MR.fNe_bl_tup, MR.fNe_bl_lst, MR.fNe_bl_int, MR.fNe_bl_non, MR.fNe_bl_str, MR.fLt_int, MR.fIx_tup, MR.fSl_tup, MR.fLen_tup, MR.fTuple_tup, MR.fRev_tup, MR.fIx_lst, MR.fSl_lst, MR.fLen_lst, MR.fTuple_lst, MR.fRev_lst, MR.fIx_str, MR.fSl_str, MR.fLen_str, MR.fInt_int, MR.fInt_bl,
        List.map_cons, List.map_nil, List.cons_append, List.nil_append, List.append_nil, List.length_cons, List.length_nil, List.replicate_succ, List.replicate_zero, List.set_cons_zero, List.set_cons_succ, List.getElem?_cons_zero, List.getElem?_cons_succ, List.getD_cons_zero, List.getD_cons_succ, Nat.reduceAdd, Nat.reduceSub, Nat.zero_add, Option.some.injEq, reduceIte, Bool.not_true, Bool.not_false, true_and, and_true, true_implies, false_implies, implies_true, MR.sRaise, MR.sTryAs, MR.sTry, MR.gIsE, PySem.W.kitAny, PySem.Value.ref.injEq, MR.sStar, MR.aSeq, MR.seqD, MR.gStp, List.take_succ_cons, List.take_zero, List.drop_succ_cons, List.drop_zero, MR.sl, MR.aFor_nil, MR.aComp_nil, Int.zero_add, MR.map_int_inj, MR.nil_map_int, MR.cons_map_int, List.map_eq_nil_iff, MR.eqOk_row, MR.eqOk_rowL, MR.eqOk_nil, MR.nil_eq, MR.nil_deq, MR.deq_row, MR.deq_rowL, MR.deq_nilr, MR.deq_nill, MR.deq_nils, MR.rng_zero, MR.isE_map, List.length_map, List.length_append, List.length_reverse,
        Nat.reduceLeDiff, Nat.reduceLT, Int.reduceLE, Int.reduceLT, Int.reducePow, Int.reduceNeg, Int.toNat_zero, Int.reduceToNat, Bool.not_eq_eq_eq_not, Bool.not_eq_true', decide_eq_false_iff_not, decide_eq_true_eq, Bool.false_eq_true, ite_not, ite_false, ite_true, decide_true, decide_false, not_true_eq_false, not_false_eq_true, List.cons.injEq, MR.D.tup.injEq, MR.D.lst.injEq, MR.D.int.injEq, MR.D.str.injEq, MR.D.bl.injEq, MR.D.adr.injEq, MR.Ent.d.injEq, MR.Ent.own.injEq, Option.some.injEq, Prod.mk.injEq, MR.fl_repx, List.length_replicate, exists_eq, exists_eq', and_assoc, exists_and_left, exists_and_right, exists_eq_left, exists_eq_left', exists_eq_right, exists_eq_right', ne_eq, eq_self, and_self, reduceCtorEq, false_and, and_false, or_false, false_or, Int.reduceEq, Int.reduceSub, Int.reduceAdd, Int.reduceMul, Nat.reduceMul, List.append_assoc, e, aRowOf, hb, lm]
      have v0 := wor_nn (by omega : (0:Int) ≤ b) lm
      have v1 := wor_lt (by omega : (1:Int) ≤ b) lm
      simp only [List.length_take, List.length_drop]
      refine ⟨by omega, by omega, by omega, ⟨_, v1, by omega⟩, ?_⟩
      exact ok _ _ v0 v1 ll _ (k2.le (by omega))
    by_cases c3 : way = 3
    · have k0 : (0:Int) ≤ (ns.length : Int) := by omega
      have k1 : (ns.length : Int) ≤ 50000 := by omega
      simp -implicitDefEqProofs only [MR.sNil, MR.sSeq, MR.sDrop, MR.sRet_e, MR.sRet_f, MR.sRetN, MR.sBreak, MR.sCont, MR.sIf, MR.sSet, MR.sOwn, MR.sAsg, MR.sPar, MR.sAug, MR.sFrz, MR.sApp, MR.sPut, MR.sExt, MR.aName, MR.aTup, MR.aNil, MR.aCons, MR.frz,
        MR.gVar, MR.gC, MR.gOp, MR.gB, MR.bK, MR.gTru, MR.gNotT, MR.gAndT, MR.gOrT, MR.gAndV, MR.gOrV, MR.gNotV, MR.gIf, MR.gChain, MR.gNil, MR.gCons, MR.gTup, MR.gLst, MR.gFz, MR.gOwn, MR.gAsL, MR.gNo, MR.gPart, MR.gSl, MR.gSlF, MR.gUn, MR.gIxL, MR.gFn, MR.gLenL, MR.gYes,
        MR.fAddI, MR.fSub, MR.fDiv, MR.fMod, MR.fPow, MR.fLe, MR.fGt, MR.fGe, MR.fIs, MR.fIsN, MR.fNeg, MR.fMin, MR.fMax, MR.fDivmod, MR.fSum, MR.fAll, MR.fRepr, MR.fIsi, MR.tyD, MR.dInt, MR.dBool, MR.dTup, MR.dStr, MR.dLst,
        MR.gDkT, MR.gDkS, MR.gDkNe, MR.gDkPop, MR.sDkApp, MR.sDkPut, MR.gScr, MR.sDeck, MR.gCall, MR.sel, MR.sFor, MR.sForR1, MR.sForR2, MR.sWhile, MR.sForE, MR.sAugP, MR.gRepL, MR.gCatL, MR.gComp, MR.gCompR, MR.startA, MR.wipeA, MR.sNever, MR.gNever, MR.tNev, MR.sAsg2, MR.fMulS_str, MR.fIntS_str, MR.sParO, MR.sForG, MR.gCompG, MR.iSeqG, MR.iR1G, MR.iR2G, MR.iZipG, MR.iEnumG, MR.iEnumLG, MR.iRevG,
        MR.fTru_bl, MR.fTru_non, MR.fTru_int, MR.fTru_str, MR.fTru_lst, MR.fTru_tup, MR.fAdd_int, MR.fAdd_str, MR.fAdd_tup, MR.fAdd_lst, MR.fMul_int, MR.fMul_tup, MR.fMul_lst, MR.fEq_int, MR.fEq_str, MR.fEq_bl, MR.fEq_tup_tup, MR.fEq_tup_lst, MR.fEq_tup_int, MR.fEq_tup_non, MR.fEq_tup_str, MR.fEq_tup_bl, MR.fEq_lst_tup, MR.fEq_lst_lst, MR.fEq_lst_int, MR.fEq_lst_non, MR.fEq_lst_str, MR.fEq_lst_bl, MR.fEq_int_tup, MR.fEq_int_lst, MR.fEq_int_non, MR.fEq_int_str, MR.fEq_int_bl, MR.fEq_non_tup, MR.fEq_non_lst, MR.fEq_non_int, MR.fEq_non_non, MR.fEq_non_str, MR.fEq_non_bl, MR.fEq_str_tup, MR.fEq_str_lst, MR.fEq_str_int, MR.fEq_str_non, MR.fEq_str_bl, MR.fEq_bl_tup, MR.fEq_bl_lst, MR.fEq_bl_int, MR.fEq_bl_non, MR.fEq_bl_str, MR.fNe_int, MR.fNe_str, MR.fNe_bl, MR.fNe_tup_tup, MR.fNe_tup_lst, MR.fNe_tup_int, MR.fNe_tup_non, MR.fNe_tup_str, MR.fNe_tup_bl, MR.fNe_lst_tup, MR.fNe_lst_lst, MR.fNe_lst_int, MR.fNe_lst_non, MR.fNe_lst_str, MR.fNe_lst_bl, MR.fNe_int_tup, MR.fNe_int_lst, MR.fNe_int_non, MR.fNe_int_str, MR.fNe_int_bl, MR.fNe_non_tup, MR.fNe_non_lst, MR.fNe_non_int, MR.fNe_non_non, MR.fNe_non_str, MR.fNe_non_bl, MR.fNe_str_tup, MR.fNe_str_lst, MR.fNe_str_int, MR.fNe_str_non, MR.fNe_str_bl, MR.fNe_bl_tup, MR.fNe_bl_lst, MR.fNe_bl_int, MR.fNe_bl_non, MR.fNe_bl_str, MR.fLt_int, MR.fIx_tup, MR.fSl_tup, MR.fLen_tup, MR.fTuple_tup, MR.fRev_tup, MR.fIx_lst, MR.fSl_lst, MR.fLen_lst, MR.fTuple_lst, MR.fRev_lst, MR.fIx_str, MR.fSl_str, MR.fLen_str, MR.fInt_int, MR.fInt_bl,
        List.map_cons, List.map_nil, List.cons_append, List.nil_append, List.append_nil, List.length_cons, List.length_nil, List.replicate_succ, List.replicate_zero, List.set_cons_zero, List.set_cons_succ, List.getElem?_cons_zero, List.getElem?_cons_succ, List.getD_cons_zero, List.getD_cons_succ, Nat.reduceAdd, Nat.reduceSub, Nat.zero_add, Option.some.injEq, reduceIte, Bool.not_true, Bool.not_false, true_and, and_true, true_implies, false_implies, implies_true, MR.sRaise, MR.sTryAs, MR.sTry, MR.gIsE, PySem.W.kitAny, PySem.Value.ref.injEq, MR.sStar, MR.aSeq, MR.seqD, MR.gStp, List.take_succ_cons, List.take_zero, List.drop_succ_cons, List.drop_zero, MR.sl, MR.aFor_nil, MR.aComp_nil, Int.zero_add, MR.map_int_inj, MR.nil_map_int, MR.cons_map_int, List.map_eq_nil_iff, MR.eqOk_row, MR.eqOk_rowL, MR.eqOk_nil, MR.nil_eq, MR.nil_deq, MR.deq_row, MR.deq_rowL, MR.deq_nilr, MR.deq_nill, MR.deq_nils, MR.rng_zero, MR.isE_map, List.length_map, List.length_append, List.length_reverse,
        Nat.reduceLeDiff, Nat.reduceLT, Int.reduceLE, Int.reduceLT, Int.reducePow, Int.reduceNeg, Int.toNat_zero, Int.reduceToNat, Bool.not_eq_eq_eq_not, Bool.not_eq_true', decide_eq_false_iff_not, decide_eq_true_eq, Bool.false_eq_true, ite_not, ite_false, ite_true, decide_true, decide_false, not_true_eq_false, not_false_eq_true, List.cons.injEq, MR.D.tup.injEq, MR.D.lst.injEq, MR.D.int.injEq, MR.D.str.injEq, MR.D.bl.injEq, MR.D.adr.injEq, MR.Ent.d.injEq, MR.Ent.own.injEq, Option.some.injEq, Prod.mk.injEq, MR.fl_repx, List.length_replicate, exists_eq, exists_eq', and_assoc, exists_and_left, exists_and_right, exists_eq_left, exists_eq_left', exists_eq_right, exists_eq_right', ne_eq, eq_self, and_self, reduceCtorEq, false_and, and_false, or_false, false_or, Int.reduceEq, Int.reduceSub, Int.reduceAdd, Int.reduceMul, Nat.reduceMul, c3, cn, aPower, aRowOf, hb, k0, k1, Int.toNat_natCast]
      refine ⟨⟨ns.length, by omega, by omega⟩, ?_⟩
      exact ok _ ns.length (by omega) (by omega) (by omega) _ (hk.le (by omega))
    have v : way = 4 ∨ way = 5 ∨ way = 6 := by omega
    have pw : b ^ (ns.length + 1) = b ^ ns.length * b := Int.pow_succ _ _
    have pw2 : b ^ ns.length * 2 ≤ b ^ ns.length * b := Int.mul_le_mul_of_nonneg_left hb1 (by omega)
    have pw3 : b ^ 1 ≤ b ^ ns.length := ipow_le (by omega) hp
    rw [Int.pow_one] at pw3
    have fin : ∀ d : Int, 0 ≤ wor b ns + d → wor b ns + d < b ^ (ns.length + 1) → (base_ b ∧ (∃ k, wor b ns + d < b ^ k ∧ k ≤ 50000) ∧ if ((digs b (wor b ns + d)).length : Int) < 41 then Qa (D.tup ((digs b (wor b ns + d)).map D.int)) ω else Qa (D.tup (ns.map D.int)) ω) := fun d d0 d1 => by
      refine ⟨hb, ⟨_, d1, by omega⟩, ?_⟩
      split
      case isTrue c => exact q _ _ (digs_ok hb1 d0 d1).1 (by omega) (hk.le (by omega))
      case isFalse => exact q _ _ hr hl (hk.le (by omega))
    rcases v with rfl | rfl | rfl
    · have a : atI [D.int 1, D.int (-1), D.int b] 0 = some (D.int 1) := rfl
      simp -implicitDefEqProofs only [MR.sNil, MR.sSeq, MR.sDrop, MR.sRet_e, MR.sRet_f, MR.sRetN, MR.sBreak, MR.sCont, MR.sIf, MR.sSet, MR.sOwn, MR.sAsg, MR.sPar, MR.sAug, MR.sFrz, MR.sApp, MR.sPut, MR.sExt, MR.aName, MR.aTup, MR.aNil, MR.aCons, MR.frz,
        MR.gVar, MR.gC, MR.gOp, MR.gB, MR.bK, MR.gTru, MR.gNotT, MR.gAndT, MR.gOrT, MR.gAndV, MR.gOrV, MR.gNotV, MR.gIf, MR.gChain, MR.gNil, MR.gCons, MR.gTup, MR.gLst, MR.gFz, MR.gOwn, MR.gAsL, MR.gNo, MR.gPart, MR.gSl, MR.gSlF, MR.gUn, MR.gIxL, MR.gFn, MR.gLenL, MR.gYes,
        MR.fAddI, MR.fSub, MR.fDiv, MR.fMod, MR.fPow, MR.fLe, MR.fGt, MR.fGe, MR.fIs, MR.fIsN, MR.fNeg, MR.fMin, MR.fMax, MR.fDivmod, MR.fSum, MR.fAll, MR.fRepr, MR.fIsi, MR.tyD, MR.dInt, MR.dBool, MR.dTup, MR.dStr, MR.dLst,
        MR.gDkT, MR.gDkS, MR.gDkNe, MR.gDkPop, MR.sDkApp, MR.sDkPut, MR.gScr, MR.sDeck, MR.gCall, MR.sel, MR.sFor, MR.sForR1, MR.sForR2, MR.sWhile, MR.sForE, MR.sAugP, MR.gRepL, MR.gCatL, MR.gComp, MR.gCompR, MR.startA, MR.wipeA, MR.sNever, MR.gNever, MR.tNev, MR.sAsg2, MR.fMulS_str, MR.fIntS_str, MR.sParO, MR.sForG, MR.gCompG, MR.iSeqG, MR.iR1G, MR.iR2G, MR.iZipG, MR.iEnumG, MR.iEnumLG, MR.iRevG,
        MR.fTru_bl, MR.fTru_non, MR.fTru_int, MR.fTru_str, MR.fTru_lst, MR.fTru_tup, MR.fAdd_int, MR.fAdd_str, MR.fAdd_tup, MR.fAdd_lst, MR.fMul_int, MR.fMul_tup, MR.fMul_lst, MR.fEq_int, MR.fEq_str, MR.fEq_bl, MR.fEq_tup_tup, MR.fEq_tup_lst, MR.fEq_tup_int, MR.fEq_tup_non, MR.fEq_tup_str, MR.fEq_tup_bl, MR.fEq_lst_tup, MR.fEq_lst_lst, MR.fEq_lst_int, MR.fEq_lst_non, MR.fEq_lst_str, MR.fEq_lst_bl, MR.fEq_int_tup, MR.fEq_int_lst, MR.fEq_int_non, MR.fEq_int_str, MR.fEq_int_bl, MR.fEq_non_tup, MR.fEq_non_lst, MR.fEq_non_int, MR.fEq_non_non, MR.fEq_non_str, MR.fEq_non_bl, MR.fEq_str_tup, MR.fEq_str_lst, MR.fEq_str_int, MR.fEq_str_non, MR.fEq_str_bl, MR.fEq_bl_tup, MR.fEq_bl_lst, MR.fEq_bl_int, MR.fEq_bl_non, MR.fEq_bl_str, MR.fNe_int, MR.fNe_str, MR.fNe_bl, MR.fNe_tup_tup, MR.fNe_tup_lst, MR.fNe_tup_int, MR.fNe_tup_non, MR.fNe_tup_str, MR.fNe_tup_bl, MR.fNe_lst_tup, MR.fNe_lst_lst, MR.fNe_lst_int, MR.fNe_lst_non, MR.fNe_lst_str, MR.fNe_lst_bl, MR.fNe_int_tup, MR.fNe_int_lst, MR.fNe_int_non, MR.fNe_int_str, MR.fNe_int_bl, MR.fNe_non_tup, MR.fNe_non_lst, MR.fNe_non_int, MR.fNe_non_non, MR.fNe_non_str, MR.fNe_non_bl, MR.fNe_str_tup, MR.fNe_str_lst, MR.fNe_str_int, MR.fNe_str_non, MR.fNe_str_bl, MR.fNe_bl_tup, MR.fNe_bl_lst, MR.fNe_bl_int, MR.fNe_bl_non, MR.fNe_bl_str, MR.fLt_int, MR.fIx_tup, MR.fSl_tup, MR.fLen_tup, MR.fTuple_tup, MR.fRev_tup, MR.fIx_lst, MR.fSl_lst, MR.fLen_lst, MR.fTuple_lst, MR.fRev_lst, MR.fIx_str, MR.fSl_str, MR.fLen_str, MR.fInt_int, MR.fInt_bl,
        List.map_cons, List.map_nil, List.cons_append, List.nil_append, List.append_nil, List.length_cons, List.length_nil, List.replicate_succ, List.replicate_zero, List.set_cons_zero, List.set_cons_succ, List.getElem?_cons_zero, List.getElem?_cons_succ, List.getD_cons_zero, List.getD_cons_succ, Nat.reduceAdd, Nat.reduceSub, Nat.zero_add, Option.some.injEq, reduceIte, Bool.not_true, Bool.not_false, true_and, and_true, true_implies, false_implies, implies_true, MR.sRaise, MR.sTryAs, MR.sTry, MR.gIsE, PySem.W.kitAny, PySem.Value.ref.injEq, MR.sStar, MR.aSeq, MR.seqD, MR.gStp, List.take_succ_cons, List.take_zero, List.drop_succ_cons, List.drop_zero, MR.sl, MR.aFor_nil, MR.aComp_nil, Int.zero_add, MR.map_int_inj, MR.nil_map_int, MR.cons_map_int, List.map_eq_nil_iff, MR.eqOk_row, MR.eqOk_rowL, MR.eqOk_nil, MR.nil_eq, MR.nil_deq, MR.deq_row, MR.deq_rowL, MR.deq_nilr, MR.deq_nill, MR.deq_nils, MR.rng_zero, MR.isE_map, List.length_map, List.length_append, List.length_reverse,
        Nat.reduceLeDiff, Nat.reduceLT, Int.reduceLE, Int.reduceLT, Int.reducePow, Int.reduceNeg, Int.toNat_zero, Int.reduceToNat, Bool.not_eq_eq_eq_not, Bool.not_eq_true', decide_eq_false_iff_not, decide_eq_true_eq, Bool.false_eq_true, ite_not, ite_false, ite_true, decide_true, decide_false, not_true_eq_false, not_false_eq_true, List.cons.injEq, MR.D.tup.injEq, MR.D.lst.injEq, MR.D.int.injEq, MR.D.str.injEq, MR.D.bl.injEq, MR.D.adr.injEq, MR.Ent.d.injEq, MR.Ent.own.injEq, Option.some.injEq, Prod.mk.injEq, MR.fl_repx, List.length_replicate, exists_eq, exists_eq', and_assoc, exists_and_left, exists_and_right, exists_eq_left, exists_eq_left', exists_eq_right, exists_eq_right', ne_eq, eq_self, and_self, reduceCtorEq, false_and, and_false, or_false, false_or, Int.reduceEq, Int.reduceSub, Int.reduceAdd, Int.reduceMul, Nat.reduceMul, cn, aRowOf, a]
      exact fin 1 (by omega) (by omega)
    · have a : atI [D.int 1, D.int (-1), D.int b] 1 = some (D.int (-1)) := rfl
      simp -implicitDefEqProofs only [MR.sNil, MR.sSeq, MR.sDrop, MR.sRet_e, MR.sRet_f, MR.sRetN, MR.sBreak, MR.sCont, MR.sIf, MR.sSet, MR.sOwn, MR.sAsg, MR.sPar, MR.sAug, MR.sFrz, MR.sApp, MR.sPut, MR.sExt, MR.aName, MR.aTup, MR.aNil, MR.aCons, MR.frz,
        MR.gVar, MR.gC, MR.gOp, MR.gB, MR.bK, MR.gTru, MR.gNotT, MR.gAndT, MR.gOrT, MR.gAndV, MR.gOrV, MR.gNotV, MR.gIf, MR.gChain, MR.gNil, MR.gCons, MR.gTup, MR.gLst, MR.gFz, MR.gOwn, MR.gAsL, MR.gNo, MR.gPart, MR.gSl, MR.gSlF, MR.gUn, MR.gIxL, MR.gFn, MR.gLenL, MR.gYes,
        MR.fAddI, MR.fSub, MR.fDiv, MR.fMod, MR.fPow, MR.fLe, MR.fGt, MR.fGe, MR.fIs, MR.fIsN, MR.fNeg, MR.fMin, MR.fMax, MR.fDivmod, MR.fSum, MR.fAll, MR.fRepr, MR.fIsi, MR.tyD, MR.dInt, MR.dBool, MR.dTup, MR.dStr, MR.dLst,
        MR.gDkT, MR.gDkS, MR.gDkNe, MR.gDkPop, MR.sDkApp, MR.sDkPut, MR.gScr, MR.sDeck, MR.gCall, MR.sel, MR.sFor, MR.sForR1, MR.sForR2, MR.sWhile, MR.sForE, MR.sAugP, MR.gRepL, MR.gCatL, MR.gComp, MR.gCompR, MR.startA, MR.wipeA, MR.sNever, MR.gNever, MR.tNev, MR.sAsg2, MR.fMulS_str, MR.fIntS_str, MR.sParO, MR.sForG, MR.gCompG, MR.iSeqG, MR.iR1G, MR.iR2G, MR.iZipG, MR.iEnumG, MR.iEnumLG, MR.iRevG,
        MR.fTru_bl, MR.fTru_non, MR.fTru_int, MR.fTru_str, MR.fTru_lst, MR.fTru_tup, MR.fAdd_int, MR.fAdd_str, MR.fAdd_tup, MR.fAdd_lst, MR.fMul_int, MR.fMul_tup, MR.fMul_lst, MR.fEq_int, MR.fEq_str, MR.fEq_bl, MR.fEq_tup_tup, MR.fEq_tup_lst, MR.fEq_tup_int, MR.fEq_tup_non, MR.fEq_tup_str, MR.fEq_tup_bl, MR.fEq_lst_tup, MR.fEq_lst_lst, MR.fEq_lst_int, MR.fEq_lst_non, MR.fEq_lst_str, MR.fEq_lst_bl, MR.fEq_int_tup, MR.fEq_int_lst, MR.fEq_int_non, MR.fEq_int_str, MR.fEq_int_bl, MR.fEq_non_tup, MR.fEq_non_lst, MR.fEq_non_int, MR.fEq_non_non, MR.fEq_non_str, MR.fEq_non_bl, MR.fEq_str_tup, MR.fEq_str_lst, MR.fEq_str_int, MR.fEq_str_non, MR.fEq_str_bl, MR.fEq_bl_tup, MR.fEq_bl_lst, MR.fEq_bl_int, MR.fEq_bl_non, MR.fEq_bl_str, MR.fNe_int, MR.fNe_str, MR.fNe_bl, MR.fNe_tup_tup, MR.fNe_tup_lst, MR.fNe_tup_int, MR.fNe_tup_non, MR.fNe_tup_str, MR.fNe_tup_bl, MR.fNe_lst_tup, MR.fNe_lst_lst, MR.fNe_lst_int, MR.fNe_lst_non, MR.fNe_lst_str, MR.fNe_lst_bl, MR.fNe_int_tup, MR.fNe_int_lst, MR.fNe_int_non, MR.fNe_int_str, MR.fNe_int_bl, MR.fNe_non_tup, MR.fNe_non_lst, MR.fNe_non_int, MR.fNe_non_non, MR.fNe_non_str, MR.fNe_non_bl, MR.fNe_str_tup, MR.fNe_str_lst, MR.fNe_str_int, MR.fNe_str_non, MR.fNe_str_bl, MR.fNe_bl_tup, MR.fNe_bl_lst, MR.fNe_bl_int, MR.fNe_bl_non, MR.fNe_bl_str, MR.fLt_int, MR.fIx_tup, MR.fSl_tup, MR.fLen_tup, MR.fTuple_tup, MR.fRev_tup, MR.fIx_lst, MR.fSl_lst, MR.fLen_lst, MR.fTuple_lst, MR.fRev_lst, MR.fIx_str, MR.fSl_str, MR.fLen_str, MR.fInt_int, MR.fInt_bl,
        List.map_cons, List.map_nil, List.cons_append, List.nil_append, List.append_nil, List.length_cons, List.length_nil, List.replicate_succ, List.replicate_zero, List.set_cons_zero, List.set_cons_succ, List.getElem?_cons_zero, List.getElem?_cons_succ, List.getD_cons_zero, List.getD_cons_succ, Nat.reduceAdd, Nat.reduceSub, Nat.zero_add, Option.some.injEq, reduceIte, Bool.not_true, Bool.not_false, true_and, and_true, true_implies, false_implies, implies_true, MR.sRaise, MR.sTryAs, MR.sTry, MR.gIsE, PySem.W.kitAny, PySem.Value.ref.injEq, MR.sStar, MR.aSeq, MR.seqD, MR.gStp, List.take_succ_cons, List.take_zero, List.drop_succ_cons, List.drop_zero, MR.sl, MR.aFor_nil, MR.aComp_nil, Int.zero_add, MR.map_int_inj, MR.nil_map_int, MR.cons_map_int, List.map_eq_nil_iff, MR.eqOk_row, MR.eqOk_rowL, MR.eqOk_nil, MR.nil_eq, MR.nil_deq, MR.deq_row, MR.deq_rowL, MR.deq_nilr, MR.deq_nill, MR.deq_nils, MR.rng_zero, MR.isE_map, List.length_map, List.length_append, List.length_reverse,
        Nat.reduceLeDiff, Nat.reduceLT, Int.reduceLE, Int.reduceLT, Int.reducePow, Int.reduceNeg, Int.toNat_zero, Int.reduceToNat, Bool.not_eq_eq_eq_not, Bool.not_eq_true', decide_eq_false_iff_not, decide_eq_true_eq, Bool.false_eq_true, ite_not, ite_false, ite_true, decide_true, decide_false, not_true_eq_false, not_false_eq_true, List.cons.injEq, MR.D.tup.injEq, MR.D.lst.injEq, MR.D.int.injEq, MR.D.str.injEq, MR.D.bl.injEq, MR.D.adr.injEq, MR.Ent.d.injEq, MR.Ent.own.injEq, Option.some.injEq, Prod.mk.injEq, MR.fl_repx, List.length_replicate, exists_eq, exists_eq', and_assoc, exists_and_left, exists_and_right, exists_eq_left, exists_eq_left', exists_eq_right, exists_eq_right', ne_eq, eq_self, and_self, reduceCtorEq, false_and, and_false, or_false, false_or, Int.reduceEq, Int.reduceSub, Int.reduceAdd, Int.reduceMul, Nat.reduceMul, cn, aRowOf, a]
      exact fin (-1) (by omega) (by omega)
    · have a : atI [D.int 1, D.int (-1), D.int b] 2 = some (D.int b) := rfl
      simp -implicitDefEqProofs only [MR.sNil, MR.sSeq, MR.sDrop, MR.sRet_e, MR.sRet_f, MR.sRetN, MR.sBreak, MR.sCont, MR.sIf, MR.sSet, MR.sOwn, MR.sAsg, MR.sPar, MR.sAug, MR.sFrz, MR.sApp, MR.sPut, MR.sExt, MR.aName, MR.aTup, MR.aNil, MR.aCons, MR.frz,
        MR.gVar, MR.gC, MR.gOp, MR.gB, MR.bK, MR.gTru, MR.gNotT, MR.gAndT, MR.gOrT, MR.gAndV, MR.gOrV, MR.gNotV, MR.gIf, MR.gChain, MR.gNil, MR.gCons, MR.gTup, MR.gLst, MR.gFz, MR.gOwn, MR.gAsL, MR.gNo, MR.gPart, MR.gSl, MR.gSlF, MR.gUn, MR.gIxL, MR.gFn, MR.gLenL, MR.gYes,
        MR.fAddI, MR.fSub, MR.fDiv, MR.fMod, MR.fPow, MR.fLe, MR.fGt, MR.fGe, MR.fIs, MR.fIsN, MR.fNeg, MR.fMin, MR.fMax, MR.fDivmod, MR.fSum, MR.fAll, MR.fRepr, MR.fIsi, MR.tyD, MR.dInt, MR.dBool, MR.dTup, MR.dStr, MR.dLst,
        MR.gDkT, MR.gDkS, MR.gDkNe, MR.gDkPop, MR.sDkApp, MR.sDkPut, MR.gScr, MR.sDeck, MR.gCall, MR.sel, MR.sFor, MR.sForR1, MR.sForR2, MR.sWhile, MR.sForE, MR.sAugP, MR.gRepL, MR.gCatL, MR.gComp, MR.gCompR, MR.startA, MR.wipeA, MR.sNever, MR.gNever, MR.tNev, MR.sAsg2, MR.fMulS_str, MR.fIntS_str, MR.sParO, MR.sForG, MR.gCompG, MR.iSeqG, MR.iR1G, MR.iR2G, MR.iZipG, MR.iEnumG, MR.iEnumLG, MR.iRevG,
        MR.fTru_bl, MR.fTru_non, MR.fTru_int, MR.fTru_str, MR.fTru_lst, MR.fTru_tup, MR.fAdd_int, MR.fAdd_str, MR.fAdd_tup, MR.fAdd_lst, MR.fMul_int, MR.fMul_tup, MR.fMul_lst, MR.fEq_int, MR.fEq_str, MR.fEq_bl, MR.fEq_tup_tup, MR.fEq_tup_lst, MR.fEq_tup_int, MR.fEq_tup_non, MR.fEq_tup_str, MR.fEq_tup_bl, MR.fEq_lst_tup, MR.fEq_lst_lst, MR.fEq_lst_int, MR.fEq_lst_non, MR.fEq_lst_str, MR.fEq_lst_bl, MR.fEq_int_tup, MR.fEq_int_lst, MR.fEq_int_non, MR.fEq_int_str, MR.fEq_int_bl, MR.fEq_non_tup, MR.fEq_non_lst, MR.fEq_non_int, MR.fEq_non_non, MR.fEq_non_str, MR.fEq_non_bl, MR.fEq_str_tup, MR.fEq_str_lst, MR.fEq_str_int, MR.fEq_str_non, MR.fEq_str_bl, MR.fEq_bl_tup, MR.fEq_bl_lst, MR.fEq_bl_int, MR.fEq_bl_non, MR.fEq_bl_str, MR.fNe_int, MR.fNe_str, MR.fNe_bl, MR.fNe_tup_tup, MR.fNe_tup_lst, MR.fNe_tup_int, MR.fNe_tup_non, MR.fNe_tup_str, MR.fNe_tup_bl, MR.fNe_lst_tup, MR.fNe_lst_lst, MR.fNe_lst_int, MR.fNe_lst_non, MR.fNe_lst_str, MR.fNe_lst_bl, MR.fNe_int_tup, MR.fNe_int_lst, MR.fNe_int_non, MR.fNe_int_str, MR.fNe_int_bl, MR.fNe_non_tup, MR.fNe_non_lst, MR.fNe_non_int, MR.fNe_non_non, MR.fNe_non_str, MR.fNe_non_bl, MR.fNe_str_tup, MR.fNe_str_lst, MR.fNe_str_int, MR.fNe_str_non, MR.fNe_str_bl, MR.fNe_bl_tup, MR.fNe_bl_lst, MR.fNe_bl_int, MR.fNe_bl_non, MR.fNe_bl_str, MR.fLt_int, MR.fIx_tup, MR.fSl_tup, MR.fLen_tup, MR.fTuple_tup, MR.fRev_tup, MR.fIx_lst, MR.fSl_lst, MR.fLen_lst, MR.fTuple_lst, MR.fRev_lst, MR.fIx_str, MR.fSl_str, MR.fLen_str, MR.fInt_int, MR.fInt_bl,
        List.map_cons, List.map_nil, List.cons_append, List.nil_append, List.append_nil, List.length_cons, List.length_nil, List.replicate_succ, List.replicate_zero, List.set_cons_zero, List.set_cons_succ, List.getElem?_cons_zero, List.getElem?_cons_succ, List.getD_cons_zero, List.getD_cons_succ, Nat.reduceAdd, Nat.reduceSub, Nat.zero_add, Option.some.injEq, reduceIte, Bool.not_true, Bool.not_false, true_and, and_true, true_implies, false_implies, implies_true, MR.sRaise, MR.sTryAs, MR.sTry, MR.gIsE, PySem.W.kitAny, PySem.Value.ref.injEq, MR.sStar, MR.aSeq, MR.seqD, MR.gStp, List.take_succ_cons, List.take_zero, List.drop_succ_cons, List.drop_zero, MR.sl, MR.aFor_nil, MR.aComp_nil, Int.zero_add, MR.map_int_inj, MR.nil_map_int, MR.cons_map_int, List.map_eq_nil_iff, MR.eqOk_row, MR.eqOk_rowL, MR.eqOk_nil, MR.nil_eq, MR.nil_deq, MR.deq_row, MR.deq_rowL, MR.deq_nilr, MR.deq_nill, MR.deq_nils, MR.rng_zero, MR.isE_map, List.length_map, List.length_append, List.length_reverse,
        Nat.reduceLeDiff, Nat.reduceLT, Int.reduceLE, Int.reduceLT, Int.reducePow, Int.reduceNeg, Int.toNat_zero, Int.reduceToNat, Bool.not_eq_eq_eq_not, Bool.not_eq_true', decide_eq_false_iff_not, decide_eq_true_eq, Bool.false_eq_true, ite_not, ite_false, ite_true, decide_true, decide_false, not_true_eq_false, not_false_eq_true, List.cons.injEq, MR.D.tup.injEq, MR.D.lst.injEq, MR.D.int.injEq, MR.D.str.injEq, MR.D.bl.injEq, MR.D.adr.injEq, MR.Ent.d.injEq, MR.Ent.own.injEq, Option.some.injEq, Prod.mk.injEq, MR.fl_repx, List.length_replicate, exists_eq, exists_eq', and_assoc, exists_and_left, exists_and_right, exists_eq_left, exists_eq_left', exists_eq_right, exists_eq_right', ne_eq, eq_self, and_self, reduceCtorEq, false_and, and_false, or_false, false_or, Int.reduceEq, Int.reduceSub, Int.reduceAdd, Int.reduceMul, Nat.reduceMul, cn, aRowOf, a]
      exact fin b (by omega) (by omega)
  refine ⟨fd, ⟨t.g__law_near, F.kp, ok⟩, ?_⟩
  · refine bnd_of F 4 [] [] [0, 1, 2, 3] [] (by simp) rfl ?_
    intro kV doc pm an cdv ct D us mv ws h1 h2 h3 h4
    match us, mv, ws, h1, h2, h3 with
    | [u0, u1, u2, u3], [], [], _, _, _ => exact rfl
theorem kn_is_less (t : T K mg) : ∃ fd, Known PR w K mg base 1 "is_less" (He.ga K "is_less") fd ["one", "other"] DWd 2 aIsLess ∧ Bnd K fd ["one", "other"] 2 [] [0, 1] [] ∧ Bnd K fd ["one", "other"] 0 ["other", "one"] [1, 0] [] := by
  obtain ⟨fd, F⟩ := t.f_is_less
  have ok : FnG PR w K mg base (L2.CX PR w) 1 (He.ga K "is_less") fd ["one", "other"] (toSp DWd K 2 aIsLess) := by
    refine fn_ok (N := n_is_less) DWd aIsLess F S_is_less fun cdv A outer s H E hr hG => ?_
    have S := S_is_less
    refine ⟨_, (gss_cons (gs_if (gt_cmp (m_ne (un64 hr)) op2_ne (nomark _) (ge_fn call_len c_len t.z_len (ga_cons (ge_var 0) ga_nil)) (ge_fn call_len c_len t.z_len (ga_cons (ge_var 1) ga_nil)))
      (gss_one (gs_ret (ge_cmp (m_lt (un0 hr)) op2_lt (nomark _) (ge_fn call_len c_len t.z_len (ga_cons (ge_var 0) ga_nil)) (ge_fn call_len c_len t.z_len (ga_cons (ge_var 1) ga_nil)))))
      gss_nil)
      (gss_one (gs_ret (ge_cmp (m_lt (un0 hr)) op2_lt (nomark _) (ge_rev (ge_var 0)) (ge_rev (ge_var 1)))))), ?_⟩
    clear S hr hG F t
    rintro ds ω Qa Ea ⟨xs, ys, b, rfl, hb, h1, h2, q⟩ _
    simp -implicitDefEqProofs only [MR.sNil, MR.sSeq, MR.sDrop, MR.sRet_e, MR.sRet_f, MR.sRetN, MR.sBreak, MR.sCont, MR.sIf, MR.sSet, MR.sOwn, MR.sAsg, MR.sPar, MR.sAug, MR.sFrz, MR.sApp, MR.sPut, MR.sExt, MR.aName, MR.aTup, MR.aNil, MR.aCons, MR.frz,
        MR.gVar, MR.gC, MR.gOp, MR.gB, MR.bK, MR.gTru, MR.gNotT, MR.gAndT, MR.gOrT, MR.gAndV, MR.gOrV, MR.gNotV, MR.gIf, MR.gChain, MR.gNil, MR.gCons, MR.gTup, MR.gLst, MR.gFz, MR.gOwn, MR.gAsL, MR.gNo, MR.gPart, MR.gSl, MR.gSlF, MR.gUn, MR.gIxL, MR.gFn, MR.gLenL, MR.gYes,
        MR.fAddI, MR.fSub, MR.fDiv, MR.fMod, MR.fPow, MR.fLe, MR.fGt, MR.fGe, MR.fIs, MR.fIsN, MR.fNeg, MR.fMin, MR.fMax, MR.fDivmod, MR.fSum, MR.fAll, MR.fRepr, MR.fIsi, MR.tyD, MR.dInt, MR.dBool, MR.dTup, MR.dStr, MR.dLst,
        MR.gDkT, MR.gDkS, MR.gDkNe, MR.gDkPop, MR.sDkApp, MR.sDkPut, MR.gScr, MR.sDeck, MR.gCall, MR.sel, MR.sFor, MR.sForR1, MR.sForR2, MR.sWhile, MR.sForE, MR.sAugP, MR.gRepL, MR.gCatL, MR.gComp, MR.gCompR, MR.startA, MR.wipeA, MR.sNever, MR.gNever, MR.tNev, MR.sAsg2, MR.fMulS_str, MR.fIntS_str, MR.sParO, MR.sForG, MR.gCompG, MR.iSeqG, MR.iR1G, MR.iR2G, MR.iZipG, MR.iEnumG, MR.iEnumLG, MR.iRevG,
        MR.fTru_bl, MR.fTru_non, MR.fTru_int, MR.fTru_str, MR.fTru_lst, MR.fTru_tup, MR.fAdd_int, MR.fAdd_str, MR.fAdd_tup, MR.fAdd_lst, MR.fMul_int, MR.fMul_tup, MR.fMul_lst, MR.fEq_int, MR.fEq_str, MR.fEq_bl, MR.fEq_tup_tup, MR.fEq_tup_lst, MR.fEq_tup_int, MR.fEq_tup_non, MR.fEq_tup_str, MR.fEq_tup_bl, MR.fEq_lst_tup, MR.fEq_lst_lst, MR.fEq_lst_int, MR.fEq_lst_non, MR.fEq_lst_str, MR.fEq_lst_bl, MR.fEq_int_tup, MR.fEq_int_lst, MR.fEq_int_non, MR.fEq_int_str, MR.fEq_int_bl, MR.fEq_non_tup, MR.fEq_non_lst, MR.fEq_non_int, MR.fEq_non_non, MR.fEq_non_str, MR.fEq_non_bl, MR.fEq_str_tup, MR.fEq_str_lst, MR.fEq_str_int, MR.fEq_str_non, MR.fEq_str_bl, MR.fEq_bl_tup, MR.fEq_bl_lst, MR.fEq_bl_int, MR.fEq_bl_non, MR.fEq_bl_str, MR.fNe_int, MR.fNe_str, MR.fNe_bl, MR.fNe_tup_tup, MR.fNe_tup_lst, MR.fNe_tup_int, MR.fNe_tup_non, MR.fNe_tup_str, MR.fNe_tup_bl, MR.fNe_lst_tup, MR.fNe_lst_lst, MR.fNe_lst_int, MR.fNe_lst_non, MR.fNe_lst_str, MR.fNe_lst_bl, MR.fNe_int_tup, MR.fNe_int_lst, MR.fNe_int_non, MR.fNe_int_str, MR.fNe_int_bl, MR.fNe_non_tup, MR.fNe_non_lst, MR.fNe_non_int, MR.fNe_non_non, MR.fNe_non_str, MR.fNe_non_bl, MR.fNe_str_tup, MR.fNe_str_lst, MR.fNe_str_int, MR.fNe_str_non, MR.fNe_str_bl, MR.fNe_bl_tup, MR.fNe_bl_lst, MR.fNe_bl_int, MR.fNe_bl_non, MR.fNe_bl_str, MR.fLt_int, MR.fIx_tup, MR.fSl_tup, MR.fLen_tup, MR.fTuple_tup, MR.fRev_tup, MR.fIx_lst, MR.fSl_lst, MR.fLen_lst, MR.fTuple_lst, MR.fRev_lst, MR.fIx_str, MR.fSl_str, MR.fLen_str, MR.fInt_int, MR.fInt_bl,
        List.map_cons, List.map_nil, List.cons_append, List.nil_append, List.append_nil, List.length_cons, List.length_nil, List.replicate_succ, List.replicate_zero, List.set_cons_zero, List.set_cons_succ, List.getElem?_cons_zero, List.getElem?_cons_succ, List.getD_cons_zero, List.getD_cons_succ, Nat.reduceAdd, Nat.reduceSub, Nat.zero_add, Option.some.injEq, reduceIte, Bool.not_true, Bool.not_false, true_and, and_true, true_implies, false_implies, implies_true, MR.sRaise, MR.sTryAs, MR.sTry, MR.gIsE, PySem.W.kitAny, PySem.Value.ref.injEq, MR.sStar, MR.aSeq, MR.seqD, MR.gStp, List.take_succ_cons, List.take_zero, List.drop_succ_cons, List.drop_zero, MR.sl, MR.aFor_nil, MR.aComp_nil, Int.zero_add, MR.map_int_inj, MR.nil_map_int, MR.cons_map_int, List.map_eq_nil_iff, MR.eqOk_row, MR.eqOk_rowL, MR.eqOk_nil, MR.nil_eq, MR.nil_deq, MR.deq_row, MR.deq_rowL, MR.deq_nilr, MR.deq_nill, MR.deq_nils, MR.rng_zero, MR.isE_map, List.length_map, List.length_append, List.length_reverse,
        Nat.reduceLeDiff, Nat.reduceLT, Int.reduceLE, Int.reduceLT, Int.reducePow, Int.reduceNeg, Int.toNat_zero, Int.reduceToNat, Bool.not_eq_eq_eq_not, Bool.not_eq_true', decide_eq_false_iff_not, decide_eq_true_eq, Bool.false_eq_true, ite_not, ite_false, ite_true, decide_true, decide_false, not_true_eq_false, not_false_eq_true, List.cons.injEq, MR.D.tup.injEq, MR.D.lst.injEq, MR.D.int.injEq, MR.D.str.injEq, MR.D.bl.injEq, MR.D.adr.injEq, MR.Ent.d.injEq, MR.Ent.own.injEq, Option.some.injEq, Prod.mk.injEq, MR.fl_repx, List.length_replicate, exists_eq, exists_eq', and_assoc, exists_and_left, exists_and_right, exists_eq_left, exists_eq_left', exists_eq_right, exists_eq_right', ne_eq, eq_self, and_self, reduceCtorEq, false_and, and_false, or_false, false_or, Int.reduceEq, Int.reduceSub, Int.reduceAdd, Int.reduceMul, Nat.reduceMul, asIntsRev]
    split
    case isTrue c =>
      have c : xs.length = ys.length := by omega
      simp only [fLt, asIntsRev]
      rw [lexLt_rev hb xs.reverse ys.reverse (by simp [c]) (fun n hn => h1.lim n (List.mem_reverse.mp hn)) (fun n hn => h2.lim n (List.mem_reverse.mp hn)), List.reverse_reverse, List.reverse_reverse]
      exact q
    case isFalse c =>
      have e : decide ((xs.length : Int) < (ys.length : Int)) = decide (wor b xs < wor b ys) := decide_eq_decide.mpr ⟨fun z => row_longer hb h1.lim h2 (by omega), fun z => by
        have : ¬ ys.length < xs.length := fun y => by have := row_longer hb h2.lim h1 y; omega
        omega⟩
      rw [e]
      exact q
  refine ⟨fd, ⟨t.g_is_less, F.kp, ok⟩, ?_, ?_⟩
  · refine bnd_of F 2 [] [] [0, 1] [] (by simp) rfl ?_
    intro kV doc pm an cdv ct D us mv ws h1 h2 h3 h4
    match us, mv, ws, h1, h2, h3 with
    | [u0, u1], [], [], _, _, _ => exact rfl
  · refine bnd_of F 0 ["other", "one"] [] [1, 0] [] (by simp) rfl ?_
    intro kV doc pm an cdv ct D us mv ws h1 h2 h3 h4
    match us, mv, ws, h1, h2, h3 with
    | [], [], [v0, v1], _, _, _ => exact rfl
theorem kn_without_noughts (t : T K mg) : ∃ fd, Known PR w K mg base 1 "without_noughts" (He.ga K "without_noughts") fd ["limbs"] DWd 1 aWithout ∧ Bnd K fd ["limbs"] 1 [] [0] [] := by
  obtain ⟨fd, F⟩ := t.f_without_noughts
  have ok : FnG PR w K mg base (L2.CX PR w) 1 (He.ga K "without_noughts") fd ["limbs"] (toSp DWd K 1 aWithout) := by
    refine fn_ok (N := n_without_noughts) DWd aWithout F S_without_noughts fun cdv A outer s H E hr hG => ?_
    have S := S_without_noughts
    refine ⟨_, (gss_cons (gs_set 1 S.nd (ge_fn call_len c_len t.z_len (ga_cons (ge_var 0) ga_nil)))
      (gss_cons (gs_while po_cx (GW.gt (gw_and (gt_cmp op_gt op2_gt (nomark _) (ge_var 1) ge_int) (gw_and1 (gt_cmp (m_eq (un64 hr)) op2_eq (nomark _) (ge_ix (ge_var 0) (ge_sub (ge_var 1) ge_int)) ge_int))))
      (gss_one (gs_aug 1 S.nd ip_sub op2_sub ge_int)))
      (gss_one (gs_ret (ge_ty call_tuple_of c_tuple t.z_tuple (ga_cons (ge_slice (ge_var 0) go_none (go_some (ge_var 1))) ga_nil)))))), ?_⟩
    clear S hr hG F t
    rintro ds ω Qa Ea ⟨ns, rfl | rfl, q⟩ _
    · simp (maxSteps := 2000000) only [MR.sNil, MR.sSeq, MR.sDrop, MR.sRet, MR.sRetN, MR.sBreak, MR.sCont, MR.sIf, MR.sSet, MR.sOwn, MR.sAsg, MR.sPar, MR.sAug, MR.sFrz, MR.sApp, MR.sPut, MR.sExt, MR.aName, MR.aTup, MR.aNil, MR.aCons, MR.frz,
        MR.gVar, MR.gC, MR.gOp, MR.gB, MR.bK, MR.gTru, MR.gNotT, MR.gAndT, MR.gOrT, MR.gAndV, MR.gOrV, MR.gNotV, MR.gIf, MR.gChain, MR.gNil, MR.gCons, MR.gTup, MR.gLst, MR.gFz, MR.gOwn, MR.gAsL, MR.gNo, MR.gPart, MR.gSl, MR.gSlF, MR.gUn, MR.gIxL, MR.gFn, MR.gLenL, MR.gYes,
        MR.fAddI, MR.fSub, MR.fDiv, MR.fMod, MR.fPow, MR.fLe, MR.fGt, MR.fGe, MR.fIs, MR.fIsN, MR.fNeg, MR.fMin, MR.fMax, MR.fDivmod, MR.fSum, MR.fAll, MR.fRepr, MR.fIsi, MR.tyD, MR.dInt, MR.dBool, MR.dTup, MR.dStr, MR.dLst,
        MR.gDkT, MR.gDkS, MR.gDkNe, MR.gDkPop, MR.sDkApp, MR.sDkPut, MR.gScr, MR.sDeck, MR.gCall, MR.sel, MR.sFor, MR.sForR1, MR.sForR2, MR.sWhile, MR.sForE, MR.sAugP, MR.gRepL, MR.gCatL, MR.gComp, MR.gCompR, MR.startA, MR.wipeA, MR.sNever, MR.gNever, MR.tNev, MR.sAsg2, MR.fMulS_str, MR.fIntS_str, MR.sParO, MR.sForG, MR.gCompG, MR.iSeqG, MR.iR1G, MR.iR2G, MR.iZipG, MR.iEnumG, MR.iEnumLG, MR.iRevG,
        MR.fTru_bl, MR.fTru_non, MR.fTru_int, MR.fTru_str, MR.fTru_lst, MR.fTru_tup, MR.fAdd_int, MR.fAdd_str, MR.fAdd_tup, MR.fAdd_lst, MR.fMul_int, MR.fMul_tup, MR.fMul_lst, MR.fEq_int, MR.fEq_str, MR.fEq_bl, MR.fEq_tup_tup, MR.fEq_tup_lst, MR.fEq_tup_int, MR.fEq_tup_non, MR.fEq_tup_str, MR.fEq_tup_bl, MR.fEq_lst_tup, MR.fEq_lst_lst, MR.fEq_lst_int, MR.fEq_lst_non, MR.fEq_lst_str, MR.fEq_lst_bl, MR.fEq_int_tup, MR.fEq_int_lst, MR.fEq_int_non, MR.fEq_int_str, MR.fEq_int_bl, MR.fEq_non_tup, MR.fEq_non_lst, MR.fEq_non_int, MR.fEq_non_non, MR.fEq_non_str, MR.fEq_non_bl, MR.fEq_str_tup, MR.fEq_str_lst, MR.fEq_str_int, MR.fEq_str_non, MR.fEq_str_bl, MR.fEq_bl_tup, MR.fEq_bl_lst, MR.fEq_bl_int, MR.fEq_bl_non, MR.fEq_bl_str, MR.fNe_int, MR.fNe_str, MR.fNe_bl, MR.fNe_tup_tup, MR.fNe_tup_lst, MR.fNe_tup_int, MR.fNe_tup_non, MR.fNe_tup_str, MR.fNe_tup_bl, MR.fNe_lst_tup, MR.fNe_lst_lst, MR.fNe_lst_int, MR.fNe_lst_non, MR.fNe_lst_str, MR.fNe_lst_bl, MR.fNe_int_tup, MR.fNe_int_lst, MR.fNe_int_non, MR.fNe_int_str, MR.fNe_int_bl, MR.fNe_non_tup, MR.fNe_non_lst, MR.fNe_non_int, MR.fNe_non_non, MR.fNe_non_str, MR.fNe_non_bl, MR.fNe_str_tup, MR.fNe_str_lst, MR.fNe_str_int, MR.fNe_str_non, MR.fNe_str_bl, MR.fNe_bl_tup, MR.fNe_bl_lst, MR.fNe_bl_int, MR.fNe_bl_non, MR.fNe_bl_str, MR.fLt_int, MR.fIx_tup, MR.fSl_tup, MR.fLen_tup, MR.fTuple_tup, MR.fRev_tup, MR.fIx_lst, MR.fSl_lst, MR.fLen_lst, MR.fTuple_lst, MR.fRev_lst, MR.fIx_str, MR.fSl_str, MR.fLen_str, MR.fInt_int, MR.fInt_bl,
        List.map_cons, List.map_nil, List.cons_append, List.nil_append, List.append_nil, List.length_cons, List.length_nil, List.replicate_succ, List.replicate_zero, List.set_cons_zero, List.set_cons_succ, List.getElem?_cons_zero, List.getElem?_cons_succ, List.getD_cons_zero, List.getD_cons_succ, Nat.reduceAdd, Nat.reduceSub, Nat.zero_add, Option.some.injEq, reduceIte, Bool.not_true, Bool.not_false, true_and, and_true, List.length_map]
      refine ⟨fun m' ρ ω' => ω' = ω ∧ ∃ m : Int, ρ = [some (.d (D.tup (ns.map D.int))), some (.d (.int m))] ∧ 0 ≤ m ∧ m ≤ ns.length ∧ strip (ns.take m.toNat) = strip ns ∧ m' = m.toNat, ⟨ns.length, rfl, ns.length, rfl, by omega, by omega, by rw [Int.toNat_natCast, List.take_length], by omega⟩, fun m' ρ ω' ⟨e1, m, e2, m0, ml, e3, e4⟩ => ?_⟩
      subst e1 e2
      simp (maxSteps := 2000000) only [MR.sNil, MR.sSeq, MR.sDrop, MR.sRet, MR.sRetN, MR.sBreak, MR.sCont, MR.sIf, MR.sSet, MR.sOwn, MR.sAsg, MR.sPar, MR.sAug, MR.sFrz, MR.sApp, MR.sPut, MR.sExt, MR.aName, MR.aTup, MR.aNil, MR.aCons, MR.frz,
        MR.gVar, MR.gC, MR.gOp, MR.gB, MR.bK, MR.gTru, MR.gNotT, MR.gAndT, MR.gOrT, MR.gAndV, MR.gOrV, MR.gNotV, MR.gIf, MR.gChain, MR.gNil, MR.gCons, MR.gTup, MR.gLst, MR.gFz, MR.gOwn, MR.gAsL, MR.gNo, MR.gPart, MR.gSl, MR.gSlF, MR.gUn, MR.gIxL, MR.gFn, MR.gLenL, MR.gYes,
        MR.fAddI, MR.fSub, MR.fDiv, MR.fMod, MR.fPow, MR.fLe, MR.fGt, MR.fGe, MR.fIs, MR.fIsN, MR.fNeg, MR.fMin, MR.fMax, MR.fDivmod, MR.fSum, MR.fAll, MR.fRepr, MR.fIsi, MR.tyD, MR.dInt, MR.dBool, MR.dTup, MR.dStr, MR.dLst,
        MR.gDkT, MR.gDkS, MR.gDkNe, MR.gDkPop, MR.sDkApp, MR.sDkPut, MR.gScr, MR.sDeck, MR.gCall, MR.sel, MR.sFor, MR.sForR1, MR.sForR2, MR.sWhile, MR.sForE, MR.sAugP, MR.gRepL, MR.gCatL, MR.gComp, MR.gCompR, MR.startA, MR.wipeA, MR.sNever, MR.gNever, MR.tNev, MR.sAsg2, MR.fMulS_str, MR.fIntS_str, MR.sParO, MR.sForG, MR.gCompG, MR.iSeqG, MR.iR1G, MR.iR2G, MR.iZipG, MR.iEnumG, MR.iEnumLG, MR.iRevG,
        MR.fTru_bl, MR.fTru_non, MR.fTru_int, MR.fTru_str, MR.fTru_lst, MR.fTru_tup, MR.fAdd_int, MR.fAdd_str, MR.fAdd_tup, MR.fAdd_lst, MR.fMul_int, MR.fMul_tup, MR.fMul_lst, MR.fEq_int, MR.fEq_str, MR.fEq_bl, MR.fEq_tup_tup, MR.fEq_tup_lst, MR.fEq_tup_int, MR.fEq_tup_non, MR.fEq_tup_str, MR.fEq_tup_bl, MR.fEq_lst_tup, MR.fEq_lst_lst, MR.fEq_lst_int, MR.fEq_lst_non, MR.fEq_lst_str, MR.fEq_lst_bl, MR.fEq_int_tup, MR.fEq_int_lst, MR.fEq_int_non, MR.fEq_int_str, MR.fEq_int_bl, MR.fEq_non_tup, MR.fEq_non_lst, MR.fEq_non_int, MR.fEq_non_non, MR.fEq_non_str, MR.fEq_non_bl, MR.fEq_str_tup, MR.fEq_str_lst, MR.fEq_str_int, MR.fEq_str_non, MR.fEq_str_bl, MR.fEq_bl_tup, MR.fEq_bl_lst, MR.fEq_bl_int, MR.fEq_bl_non, MR.fEq_bl_str, MR.fNe_int, MR.fNe_str, MR.fNe_bl, MR.fNe_tup_tup, MR.fNe_tup_lst, MR.fNe_tup_int, MR.fNe_tup_non, MR.fNe_tup_str, MR.fNe_tup_bl, MR.fNe_lst_tup, MR.fNe_lst_lst, MR.fNe_lst_int, MR.fNe_lst_non, MR.fNe_lst_str, MR.fNe_lst_bl, MR.fNe_int_tup, MR.fNe_int_lst, MR.fNe_int_non, MR.fNe_int_str, MR.fNe_int_bl, MR.fNe_non_tup, MR.fNe_non_lst, MR.fNe_non_int, MR.fNe_non_non, MR.fNe_non_str, MR.fNe_non_bl, MR.fNe_str_tup, MR.fNe_str_lst, MR.fNe_str_int, MR.fNe_str_non, MR.fNe_str_bl, MR.fNe_bl_tup, MR.fNe_bl_lst, MR.fNe_bl_int, MR.fNe_bl_non, MR.fNe_bl_str, MR.fLt_int, MR.fIx_tup, MR.fSl_tup, MR.fLen_tup, MR.fTuple_tup, MR.fRev_tup, MR.fIx_lst, MR.fSl_lst, MR.fLen_lst, MR.fTuple_lst, MR.fRev_lst, MR.fIx_str, MR.fSl_str, MR.fLen_str, MR.fInt_int, MR.fInt_bl,
        List.map_cons, List.map_nil, List.cons_append, List.nil_append, List.append_nil, List.length_cons, List.length_nil, List.replicate_succ, List.replicate_zero, List.set_cons_zero, List.set_cons_succ, List.getElem?_cons_zero, List.getElem?_cons_succ, List.getD_cons_zero, List.getD_cons_succ, Nat.reduceAdd, Nat.reduceSub, Nat.zero_add, Option.some.injEq, reduceIte, Bool.not_true, Bool.not_false, true_and, and_true]
      split
      · rename_i c
        have hm : 0 < m := of_decide_eq_true c
        obtain ⟨x, hx⟩ : ∃ x, ns[m.toNat - 1]? = some x := ⟨ns[m.toNat - 1]'(by omega), List.getElem?_eq_getElem _⟩
        have e5 : (m - 1) = ((m.toNat - 1 : Nat) : Int) := by omega
        have tk : ns.take m.toNat = ns.take (m.toNat - 1) ++ [x] := by
          have : m.toNat = m.toNat - 1 + 1 := by omega
          rw [this, List.take_add_one, Nat.add_sub_cancel, hx]
          rfl
        rw [e5, atI_ints hx]
        simp (maxSteps := 2000000) only [MR.sNil, MR.sSeq, MR.sDrop, MR.sRet, MR.sRetN, MR.sBreak, MR.sCont, MR.sIf, MR.sSet, MR.sOwn, MR.sAsg, MR.sPar, MR.sAug, MR.sFrz, MR.sApp, MR.sPut, MR.sExt, MR.aName, MR.aTup, MR.aNil, MR.aCons, MR.frz,
        MR.gVar, MR.gC, MR.gOp, MR.gB, MR.bK, MR.gTru, MR.gNotT, MR.gAndT, MR.gOrT, MR.gAndV, MR.gOrV, MR.gNotV, MR.gIf, MR.gChain, MR.gNil, MR.gCons, MR.gTup, MR.gLst, MR.gFz, MR.gOwn, MR.gAsL, MR.gNo, MR.gPart, MR.gSl, MR.gSlF, MR.gUn, MR.gIxL, MR.gFn, MR.gLenL, MR.gYes,
        MR.fAddI, MR.fSub, MR.fDiv, MR.fMod, MR.fPow, MR.fLe, MR.fGt, MR.fGe, MR.fIs, MR.fIsN, MR.fNeg, MR.fMin, MR.fMax, MR.fDivmod, MR.fSum, MR.fAll, MR.fRepr, MR.fIsi, MR.tyD, MR.dInt, MR.dBool, MR.dTup, MR.dStr, MR.dLst,
        MR.gDkT, MR.gDkS, MR.gDkNe, MR.gDkPop, MR.sDkApp, MR.sDkPut, MR.gScr, MR.sDeck, MR.gCall, MR.sel, MR.sFor, MR.sForR1, MR.sForR2, MR.sWhile, MR.sForE, MR.sAugP, MR.gRepL, MR.gCatL, MR.gComp, MR.gCompR, MR.startA, MR.wipeA, MR.sNever, MR.gNever, MR.tNev, MR.sAsg2, MR.fMulS_str, MR.fIntS_str, MR.sParO, MR.sForG, MR.gCompG, MR.iSeqG, MR.iR1G, MR.iR2G, MR.iZipG, MR.iEnumG, MR.iEnumLG, MR.iRevG,
        MR.fTru_bl, MR.fTru_non, MR.fTru_int, MR.fTru_str, MR.fTru_lst, MR.fTru_tup, MR.fAdd_int, MR.fAdd_str, MR.fAdd_tup, MR.fAdd_lst, MR.fMul_int, MR.fMul_tup, MR.fMul_lst, MR.fEq_int, MR.fEq_str, MR.fEq_bl, MR.fEq_tup_tup, MR.fEq_tup_lst, MR.fEq_tup_int, MR.fEq_tup_non, MR.fEq_tup_str, MR.fEq_tup_bl, MR.fEq_lst_tup, MR.fEq_lst_lst, MR.fEq_lst_int, MR.fEq_lst_non, MR.fEq_lst_str, MR.fEq_lst_bl, MR.fEq_int_tup, MR.fEq_int_lst, MR.fEq_int_non, MR.fEq_int_str, MR.fEq_int_bl, MR.fEq_non_tup, MR.fEq_non_lst, MR.fEq_non_int, MR.fEq_non_non, MR.fEq_non_str, MR.fEq_non_bl, MR.fEq_str_tup, MR.fEq_str_lst, MR.fEq_str_int, MR.fEq_str_non, MR.fEq_str_bl, MR.fEq_bl_tup, MR.fEq_bl_lst, MR.fEq_bl_int, MR.fEq_bl_non, MR.fEq_bl_str, MR.fNe_int, MR.fNe_str, MR.fNe_bl, MR.fNe_tup_tup, MR.fNe_tup_lst, MR.fNe_tup_int, MR.fNe_tup_non, MR.fNe_tup_str, MR.fNe_tup_bl, MR.fNe_lst_tup, MR.fNe_lst_lst, MR.fNe_lst_int, MR.fNe_lst_non, MR.fNe_lst_str, MR.fNe_lst_bl, MR.fNe_int_tup, MR.fNe_int_lst, MR.fNe_int_non, MR.fNe_int_str, MR.fNe_int_bl, MR.fNe_non_tup, MR.fNe_non_lst, MR.fNe_non_int, MR.fNe_non_non, MR.fNe_non_str, MR.fNe_non_bl, MR.fNe_str_tup, MR.fNe_str_lst, MR.fNe_str_int, MR.fNe_str_non, MR.fNe_str_bl, MR.fNe_bl_tup, MR.fNe_bl_lst, MR.fNe_bl_int, MR.fNe_bl_non, MR.fNe_bl_str, MR.fLt_int, MR.fIx_tup, MR.fSl_tup, MR.fLen_tup, MR.fTuple_tup, MR.fRev_tup, MR.fIx_lst, MR.fSl_lst, MR.fLen_lst, MR.fTuple_lst, MR.fRev_lst, MR.fIx_str, MR.fSl_str, MR.fLen_str, MR.fInt_int, MR.fInt_bl,
        List.map_cons, List.map_nil, List.cons_append, List.nil_append, List.append_nil, List.length_cons, List.length_nil, List.replicate_succ, List.replicate_zero, List.set_cons_zero, List.set_cons_succ, List.getElem?_cons_zero, List.getElem?_cons_succ, List.getD_cons_zero, List.getD_cons_succ, Nat.reduceAdd, Nat.reduceSub, Nat.zero_add, Option.some.injEq, reduceIte, Bool.not_true, Bool.not_false, true_and, and_true]
        split
        · rename_i c2
          have hx0 : x = 0 := of_decide_eq_true c2
          subst hx0
          refine ⟨m.toNat - 1, by omega, m - 1, by rw [← e5], by omega, by omega, ?_, by omega⟩
          have e6 : (m - 1).toNat = m.toNat - 1 := by omega
          rw [e6, ← e3, tk, strip_snoc]
        · rename_i c2
          have hx0 : x ≠ 0 := fun z => c2 (decide_eq_true z)
          rw [cut_hi m0, ← List.map_take]
          rw [tk, strip_keep _ hx0] at e3
          rw [tk, e3]
          exact q
      · rename_i c
        have hm : ¬ 0 < m := fun z => c (decide_eq_true z)
        have e6 : m.toNat = 0 := by omega
        rw [cut_hi m0, ← List.map_take, e6, List.take_zero]
        rw [e6, List.take_zero] at e3
        rw [← e3] at q
        exact q
    · simp (maxSteps := 2000000) only [MR.sNil, MR.sSeq, MR.sDrop, MR.sRet, MR.sRetN, MR.sBreak, MR.sCont, MR.sIf, MR.sSet, MR.sOwn, MR.sAsg, MR.sPar, MR.sAug, MR.sFrz, MR.sApp, MR.sPut, MR.sExt, MR.aName, MR.aTup, MR.aNil, MR.aCons, MR.frz,
        MR.gVar, MR.gC, MR.gOp, MR.gB, MR.bK, MR.gTru, MR.gNotT, MR.gAndT, MR.gOrT, MR.gAndV, MR.gOrV, MR.gNotV, MR.gIf, MR.gChain, MR.gNil, MR.gCons, MR.gTup, MR.gLst, MR.gFz, MR.gOwn, MR.gAsL, MR.gNo, MR.gPart, MR.gSl, MR.gSlF, MR.gUn, MR.gIxL, MR.gFn, MR.gLenL, MR.gYes,
        MR.fAddI, MR.fSub, MR.fDiv, MR.fMod, MR.fPow, MR.fLe, MR.fGt, MR.fGe, MR.fIs, MR.fIsN, MR.fNeg, MR.fMin, MR.fMax, MR.fDivmod, MR.fSum, MR.fAll, MR.fRepr, MR.fIsi, MR.tyD, MR.dInt, MR.dBool, MR.dTup, MR.dStr, MR.dLst,
        MR.gDkT, MR.gDkS, MR.gDkNe, MR.gDkPop, MR.sDkApp, MR.sDkPut, MR.gScr, MR.sDeck, MR.gCall, MR.sel, MR.sFor, MR.sForR1, MR.sForR2, MR.sWhile, MR.sForE, MR.sAugP, MR.gRepL, MR.gCatL, MR.gComp, MR.gCompR, MR.startA, MR.wipeA, MR.sNever, MR.gNever, MR.tNev, MR.sAsg2, MR.fMulS_str, MR.fIntS_str, MR.sParO, MR.sForG, MR.gCompG, MR.iSeqG, MR.iR1G, MR.iR2G, MR.iZipG, MR.iEnumG, MR.iEnumLG, MR.iRevG,
        MR.fTru_bl, MR.fTru_non, MR.fTru_int, MR.fTru_str, MR.fTru_lst, MR.fTru_tup, MR.fAdd_int, MR.fAdd_str, MR.fAdd_tup, MR.fAdd_lst, MR.fMul_int, MR.fMul_tup, MR.fMul_lst, MR.fEq_int, MR.fEq_str, MR.fEq_bl, MR.fEq_tup_tup, MR.fEq_tup_lst, MR.fEq_tup_int, MR.fEq_tup_non, MR.fEq_tup_str, MR.fEq_tup_bl, MR.fEq_lst_tup, MR.fEq_lst_lst, MR.fEq_lst_int, MR.fEq_lst_non, MR.fEq_lst_str, MR.fEq_lst_bl, MR.fEq_int_tup, MR.fEq_int_lst, MR.fEq_int_non, MR.fEq_int_str, MR.fEq_int_bl, MR.fEq_non_tup, MR.fEq_non_lst, MR.fEq_non_int, MR.fEq_non_non, MR.fEq_non_str, MR.fEq_non_bl, MR.fEq_str_tup, MR.fEq_str_lst, MR.fEq_str_int, MR.fEq_str_non, MR.fEq_str_bl, MR.fEq_bl_tup, MR.fEq_bl_lst, MR.fEq_bl_int, MR.fEq_bl_non, MR.fEq_bl_str, MR.fNe_int, MR.fNe_str, MR.fNe_bl, MR.fNe_tup_tup, MR.fNe_tup_lst, MR.fNe_tup_int, MR.fNe_tup_non, MR.fNe_tup_str, MR.fNe_tup_bl, MR.fNe_lst_tup, MR.fNe_lst_lst, MR.fNe_lst_int, MR.fNe_lst_non, MR.fNe_lst_str, MR.fNe_lst_bl, MR.fNe_int_tup, MR.fNe_int_lst, MR.fNe_int_non, MR.fNe_int_str, MR.fNe_int_bl, MR.fNe_non_tup, MR.fNe_non_lst, MR.fNe_non_int, MR.fNe_non_non, MR.fNe_non_str, MR.fNe_non_bl, MR.fNe_str_tup, MR.fNe_str_lst, MR.fNe_str_int, MR.fNe_str_non, MR.fNe_str_bl, MR.fNe_bl_tup, MR.fNe_bl_lst, MR.fNe_bl_int, MR.fNe_bl_non, MR.fNe_bl_str, MR.fLt_int, MR.fIx_tup, MR.fSl_tup, MR.fLen_tup, MR.fTuple_tup, MR.fRev_tup, MR.fIx_lst, MR.fSl_lst, MR.fLen_lst, MR.fTuple_lst, MR.fRev_lst, MR.fIx_str, MR.fSl_str, MR.fLen_str, MR.fInt_int, MR.fInt_bl,
        List.map_cons, List.map_nil, List.cons_append, List.nil_append, List.append_nil, List.length_cons, List.length_nil, List.replicate_succ, List.replicate_zero, List.set_cons_zero, List.set_cons_succ, List.getElem?_cons_zero, List.getElem?_cons_succ, List.getD_cons_zero, List.getD_cons_succ, Nat.reduceAdd, Nat.reduceSub, Nat.zero_add, Option.some.injEq, reduceIte, Bool.not_true, Bool.not_false, true_and, and_true, List.length_map]
      refine ⟨fun m' ρ ω' => ω' = ω ∧ ∃ m : Int, ρ = [some (.d (D.lst (ns.map D.int))), some (.d (.int m))] ∧ 0 ≤ m ∧ m ≤ ns.length ∧ strip (ns.take m.toNat) = strip ns ∧ m' = m.toNat, ⟨ns.length, rfl, ns.length, rfl, by omega, by omega, by rw [Int.toNat_natCast, List.take_length], by omega⟩, fun m' ρ ω' ⟨e1, m, e2, m0, ml, e3, e4⟩ => ?_⟩
      subst e1 e2
      simp (maxSteps := 2000000) only [MR.sNil, MR.sSeq, MR.sDrop, MR.sRet, MR.sRetN, MR.sBreak, MR.sCont, MR.sIf, MR.sSet, MR.sOwn, MR.sAsg, MR.sPar, MR.sAug, MR.sFrz, MR.sApp, MR.sPut, MR.sExt, MR.aName, MR.aTup, MR.aNil, MR.aCons, MR.frz,
        MR.gVar, MR.gC, MR.gOp, MR.gB, MR.bK, MR.gTru, MR.gNotT, MR.gAndT, MR.gOrT, MR.gAndV, MR.gOrV, MR.gNotV, MR.gIf, MR.gChain, MR.gNil, MR.gCons, MR.gTup, MR.gLst, MR.gFz, MR.gOwn, MR.gAsL, MR.gNo, MR.gPart, MR.gSl, MR.gSlF, MR.gUn, MR.gIxL, MR.gFn, MR.gLenL, MR.gYes,
        MR.fAddI, MR.fSub, MR.fDiv, MR.fMod, MR.fPow, MR.fLe, MR.fGt, MR.fGe, MR.fIs, MR.fIsN, MR.fNeg, MR.fMin, MR.fMax, MR.fDivmod, MR.fSum, MR.fAll, MR.fRepr, MR.fIsi, MR.tyD, MR.dInt, MR.dBool, MR.dTup, MR.dStr, MR.dLst,
        MR.gDkT, MR.gDkS, MR.gDkNe, MR.gDkPop, MR.sDkApp, MR.sDkPut, MR.gScr, MR.sDeck, MR.gCall, MR.sel, MR.sFor, MR.sForR1, MR.sForR2, MR.sWhile, MR.sForE, MR.sAugP, MR.gRepL, MR.gCatL, MR.gComp, MR.gCompR, MR.startA, MR.wipeA, MR.sNever, MR.gNever, MR.tNev, MR.sAsg2, MR.fMulS_str, MR.fIntS_str, MR.sParO, MR.sForG, MR.gCompG, MR.iSeqG, MR.iR1G, MR.iR2G, MR.iZipG, MR.iEnumG, MR.iEnumLG, MR.iRevG,
        MR.fTru_bl, MR.fTru_non, MR.fTru_int, MR.fTru_str, MR.fTru_lst, MR.fTru_tup, MR.fAdd_int, MR.fAdd_str, MR.fAdd_tup, MR.fAdd_lst, MR.fMul_int, MR.fMul_tup, MR.fMul_lst, MR.fEq_int, MR.fEq_str, MR.fEq_bl, MR.fEq_tup_tup, MR.fEq_tup_lst, MR.fEq_tup_int, MR.fEq_tup_non, MR.fEq_tup_str, MR.fEq_tup_bl, MR.fEq_lst_tup, MR.fEq_lst_lst, MR.fEq_lst_int, MR.fEq_lst_non, MR.fEq_lst_str, MR.fEq_lst_bl, MR.fEq_int_tup, MR.fEq_int_lst, MR.fEq_int_non, MR.fEq_int_str, MR.fEq_int_bl, MR.fEq_non_tup, MR.fEq_non_lst, MR.fEq_non_int, MR.fEq_non_non, MR.fEq_non_str, MR.fEq_non_bl, MR.fEq_str_tup, MR.fEq_str_lst, MR.fEq_str_int, MR.fEq_str_non, MR.fEq_str_bl, MR.fEq_bl_tup, MR.fEq_bl_lst, MR.fEq_bl_int, MR.fEq_bl_non, MR.fEq_bl_str, MR.fNe_int, MR.fNe_str, MR.fNe_bl, MR.fNe_tup_tup, MR.fNe_tup_lst, MR.fNe_tup_int, MR.fNe_tup_non, MR.fNe_tup_str, MR.fNe_tup_bl, MR.fNe_lst_tup, MR.fNe_lst_lst, MR.fNe_lst_int, MR.fNe_lst_non, MR.fNe_lst_str, MR.fNe_lst_bl, MR.fNe_int_tup, MR.fNe_int_lst, MR.fNe_int_non, MR.fNe_int_str, MR.fNe_int_bl, MR.fNe_non_tup, MR.fNe_non_lst, MR.fNe_non_int, MR.fNe_non_non, MR.fNe_non_str, MR.fNe_non_bl, MR.fNe_str_tup, MR.fNe_str_lst, MR.fNe_str_int, MR.fNe_str_non, MR.fNe_str_bl, MR.fNe_bl_tup, MR.fNe_bl_lst, MR.fNe_bl_int, MR.fNe_bl_non, MR.fNe_bl_str, MR.fLt_int, MR.fIx_tup, MR.fSl_tup, MR.fLen_tup, MR.fTuple_tup, MR.fRev_tup, MR.fIx_lst, MR.fSl_lst, MR.fLen_lst, MR.fTuple_lst, MR.fRev_lst, MR.fIx_str, MR.fSl_str, MR.fLen_str, MR.fInt_int, MR.fInt_bl,
        List.map_cons, List.map_nil, List.cons_append, List.nil_append, List.append_nil, List.length_cons, List.length_nil, List.replicate_succ, List.replicate_zero, List.set_cons_zero, List.set_cons_succ, List.getElem?_cons_zero, List.getElem?_cons_succ, List.getD_cons_zero, List.getD_cons_succ, Nat.reduceAdd, Nat.reduceSub, Nat.zero_add, Option.some.injEq, reduceIte, Bool.not_true, Bool.not_false, true_and, and_true]
      split
      · rename_i c
        have hm : 0 < m := of_decide_eq_true c
        obtain ⟨x, hx⟩ : ∃ x, ns[m.toNat - 1]? = some x := ⟨ns[m.toNat - 1]'(by omega), List.getElem?_eq_getElem _⟩
        have e5 : (m - 1) = ((m.toNat - 1 : Nat) : Int) := by omega
        have tk : ns.take m.toNat = ns.take (m.toNat - 1) ++ [x] := by
          have : m.toNat = m.toNat - 1 + 1 := by omega
          rw [this, List.take_add_one, Nat.add_sub_cancel, hx]
          rfl
        rw [e5, atI_ints hx]
        simp (maxSteps := 2000000) only [MR.sNil, MR.sSeq, MR.sDrop, MR.sRet, MR.sRetN, MR.sBreak, MR.sCont, MR.sIf, MR.sSet, MR.sOwn, MR.sAsg, MR.sPar, MR.sAug, MR.sFrz, MR.sApp, MR.sPut, MR.sExt, MR.aName, MR.aTup, MR.aNil, MR.aCons, MR.frz,
        MR.gVar, MR.gC, MR.gOp, MR.gB, MR.bK, MR.gTru, MR.gNotT, MR.gAndT, MR.gOrT, MR.gAndV, MR.gOrV, MR.gNotV, MR.gIf, MR.gChain, MR.gNil, MR.gCons, MR.gTup, MR.gLst, MR.gFz, MR.gOwn, MR.gAsL, MR.gNo, MR.gPart, MR.gSl, MR.gSlF, MR.gUn, MR.gIxL, MR.gFn, MR.gLenL, MR.gYes,
        MR.fAddI, MR.fSub, MR.fDiv, MR.fMod, MR.fPow, MR.fLe, MR.fGt, MR.fGe, MR.fIs, MR.fIsN, MR.fNeg, MR.fMin, MR.fMax, MR.fDivmod, MR.fSum, MR.fAll, MR.fRepr, MR.fIsi, MR.tyD, MR.dInt, MR.dBool, MR.dTup, MR.dStr, MR.dLst,
        MR.gDkT, MR.gDkS, MR.gDkNe, MR.gDkPop, MR.sDkApp, MR.sDkPut, MR.gScr, MR.sDeck, MR.gCall, MR.sel, MR.sFor, MR.sForR1, MR.sForR2, MR.sWhile, MR.sForE, MR.sAugP, MR.gRepL, MR.gCatL, MR.gComp, MR.gCompR, MR.startA, MR.wipeA, MR.sNever, MR.gNever, MR.tNev, MR.sAsg2, MR.fMulS_str, MR.fIntS_str, MR.sParO, MR.sForG, MR.gCompG, MR.iSeqG, MR.iR1G, MR.iR2G, MR.iZipG, MR.iEnumG, MR.iEnumLG, MR.iRevG,
        MR.fTru_bl, MR.fTru_non, MR.fTru_int, MR.fTru_str, MR.fTru_lst, MR.fTru_tup, MR.fAdd_int, MR.fAdd_str, MR.fAdd_tup, MR.fAdd_lst, MR.fMul_int, MR.fMul_tup, MR.fMul_lst, MR.fEq_int, MR.fEq_str, MR.fEq_bl, MR.fEq_tup_tup, MR.fEq_tup_lst, MR.fEq_tup_int, MR.fEq_tup_non, MR.fEq_tup_str, MR.fEq_tup_bl, MR.fEq_lst_tup, MR.fEq_lst_lst, MR.fEq_lst_int, MR.fEq_lst_non, MR.fEq_lst_str, MR.fEq_lst_bl, MR.fEq_int_tup, MR.fEq_int_lst, MR.fEq_int_non, MR.fEq_int_str, MR.fEq_int_bl, MR.fEq_non_tup, MR.fEq_non_lst, MR.fEq_non_int, MR.fEq_non_non, MR.fEq_non_str, MR.fEq_non_bl, MR.fEq_str_tup, MR.fEq_str_lst, MR.fEq_str_int, MR.fEq_str_non, MR.fEq_str_bl, MR.fEq_bl_tup, MR.fEq_bl_lst, MR.fEq_bl_int, MR.fEq_bl_non, MR.fEq_bl_str, MR.fNe_int, MR.fNe_str, MR.fNe_bl, MR.fNe_tup_tup, MR.fNe_tup_lst, MR.fNe_tup_int, MR.fNe_tup_non, MR.fNe_tup_str, MR.fNe_tup_bl, MR.fNe_lst_tup, MR.fNe_lst_lst, MR.fNe_lst_int, MR.fNe_lst_non, MR.fNe_lst_str, MR.fNe_lst_bl, MR.fNe_int_tup, MR.fNe_int_lst, MR.fNe_int_non, MR.fNe_int_str, MR.fNe_int_bl, MR.fNe_non_tup, MR.fNe_non_lst, MR.fNe_non_int, MR.fNe_non_non, MR.fNe_non_str, MR.fNe_non_bl, MR.fNe_str_tup, MR.fNe_str_lst, MR.fNe_str_int, MR.fNe_str_non, MR.fNe_str_bl, MR.fNe_bl_tup, MR.fNe_bl_lst, MR.fNe_bl_int, MR.fNe_bl_non, MR.fNe_bl_str, MR.fLt_int, MR.fIx_tup, MR.fSl_tup, MR.fLen_tup, MR.fTuple_tup, MR.fRev_tup, MR.fIx_lst, MR.fSl_lst, MR.fLen_lst, MR.fTuple_lst, MR.fRev_lst, MR.fIx_str, MR.fSl_str, MR.fLen_str, MR.fInt_int, MR.fInt_bl,
        List.map_cons, List.map_nil, List.cons_append, List.nil_append, List.append_nil, List.length_cons, List.length_nil, List.replicate_succ, List.replicate_zero, List.set_cons_zero, List.set_cons_succ, List.getElem?_cons_zero, List.getElem?_cons_succ, List.getD_cons_zero, List.getD_cons_succ, Nat.reduceAdd, Nat.reduceSub, Nat.zero_add, Option.some.injEq, reduceIte, Bool.not_true, Bool.not_false, true_and, and_true]
        split
        · rename_i c2
          have hx0 : x = 0 := of_decide_eq_true c2
          subst hx0
          refine ⟨m.toNat - 1, by omega, m - 1, by rw [← e5], by omega, by omega, ?_, by omega⟩
          have e6 : (m - 1).toNat = m.toNat - 1 := by omega
          rw [e6, ← e3, tk, strip_snoc]
        · rename_i c2
          have hx0 : x ≠ 0 := fun z => c2 (decide_eq_true z)
          rw [cut_hi m0, ← List.map_take]
          rw [tk, strip_keep _ hx0] at e3
          rw [tk, e3]
          exact q
      · rename_i c
        have hm : ¬ 0 < m := fun z => c (decide_eq_true z)
        have e6 : m.toNat = 0 := by omega
        rw [cut_hi m0, ← List.map_take, e6, List.take_zero]
        rw [e6, List.take_zero] at e3
        rw [← e3] at q
        exact q
  refine ⟨fd, ⟨t.g_without_noughts, F.kp, ok⟩, ?_⟩
  · refine bnd_of F 1 [] [] [0] [] (by simp) rfl ?_
    intro kV doc pm an cdv ct D us mv ws h1 h2 h3 h4
    match us, mv, ws, h1, h2, h3 with
    | [u0], [], [], _, _, _ => exact rfl
theorem kn_limb_at (t : T K mg) : ∃ fd, Known PR w K mg base 1 "limb_at" (He.ga K "limb_at") fd ["row", "place"] DWd 2 aLimbAt ∧ Bnd K fd ["row", "place"] 2 [] [0, 1] [] := by
  obtain ⟨fd, F⟩ := t.f_limb_at
  have ok : FnG PR w K mg base (L2.CX PR w) 1 (He.ga K "limb_at") fd ["row", "place"] (toSp DWd K 2 aLimbAt) := by
    refine fn_ok (N := n_limb_at) DWd aLimbAt F S_limb_at fun cdv A outer s H E hr hG => ?_
    have S := S_limb_at
    refine ⟨_, (gss_cons (gs_if (gt_cmp (m_lt (un0 hr)) op2_lt (nomark _) (ge_var 1) (ge_fn call_len c_len t.z_len (ga_cons (ge_var 0) ga_nil)))
      (gss_one (gs_ret (ge_ix (ge_var 0) (ge_var 1))))
      gss_nil)
      (gss_one (gs_ret ge_int))), ?_⟩
    clear S hr hG F t
    rintro ds ω Qa Ea ⟨xs, k, rfl, k0, q⟩ _
    simp -implicitDefEqProofs only [MR.sNil, MR.sSeq, MR.sDrop, MR.sRet_e, MR.sRet_f, MR.sRetN, MR.sBreak, MR.sCont, MR.sIf, MR.sSet, MR.sOwn, MR.sAsg, MR.sPar, MR.sAug, MR.sFrz, MR.sApp, MR.sPut, MR.sExt, MR.aName, MR.aTup, MR.aNil, MR.aCons, MR.frz,
        MR.gVar, MR.gC, MR.gOp, MR.gB, MR.bK, MR.gTru, MR.gNotT, MR.gAndT, MR.gOrT, MR.gAndV, MR.gOrV, MR.gNotV, MR.gIf, MR.gChain, MR.gNil, MR.gCons, MR.gTup, MR.gLst, MR.gFz, MR.gOwn, MR.gAsL, MR.gNo, MR.gPart, MR.gSl, MR.gSlF, MR.gUn, MR.gIxL, MR.gFn, MR.gLenL, MR.gYes,
        MR.fAddI, MR.fSub, MR.fDiv, MR.fMod, MR.fPow, MR.fLe, MR.fGt, MR.fGe, MR.fIs, MR.fIsN, MR.fNeg, MR.fMin, MR.fMax, MR.fDivmod, MR.fSum, MR.fAll, MR.fRepr, MR.fIsi, MR.tyD, MR.dInt, MR.dBool, MR.dTup, MR.dStr, MR.dLst,
        MR.gDkT, MR.gDkS, MR.gDkNe, MR.gDkPop, MR.sDkApp, MR.sDkPut, MR.gScr, MR.sDeck, MR.gCall, MR.sel, MR.sFor, MR.sForR1, MR.sForR2, MR.sWhile, MR.sForE, MR.sAugP, MR.gRepL, MR.gCatL, MR.gComp, MR.gCompR, MR.startA, MR.wipeA, MR.sNever, MR.gNever, MR.tNev, MR.sAsg2, MR.fMulS_str, MR.fIntS_str, MR.sParO, MR.sForG, MR.gCompG, MR.iSeqG, MR.iR1G, MR.iR2G, MR.iZipG, MR.iEnumG, MR.iEnumLG, MR.iRevG,
        MR.fTru_bl, MR.fTru_non, MR.fTru_int, MR.fTru_str, MR.fTru_lst, MR.fTru_tup, MR.fAdd_int, MR.fAdd_str, MR.fAdd_tup, MR.fAdd_lst, MR.fMul_int, MR.fMul_tup, MR.fMul_lst, MR.fEq_int, MR.fEq_str, MR.fEq_bl, MR.fEq_tup_tup, MR.fEq_tup_lst, MR.fEq_tup_int, MR.fEq_tup_non, MR.fEq_tup_str, MR.fEq_tup_bl, MR.fEq_lst_tup, MR.fEq_lst_lst, MR.fEq_lst_int, MR.fEq_lst_non, MR.fEq_lst_str, MR.fEq_lst_bl, MR.fEq_int_tup, MR.fEq_int_lst, MR.fEq_int_non, MR.fEq_int_str, MR.fEq_int_bl, MR.fEq_non_tup, MR.fEq_non_lst, MR.fEq_non_int, MR.fEq_non_non, MR.fEq_non_str, MR.fEq_non_bl, MR.fEq_str_tup, MR.fEq_str_lst, MR.fEq_str_int, MR.fEq_str_non, MR.fEq_str_bl, MR.fEq_bl_tup, MR.fEq_bl_lst, MR.fEq_bl_int, MR.fEq_bl_non, MR.fEq_bl_str, MR.fNe_int, MR.fNe_str, MR.fNe_bl, MR.fNe_tup_tup, MR.fNe_tup_lst, MR.fNe_tup_int, MR.fNe_tup_non, MR.fNe_tup_str, MR.fNe_tup_bl, MR.fNe_lst_tup, MR.fNe_lst_lst, MR.fNe_lst_int, MR.fNe_lst_non, MR.fNe_lst_str, MR.fNe_lst_bl, MR.fNe_int_tup, MR.fNe_int_lst, MR.fNe_int_non, MR.fNe_int_str, MR.fNe_int_bl, MR.fNe_non_tup, MR.fNe_non_lst, MR.fNe_non_int, MR.fNe_non_non, MR.fNe_non_str, MR.fNe_non_bl, MR.fNe_str_tup, MR.fNe_str_lst, MR.fNe_str_int, MR.fNe_str_non, MR.fNe_str_bl, MR.fNe_bl_tup, MR.fNe_bl_lst, MR.fNe_bl_int, MR.fNe_bl_non, MR.fNe_bl_str, MR.fLt_int, MR.fIx_tup, MR.fSl_tup, MR.fLen_tup, MR.fTuple_tup, MR.fRev_tup, MR.fIx_lst, MR.fSl_lst, MR.fLen_lst, MR.fTuple_lst, MR.fRev_lst, MR.fIx_str, MR.fSl_str, MR.fLen_str, MR.fInt_int, MR.fInt_bl,
        List.map_cons, List.map_nil, List.cons_append, List.nil_append, List.append_nil, List.length_cons, List.length_nil, List.replicate_succ, List.replicate_zero, List.set_cons_zero, List.set_cons_succ, List.getElem?_cons_zero, List.getElem?_cons_succ, List.getD_cons_zero, List.getD_cons_succ, Nat.reduceAdd, Nat.reduceSub, Nat.zero_add, Option.some.injEq, reduceIte, Bool.not_true, Bool.not_false, true_and, and_true, true_implies, false_implies, implies_true, MR.sRaise, MR.sTryAs, MR.sTry, MR.gIsE, PySem.W.kitAny, PySem.Value.ref.injEq, MR.sStar, MR.aSeq, MR.seqD, MR.gStp, List.take_succ_cons, List.take_zero, List.drop_succ_cons, List.drop_zero, MR.sl, MR.aFor_nil, MR.aComp_nil, Int.zero_add, MR.map_int_inj, MR.nil_map_int, MR.cons_map_int, List.map_eq_nil_iff, MR.eqOk_row, MR.eqOk_rowL, MR.eqOk_nil, MR.nil_eq, MR.nil_deq, MR.deq_row, MR.deq_rowL, MR.deq_nilr, MR.deq_nill, MR.deq_nils, MR.rng_zero, MR.isE_map, List.length_map, List.length_append, List.length_reverse,
        Nat.reduceLeDiff, Nat.reduceLT, Int.reduceLE, Int.reduceLT, Int.reducePow, Int.reduceNeg, Int.toNat_zero, Int.reduceToNat, Bool.not_eq_eq_eq_not, Bool.not_eq_true', decide_eq_false_iff_not, decide_eq_true_eq, Bool.false_eq_true, ite_not, ite_false, ite_true, decide_true, decide_false, not_true_eq_false, not_false_eq_true, List.cons.injEq, MR.D.tup.injEq, MR.D.lst.injEq, MR.D.int.injEq, MR.D.str.injEq, MR.D.bl.injEq, MR.D.adr.injEq, MR.Ent.d.injEq, MR.Ent.own.injEq, Option.some.injEq, Prod.mk.injEq, MR.fl_repx, List.length_replicate, exists_eq, exists_eq', and_assoc, exists_and_left, exists_and_right, exists_eq_left, exists_eq_left', exists_eq_right, exists_eq_right', ne_eq, eq_self, and_self, reduceCtorEq, false_and, and_false, or_false, false_or, Int.reduceEq, Int.reduceSub, Int.reduceAdd, Int.reduceMul, Nat.reduceMul]
    split
    · rename_i c
      have hx := List.getElem?_eq_getElem (by omega : k.toNat < xs.length)
      have e : k = ((k.toNat : Nat) : Int) := by omega
      rw [List.getD_eq_getElem?_getD, hx] at q
      rw [e, atI_ints hx]
      exact q
    · rename_i c
      rw [List.getD_eq_getElem?_getD, List.getElem?_eq_none (by omega)] at q
      exact q
  refine ⟨fd, ⟨t.g_limb_at, F.kp, ok⟩, ?_⟩
  · refine bnd_of F 2 [] [] [0, 1] [] (by simp) rfl ?_
    intro kV doc pm an cdv ct D us mv ws h1 h2 h3 h4
    match us, mv, ws, h1, h2, h3 with
    | [u0, u1], [], [], _, _, _ => exact rfl

def aLessX (c : Value) : ASp DWd := fun ds ω Q E => ∃ xs ys b, ds = [row xs, row ys, .int b] ∧ base_ b ∧ isRow b xs ∧ isRow b ys ∧ xs.length ≤ 20000 ∧ (wor b ys ≤ wor b xs → Q (row (digs b (wor b xs - wor b ys))) ω) ∧ (wor b xs < wor b ys → E ⟨c, none⟩ ω)

theorem kn_lessened (t : T K mg) : ∃ fd, Known PR w K mg base 2 "lessened" (He.ga K "lessened") fd ["one", "other", "base"] DWd 3 (aLessX (.ref (He.ga K "TooGreat"))) ∧ Bnd K fd ["one", "other", "base"] 2 ["base"] [0, 1, 2] [] ∧ Bnd K fd ["one", "other", "base"] 2 [] [0, 1, 2] [.int 10] ∧ Bnd K fd ["one", "other", "base"] 0 ["base", "other", "one"] [2, 1, 0] [] := by
  obtain ⟨fd, F⟩ := t.f_lessened
  obtain ⟨fd_is_less, k_is_less, b_is_less_0, b_is_less_1⟩ := kn_is_less (w := w) (base := base) t
  obtain ⟨fd_without_noughts, k_without_noughts, b_without_noughts_0⟩ := kn_without_noughts (w := w) (base := base) t
  obtain ⟨fd_limb_at, k_limb_at, b_limb_at_0⟩ := kn_limb_at (w := w) (base := base) t
  have ok : FnG PR w K mg base (L2.CX PR w) 2 (He.ga K "lessened") fd ["one", "other", "base"] (toSp DWd K 3 (aLessX (.ref (He.ga K "TooGreat")))) := by
    refine fn_ok (N := n_lessened) DWd (aLessX (.ref (He.ga K "TooGreat"))) F S_lessened fun cdv A outer s H E hr hG => ?_
    have S := S_lessened
    refine ⟨_, (gss_cons (gs_if (gt_tru (ge_call1 k_is_less (Room.mono hr (by decide)) hG tk_cx b_is_less_0 (fun B => .nil) (ga_cons (ge_var 0) (ga_cons (ge_var 1) ga_nil))))
      (gss_one (gs_raise0 t.x_TooGreat t.c_TooGreat tk_cx))
      gss_nil)
      (gss_cons (gs_own 3 S.nd (gf_lst ga_nil))
      (gss_cons (gs_set 4 S.nd ge_int)
      (gss_cons (gs_forE po_cx rfl t.z_enumerate (ge_var 0) (gg_tup rfl (ggs_cons (gg_name 5 S.nd) (ggs_cons (gg_name 6 S.nd) ggs_nil)) (AL.len (al_cons aex_name (al_cons aex_name al_nil))))
      (gss_cons (gs_set 7 S.nd (ge_sub (ge_sub (ge_var 6) (ge_call1 k_limb_at (Room.mono hr (by decide)) hG tk_cx b_limb_at_0 (fun B => .nil) (ga_cons (ge_var 1) (ga_cons (ge_var 5) ga_nil)))) (ge_var 4)))
      (gss_cons (gs_set 4 S.nd (ge_ty call_int1 c_int t.z_int (ga_cons (ge_cmp (m_lt (un0 hr)) op2_lt (nomark _) (ge_var 7) ge_int) ga_nil)))
      (gss_one (gs_app 3 (ge_add (ge_var 7) (ge_mul (ge_var 4) (ge_var 2))))))))
      (gss_frz 3 (gss_one (gs_ret (ge_call1 k_without_noughts (Room.mono hr (by decide)) hG tk_cx b_without_noughts_0 (fun B => .nil) (ga_cons (ge_var 3) ga_nil))))))))), ?_⟩
    clear S hr hG F t k_is_less b_is_less_0 b_is_less_1 k_without_noughts b_without_noughts_0 k_limb_at b_limb_at_0
    rintro ds ω Qa Ea ⟨xs, ys, b, rfl, hb, h1, h2, l1, q, qx⟩ _
    by_cases hle : wor b ys ≤ wor b xs
    case neg =>
      have hb1 := hb.1
      have lt : wor b xs < wor b ys := by omega
      simp -implicitDefEqProofs only [MR.sNil, MR.sSeq, MR.sDrop, MR.sRet_e, MR.sRet_f, MR.sRetN, MR.sBreak, MR.sCont, MR.sIf, MR.sSet, MR.sOwn, MR.sAsg, MR.sPar, MR.sAug, MR.sFrz, MR.sApp, MR.sPut, MR.sExt, MR.aName, MR.aTup, MR.aNil, MR.aCons, MR.frz,
        MR.gVar, MR.gC, MR.gOp, MR.gB, MR.bK, MR.gTru, MR.gNotT, MR.gAndT, MR.gOrT, MR.gAndV, MR.gOrV, MR.gNotV, MR.gIf, MR.gChain, MR.gNil, MR.gCons, MR.gTup, MR.gLst, MR.gFz, MR.gOwn, MR.gAsL, MR.gNo, MR.gPart, MR.gSl, MR.gSlF, MR.gUn, MR.gIxL, MR.gFn, MR.gLenL, MR.gYes,
        MR.fAddI, MR.fSub, MR.fDiv, MR.fMod, MR.fPow, MR.fLe, MR.fGt, MR.fGe, MR.fIs, MR.fIsN, MR.fNeg, MR.fMin, MR.fMax, MR.fDivmod, MR.fSum, MR.fAll, MR.fRepr, MR.fIsi, MR.tyD, MR.dInt, MR.dBool, MR.dTup, MR.dStr, MR.dLst,
        MR.gDkT, MR.gDkS, MR.gDkNe, MR.gDkPop, MR.sDkApp, MR.sDkPut, MR.gScr, MR.sDeck, MR.gCall, MR.sel, MR.sFor, MR.sForR1, MR.sForR2, MR.sWhile, MR.sForE, MR.sAugP, MR.gRepL, MR.gCatL, MR.gComp, MR.gCompR, MR.startA, MR.wipeA, MR.sNever, MR.gNever, MR.tNev, MR.sAsg2, MR.fMulS_str, MR.fIntS_str, MR.sParO, MR.sForG, MR.gCompG, MR.iSeqG, MR.iR1G, MR.iR2G, MR.iZipG, MR.iEnumG, MR.iEnumLG, MR.iRevG,
        MR.fTru_bl, MR.fTru_non, MR.fTru_int, MR.fTru_str, MR.fTru_lst, MR.fTru_tup, MR.fAdd_int, MR.fAdd_str, MR.fAdd_tup, MR.fAdd_lst, MR.fMul_int, MR.fMul_tup, MR.fMul_lst, MR.fEq_int, MR.fEq_str, MR.fEq_bl, MR.fEq_tup_tup, MR.fEq_tup_lst, MR.fEq_tup_int, MR.fEq_tup_non, MR.fEq_tup_str, MR.fEq_tup_bl, MR.fEq_lst_tup, MR.fEq_lst_lst, MR.fEq_lst_int, MR.fEq_lst_non, MR.fEq_lst_str, MR.fEq_lst_bl, MR.fEq_int_tup, MR.fEq_int_lst, MR.fEq_int_non, MR.fEq_int_str, MR.fEq_int_bl, MR.fEq_non_tup, MR.fEq_non_lst, MR.fEq_non_int, MR.fEq_non_non, MR.fEq_non_str, MR.fEq_non_bl, MR.fEq_str_tup, MR.fEq_str_lst, MR.fEq_str_int, MR.fEq_str_non, MR.fEq_str_bl, MR.fEq_bl_tup, MR.fEq_bl_lst, MR.fEq_bl_int, MR.fEq_bl_non, MR.fEq_bl_str, MR.fNe_int, MR.fNe_str, MR.fNe_bl, MR.fNe_tup_tup, MR.fNe_tup_lst, MR.fNe_tup_int, MR.fNe_tup_non, MR.fNe_tup_str, MR.fNe_tup_bl, MR.fNe_lst_tup, MR.fNe_lst_lst, MR.fNe_lst_int, MR.fNe_lst_non, MR.fNe_lst_str, MR.fNe_lst_bl, MR.fNe_int_tup, MR.fNe_int_lst, MR.fNe_int_non, MR.fNe_int_str, MR.fNe_int_bl, MR.fNe_non_tup, MR.fNe_non_lst, MR.fNe_non_int, MR.fNe_non_non, MR.fNe_non_str, MR.fNe_non_bl, MR.fNe_str_tup, MR.fNe_str_lst, MR.fNe_str_int, MR.fNe_str_non, MR.fNe_str_bl, MR.fNe_bl_tup, MR.fNe_bl_lst, MR.fNe_bl_int, MR.fNe_bl_non, MR.fNe_bl_str, MR.fLt_int, MR.fIx_tup, MR.fSl_tup, MR.fLen_tup, MR.fTuple_tup, MR.fRev_tup, MR.fIx_lst, MR.fSl_lst, MR.fLen_lst, MR.fTuple_lst, MR.fRev_lst, MR.fIx_str, MR.fSl_str, MR.fLen_str, MR.fInt_int, MR.fInt_bl,
        List.map_cons, List.map_nil, List.cons_append, List.nil_append, List.append_nil, List.length_cons, List.length_nil, List.replicate_succ, List.replicate_zero, List.set_cons_zero, List.set_cons_succ, List.getElem?_cons_zero, List.getElem?_cons_succ, List.getD_cons_zero, List.getD_cons_succ, Nat.reduceAdd, Nat.reduceSub, Nat.zero_add, Option.some.injEq, reduceIte, Bool.not_true, Bool.not_false, true_and, and_true, true_implies, false_implies, implies_true, MR.sRaise, MR.sTryAs, MR.sTry, MR.gIsE, PySem.W.kitAny, PySem.Value.ref.injEq, MR.sStar, MR.aSeq, MR.seqD, MR.gStp, List.take_succ_cons, List.take_zero, List.drop_succ_cons, List.drop_zero, MR.sl, MR.aFor_nil, MR.aComp_nil, Int.zero_add, MR.map_int_inj, MR.nil_map_int, MR.cons_map_int, List.map_eq_nil_iff, MR.eqOk_row, MR.eqOk_rowL, MR.eqOk_nil, MR.nil_eq, MR.nil_deq, MR.deq_row, MR.deq_rowL, MR.deq_nilr, MR.deq_nill, MR.deq_nils, MR.rng_zero, MR.isE_map, List.length_map, List.length_append, List.length_reverse,
        Nat.reduceLeDiff, Nat.reduceLT, Int.reduceLE, Int.reduceLT, Int.reducePow, Int.reduceNeg, Int.toNat_zero, Int.reduceToNat, Bool.not_eq_eq_eq_not, Bool.not_eq_true', decide_eq_false_iff_not, decide_eq_true_eq, Bool.false_eq_true, ite_not, ite_false, ite_true, decide_true, decide_false, not_true_eq_false, not_false_eq_true, List.cons.injEq, MR.D.tup.injEq, MR.D.lst.injEq, MR.D.int.injEq, MR.D.str.injEq, MR.D.bl.injEq, MR.D.adr.injEq, MR.Ent.d.injEq, MR.Ent.own.injEq, Option.some.injEq, Prod.mk.injEq, MR.fl_repx, List.length_replicate, exists_eq, exists_eq', and_assoc, exists_and_left, exists_and_right, exists_eq_left, exists_eq_left', exists_eq_right, exists_eq_right', ne_eq, eq_self, and_self, reduceCtorEq, false_and, and_false, or_false, false_or, Int.reduceEq, Int.reduceSub, Int.reduceAdd, Int.reduceMul, Nat.reduceMul, aIsLess]
      refine ⟨b, hb1, h1, h2, ?_⟩
      simp -implicitDefEqProofs only [MR.sNil, MR.sSeq, MR.sDrop, MR.sRet_e, MR.sRet_f, MR.sRetN, MR.sBreak, MR.sCont, MR.sIf, MR.sSet, MR.sOwn, MR.sAsg, MR.sPar, MR.sAug, MR.sFrz, MR.sApp, MR.sPut, MR.sExt, MR.aName, MR.aTup, MR.aNil, MR.aCons, MR.frz,
        MR.gVar, MR.gC, MR.gOp, MR.gB, MR.bK, MR.gTru, MR.gNotT, MR.gAndT, MR.gOrT, MR.gAndV, MR.gOrV, MR.gNotV, MR.gIf, MR.gChain, MR.gNil, MR.gCons, MR.gTup, MR.gLst, MR.gFz, MR.gOwn, MR.gAsL, MR.gNo, MR.gPart, MR.gSl, MR.gSlF, MR.gUn, MR.gIxL, MR.gFn, MR.gLenL, MR.gYes,
        MR.fAddI, MR.fSub, MR.fDiv, MR.fMod, MR.fPow, MR.fLe, MR.fGt, MR.fGe, MR.fIs, MR.fIsN, MR.fNeg, MR.fMin, MR.fMax, MR.fDivmod, MR.fSum, MR.fAll, MR.fRepr, MR.fIsi, MR.tyD, MR.dInt, MR.dBool, MR.dTup, MR.dStr, MR.dLst,
        MR.gDkT, MR.gDkS, MR.gDkNe, MR.gDkPop, MR.sDkApp, MR.sDkPut, MR.gScr, MR.sDeck, MR.gCall, MR.sel, MR.sFor, MR.sForR1, MR.sForR2, MR.sWhile, MR.sForE, MR.sAugP, MR.gRepL, MR.gCatL, MR.gComp, MR.gCompR, MR.startA, MR.wipeA, MR.sNever, MR.gNever, MR.tNev, MR.sAsg2, MR.fMulS_str, MR.fIntS_str, MR.sParO, MR.sForG, MR.gCompG, MR.iSeqG, MR.iR1G, MR.iR2G, MR.iZipG, MR.iEnumG, MR.iEnumLG, MR.iRevG,
        MR.fTru_bl, MR.fTru_non, MR.fTru_int, MR.fTru_str, MR.fTru_lst, MR.fTru_tup, MR.fAdd_int, MR.fAdd_str, MR.fAdd_tup, MR.fAdd_lst, MR.fMul_int, MR.fMul_tup, MR.fMul_lst, MR.fEq_int, MR.fEq_str, MR.fEq_bl, MR.fEq_tup_tup, MR.fEq_tup_lst, MR.fEq_tup_int, MR.fEq_tup_non, MR.fEq_tup_str, MR.fEq_tup_bl, MR.fEq_lst_tup, MR.fEq_lst_lst, MR.fEq_lst_int, MR.fEq_lst_non, MR.fEq_lst_str, MR.fEq_lst_bl, MR.fEq_int_tup, MR.fEq_int_lst, MR.fEq_int_non, MR.fEq_int_str, MR.fEq_int_bl, MR.fEq_non_tup, MR.fEq_non_lst, MR.fEq_non_int, MR.fEq_non_non, MR.fEq_non_str, MR.fEq_non_bl, MR.fEq_str_tup, MR.fEq_str_lst, MR.fEq_str_int, MR.fEq_str_non, MR.fEq_str_bl, MR.fEq_bl_tup, MR.fEq_bl_lst, MR.fEq_bl_int, MR.fEq_bl_non, MR.fEq_bl_str, MR.fNe_int, MR.fNe_str, MR.fNe_bl, MR.fNe_tup_tup, MR.fNe_tup_lst, MR.fNe_tup_int, MR.fNe_tup_non, MR.fNe_tup_str, MR.fNe_tup_bl, MR.fNe_lst_tup, MR.fNe_lst_lst, MR.fNe_lst_int, MR.fNe_lst_non, MR.fNe_lst_str, MR.fNe_lst_bl, MR.fNe_int_tup, MR.fNe_int_lst, MR.fNe_int_non, MR.fNe_int_str, MR.fNe_int_bl, MR.fNe_non_tup, MR.fNe_non_lst, MR.fNe_non_int, MR.fNe_non_non, MR.fNe_non_str, MR.fNe_non_bl, MR.fNe_str_tup, MR.fNe_str_lst, MR.fNe_str_int, MR.fNe_str_non, MR.fNe_str_bl, MR.fNe_bl_tup, MR.fNe_bl_lst, MR.fNe_bl_int, MR.fNe_bl_non, MR.fNe_bl_str, MR.fLt_int, MR.fIx_tup, MR.fSl_tup, MR.fLen_tup, MR.fTuple_tup, MR.fRev_tup, MR.fIx_lst, MR.fSl_lst, MR.fLen_lst, MR.fTuple_lst, MR.fRev_lst, MR.fIx_str, MR.fSl_str, MR.fLen_str, MR.fInt_int, MR.fInt_bl,
        List.map_cons, List.map_nil, List.cons_append, List.nil_append, List.append_nil, List.length_cons, List.length_nil, List.replicate_succ, List.replicate_zero, List.set_cons_zero, List.set_cons_succ, List.getElem?_cons_zero, List.getElem?_cons_succ, List.getD_cons_zero, List.getD_cons_succ, Nat.reduceAdd, Nat.reduceSub, Nat.zero_add, Option.some.injEq, reduceIte, Bool.not_true, Bool.not_false, true_and, and_true, true_implies, false_implies, implies_true, MR.sRaise, MR.sTryAs, MR.sTry, MR.gIsE, PySem.W.kitAny, PySem.Value.ref.injEq, MR.sStar, MR.aSeq, MR.seqD, MR.gStp, List.take_succ_cons, List.take_zero, List.drop_succ_cons, List.drop_zero, MR.sl, MR.aFor_nil, MR.aComp_nil, Int.zero_add, MR.map_int_inj, MR.nil_map_int, MR.cons_map_int, List.map_eq_nil_iff, MR.eqOk_row, MR.eqOk_rowL, MR.eqOk_nil, MR.nil_eq, MR.nil_deq, MR.deq_row, MR.deq_rowL, MR.deq_nilr, MR.deq_nill, MR.deq_nils, MR.rng_zero, MR.isE_map, List.length_map, List.length_append, List.length_reverse,
        Nat.reduceLeDiff, Nat.reduceLT, Int.reduceLE, Int.reduceLT, Int.reducePow, Int.reduceNeg, Int.toNat_zero, Int.reduceToNat, Bool.not_eq_eq_eq_not, Bool.not_eq_true', decide_eq_false_iff_not, decide_eq_true_eq, Bool.false_eq_true, ite_not, ite_false, ite_true, decide_true, decide_false, not_true_eq_false, not_false_eq_true, List.cons.injEq, MR.D.tup.injEq, MR.D.lst.injEq, MR.D.int.injEq, MR.D.str.injEq, MR.D.bl.injEq, MR.D.adr.injEq, MR.Ent.d.injEq, MR.Ent.own.injEq, Option.some.injEq, Prod.mk.injEq, MR.fl_repx, List.length_replicate, exists_eq, exists_eq', and_assoc, exists_and_left, exists_and_right, exists_eq_left, exists_eq_left', exists_eq_right, exists_eq_right', ne_eq, eq_self, and_self, reduceCtorEq, false_and, and_false, or_false, false_or, Int.reduceEq, Int.reduceSub, Int.reduceAdd, Int.reduceMul, Nat.reduceMul, lt]
      exact qx lt
    case pos =>
      replace q := q hle
      have hb1 := hb.1
      have hb2 := hb.2
      have hlen := row_lenle hb1 h1 h2 hle
      have nl : ¬ wor b xs < wor b ys := by omega
      simp -implicitDefEqProofs only [MR.sNil, MR.sSeq, MR.sDrop, MR.sRet_e, MR.sRet_f, MR.sRetN, MR.sBreak, MR.sCont, MR.sIf, MR.sSet, MR.sOwn, MR.sAsg, MR.sPar, MR.sAug, MR.sFrz, MR.sApp, MR.sPut, MR.sExt, MR.aName, MR.aTup, MR.aNil, MR.aCons, MR.frz,
        MR.gVar, MR.gC, MR.gOp, MR.gB, MR.bK, MR.gTru, MR.gNotT, MR.gAndT, MR.gOrT, MR.gAndV, MR.gOrV, MR.gNotV, MR.gIf, MR.gChain, MR.gNil, MR.gCons, MR.gTup, MR.gLst, MR.gFz, MR.gOwn, MR.gAsL, MR.gNo, MR.gPart, MR.gSl, MR.gSlF, MR.gUn, MR.gIxL, MR.gFn, MR.gLenL, MR.gYes,
        MR.fAddI, MR.fSub, MR.fDiv, MR.fMod, MR.fPow, MR.fLe, MR.fGt, MR.fGe, MR.fIs, MR.fIsN, MR.fNeg, MR.fMin, MR.fMax, MR.fDivmod, MR.fSum, MR.fAll, MR.fRepr, MR.fIsi, MR.tyD, MR.dInt, MR.dBool, MR.dTup, MR.dStr, MR.dLst,
        MR.gDkT, MR.gDkS, MR.gDkNe, MR.gDkPop, MR.sDkApp, MR.sDkPut, MR.gScr, MR.sDeck, MR.gCall, MR.sel, MR.sFor, MR.sForR1, MR.sForR2, MR.sWhile, MR.sForE, MR.sAugP, MR.gRepL, MR.gCatL, MR.gComp, MR.gCompR, MR.startA, MR.wipeA, MR.sNever, MR.gNever, MR.tNev, MR.sAsg2, MR.fMulS_str, MR.fIntS_str, MR.sParO, MR.sForG, MR.gCompG, MR.iSeqG, MR.iR1G, MR.iR2G, MR.iZipG, MR.iEnumG, MR.iEnumLG, MR.iRevG,
        MR.fTru_bl, MR.fTru_non, MR.fTru_int, MR.fTru_str, MR.fTru_lst, MR.fTru_tup, MR.fAdd_int, MR.fAdd_str, MR.fAdd_tup, MR.fAdd_lst, MR.fMul_int, MR.fMul_tup, MR.fMul_lst, MR.fEq_int, MR.fEq_str, MR.fEq_bl, MR.fEq_tup_tup, MR.fEq_tup_lst, MR.fEq_tup_int, MR.fEq_tup_non, MR.fEq_tup_str, MR.fEq_tup_bl, MR.fEq_lst_tup, MR.fEq_lst_lst, MR.fEq_lst_int, MR.fEq_lst_non, MR.fEq_lst_str, MR.fEq_lst_bl, MR.fEq_int_tup, MR.fEq_int_lst, MR.fEq_int_non, MR.fEq_int_str, MR.fEq_int_bl, MR.fEq_non_tup, MR.fEq_non_lst, MR.fEq_non_int, MR.fEq_non_non, MR.fEq_non_str, MR.fEq_non_bl, MR.fEq_str_tup, MR.fEq_str_lst, MR.fEq_str_int, MR.fEq_str_non, MR.fEq_str_bl, MR.fEq_bl_tup, MR.fEq_bl_lst, MR.fEq_bl_int, MR.fEq_bl_non, MR.fEq_bl_str, MR.fNe_int, MR.fNe_str, MR.fNe_bl, MR.fNe_tup_tup, MR.fNe_tup_lst, MR.fNe_tup_int, MR.fNe_tup_non, MR.fNe_tup_str, MR.fNe_tup_bl, MR.fNe_lst_tup, MR.fNe_lst_lst, MR.fNe_lst_int, MR.fNe_lst_non, MR.fNe_lst_str, MR.fNe_lst_bl, MR.fNe_int_tup, MR.fNe_int_lst, MR.fNe_int_non, MR.fNe_int_str, MR.fNe_int_bl, MR.fNe_non_tup, MR.fNe_non_lst, MR.fNe_non_int, MR.fNe_non_non, MR.fNe_non_str, MR.fNe_non_bl, MR.fNe_str_tup, MR.fNe_str_lst, MR.fNe_str_int, MR.fNe_str_non, MR.fNe_str_bl, MR.fNe_bl_tup, MR.fNe_bl_lst, MR.fNe_bl_int, MR.fNe_bl_non, MR.fNe_bl_str, MR.fLt_int, MR.fIx_tup, MR.fSl_tup, MR.fLen_tup, MR.fTuple_tup, MR.fRev_tup, MR.fIx_lst, MR.fSl_lst, MR.fLen_lst, MR.fTuple_lst, MR.fRev_lst, MR.fIx_str, MR.fSl_str, MR.fLen_str, MR.fInt_int, MR.fInt_bl,
        List.map_cons, List.map_nil, List.cons_append, List.nil_append, List.append_nil, List.length_cons, List.length_nil, List.replicate_succ, List.replicate_zero, List.set_cons_zero, List.set_cons_succ, List.getElem?_cons_zero, List.getElem?_cons_succ, List.getD_cons_zero, List.getD_cons_succ, Nat.reduceAdd, Nat.reduceSub, Nat.zero_add, Option.some.injEq, reduceIte, Bool.not_true, Bool.not_false, true_and, and_true, true_implies, false_implies, implies_true, MR.sRaise, MR.sTryAs, MR.sTry, MR.gIsE, PySem.W.kitAny, PySem.Value.ref.injEq, MR.sStar, MR.aSeq, MR.seqD, MR.gStp, List.take_succ_cons, List.take_zero, List.drop_succ_cons, List.drop_zero, MR.sl, MR.aFor_nil, MR.aComp_nil, Int.zero_add, MR.map_int_inj, MR.nil_map_int, MR.cons_map_int, List.map_eq_nil_iff, MR.eqOk_row, MR.eqOk_rowL, MR.eqOk_nil, MR.nil_eq, MR.nil_deq, MR.deq_row, MR.deq_rowL, MR.deq_nilr, MR.deq_nill, MR.deq_nils, MR.rng_zero, MR.isE_map, List.length_map, List.length_append, List.length_reverse,
        Nat.reduceLeDiff, Nat.reduceLT, Int.reduceLE, Int.reduceLT, Int.reducePow, Int.reduceNeg, Int.toNat_zero, Int.reduceToNat, Bool.not_eq_eq_eq_not, Bool.not_eq_true', decide_eq_false_iff_not, decide_eq_true_eq, Bool.false_eq_true, ite_not, ite_false, ite_true, decide_true, decide_false, not_true_eq_false, not_false_eq_true, List.cons.injEq, MR.D.tup.injEq, MR.D.lst.injEq, MR.D.int.injEq, MR.D.str.injEq, MR.D.bl.injEq, MR.D.adr.injEq, MR.Ent.d.injEq, MR.Ent.own.injEq, Option.some.injEq, Prod.mk.injEq, MR.fl_repx, List.length_replicate, exists_eq, exists_eq', and_assoc, exists_and_left, exists_and_right, exists_eq_left, exists_eq_left', exists_eq_right, exists_eq_right', ne_eq, eq_self, and_self, reduceCtorEq, false_and, and_false, or_false, false_or, Int.reduceEq, Int.reduceSub, Int.reduceAdd, Int.reduceMul, Nat.reduceMul, aIsLess]
      refine ⟨b, hb1, h1, h2, ?_⟩
      simp -implicitDefEqProofs only [MR.sNil, MR.sSeq, MR.sDrop, MR.sRet_e, MR.sRet_f, MR.sRetN, MR.sBreak, MR.sCont, MR.sIf, MR.sSet, MR.sOwn, MR.sAsg, MR.sPar, MR.sAug, MR.sFrz, MR.sApp, MR.sPut, MR.sExt, MR.aName, MR.aTup, MR.aNil, MR.aCons, MR.frz,
        MR.gVar, MR.gC, MR.gOp, MR.gB, MR.bK, MR.gTru, MR.gNotT, MR.gAndT, MR.gOrT, MR.gAndV, MR.gOrV, MR.gNotV, MR.gIf, MR.gChain, MR.gNil, MR.gCons, MR.gTup, MR.gLst, MR.gFz, MR.gOwn, MR.gAsL, MR.gNo, MR.gPart, MR.gSl, MR.gSlF, MR.gUn, MR.gIxL, MR.gFn, MR.gLenL, MR.gYes,
        MR.fAddI, MR.fSub, MR.fDiv, MR.fMod, MR.fPow, MR.fLe, MR.fGt, MR.fGe, MR.fIs, MR.fIsN, MR.fNeg, MR.fMin, MR.fMax, MR.fDivmod, MR.fSum, MR.fAll, MR.fRepr, MR.fIsi, MR.tyD, MR.dInt, MR.dBool, MR.dTup, MR.dStr, MR.dLst,
        MR.gDkT, MR.gDkS, MR.gDkNe, MR.gDkPop, MR.sDkApp, MR.sDkPut, MR.gScr, MR.sDeck, MR.gCall, MR.sel, MR.sFor, MR.sForR1, MR.sForR2, MR.sWhile, MR.sForE, MR.sAugP, MR.gRepL, MR.gCatL, MR.gComp, MR.gCompR, MR.startA, MR.wipeA, MR.sNever, MR.gNever, MR.tNev, MR.sAsg2, MR.fMulS_str, MR.fIntS_str, MR.sParO, MR.sForG, MR.gCompG, MR.iSeqG, MR.iR1G, MR.iR2G, MR.iZipG, MR.iEnumG, MR.iEnumLG, MR.iRevG,
        MR.fTru_bl, MR.fTru_non, MR.fTru_int, MR.fTru_str, MR.fTru_lst, MR.fTru_tup, MR.fAdd_int, MR.fAdd_str, MR.fAdd_tup, MR.fAdd_lst, MR.fMul_int, MR.fMul_tup, MR.fMul_lst, MR.fEq_int, MR.fEq_str, MR.fEq_bl, MR.fEq_tup_tup, MR.fEq_tup_lst, MR.fEq_tup_int, MR.fEq_tup_non, MR.fEq_tup_str, MR.fEq_tup_bl, MR.fEq_lst_tup, MR.fEq_lst_lst, MR.fEq_lst_int, MR.fEq_lst_non, MR.fEq_lst_str, MR.fEq_lst_bl, MR.fEq_int_tup, MR.fEq_int_lst, MR.fEq_int_non, MR.fEq_int_str, MR.fEq_int_bl, MR.fEq_non_tup, MR.fEq_non_lst, MR.fEq_non_int, MR.fEq_non_non, MR.fEq_non_str, MR.fEq_non_bl, MR.fEq_str_tup, MR.fEq_str_lst, MR.fEq_str_int, MR.fEq_str_non, MR.fEq_str_bl, MR.fEq_bl_tup, MR.fEq_bl_lst, MR.fEq_bl_int, MR.fEq_bl_non, MR.fEq_bl_str, MR.fNe_int, MR.fNe_str, MR.fNe_bl, MR.fNe_tup_tup, MR.fNe_tup_lst, MR.fNe_tup_int, MR.fNe_tup_non, MR.fNe_tup_str, MR.fNe_tup_bl, MR.fNe_lst_tup, MR.fNe_lst_lst, MR.fNe_lst_int, MR.fNe_lst_non, MR.fNe_lst_str, MR.fNe_lst_bl, MR.fNe_int_tup, MR.fNe_int_lst, MR.fNe_int_non, MR.fNe_int_str, MR.fNe_int_bl, MR.fNe_non_tup, MR.fNe_non_lst, MR.fNe_non_int, MR.fNe_non_non, MR.fNe_non_str, MR.fNe_non_bl, MR.fNe_str_tup, MR.fNe_str_lst, MR.fNe_str_int, MR.fNe_str_non, MR.fNe_str_bl, MR.fNe_bl_tup, MR.fNe_bl_lst, MR.fNe_bl_int, MR.fNe_bl_non, MR.fNe_bl_str, MR.fLt_int, MR.fIx_tup, MR.fSl_tup, MR.fLen_tup, MR.fTuple_tup, MR.fRev_tup, MR.fIx_lst, MR.fSl_lst, MR.fLen_lst, MR.fTuple_lst, MR.fRev_lst, MR.fIx_str, MR.fSl_str, MR.fLen_str, MR.fInt_int, MR.fInt_bl,
        List.map_cons, List.map_nil, List.cons_append, List.nil_append, List.append_nil, List.length_cons, List.length_nil, List.replicate_succ, List.replicate_zero, List.set_cons_zero, List.set_cons_succ, List.getElem?_cons_zero, List.getElem?_cons_succ, List.getD_cons_zero, List.getD_cons_succ, Nat.reduceAdd, Nat.reduceSub, Nat.zero_add, Option.some.injEq, reduceIte, Bool.not_true, Bool.not_false, true_and, and_true, true_implies, false_implies, implies_true, MR.sRaise, MR.sTryAs, MR.sTry, MR.gIsE, PySem.W.kitAny, PySem.Value.ref.injEq, MR.sStar, MR.aSeq, MR.seqD, MR.gStp, List.take_succ_cons, List.take_zero, List.drop_succ_cons, List.drop_zero, MR.sl, MR.aFor_nil, MR.aComp_nil, Int.zero_add, MR.map_int_inj, MR.nil_map_int, MR.cons_map_int, List.map_eq_nil_iff, MR.eqOk_row, MR.eqOk_rowL, MR.eqOk_nil, MR.nil_eq, MR.nil_deq, MR.deq_row, MR.deq_rowL, MR.deq_nilr, MR.deq_nill, MR.deq_nils, MR.rng_zero, MR.isE_map, List.length_map, List.length_append, List.length_reverse,
        Nat.reduceLeDiff, Nat.reduceLT, Int.reduceLE, Int.reduceLT, Int.reducePow, Int.reduceNeg, Int.toNat_zero, Int.reduceToNat, Bool.not_eq_eq_eq_not, Bool.not_eq_true', decide_eq_false_iff_not, decide_eq_true_eq, Bool.false_eq_true, ite_not, ite_false, ite_true, decide_true, decide_false, not_true_eq_false, not_false_eq_true, List.cons.injEq, MR.D.tup.injEq, MR.D.lst.injEq, MR.D.int.injEq, MR.D.str.injEq, MR.D.bl.injEq, MR.D.adr.injEq, MR.Ent.d.injEq, MR.Ent.own.injEq, Option.some.injEq, Prod.mk.injEq, MR.fl_repx, List.length_replicate, exists_eq, exists_eq', and_assoc, exists_and_left, exists_and_right, exists_eq_left, exists_eq_left', exists_eq_right, exists_eq_right', ne_eq, eq_self, and_self, reduceCtorEq, false_and, and_false, or_false, false_or, Int.reduceEq, Int.reduceSub, Int.reduceAdd, Int.reduceMul, Nat.reduceMul, nl]
      obtain ⟨Iv, hIv⟩ : ∃ Iv : Nat → AEnv → DWd.W → Prop, ∀ i ρ ω', Iv i ρ ω' ↔ (ω' = ω ∧ ∃ x5 x6 x7, ∃ (as : List Int) (lent : Int), ρ = [some (.d (row xs)), some (.d (row ys)), some (.d (.int b)), some (.own (as.map D.int)), some (.d (.int lent)), x5, x6, x7] ∧ limbs b as ∧ as.length = i ∧ 0 ≤ lent ∧ lent ≤ 1 ∧ wor b as = wor b (xs.take i) - wor b (ys.take i) + b ^ i * lent) := ⟨_, fun _ _ _ => Iff.rfl⟩
      refine ⟨Iv, (hIv _ _ _).mpr ⟨rfl, none, none, none, [], 0, rfl, (fun _ h => nomatch h), rfl, by decide, by decide, by simp [wor]⟩, fun i d ρ ω' hd hv => ?_, fun ρ ω' hv => ?_⟩
      · replace hv := (hIv _ _ _).mp hv
        obtain ⟨e1, x5, x6, x7, as, lent, e2, e3, e4, e5, e6, e7⟩ := hv
        subst e1 e2
        obtain ⟨w, hw, rfl⟩ := enum_of hd
        obtain ⟨x, hx, rfl⟩ := at_ints hw
        have lx := h1.lim x (List.mem_of_getElem? hx)
        have ly := lim_getD (by omega : (1:Int) ≤ b) h2.lim i
        have hi := (List.getElem?_eq_some_iff.mp hx).1
        have tx : wor b (xs.take (i + 1)) = wor b (xs.take i) + b ^ i * x := by rw [worT, List.getD_eq_getElem?_getD, hx]; rfl
        have ty := worT b ys i
        have key : ∀ (l : Int), (l = 0 ∨ l = 1) → 0 ≤ x - ys.getD i 0 - lent + l * b → x - ys.getD i 0 - lent + l * b < b → limbs b (as ++ [x - ys.getD i 0 - lent + l * b]) ∧ (as ++ [x - ys.getD i 0 - lent + l * b]).length = i + 1 ∧ 0 ≤ l ∧ l ≤ 1 ∧ wor b (as ++ [x - ys.getD i 0 - lent + l * b]) = wor b (xs.take (i + 1)) - wor b (ys.take (i + 1)) + b ^ (i + 1) * l := fun l hl k0 k1 => by
          refine ⟨e3.append fun n hn => by rw [List.mem_singleton] at hn; subst hn; exact ⟨k0, k1⟩, by rw [List.length_append, e4]; rfl, by omega, by omega, ?_⟩
          rw [wor_snoc, e7, tx, ty, e4, Int.pow_succ, Int.mul_comm _ (b ^ i), Int.mul_add, Int.mul_sub, Int.mul_sub, Int.mul_assoc (b ^ i) b l, Int.mul_comm b l]
          omega
        simp -implicitDefEqProofs only [MR.sNil, MR.sSeq, MR.sDrop, MR.sRet_e, MR.sRet_f, MR.sRetN, MR.sBreak, MR.sCont, MR.sIf, MR.sSet, MR.sOwn, MR.sAsg, MR.sPar, MR.sAug, MR.sFrz, MR.sApp, MR.sPut, MR.sExt, MR.aName, MR.aTup, MR.aNil, MR.aCons, MR.frz,
        MR.gVar, MR.gC, MR.gOp, MR.gB, MR.bK, MR.gTru, MR.gNotT, MR.gAndT, MR.gOrT, MR.gAndV, MR.gOrV, MR.gNotV, MR.gIf, MR.gChain, MR.gNil, MR.gCons, MR.gTup, MR.gLst, MR.gFz, MR.gOwn, MR.gAsL, MR.gNo, MR.gPart, MR.gSl, MR.gSlF, MR.gUn, MR.gIxL, MR.gFn, MR.gLenL, MR.gYes,
        MR.fAddI, MR.fSub, MR.fDiv, MR.fMod, MR.fPow, MR.fLe, MR.fGt, MR.fGe, MR.fIs, MR.fIsN, MR.fNeg, MR.fMin, MR.fMax, MR.fDivmod, MR.fSum, MR.fAll, MR.fRepr, MR.fIsi, MR.tyD, MR.dInt, MR.dBool, MR.dTup, MR.dStr, MR.dLst,
        MR.gDkT, MR.gDkS, MR.gDkNe, MR.gDkPop, MR.sDkApp, MR.sDkPut, MR.gScr, MR.sDeck, MR.gCall, MR.sel, MR.sFor, MR.sForR1, MR.sForR2, MR.sWhile, MR.sForE, MR.sAugP, MR.gRepL, MR.gCatL, MR.gComp, MR.gCompR, MR.startA, MR.wipeA, MR.sNever, MR.gNever, MR.tNev, MR.sAsg2, MR.fMulS_str, MR.fIntS_str, MR.sParO, MR.sForG, MR.gCompG, MR.iSeqG, MR.iR1G, MR.iR2G, MR.iZipG, MR.iEnumG, MR.iEnumLG, MR.iRevG,
        MR.fTru_bl, MR.fTru_non, MR.fTru_int, MR.fTru_str, MR.fTru_lst, MR.fTru_tup, MR.fAdd_int, MR.fAdd_str, MR.fAdd_tup, MR.fAdd_lst, MR.fMul_int, MR.fMul_tup, MR.fMul_lst, MR.fEq_int, MR.fEq_str, MR.fEq_bl, MR.fEq_tup_tup, MR.fEq_tup_lst, MR.fEq_tup_int, MR.fEq_tup_non, MR.fEq_tup_str, MR.fEq_tup_bl, MR.fEq_lst_tup, MR.fEq_lst_lst, MR.fEq_lst_int, MR.fEq_lst_non, MR.fEq_lst_str, MR.fEq_lst_bl, MR.fEq_int_tup, MR.fEq_int_lst, MR.fEq_int_non, MR.fEq_int_str, MR.fEq_int_bl, MR.fEq_non_tup, MR.fEq_non_lst, MR.fEq_non_int, MR.fEq_non_non, MR.fEq_non_str, MR.fEq_non_bl, MR.fEq_str_tup, MR.fEq_str_lst, MR.fEq_str_int, MR.fEq_str_non, MR.fEq_str_bl, MR.fEq_bl_tup, MR.fEq_bl_lst, MR.fEq_bl_int, MR.fEq_bl_non, MR.fEq_bl_str, MR.fNe_int, MR.fNe_str, MR.fNe_bl, MR.fNe_tup_tup, MR.fNe_tup_lst, MR.fNe_tup_int, MR.fNe_tup_non, MR.fNe_tup_str, MR.fNe_tup_bl, MR.fNe_lst_tup, MR.fNe_lst_lst, MR.fNe_lst_int, MR.fNe_lst_non, MR.fNe_lst_str, MR.fNe_lst_bl, MR.fNe_int_tup, MR.fNe_int_lst, MR.fNe_int_non, MR.fNe_int_str, MR.fNe_int_bl, MR.fNe_non_tup, MR.fNe_non_lst, MR.fNe_non_int, MR.fNe_non_non, MR.fNe_non_str, MR.fNe_non_bl, MR.fNe_str_tup, MR.fNe_str_lst, MR.fNe_str_int, MR.fNe_str_non, MR.fNe_str_bl, MR.fNe_bl_tup, MR.fNe_bl_lst, MR.fNe_bl_int, MR.fNe_bl_non, MR.fNe_bl_str, MR.fLt_int, MR.fIx_tup, MR.fSl_tup, MR.fLen_tup, MR.fTuple_tup, MR.fRev_tup, MR.fIx_lst, MR.fSl_lst, MR.fLen_lst, MR.fTuple_lst, MR.fRev_lst, MR.fIx_str, MR.fSl_str, MR.fLen_str, MR.fInt_int, MR.fInt_bl,
        List.map_cons, List.map_nil, List.cons_append, List.nil_append, List.append_nil, List.length_cons, List.length_nil, List.replicate_succ, List.replicate_zero, List.set_cons_zero, List.set_cons_succ, List.getElem?_cons_zero, List.getElem?_cons_succ, List.getD_cons_zero, List.getD_cons_succ, Nat.reduceAdd, Nat.reduceSub, Nat.zero_add, Option.some.injEq, reduceIte, Bool.not_true, Bool.not_false, true_and, and_true, true_implies, false_implies, implies_true, MR.sRaise, MR.sTryAs, MR.sTry, MR.gIsE, PySem.W.kitAny, PySem.Value.ref.injEq, MR.sStar, MR.aSeq, MR.seqD, MR.gStp, List.take_succ_cons, List.take_zero, List.drop_succ_cons, List.drop_zero, MR.sl, MR.aFor_nil, MR.aComp_nil, Int.zero_add, MR.map_int_inj, MR.nil_map_int, MR.cons_map_int, List.map_eq_nil_iff, MR.eqOk_row, MR.eqOk_rowL, MR.eqOk_nil, MR.nil_eq, MR.nil_deq, MR.deq_row, MR.deq_rowL, MR.deq_nilr, MR.deq_nill, MR.deq_nils, MR.rng_zero, MR.isE_map, List.length_map, List.length_append, List.length_reverse,
        Nat.reduceLeDiff, Nat.reduceLT, Int.reduceLE, Int.reduceLT, Int.reducePow, Int.reduceNeg, Int.toNat_zero, Int.reduceToNat, Bool.not_eq_eq_eq_not, Bool.not_eq_true', decide_eq_false_iff_not, decide_eq_true_eq, Bool.false_eq_true, ite_not, ite_false, ite_true, decide_true, decide_false, not_true_eq_false, not_false_eq_true, List.cons.injEq, MR.D.tup.injEq, MR.D.lst.injEq, MR.D.int.injEq, MR.D.str.injEq, MR.D.bl.injEq, MR.D.adr.injEq, MR.Ent.d.injEq, MR.Ent.own.injEq, Option.some.injEq, Prod.mk.injEq, MR.fl_repx, List.length_replicate, exists_eq, exists_eq', and_assoc, exists_and_left, exists_and_right, exists_eq_left, exists_eq_left', exists_eq_right, exists_eq_right', ne_eq, eq_self, and_self, reduceCtorEq, false_and, and_false, or_false, false_or, Int.reduceEq, Int.reduceSub, Int.reduceAdd, Int.reduceMul, Nat.reduceMul, aLimbAt, Int.toNat_natCast]
        by_cases c : x - ys.getD i 0 - lent < 0
        · obtain ⟨k1, k2, k3, k4, k5⟩ := key 1 (.inr rfl) (by omega) (by omega)
          simp -implicitDefEqProofs only [MR.sNil, MR.sSeq, MR.sDrop, MR.sRet_e, MR.sRet_f, MR.sRetN, MR.sBreak, MR.sCont, MR.sIf, MR.sSet, MR.sOwn, MR.sAsg, MR.sPar, MR.sAug, MR.sFrz, MR.sApp, MR.sPut, MR.sExt, MR.aName, MR.aTup, MR.aNil, MR.aCons, MR.frz,
        MR.gVar, MR.gC, MR.gOp, MR.gB, MR.bK, MR.gTru, MR.gNotT, MR.gAndT, MR.gOrT, MR.gAndV, MR.gOrV, MR.gNotV, MR.gIf, MR.gChain, MR.gNil, MR.gCons, MR.gTup, MR.gLst, MR.gFz, MR.gOwn, MR.gAsL, MR.gNo, MR.gPart, MR.gSl, MR.gSlF, MR.gUn, MR.gIxL, MR.gFn, MR.gLenL, MR.gYes,
        MR.fAddI, MR.fSub, MR.fDiv, MR.fMod, MR.fPow, MR.fLe, MR.fGt, MR.fGe, MR.fIs, MR.fIsN, MR.fNeg, MR.fMin, MR.fMax, MR.fDivmod, MR.fSum, MR.fAll, MR.fRepr, MR.fIsi, MR.tyD, MR.dInt, MR.dBool, MR.dTup, MR.dStr, MR.dLst,
        MR.gDkT, MR.gDkS, MR.gDkNe, MR.gDkPop, MR.sDkApp, MR.sDkPut, MR.gScr, MR.sDeck, MR.gCall, MR.sel, MR.sFor, MR.sForR1, MR.sForR2, MR.sWhile, MR.sForE, MR.sAugP, MR.gRepL, MR.gCatL, MR.gComp, MR.gCompR, MR.startA, MR.wipeA, MR.sNever, MR.gNever, MR.tNev, MR.sAsg2, MR.fMulS_str, MR.fIntS_str, MR.sParO, MR.sForG, MR.gCompG, MR.iSeqG, MR.iR1G, MR.iR2G, MR.iZipG, MR.iEnumG, MR.iEnumLG, MR.iRevG,
        MR.fTru_bl, MR.fTru_non, MR.fTru_int, MR.fTru_str, MR.fTru_lst, MR.fTru_tup, MR.fAdd_int, MR.fAdd_str, MR.fAdd_tup, MR.fAdd_lst, MR.fMul_int, MR.fMul_tup, MR.fMul_lst, MR.fEq_int, MR.fEq_str, MR.fEq_bl, MR.fEq_tup_tup, MR.fEq_tup_lst, MR.fEq_tup_int, MR.fEq_tup_non, MR.fEq_tup_str, MR.fEq_tup_bl, MR.fEq_lst_tup, MR.fEq_lst_lst, MR.fEq_lst_int, MR.fEq_lst_non, MR.fEq_lst_str, MR.fEq_lst_bl, MR.fEq_int_tup, MR.fEq_int_lst, MR.fEq_int_non, MR.fEq_int_str, MR.fEq_int_bl, MR.fEq_non_tup, MR.fEq_non_lst, MR.fEq_non_int, MR.fEq_non_non, MR.fEq_non_str, MR.fEq_non_bl, MR.fEq_str_tup, MR.fEq_str_lst, MR.fEq_str_int, MR.fEq_str_non, MR.fEq_str_bl, MR.fEq_bl_tup, MR.fEq_bl_lst, MR.fEq_bl_int, MR.fEq_bl_non, MR.fEq_bl_str, MR.fNe_int, MR.fNe_str, MR.fNe_bl, MR.fNe_tup_tup, MR.fNe_tup_lst, MR.fNe_tup_int, MR.fNe_tup_non, MR.fNe_tup_str, MR.fNe_tup_bl, MR.fNe_lst_tup, MR.fNe_lst_lst, MR.fNe_lst_int, MR.fNe_lst_non, MR.fNe_lst_str, MR.fNe_lst_bl, MR.fNe_int_tup, MR.fNe_int_lst, MR.fNe_int_non, MR.fNe_int_str, MR.fNe_int_bl, MR.fNe_non_tup, MR.fNe_non_lst, MR.fNe_non_int, MR.fNe_non_non, MR.fNe_non_str, MR.fNe_non_bl, MR.fNe_str_tup, MR.fNe_str_lst, MR.fNe_str_int, MR.fNe_str_non, MR.fNe_str_bl, MR.fNe_bl_tup, MR.fNe_bl_lst, MR.fNe_bl_int, MR.fNe_bl_non, MR.fNe_bl_str, MR.fLt_int, MR.fIx_tup, MR.fSl_tup, MR.fLen_tup, MR.fTuple_tup, MR.fRev_tup, MR.fIx_lst, MR.fSl_lst, MR.fLen_lst, MR.fTuple_lst, MR.fRev_lst, MR.fIx_str, MR.fSl_str, MR.fLen_str, MR.fInt_int, MR.fInt_bl,
        List.map_cons, List.map_nil, List.cons_append, List.nil_append, List.append_nil, List.length_cons, List.length_nil, List.replicate_succ, List.replicate_zero, List.set_cons_zero, List.set_cons_succ, List.getElem?_cons_zero, List.getElem?_cons_succ, List.getD_cons_zero, List.getD_cons_succ, Nat.reduceAdd, Nat.reduceSub, Nat.zero_add, Option.some.injEq, reduceIte, Bool.not_true, Bool.not_false, true_and, and_true, true_implies, false_implies, implies_true, MR.sRaise, MR.sTryAs, MR.sTry, MR.gIsE, PySem.W.kitAny, PySem.Value.ref.injEq, MR.sStar, MR.aSeq, MR.seqD, MR.gStp, List.take_succ_cons, List.take_zero, List.drop_succ_cons, List.drop_zero, MR.sl, MR.aFor_nil, MR.aComp_nil, Int.zero_add, MR.map_int_inj, MR.nil_map_int, MR.cons_map_int, List.map_eq_nil_iff, MR.eqOk_row, MR.eqOk_rowL, MR.eqOk_nil, MR.nil_eq, MR.nil_deq, MR.deq_row, MR.deq_rowL, MR.deq_nilr, MR.deq_nill, MR.deq_nils, MR.rng_zero, MR.isE_map, List.length_map, List.length_append, List.length_reverse,
        Nat.reduceLeDiff, Nat.reduceLT, Int.reduceLE, Int.reduceLT, Int.reducePow, Int.reduceNeg, Int.toNat_zero, Int.reduceToNat, Bool.not_eq_eq_eq_not, Bool.not_eq_true', decide_eq_false_iff_not, decide_eq_true_eq, Bool.false_eq_true, ite_not, ite_false, ite_true, decide_true, decide_false, not_true_eq_false, not_false_eq_true, List.cons.injEq, MR.D.tup.injEq, MR.D.lst.injEq, MR.D.int.injEq, MR.D.str.injEq, MR.D.bl.injEq, MR.D.adr.injEq, MR.Ent.d.injEq, MR.Ent.own.injEq, Option.some.injEq, Prod.mk.injEq, MR.fl_repx, List.length_replicate, exists_eq, exists_eq', and_assoc, exists_and_left, exists_and_right, exists_eq_left, exists_eq_left', exists_eq_right, exists_eq_right', ne_eq, eq_self, and_self, reduceCtorEq, false_and, and_false, or_false, false_or, Int.reduceEq, Int.reduceSub, Int.reduceAdd, Int.reduceMul, Nat.reduceMul, c, Int.one_mul] at k1 k2 k3 k4 k5 ⊢
          refine ⟨by omega, mulw 20 20 (by decide) (by decide) (by omega) (by omega) (by decide) (by decide) (by decide), by omega, ?_⟩
          refine (hIv _ _ _).mpr ?_
          exact ⟨rfl, _, _, _, as ++ [x - ys.getD i 0 - lent + b], 1, by rw [List.map_append]; rfl, k1, by rw [List.length_append, e4]; rfl, by decide, by decide, k5⟩
        · obtain ⟨k1, k2, k3, k4, k5⟩ := key 0 (.inl rfl) (by omega) (by omega)
          simp -implicitDefEqProofs only [MR.sNil, MR.sSeq, MR.sDrop, MR.sRet_e, MR.sRet_f, MR.sRetN, MR.sBreak, MR.sCont, MR.sIf, MR.sSet, MR.sOwn, MR.sAsg, MR.sPar, MR.sAug, MR.sFrz, MR.sApp, MR.sPut, MR.sExt, MR.aName, MR.aTup, MR.aNil, MR.aCons, MR.frz,
        MR.gVar, MR.gC, MR.gOp, MR.gB, MR.bK, MR.gTru, MR.gNotT, MR.gAndT, MR.gOrT, MR.gAndV, MR.gOrV, MR.gNotV, MR.gIf, MR.gChain, MR.gNil, MR.gCons, MR.gTup, MR.gLst, MR.gFz, MR.gOwn, MR.gAsL, MR.gNo, MR.gPart, MR.gSl, MR.gSlF, MR.gUn, MR.gIxL, MR.gFn, MR.gLenL, MR.gYes,
        MR.fAddI, MR.fSub, MR.fDiv, MR.fMod, MR.fPow, MR.fLe, MR.fGt, MR.fGe, MR.fIs, MR.fIsN, MR.fNeg, MR.fMin, MR.fMax, MR.fDivmod, MR.fSum, MR.fAll, MR.fRepr, MR.fIsi, MR.tyD, MR.dInt, MR.dBool, MR.dTup, MR.dStr, MR.dLst,
        MR.gDkT, MR.gDkS, MR.gDkNe, MR.gDkPop, MR.sDkApp, MR.sDkPut, MR.gScr, MR.sDeck, MR.gCall, MR.sel, MR.sFor, MR.sForR1, MR.sForR2, MR.sWhile, MR.sForE, MR.sAugP, MR.gRepL, MR.gCatL, MR.gComp, MR.gCompR, MR.startA, MR.wipeA, MR.sNever, MR.gNever, MR.tNev, MR.sAsg2, MR.fMulS_str, MR.fIntS_str, MR.sParO, MR.sForG, MR.gCompG, MR.iSeqG, MR.iR1G, MR.iR2G, MR.iZipG, MR.iEnumG, MR.iEnumLG, MR.iRevG,
        MR.fTru_bl, MR.fTru_non, MR.fTru_int, MR.fTru_str, MR.fTru_lst, MR.fTru_tup, MR.fAdd_int, MR.fAdd_str, MR.fAdd_tup, MR.fAdd_lst, MR.fMul_int, MR.fMul_tup, MR.fMul_lst, MR.fEq_int, MR.fEq_str, MR.fEq_bl, MR.fEq_tup_tup, MR.fEq_tup_lst, MR.fEq_tup_int, MR.fEq_tup_non, MR.fEq_tup_str, MR.fEq_tup_bl, MR.fEq_lst_tup, MR.fEq_lst_lst, MR.fEq_lst_int, MR.fEq_lst_non, MR.fEq_lst_str, MR.fEq_lst_bl, MR.fEq_int_tup, MR.fEq_int_lst, MR.fEq_int_non, MR.fEq_int_str, MR.fEq_int_bl, MR.fEq_non_tup, MR.fEq_non_lst, MR.fEq_non_int, MR.fEq_non_non, MR.fEq_non_str, MR.fEq_non_bl, MR.fEq_str_tup, MR.fEq_str_lst, MR.fEq_str_int, MR.fEq_str_non, MR.fEq_str_bl, MR.fEq_bl_tup, MR.fEq_bl_lst, MR.fEq_bl_int, MR.fEq_bl_non, MR.fEq_bl_str, MR.fNe_int, MR.fNe_str, MR.fNe_bl, MR.fNe_tup_tup, MR.fNe_tup_lst, MR.fNe_tup_int, MR.fNe_tup_non, MR.fNe_tup_str, MR.fNe_tup_bl, MR.fNe_lst_tup, MR.fNe_lst_lst, MR.fNe_lst_int, MR.fNe_lst_non, MR.fNe_lst_str, MR.fNe_lst_bl, MR.fNe_int_tup, MR.fNe_int_lst, MR.fNe_int_non, MR.fNe_int_str, MR.fNe_int_bl, MR.fNe_non_tup, MR.fNe_non_lst, MR.fNe_non_int, MR.fNe_non_non, MR.fNe_non_str, MR.fNe_non_bl, MR.fNe_str_tup, MR.fNe_str_lst, MR.fNe_str_int, MR.fNe_str_non, MR.fNe_str_bl, MR.fNe_bl_tup, MR.fNe_bl_lst, MR.fNe_bl_int, MR.fNe_bl_non, MR.fNe_bl_str, MR.fLt_int, MR.fIx_tup, MR.fSl_tup, MR.fLen_tup, MR.fTuple_tup, MR.fRev_tup, MR.fIx_lst, MR.fSl_lst, MR.fLen_lst, MR.fTuple_lst, MR.fRev_lst, MR.fIx_str, MR.fSl_str, MR.fLen_str, MR.fInt_int, MR.fInt_bl,
        List.map_cons, List.map_nil, List.cons_append, List.nil_append, List.append_nil, List.length_cons, List.length_nil, List.replicate_succ, List.replicate_zero, List.set_cons_zero, List.set_cons_succ, List.getElem?_cons_zero, List.getElem?_cons_succ, List.getD_cons_zero, List.getD_cons_succ, Nat.reduceAdd, Nat.reduceSub, Nat.zero_add, Option.some.injEq, reduceIte, Bool.not_true, Bool.not_false, true_and, and_true, true_implies, false_implies, implies_true, MR.sRaise, MR.sTryAs, MR.sTry, MR.gIsE, PySem.W.kitAny, PySem.Value.ref.injEq, MR.sStar, MR.aSeq, MR.seqD, MR.gStp, List.take_succ_cons, List.take_zero, List.drop_succ_cons, List.drop_zero, MR.sl, MR.aFor_nil, MR.aComp_nil, Int.zero_add, MR.map_int_inj, MR.nil_map_int, MR.cons_map_int, List.map_eq_nil_iff, MR.eqOk_row, MR.eqOk_rowL, MR.eqOk_nil, MR.nil_eq, MR.nil_deq, MR.deq_row, MR.deq_rowL, MR.deq_nilr, MR.deq_nill, MR.deq_nils, MR.rng_zero, MR.isE_map, List.length_map, List.length_append, List.length_reverse,
        Nat.reduceLeDiff, Nat.reduceLT, Int.reduceLE, Int.reduceLT, Int.reducePow, Int.reduceNeg, Int.toNat_zero, Int.reduceToNat, Bool.not_eq_eq_eq_not, Bool.not_eq_true', decide_eq_false_iff_not, decide_eq_true_eq, Bool.false_eq_true, ite_not, ite_false, ite_true, decide_true, decide_false, not_true_eq_false, not_false_eq_true, List.cons.injEq, MR.D.tup.injEq, MR.D.lst.injEq, MR.D.int.injEq, MR.D.str.injEq, MR.D.bl.injEq, MR.D.adr.injEq, MR.Ent.d.injEq, MR.Ent.own.injEq, Option.some.injEq, Prod.mk.injEq, MR.fl_repx, List.length_replicate, exists_eq, exists_eq', and_assoc, exists_and_left, exists_and_right, exists_eq_left, exists_eq_left', exists_eq_right, exists_eq_right', ne_eq, eq_self, and_self, reduceCtorEq, false_and, and_false, or_false, false_or, Int.reduceEq, Int.reduceSub, Int.reduceAdd, Int.reduceMul, Nat.reduceMul, c, Int.zero_mul, Int.add_zero] at k1 k2 k3 k4 k5 ⊢
          refine ⟨by omega, mulw 20 20 (by decide) (by decide) (by omega) (by omega) (by decide) (by decide) (by decide), by omega, ?_⟩
          refine (hIv _ _ _).mpr ?_
          exact ⟨rfl, _, _, _, as ++ [x - ys.getD i 0 - lent], 0, by rw [List.map_append]; rfl, k1, by rw [List.length_append, e4]; rfl, by decide, by decide, k5⟩
      · replace hv := (hIv _ _ _).mp hv
        obtain ⟨e1, x5, x6, x7, as, lent, e2, e3, e4, e5, e6, e7⟩ := hv
        subst e1 e2
        rw [enum_len, List.length_map] at e4 e7
        rw [List.take_length, List.take_of_length_le hlen] at e7
        have wl := wor_lt (by omega : (1:Int) ≤ b) e3
        rw [e4] at wl
        have l0 : lent = 0 := by
          by_cases c : lent = 1
          · subst c
            rw [Int.mul_one] at e7
            omega
          · omega
        subst l0
        rw [Int.mul_zero, Int.add_zero] at e7
        simp -implicitDefEqProofs only [MR.sNil, MR.sSeq, MR.sDrop, MR.sRet_e, MR.sRet_f, MR.sRetN, MR.sBreak, MR.sCont, MR.sIf, MR.sSet, MR.sOwn, MR.sAsg, MR.sPar, MR.sAug, MR.sFrz, MR.sApp, MR.sPut, MR.sExt, MR.aName, MR.aTup, MR.aNil, MR.aCons, MR.frz,
        MR.gVar, MR.gC, MR.gOp, MR.gB, MR.bK, MR.gTru, MR.gNotT, MR.gAndT, MR.gOrT, MR.gAndV, MR.gOrV, MR.gNotV, MR.gIf, MR.gChain, MR.gNil, MR.gCons, MR.gTup, MR.gLst, MR.gFz, MR.gOwn, MR.gAsL, MR.gNo, MR.gPart, MR.gSl, MR.gSlF, MR.gUn, MR.gIxL, MR.gFn, MR.gLenL, MR.gYes,
        MR.fAddI, MR.fSub, MR.fDiv, MR.fMod, MR.fPow, MR.fLe, MR.fGt, MR.fGe, MR.fIs, MR.fIsN, MR.fNeg, MR.fMin, MR.fMax, MR.fDivmod, MR.fSum, MR.fAll, MR.fRepr, MR.fIsi, MR.tyD, MR.dInt, MR.dBool, MR.dTup, MR.dStr, MR.dLst,
        MR.gDkT, MR.gDkS, MR.gDkNe, MR.gDkPop, MR.sDkApp, MR.sDkPut, MR.gScr, MR.sDeck, MR.gCall, MR.sel, MR.sFor, MR.sForR1, MR.sForR2, MR.sWhile, MR.sForE, MR.sAugP, MR.gRepL, MR.gCatL, MR.gComp, MR.gCompR, MR.startA, MR.wipeA, MR.sNever, MR.gNever, MR.tNev, MR.sAsg2, MR.fMulS_str, MR.fIntS_str, MR.sParO, MR.sForG, MR.gCompG, MR.iSeqG, MR.iR1G, MR.iR2G, MR.iZipG, MR.iEnumG, MR.iEnumLG, MR.iRevG,
        MR.fTru_bl, MR.fTru_non, MR.fTru_int, MR.fTru_str, MR.fTru_lst, MR.fTru_tup, MR.fAdd_int, MR.fAdd_str, MR.fAdd_tup, MR.fAdd_lst, MR.fMul_int, MR.fMul_tup, MR.fMul_lst, MR.fEq_int, MR.fEq_str, MR.fEq_bl, MR.fEq_tup_tup, MR.fEq_tup_lst, MR.fEq_tup_int, MR.fEq_tup_non, MR.fEq_tup_str, MR.fEq_tup_bl, MR.fEq_lst_tup, MR.fEq_lst_lst, MR.fEq_lst_int, MR.fEq_lst_non, MR.fEq_lst_str, MR.fEq_lst_bl, MR.fEq_int_tup, MR.fEq_int_lst, MR.fEq_int_non, MR.fEq_int_str, MR.fEq_int_bl, MR.fEq_non_tup, MR.fEq_non_lst, MR.fEq_non_int, MR.fEq_non_non, MR.fEq_non_str, MR.fEq_non_bl, MR.fEq_str_tup, MR.fEq_str_lst, MR.fEq_str_int, MR.fEq_str_non, MR.fEq_str_bl, MR.fEq_bl_tup, MR.fEq_bl_lst, MR.fEq_bl_int, MR.fEq_bl_non, MR.fEq_bl_str, MR.fNe_int, MR.fNe_str, MR.fNe_bl, MR.fNe_tup_tup, MR.fNe_tup_lst, MR.fNe_tup_int, MR.fNe_tup_non, MR.fNe_tup_str, MR.fNe_tup_bl, MR.fNe_lst_tup, MR.fNe_lst_lst, MR.fNe_lst_int, MR.fNe_lst_non, MR.fNe_lst_str, MR.fNe_lst_bl, MR.fNe_int_tup, MR.fNe_int_lst, MR.fNe_int_non, MR.fNe_int_str, MR.fNe_int_bl, MR.fNe_non_tup, MR.fNe_non_lst, MR.fNe_non_int, MR.fNe_non_non, MR.fNe_non_str, MR.fNe_non_bl, MR.fNe_str_tup, MR.fNe_str_lst, MR.fNe_str_int, MR.fNe_str_non, MR.fNe_str_bl, MR.fNe_bl_tup, MR.fNe_bl_lst, MR.fNe_bl_int, MR.fNe_bl_non, MR.fNe_bl_str, MR.fLt_int, MR.fIx_tup, MR.fSl_tup, MR.fLen_tup, MR.fTuple_tup, MR.fRev_tup, MR.fIx_lst, MR.fSl_lst, MR.fLen_lst, MR.fTuple_lst, MR.fRev_lst, MR.fIx_str, MR.fSl_str, MR.fLen_str, MR.fInt_int, MR.fInt_bl,
        List.map_cons, List.map_nil, List.cons_append, List.nil_append, List.append_nil, List.length_cons, List.length_nil, List.replicate_succ, List.replicate_zero, List.set_cons_zero, List.set_cons_succ, List.getElem?_cons_zero, List.getElem?_cons_succ, List.getD_cons_zero, List.getD_cons_succ, Nat.reduceAdd, Nat.reduceSub, Nat.zero_add, Option.some.injEq, reduceIte, Bool.not_true, Bool.not_false, true_and, and_true, true_implies, false_implies, implies_true, MR.sRaise, MR.sTryAs, MR.sTry, MR.gIsE, PySem.W.kitAny, PySem.Value.ref.injEq, MR.sStar, MR.aSeq, MR.seqD, MR.gStp, List.take_succ_cons, List.take_zero, List.drop_succ_cons, List.drop_zero, MR.sl, MR.aFor_nil, MR.aComp_nil, Int.zero_add, MR.map_int_inj, MR.nil_map_int, MR.cons_map_int, List.map_eq_nil_iff, MR.eqOk_row, MR.eqOk_rowL, MR.eqOk_nil, MR.nil_eq, MR.nil_deq, MR.deq_row, MR.deq_rowL, MR.deq_nilr, MR.deq_nill, MR.deq_nils, MR.rng_zero, MR.isE_map, List.length_map, List.length_append, List.length_reverse,
        Nat.reduceLeDiff, Nat.reduceLT, Int.reduceLE, Int.reduceLT, Int.reducePow, Int.reduceNeg, Int.toNat_zero, Int.reduceToNat, Bool.not_eq_eq_eq_not, Bool.not_eq_true', decide_eq_false_iff_not, decide_eq_true_eq, Bool.false_eq_true, ite_not, ite_false, ite_true, decide_true, decide_false, not_true_eq_false, not_false_eq_true, List.cons.injEq, MR.D.tup.injEq, MR.D.lst.injEq, MR.D.int.injEq, MR.D.str.injEq, MR.D.bl.injEq, MR.D.adr.injEq, MR.Ent.d.injEq, MR.Ent.own.injEq, Option.some.injEq, Prod.mk.injEq, MR.fl_repx, List.length_replicate, exists_eq, exists_eq', and_assoc, exists_and_left, exists_and_right, exists_eq_left, exists_eq_left', exists_eq_right, exists_eq_right', ne_eq, eq_self, and_self, reduceCtorEq, false_and, and_false, or_false, false_or, Int.reduceEq, Int.reduceSub, Int.reduceAdd, Int.reduceMul, Nat.reduceMul, aWithout]
        rw [← digs_strip hb1 e3, e7]
        exact q
  refine ⟨fd, ⟨t.g_lessened, F.kp, ok⟩, ?_, ?_, ?_⟩
  · refine bnd_of F 2 ["base"] [] [0, 1, 2] [] (by simp) rfl ?_
    intro kV doc pm an cdv ct D us mv ws h1 h2 h3 h4
    match us, mv, ws, h1, h2, h3 with
    | [u0, u1], [], [v0], _, _, _ => exact rfl
  · refine bnd_of F 2 [] [("base", .int 10)] [0, 1, 2] [.int 10] (by simp) rfl ?_
    intro kV doc pm an cdv ct D us mv ws h1 h2 h3 h4
    match us, mv, ws, h1, h2, h3 with
    | [u0, u1], [m0], [], _, _, _ =>
      obtain rfl := h4 (by simp)
      exact ⟨_, _, _, _, _, _, rfl, rfl, rfl⟩
  · refine bnd_of F 0 ["base", "other", "one"] [] [2, 1, 0] [] (by simp) rfl ?_
    intro kV doc pm an cdv ct D us mv ws h1 h2 h3 h4
    match us, mv, ws, h1, h2, h3 with
    | [], [], [v0, v1, v2], _, _, _ => exact rfl

def aRef : ASp DWd := fun ds ω Q _ => ∃ xs ys b, ds = [row xs, row ys, .int b] ∧ base_ b ∧ isRow b xs ∧ isRow b ys ∧ xs.length ≤ 20000 ∧ wor b xs < wor b ys ∧ Q (.bl true) ω

theorem kn__law_is_refused (t : T K mg) : ∃ fd, Known PR w K mg base 3 "_law_is_refused" (He.ga K "_law_is_refused") fd ["_law_mine", "_law_theirs", "_law_to"] DWd 3 aRef ∧ Bnd K fd ["_law_mine", "_law_theirs", "_law_to"] 3 [] [0, 1, 2] [] := by
  obtain ⟨fd, F⟩ := t.f__law_is_refused
  obtain ⟨fd_lessened, k_lessened, b_lessened_0, b_lessened_1, b_lessened_2⟩ := kn_lessened (w := w) (base := base) t
  have ok : FnG PR w K mg base (L2.CX PR w) 3 (He.ga K "_law_is_refused") fd ["_law_mine", "_law_theirs", "_law_to"] (toSp DWd K 3 aRef) := by
    refine fn_ok (N := n__law_is_refused) DWd aRef F S__law_is_refused fun cdv A outer s H E hr hG => ?_
    have S := S__law_is_refused
    refine ⟨_, (gss_cons (gs_set 3 S.nd ge_bl)
      (gss_cons (gs_tryAs K 4 rfl rfl S.nd tk_cx t.c_TooGreat (fun W2 pn2 xe2 tk2 po2 => (gss_one (gs_expr (ge_call2 k_lessened (Room.mono hr (by decide)) hG tk2 b_lessened_0 (fun B => .nil) (ga_cons (ge_var 0) (ga_cons (ge_var 1) ga_nil)) (gk_cons (ge_var 2) gk_nil)))))
      (fun a2 oe2 cls2 d2 pn2 x2 hz2 hf2 h12 h22 => (gss_cons (gs_set 3 S.nd (ge_and (ge_isE1 K 4 hz2 hf2 h12 h22 t.z_isinstance (cv_own t.c_RoadError cv_nil)) (ge_one (ge_isE1 K 4 hz2 hf2 h12 h22 t.z_isinstance (cv_ty (T := "ArithmeticError") t.z_ArithmeticError cv_nil)))))
      (gss_one (gs_if (gt_tru (ge_isET K 4 hz2 hf2 h12 h22 t.z_isinstance (cv_own t.c_NoBack (cv_own t.c_NoDeed (cv_own t.c_NoName (cv_own t.c_NoQuotient (cv_own t.c_NoRing (cv_own t.c_NoRoad (cv_own t.c_NoRow (cv_own t.c_NoShare (cv_own t.c_NoText (cv_own t.c_NotSame (cv_own t.c_Taken cv_nil)))))))))))))
      (gss_one (gs_set 3 S.nd ge_bl))
      gss_nil)))))
      (gss_one (gs_ret (ge_var 3))))), ?_⟩
    clear S hr hG F k_lessened b_lessened_0 b_lessened_1 b_lessened_2
    rintro ds ω Qa Ea ⟨xs, ys, b, rfl, hb, h1, h2, l1, lt, q⟩ _
    have nle : ¬ wor b ys ≤ wor b xs := by omega
    show sSeq _ _ _ _ _
    refine seq_opq fun N hN => ?_
    simp -implicitDefEqProofs only [MR.sNil, MR.sSeq, MR.sDrop, MR.sRet_e, MR.sRet_f, MR.sRetN, MR.sBreak, MR.sCont, MR.sIf, MR.sSet, MR.sOwn, MR.sAsg, MR.sPar, MR.sAug, MR.sFrz, MR.sApp, MR.sPut, MR.sExt, MR.aName, MR.aTup, MR.aNil, MR.aCons, MR.frz,
        MR.gVar, MR.gC, MR.gOp, MR.gB, MR.bK, MR.gTru, MR.gNotT, MR.gAndT, MR.gOrT, MR.gAndV, MR.gOrV, MR.gNotV, MR.gIf, MR.gChain, MR.gNil, MR.gCons, MR.gTup, MR.gLst, MR.gFz, MR.gOwn, MR.gAsL, MR.gNo, MR.gPart, MR.gSl, MR.gSlF, MR.gUn, MR.gIxL, MR.gFn, MR.gLenL, MR.gYes,
        MR.fAddI, MR.fSub, MR.fDiv, MR.fMod, MR.fPow, MR.fLe, MR.fGt, MR.fGe, MR.fIs, MR.fIsN, MR.fNeg, MR.fMin, MR.fMax, MR.fDivmod, MR.fSum, MR.fAll, MR.fRepr, MR.fIsi, MR.tyD, MR.dInt, MR.dBool, MR.dTup, MR.dStr, MR.dLst,
        MR.gDkT, MR.gDkS, MR.gDkNe, MR.gDkPop, MR.sDkApp, MR.sDkPut, MR.gScr, MR.sDeck, MR.gCall, MR.sel, MR.sFor, MR.sForR1, MR.sForR2, MR.sWhile, MR.sForE, MR.sAugP, MR.gRepL, MR.gCatL, MR.gComp, MR.gCompR, MR.startA, MR.wipeA, MR.sNever, MR.gNever, MR.tNev, MR.sAsg2, MR.fMulS_str, MR.fIntS_str, MR.sParO, MR.sForG, MR.gCompG, MR.iSeqG, MR.iR1G, MR.iR2G, MR.iZipG, MR.iEnumG, MR.iEnumLG, MR.iRevG,
        MR.fTru_bl, MR.fTru_non, MR.fTru_int, MR.fTru_str, MR.fTru_lst, MR.fTru_tup, MR.fAdd_int, MR.fAdd_str, MR.fAdd_tup, MR.fAdd_lst, MR.fMul_int, MR.fMul_tup, MR.fMul_lst, MR.fEq_int, MR.fEq_str, MR.fEq_bl, MR.fEq_tup_tup, MR.fEq_tup_lst, MR.fEq_tup_int, MR.fEq_tup_non, MR.fEq_tup_str, MR.fEq_tup_bl, MR.fEq_lst_tup, MR.fEq_lst_lst, MR.fEq_lst_int, MR.fEq_lst_non, MR.fEq_lst_str, MR.fEq_lst_bl, MR.fEq_int_tup, MR.fEq_int_lst, MR.fEq_int_non, MR.fEq_int_str, MR.fEq_int_bl, MR.fEq_non_tup, MR.fEq_non_lst, MR.fEq_non_int, MR.fEq_non_non, MR.fEq_non_str, MR.fEq_non_bl, MR.fEq_str_tup, MR.fEq_str_lst, MR.fEq_str_int, MR.fEq_str_non, MR.fEq_str_bl, MR.fEq_bl_tup, MR.fEq_bl_lst, MR.fEq_bl_int, MR.fEq_bl_non, MR.fEq_bl_str, MR.fNe_int, MR.fNe_str, MR.fNe_bl, MR.fNe_tup_tup, MR.fNe_tup_lst, MR.fNe_tup_int, MR.fNe_tup_non, MR.fNe_tup_str, MR.fNe_tup_bl, MR.fNe_lst_tup, MR.fNe_lst_lst, MR.fNe_lst_int, MR.fNe_lst_non, MR.fNe_lst_str, MR.fNe_lst_bl, MR.fNe_int_tup, MR.fNe_int_lst, MR.fNe_int_non, MR.fNe_int_str, MR.fNe_int_bl, MR.fNe_non_tup, MR.fNe_non_lst, MR.fNe_non_int, MR.fNe_non_non, MR.fNe_non_str, MR.fNe_non_bl, MR.fNe_str_tup, MR.fNe_str_lst, MR.fNe_str_int, MR.fNe_str_non, MR.fNe_str_bl, MR.fNe_bl_tup, MR.fNe_bl_lst, MR.fNe_bl_int, MR.fNe_bl_non, MR.fNe_bl_str, MR.fLt_int, MR.fIx_tup, MR.fSl_tup, MR.fLen_tup, MR.fTuple_tup, MR.fRev_tup, MR.fIx_lst, MR.fSl_lst, MR.fLen_lst, MR.fTuple_lst, MR.fRev_lst, MR.fIx_str, MR.fSl_str, MR.fLen_str, MR.fInt_int, MR.fInt_bl,
        List.map_cons, List.map_nil, List.cons_append, List.nil_append, List.append_nil, List.length_cons, List.length_nil, List.replicate_succ, List.replicate_zero, List.set_cons_zero, List.set_cons_succ, List.getElem?_cons_zero, List.getElem?_cons_succ, List.getD_cons_zero, List.getD_cons_succ, Nat.reduceAdd, Nat.reduceSub, Nat.zero_add, Option.some.injEq, reduceIte, Bool.not_true, Bool.not_false, true_and, and_true, true_implies, false_implies, implies_true, MR.sRaise, MR.sTryAs, MR.sTry, MR.gIsE, PySem.W.kitAny, PySem.Value.ref.injEq, MR.sStar, MR.aSeq, MR.seqD, MR.gStp, List.take_succ_cons, List.take_zero, List.drop_succ_cons, List.drop_zero, MR.sl, MR.aFor_nil, MR.aComp_nil, Int.zero_add, MR.map_int_inj, MR.nil_map_int, MR.cons_map_int, List.map_eq_nil_iff, MR.eqOk_row, MR.eqOk_rowL, MR.eqOk_nil, MR.nil_eq, MR.nil_deq, MR.deq_row, MR.deq_rowL, MR.deq_nilr, MR.deq_nill, MR.deq_nils, MR.rng_zero, MR.isE_map, List.length_map, List.length_append, List.length_reverse,
        Nat.reduceLeDiff, Nat.reduceLT, Int.reduceLE, Int.reduceLT, Int.reducePow, Int.reduceNeg, Int.toNat_zero, Int.reduceToNat, Bool.not_eq_eq_eq_not, Bool.not_eq_true', decide_eq_false_iff_not, decide_eq_true_eq, Bool.false_eq_true, ite_not, ite_false, ite_true, decide_true, decide_false, not_true_eq_false, not_false_eq_true, List.cons.injEq, MR.D.tup.injEq, MR.D.lst.injEq, MR.D.int.injEq, MR.D.str.injEq, MR.D.bl.injEq, MR.D.adr.injEq, MR.Ent.d.injEq, MR.Ent.own.injEq, Option.some.injEq, Prod.mk.injEq, MR.fl_repx, List.length_replicate, exists_eq, exists_eq', and_assoc, exists_and_left, exists_and_right, exists_eq_left, exists_eq_left', exists_eq_right, exists_eq_right', ne_eq, eq_self, and_self, reduceCtorEq, false_and, and_false, or_false, false_or, Int.reduceEq, Int.reduceSub, Int.reduceAdd, Int.reduceMul, Nat.reduceMul]
    show N _ _
    rw [hN]
    clear hN
    show sSeq _ _ _ _ _
    refine seq_opq fun N hN => ?_
    simp -implicitDefEqProofs only [MR.sNil, MR.sSeq, MR.sDrop, MR.sRet_e, MR.sRet_f, MR.sRetN, MR.sBreak, MR.sCont, MR.sIf, MR.sSet, MR.sOwn, MR.sAsg, MR.sPar, MR.sAug, MR.sFrz, MR.sApp, MR.sPut, MR.sExt, MR.aName, MR.aTup, MR.aNil, MR.aCons, MR.frz,
        MR.gVar, MR.gC, MR.gOp, MR.gB, MR.bK, MR.gTru, MR.gNotT, MR.gAndT, MR.gOrT, MR.gAndV, MR.gOrV, MR.gNotV, MR.gIf, MR.gChain, MR.gNil, MR.gCons, MR.gTup, MR.gLst, MR.gFz, MR.gOwn, MR.gAsL, MR.gNo, MR.gPart, MR.gSl, MR.gSlF, MR.gUn, MR.gIxL, MR.gFn, MR.gLenL, MR.gYes,
        MR.fAddI, MR.fSub, MR.fDiv, MR.fMod, MR.fPow, MR.fLe, MR.fGt, MR.fGe, MR.fIs, MR.fIsN, MR.fNeg, MR.fMin, MR.fMax, MR.fDivmod, MR.fSum, MR.fAll, MR.fRepr, MR.fIsi, MR.tyD, MR.dInt, MR.dBool, MR.dTup, MR.dStr, MR.dLst,
        MR.gDkT, MR.gDkS, MR.gDkNe, MR.gDkPop, MR.sDkApp, MR.sDkPut, MR.gScr, MR.sDeck, MR.gCall, MR.sel, MR.sFor, MR.sForR1, MR.sForR2, MR.sWhile, MR.sForE, MR.sAugP, MR.gRepL, MR.gCatL, MR.gComp, MR.gCompR, MR.startA, MR.wipeA, MR.sNever, MR.gNever, MR.tNev, MR.sAsg2, MR.fMulS_str, MR.fIntS_str, MR.sParO, MR.sForG, MR.gCompG, MR.iSeqG, MR.iR1G, MR.iR2G, MR.iZipG, MR.iEnumG, MR.iEnumLG, MR.iRevG,
        MR.fTru_bl, MR.fTru_non, MR.fTru_int, MR.fTru_str, MR.fTru_lst, MR.fTru_tup, MR.fAdd_int, MR.fAdd_str, MR.fAdd_tup, MR.fAdd_lst, MR.fMul_int, MR.fMul_tup, MR.fMul_lst, MR.fEq_int, MR.fEq_str, MR.fEq_bl, MR.fEq_tup_tup, MR.fEq_tup_lst, MR.fEq_tup_int, MR.fEq_tup_non, MR.fEq_tup_str, MR.fEq_tup_bl, MR.fEq_lst_tup, MR.fEq_lst_lst, MR.fEq_lst_int, MR.fEq_lst_non, MR.fEq_lst_str, MR.fEq_lst_bl, MR.fEq_int_tup, MR.fEq_int_lst, MR.fEq_int_non, MR.fEq_int_str, MR.fEq_int_bl, MR.fEq_non_tup, MR.fEq_non_lst, MR.fEq_non_int, MR.fEq_non_non, MR.fEq_non_str, MR.fEq_non_bl, MR.fEq_str_tup, MR.fEq_str_lst, MR.fEq_str_int, MR.fEq_str_non, MR.fEq_str_bl, MR.fEq_bl_tup, MR.fEq_bl_lst, MR.fEq_bl_int, MR.fEq_bl_non, MR.fEq_bl_str, MR.fNe_int, MR.fNe_str, MR.fNe_bl, MR.fNe_tup_tup, MR.fNe_tup_lst, MR.fNe_tup_int, MR.fNe_tup_non, MR.fNe_tup_str, MR.fNe_tup_bl, MR.fNe_lst_tup, MR.fNe_lst_lst, MR.fNe_lst_int, MR.fNe_lst_non, MR.fNe_lst_str, MR.fNe_lst_bl, MR.fNe_int_tup, MR.fNe_int_lst, MR.fNe_int_non, MR.fNe_int_str, MR.fNe_int_bl, MR.fNe_non_tup, MR.fNe_non_lst, MR.fNe_non_int, MR.fNe_non_non, MR.fNe_non_str, MR.fNe_non_bl, MR.fNe_str_tup, MR.fNe_str_lst, MR.fNe_str_int, MR.fNe_str_non, MR.fNe_str_bl, MR.fNe_bl_tup, MR.fNe_bl_lst, MR.fNe_bl_int, MR.fNe_bl_non, MR.fNe_bl_str, MR.fLt_int, MR.fIx_tup, MR.fSl_tup, MR.fLen_tup, MR.fTuple_tup, MR.fRev_tup, MR.fIx_lst, MR.fSl_lst, MR.fLen_lst, MR.fTuple_lst, MR.fRev_lst, MR.fIx_str, MR.fSl_str, MR.fLen_str, MR.fInt_int, MR.fInt_bl,
        List.map_cons, List.map_nil, List.cons_append, List.nil_append, List.append_nil, List.length_cons, List.length_nil, List.replicate_succ, List.replicate_zero, List.set_cons_zero, List.set_cons_succ, List.getElem?_cons_zero, List.getElem?_cons_succ, List.getD_cons_zero, List.getD_cons_succ, Nat.reduceAdd, Nat.reduceSub, Nat.zero_add, Option.some.injEq, reduceIte, Bool.not_true, Bool.not_false, true_and, and_true, true_implies, false_implies, implies_true, MR.sRaise, MR.sTryAs, MR.sTry, MR.gIsE, PySem.W.kitAny, PySem.Value.ref.injEq, MR.sStar, MR.aSeq, MR.seqD, MR.gStp, List.take_succ_cons, List.take_zero, List.drop_succ_cons, List.drop_zero, MR.sl, MR.aFor_nil, MR.aComp_nil, Int.zero_add, MR.map_int_inj, MR.nil_map_int, MR.cons_map_int, List.map_eq_nil_iff, MR.eqOk_row, MR.eqOk_rowL, MR.eqOk_nil, MR.nil_eq, MR.nil_deq, MR.deq_row, MR.deq_rowL, MR.deq_nilr, MR.deq_nill, MR.deq_nils, MR.rng_zero, MR.isE_map, List.length_map, List.length_append, List.length_reverse,
        Nat.reduceLeDiff, Nat.reduceLT, Int.reduceLE, Int.reduceLT, Int.reducePow, Int.reduceNeg, Int.toNat_zero, Int.reduceToNat, Bool.not_eq_eq_eq_not, Bool.not_eq_true', decide_eq_false_iff_not, decide_eq_true_eq, Bool.false_eq_true, ite_not, ite_false, ite_true, decide_true, decide_false, not_true_eq_false, not_false_eq_true, List.cons.injEq, MR.D.tup.injEq, MR.D.lst.injEq, MR.D.int.injEq, MR.D.str.injEq, MR.D.bl.injEq, MR.D.adr.injEq, MR.Ent.d.injEq, MR.Ent.own.injEq, Option.some.injEq, Prod.mk.injEq, MR.fl_repx, List.length_replicate, exists_eq, exists_eq', and_assoc, exists_and_left, exists_and_right, exists_eq_left, exists_eq_left', exists_eq_right, exists_eq_right', ne_eq, eq_self, and_self, reduceCtorEq, false_and, and_false, or_false, false_or, Int.reduceEq, Int.reduceSub, Int.reduceAdd, Int.reduceMul, Nat.reduceMul, aLessX, hb, h1, h2, l1, lt, nle, t.x_TooGreat.cc, t.xm_TooGreat_TooGreat, t.xk_TooGreat_NoBack, t.xk_TooGreat_NoDeed, t.xk_TooGreat_NoName, t.xk_TooGreat_NoQuotient, t.xk_TooGreat_NoRing, t.xk_TooGreat_NoRoad, t.xk_TooGreat_NoRow, t.xk_TooGreat_NoShare, t.xk_TooGreat_NoText, t.xk_TooGreat_NotSame, t.xk_TooGreat_Taken, t.xk_TooGreat_RoadError, t.xk_TooGreat_ArithmeticError]
    intro _
    show N _ _
    rw [hN]
    clear hN
    simp -implicitDefEqProofs only [MR.sNil, MR.sSeq, MR.sDrop, MR.sRet_e, MR.sRet_f, MR.sRetN, MR.sBreak, MR.sCont, MR.sIf, MR.sSet, MR.sOwn, MR.sAsg, MR.sPar, MR.sAug, MR.sFrz, MR.sApp, MR.sPut, MR.sExt, MR.aName, MR.aTup, MR.aNil, MR.aCons, MR.frz,
        MR.gVar, MR.gC, MR.gOp, MR.gB, MR.bK, MR.gTru, MR.gNotT, MR.gAndT, MR.gOrT, MR.gAndV, MR.gOrV, MR.gNotV, MR.gIf, MR.gChain, MR.gNil, MR.gCons, MR.gTup, MR.gLst, MR.gFz, MR.gOwn, MR.gAsL, MR.gNo, MR.gPart, MR.gSl, MR.gSlF, MR.gUn, MR.gIxL, MR.gFn, MR.gLenL, MR.gYes,
        MR.fAddI, MR.fSub, MR.fDiv, MR.fMod, MR.fPow, MR.fLe, MR.fGt, MR.fGe, MR.fIs, MR.fIsN, MR.fNeg, MR.fMin, MR.fMax, MR.fDivmod, MR.fSum, MR.fAll, MR.fRepr, MR.fIsi, MR.tyD, MR.dInt, MR.dBool, MR.dTup, MR.dStr, MR.dLst,
        MR.gDkT, MR.gDkS, MR.gDkNe, MR.gDkPop, MR.sDkApp, MR.sDkPut, MR.gScr, MR.sDeck, MR.gCall, MR.sel, MR.sFor, MR.sForR1, MR.sForR2, MR.sWhile, MR.sForE, MR.sAugP, MR.gRepL, MR.gCatL, MR.gComp, MR.gCompR, MR.startA, MR.wipeA, MR.sNever, MR.gNever, MR.tNev, MR.sAsg2, MR.fMulS_str, MR.fIntS_str, MR.sParO, MR.sForG, MR.gCompG, MR.iSeqG, MR.iR1G, MR.iR2G, MR.iZipG, MR.iEnumG, MR.iEnumLG, MR.iRevG,
        MR.fTru_bl, MR.fTru_non, MR.fTru_int, MR.fTru_str, MR.fTru_lst, MR.fTru_tup, MR.fAdd_int, MR.fAdd_str, MR.fAdd_tup, MR.fAdd_lst, MR.fMul_int, MR.fMul_tup, MR.fMul_lst, MR.fEq_int, MR.fEq_str, MR.fEq_bl, MR.fEq_tup_tup, MR.fEq_tup_lst, MR.fEq_tup_int, MR.fEq_tup_non, MR.fEq_tup_str, MR.fEq_tup_bl, MR.fEq_lst_tup, MR.fEq_lst_lst, MR.fEq_lst_int, MR.fEq_lst_non, MR.fEq_lst_str, MR.fEq_lst_bl, MR.fEq_int_tup, MR.fEq_int_lst, MR.fEq_int_non, MR.fEq_int_str, MR.fEq_int_bl, MR.fEq_non_tup, MR.fEq_non_lst, MR.fEq_non_int, MR.fEq_non_non, MR.fEq_non_str, MR.fEq_non_bl, MR.fEq_str_tup, MR.fEq_str_lst, MR.fEq_str_int, MR.fEq_str_non, MR.fEq_str_bl, MR.fEq_bl_tup, MR.fEq_bl_lst, MR.fEq_bl_int, MR.fEq_bl_non, MR.fEq_bl_str, MR.fNe_int, MR.fNe_str, MR.fNe_bl, MR.fNe_tup_tup, MR.fNe_tup_lst, MR.fNe_tup_int, MR.fNe_tup_non, MR.fNe_tup_str, MR.fNe_tup_bl, MR.fNe_lst_tup, MR.fNe_lst_lst, MR.fNe_lst_int, MR.fNe_lst_non, MR.fNe_lst_str, MR.fNe_lst_bl, MR.fNe_int_tup, MR.fNe_int_lst, MR.fNe_int_non, MR.fNe_int_str, MR.fNe_int_bl, MR.fNe_non_tup, MR.fNe_non_lst, MR.fNe_non_int, MR.fNe_non_non, MR.fNe_non_str, MR.fNe_non_bl, MR.fNe_str_tup, MR.fNe_str_lst, MR.fNe_str_int, MR.fNe_str_non, MR.fNe_str_bl, MR.fNe_bl_tup, MR.fNe_bl_lst, MR.fNe_bl_int, MR.fNe_bl_non, MR.fNe_bl_str, MR.fLt_int, MR.fIx_tup, MR.fSl_tup, MR.fLen_tup, MR.fTuple_tup, MR.fRev_tup, MR.fIx_lst, MR.fSl_lst, MR.fLen_lst, MR.fTuple_lst, MR.fRev_lst, MR.fIx_str, MR.fSl_str, MR.fLen_str, MR.fInt_int, MR.fInt_bl,
        List.map_cons, List.map_nil, List.cons_append, List.nil_append, List.append_nil, List.length_cons, List.length_nil, List.replicate_succ, List.replicate_zero, List.set_cons_zero, List.set_cons_succ, List.getElem?_cons_zero, List.getElem?_cons_succ, List.getD_cons_zero, List.getD_cons_succ, Nat.reduceAdd, Nat.reduceSub, Nat.zero_add, Option.some.injEq, reduceIte, Bool.not_true, Bool.not_false, true_and, and_true, true_implies, false_implies, implies_true, MR.sRaise, MR.sTryAs, MR.sTry, MR.gIsE, PySem.W.kitAny, PySem.Value.ref.injEq, MR.sStar, MR.aSeq, MR.seqD, MR.gStp, List.take_succ_cons, List.take_zero, List.drop_succ_cons, List.drop_zero, MR.sl, MR.aFor_nil, MR.aComp_nil, Int.zero_add, MR.map_int_inj, MR.nil_map_int, MR.cons_map_int, List.map_eq_nil_iff, MR.eqOk_row, MR.eqOk_rowL, MR.eqOk_nil, MR.nil_eq, MR.nil_deq, MR.deq_row, MR.deq_rowL, MR.deq_nilr, MR.deq_nill, MR.deq_nils, MR.rng_zero, MR.isE_map, List.length_map, List.length_append, List.length_reverse,
        Nat.reduceLeDiff, Nat.reduceLT, Int.reduceLE, Int.reduceLT, Int.reducePow, Int.reduceNeg, Int.toNat_zero, Int.reduceToNat, Bool.not_eq_eq_eq_not, Bool.not_eq_true', decide_eq_false_iff_not, decide_eq_true_eq, Bool.false_eq_true, ite_not, ite_false, ite_true, decide_true, decide_false, not_true_eq_false, not_false_eq_true, List.cons.injEq, MR.D.tup.injEq, MR.D.lst.injEq, MR.D.int.injEq, MR.D.str.injEq, MR.D.bl.injEq, MR.D.adr.injEq, MR.Ent.d.injEq, MR.Ent.own.injEq, Option.some.injEq, Prod.mk.injEq, MR.fl_repx, List.length_replicate, exists_eq, exists_eq', and_assoc, exists_and_left, exists_and_right, exists_eq_left, exists_eq_left', exists_eq_right, exists_eq_right', ne_eq, eq_self, and_self, reduceCtorEq, false_and, and_false, or_false, false_or, Int.reduceEq, Int.reduceSub, Int.reduceAdd, Int.reduceMul, Nat.reduceMul]
    exact q
  refine ⟨fd, ⟨t.g__law_is_refused, F.kp, ok⟩, ?_⟩
  · refine bnd_of F 3 [] [] [0, 1, 2] [] (by simp) rfl ?_
    intro kV doc pm an cdv ct D us mv ws h1 h2 h3 h4
    match us, mv, ws, h1, h2, h3 with
    | [u0, u1, u2], [], [], _, _, _ => exact rfl

def aDR : ASp DWd := fun ds ω Q _ => ∃ xs ys b, ds = [row xs, row ys, .int b] ∧ base_ b ∧ isRow b xs ∧ isRow b ys ∧ xs.length ≤ 300 ∧ ys.length ≤ 300 ∧ Q (.bl true) ω

theorem kn__law_differs_right (t : T K mg) : ∃ fd, Known PR w K mg base 4 "_law_differs_right" (He.ga K "_law_differs_right") fd ["_law_mine", "_law_theirs", "_law_to"] DWd 3 aDR ∧ Bnd K fd ["_law_mine", "_law_theirs", "_law_to"] 3 [] [0, 1, 2] [] := by
  obtain ⟨fd, F⟩ := t.f__law_differs_right
  obtain ⟨fd__law_worth, k__law_worth, b__law_worth_0⟩ := kn__law_worth (w := w) (base := base) t
  obtain ⟨fd__law_is_refused, k__law_is_refused, b__law_is_refused_0⟩ := kn__law_is_refused (w := w) (base := base) t
  obtain ⟨fd__law_row_of, k__law_row_of, b__law_row_of_0⟩ := kn__law_row_of (w := w) (base := base) t
  obtain ⟨fd_lessened, k_lessened, b_lessened_0, b_lessened_1, b_lessened_2⟩ := kn_lessened (w := w) (base := base) t
  have ok : FnG PR w K mg base (L2.CX PR w) 4 (He.ga K "_law_differs_right") fd ["_law_mine", "_law_theirs", "_law_to"] (toSp DWd K 3 aDR) := by
    refine fn_ok (N := n__law_differs_right) DWd aDR F S__law_differs_right fun cdv A outer s H E hr hG => ?_
    have S := S__law_differs_right
    refine ⟨_, (gss_cons (gs_par 3 4 rfl S.nd (ge_call1 k__law_worth (Room.mono hr (by decide)) hG tk_cx b__law_worth_0 (fun B => .nil) (ga_cons (ge_var 0) (ga_cons (ge_var 2) ga_nil))) (ge_call1 k__law_worth (Room.mono hr (by decide)) hG tk_cx b__law_worth_0 (fun B => .nil) (ga_cons (ge_var 1) (ga_cons (ge_var 2) ga_nil))))
      (gss_cons (gs_if (gt_cmp (m_lt (un0 hr)) op2_lt (nomark _) (ge_var 3) (ge_var 4))
      (gss_one (gs_ret (ge_call1 k__law_is_refused (Room.mono hr (by decide)) hG tk_cx b__law_is_refused_0 (fun B => .nil) (ga_cons (ge_var 0) (ga_cons (ge_var 1) (ga_cons (ge_var 2) ga_nil))))))
      gss_nil)
      (gss_cons (gs_set 5 S.nd (ge_fn (call_repr hG (un100 hr)) c_repr t.z_repr (ga_cons (ge_call1 k__law_row_of (Room.mono hr (by decide)) hG tk_cx b__law_row_of_0 (fun B => .nil) (ga_cons (ge_sub (ge_var 3) (ge_var 4)) (ga_cons (ge_var 2) ga_nil))) ga_nil)))
      (gss_cons (gs_if (GW.gt (gw_and (gt_cmp (m_eq (un64 hr)) op2_eq (nomark _) (ge_var 2) ge_int) (gw_and1 (gt_cmp (m_ne (un64 hr)) op2_ne (nomark _) (ge_fn (call_repr hG (un100 hr)) c_repr t.z_repr (ga_cons (ge_call1 k_lessened (Room.mono hr (by decide)) hG tk_cx b_lessened_1 (fun B => (.cons (.int _) .nil)) (ga_cons (ge_var 0) (ga_cons (ge_var 1) ga_nil))) ga_nil)) (ge_var 5)))))
      (gss_one (gs_ret ge_bl))
      gss_nil)
      (gss_one (gs_ret (ge_and (ge_cmp (m_eq (un64 hr)) op2_eq (nomark _) (ge_fn (call_repr hG (un100 hr)) c_repr t.z_repr (ga_cons (ge_call3 k_lessened (Room.mono hr (by decide)) hG tk_cx b_lessened_2 (fun B => .nil) (gk_cons (ge_var 2) (gk_cons (ge_var 1) (gk_cons (ge_var 0) gk_nil)))) ga_nil)) (ge_var 5)) (ge_one (ge_cmp (m_eq (un64 hr)) op2_eq (nomark _) (ge_fn (call_repr hG (un100 hr)) c_repr t.z_repr (ga_cons (ge_call2 k_lessened (Room.mono hr (by decide)) hG tk_cx b_lessened_0 (fun B => .nil) (ga_cons (ge_var 0) (ga_cons (ge_var 1) ga_nil)) (gk_cons (ge_var 2) gk_nil)) ga_nil)) (ge_var 5)))))))))), ?_⟩
    clear S hr hG F t k__law_worth b__law_worth_0 k__law_is_refused b__law_is_refused_0 k__law_row_of b__law_row_of_0 k_lessened b_lessened_0 b_lessened_1 b_lessened_2
    rintro ds ω Qa Ea ⟨xs, ys, b, rfl, hb, h1, h2, l1, l2, q⟩ _
    have hb1 := hb.1
    have hb2 := hb.2
    have m1 : xs.length ≤ 50000 := by omega
    have m2 : ys.length ≤ 50000 := by omega
    have m3 : xs.length ≤ 20000 := by omega
    have x1 := wor_lt (by omega : (1:Int) ≤ b) h1.lim
    have y0 := wor_nn (by omega : (0:Int) ≤ b) h2.lim
    show sSeq _ _ _ _ _
    refine seq_opq fun N hN => ?_
    simp -implicitDefEqProofs only [MR.sNil, MR.sSeq, MR.sDrop, MR.sRet_e, MR.sRet_f, MR.sRetN, MR.sBreak, MR.sCont, MR.sIf, MR.sSet, MR.sOwn, MR.sAsg, MR.sPar, MR.sAug, MR.sFrz, MR.sApp, MR.sPut, MR.sExt, MR.aName, MR.aTup, MR.aNil, MR.aCons, MR.frz,
        MR.gVar, MR.gC, MR.gOp, MR.gB, MR.bK, MR.gTru, MR.gNotT, MR.gAndT, MR.gOrT, MR.gAndV, MR.gOrV, MR.gNotV, MR.gIf, MR.gChain, MR.gNil, MR.gCons, MR.gTup, MR.gLst, MR.gFz, MR.gOwn, MR.gAsL, MR.gNo, MR.gPart, MR.gSl, MR.gSlF, MR.gUn, MR.gIxL, MR.gFn, MR.gLenL, MR.gYes,
        MR.fAddI, MR.fSub, MR.fDiv, MR.fMod, MR.fPow, MR.fLe, MR.fGt, MR.fGe, MR.fIs, MR.fIsN, MR.fNeg, MR.fMin, MR.fMax, MR.fDivmod, MR.fSum, MR.fAll, MR.fRepr, MR.fIsi, MR.tyD, MR.dInt, MR.dBool, MR.dTup, MR.dStr, MR.dLst,
        MR.gDkT, MR.gDkS, MR.gDkNe, MR.gDkPop, MR.sDkApp, MR.sDkPut, MR.gScr, MR.sDeck, MR.gCall, MR.sel, MR.sFor, MR.sForR1, MR.sForR2, MR.sWhile, MR.sForE, MR.sAugP, MR.gRepL, MR.gCatL, MR.gComp, MR.gCompR, MR.startA, MR.wipeA, MR.sNever, MR.gNever, MR.tNev, MR.sAsg2, MR.fMulS_str, MR.fIntS_str, MR.sParO, MR.sForG, MR.gCompG, MR.iSeqG, MR.iR1G, MR.iR2G, MR.iZipG, MR.iEnumG, MR.iEnumLG, MR.iRevG,
        MR.fTru_bl, MR.fTru_non, MR.fTru_int, MR.fTru_str, MR.fTru_lst, MR.fTru_tup, MR.fAdd_int, MR.fAdd_str, MR.fAdd_tup, MR.fAdd_lst, MR.fMul_int, MR.fMul_tup, MR.fMul_lst, MR.fEq_int, MR.fEq_str, MR.fEq_bl, MR.fEq_tup_tup, MR.fEq_tup_lst, MR.fEq_tup_int, MR.fEq_tup_non, MR.fEq_tup_str, MR.fEq_tup_bl, MR.fEq_lst_tup, MR.fEq_lst_lst, MR.fEq_lst_int, MR.fEq_lst_non, MR.fEq_lst_str, MR.fEq_lst_bl, MR.fEq_int_tup, MR.fEq_int_lst, MR.fEq_int_non, MR.fEq_int_str, MR.fEq_int_bl, MR.fEq_non_tup, MR.fEq_non_lst, MR.fEq_non_int, MR.fEq_non_non, MR.fEq_non_str, MR.fEq_non_bl, MR.fEq_str_tup, MR.fEq_str_lst, MR.fEq_str_int, MR.fEq_str_non, MR.fEq_str_bl, MR.fEq_bl_tup, MR.fEq_bl_lst, MR.fEq_bl_int, MR.fEq_bl_non, MR.fEq_bl_str, MR.fNe_int, MR.fNe_str, MR.fNe_bl, MR.fNe_tup_tup, MR.fNe_tup_lst, MR.fNe_tup_int, MR.fNe_tup_non, MR.fNe_tup_str, MR.fNe_tup_bl, MR.fNe_lst_tup, MR.fNe_lst_lst, MR.fNe_lst_int, MR.fNe_lst_non, MR.fNe_lst_str, MR.fNe_lst_bl, MR.fNe_int_tup, MR.fNe_int_lst, MR.fNe_int_non, MR.fNe_int_str, MR.fNe_int_bl, MR.fNe_non_tup, MR.fNe_non_lst, MR.fNe_non_int, MR.fNe_non_non, MR.fNe_non_str, MR.fNe_non_bl, MR.fNe_str_tup, MR.fNe_str_lst, MR.fNe_str_int, MR.fNe_str_non, MR.fNe_str_bl, MR.fNe_bl_tup, MR.fNe_bl_lst, MR.fNe_bl_int, MR.fNe_bl_non, MR.fNe_bl_str, MR.fLt_int, MR.fIx_tup, MR.fSl_tup, MR.fLen_tup, MR.fTuple_tup, MR.fRev_tup, MR.fIx_lst, MR.fSl_lst, MR.fLen_lst, MR.fTuple_lst, MR.fRev_lst, MR.fIx_str, MR.fSl_str, MR.fLen_str, MR.fInt_int, MR.fInt_bl,
        List.map_cons, List.map_nil, List.cons_append, List.nil_append, List.append_nil, List.length_cons, List.length_nil, List.replicate_succ, List.replicate_zero, List.set_cons_zero, List.set_cons_succ, List.getElem?_cons_zero, List.getElem?_cons_succ, List.getD_cons_zero, List.getD_cons_succ, Nat.reduceAdd, Nat.reduceSub, Nat.zero_add, Option.some.injEq, reduceIte, Bool.not_true, Bool.not_false, true_and, and_true, true_implies, false_implies, implies_true, MR.sRaise, MR.sTryAs, MR.sTry, MR.gIsE, PySem.W.kitAny, PySem.Value.ref.injEq, MR.sStar, MR.aSeq, MR.seqD, MR.gStp, List.take_succ_cons, List.take_zero, List.drop_succ_cons, List.drop_zero, MR.sl, MR.aFor_nil, MR.aComp_nil, Int.zero_add, MR.map_int_inj, MR.nil_map_int, MR.cons_map_int, List.map_eq_nil_iff, MR.eqOk_row, MR.eqOk_rowL, MR.eqOk_nil, MR.nil_eq, MR.nil_deq, MR.deq_row, MR.deq_rowL, MR.deq_nilr, MR.deq_nill, MR.deq_nils, MR.rng_zero, MR.isE_map, List.length_map, List.length_append, List.length_reverse,
        Nat.reduceLeDiff, Nat.reduceLT, Int.reduceLE, Int.reduceLT, Int.reducePow, Int.reduceNeg, Int.toNat_zero, Int.reduceToNat, Bool.not_eq_eq_eq_not, Bool.not_eq_true', decide_eq_false_iff_not, decide_eq_true_eq, Bool.false_eq_true, ite_not, ite_false, ite_true, decide_true, decide_false, not_true_eq_false, not_false_eq_true, List.cons.injEq, MR.D.tup.injEq, MR.D.lst.injEq, MR.D.int.injEq, MR.D.str.injEq, MR.D.bl.injEq, MR.D.adr.injEq, MR.Ent.d.injEq, MR.Ent.own.injEq, Option.some.injEq, Prod.mk.injEq, MR.fl_repx, List.length_replicate, exists_eq, exists_eq', and_assoc, exists_and_left, exists_and_right, exists_eq_left, exists_eq_left', exists_eq_right, exists_eq_right', ne_eq, eq_self, and_self, reduceCtorEq, false_and, and_false, or_false, false_or, Int.reduceEq, Int.reduceSub, Int.reduceAdd, Int.reduceMul, Nat.reduceMul, aWorth, hb, h1.lim, h2.lim, m1, m2]
    by_cases c : wor b xs < wor b ys
    · show N _ _
      rw [hN]
      clear hN
      show sSeq _ _ _ _ _
      refine seq_opq fun N hN => ?_
      simp -implicitDefEqProofs only [MR.sNil, MR.sSeq, MR.sDrop, MR.sRet_e, MR.sRet_f, MR.sRetN, MR.sBreak, MR.sCont, MR.sIf, MR.sSet, MR.sOwn, MR.sAsg, MR.sPar, MR.sAug, MR.sFrz, MR.sApp, MR.sPut, MR.sExt, MR.aName, MR.aTup, MR.aNil, MR.aCons, MR.frz,
        MR.gVar, MR.gC, MR.gOp, MR.gB, MR.bK, MR.gTru, MR.gNotT, MR.gAndT, MR.gOrT, MR.gAndV, MR.gOrV, MR.gNotV, MR.gIf, MR.gChain, MR.gNil, MR.gCons, MR.gTup, MR.gLst, MR.gFz, MR.gOwn, MR.gAsL, MR.gNo, MR.gPart, MR.gSl, MR.gSlF, MR.gUn, MR.gIxL, MR.gFn, MR.gLenL, MR.gYes,
        MR.fAddI, MR.fSub, MR.fDiv, MR.fMod, MR.fPow, MR.fLe, MR.fGt, MR.fGe, MR.fIs, MR.fIsN, MR.fNeg, MR.fMin, MR.fMax, MR.fDivmod, MR.fSum, MR.fAll, MR.fRepr, MR.fIsi, MR.tyD, MR.dInt, MR.dBool, MR.dTup, MR.dStr, MR.dLst,
        MR.gDkT, MR.gDkS, MR.gDkNe, MR.gDkPop, MR.sDkApp, MR.sDkPut, MR.gScr, MR.sDeck, MR.gCall, MR.sel, MR.sFor, MR.sForR1, MR.sForR2, MR.sWhile, MR.sForE, MR.sAugP, MR.gRepL, MR.gCatL, MR.gComp, MR.gCompR, MR.startA, MR.wipeA, MR.sNever, MR.gNever, MR.tNev, MR.sAsg2, MR.fMulS_str, MR.fIntS_str, MR.sParO, MR.sForG, MR.gCompG, MR.iSeqG, MR.iR1G, MR.iR2G, MR.iZipG, MR.iEnumG, MR.iEnumLG, MR.iRevG,
        MR.fTru_bl, MR.fTru_non, MR.fTru_int, MR.fTru_str, MR.fTru_lst, MR.fTru_tup, MR.fAdd_int, MR.fAdd_str, MR.fAdd_tup, MR.fAdd_lst, MR.fMul_int, MR.fMul_tup, MR.fMul_lst, MR.fEq_int, MR.fEq_str, MR.fEq_bl, MR.fEq_tup_tup, MR.fEq_tup_lst, MR.fEq_tup_int, MR.fEq_tup_non, MR.fEq_tup_str, MR.fEq_tup_bl, MR.fEq_lst_tup, MR.fEq_lst_lst, MR.fEq_lst_int, MR.fEq_lst_non, MR.fEq_lst_str, MR.fEq_lst_bl, MR.fEq_int_tup, MR.fEq_int_lst, MR.fEq_int_non, MR.fEq_int_str, MR.fEq_int_bl, MR.fEq_non_tup, MR.fEq_non_lst, MR.fEq_non_int, MR.fEq_non_non, MR.fEq_non_str, MR.fEq_non_bl, MR.fEq_str_tup, MR.fEq_str_lst, MR.fEq_str_int, MR.fEq_str_non, MR.fEq_str_bl, MR.fEq_bl_tup, MR.fEq_bl_lst, MR.fEq_bl_int, MR.fEq_bl_non, MR.fEq_bl_str, MR.fNe_int, MR.fNe_str, MR.fNe_bl, MR.fNe_tup_tup, MR.fNe_tup_lst, MR.fNe_tup_int, MR.fNe_tup_non, MR.fNe_tup_str, MR.fNe_tup_bl, MR.fNe_lst_tup, MR.fNe_lst_lst, MR.fNe_lst_int, MR.fNe_lst_non, MR.fNe_lst_str, MR.fNe_lst_bl, MR.fNe_int_tup, MR.fNe_int_lst, MR.fNe_int_non, MR.fNe_int_str, MR.fNe_int_bl, MR.fNe_non_tup, MR.fNe_non_lst, MR.fNe_non_int, MR.fNe_non_non, MR.fNe_non_str, MR.fNe_non_bl, MR.fNe_str_tup, MR.fNe_str_lst, MR.fNe_str_int, MR.fNe_str_non, MR.fNe_str_bl, MR.fNe_bl_tup, MR.fNe_bl_lst, MR.fNe_bl_int, MR.fNe_bl_non, MR.fNe_bl_str, MR.fLt_int, MR.fIx_tup, MR.fSl_tup, MR.fLen_tup, MR.fTuple_tup, MR.fRev_tup, MR.fIx_lst, MR.fSl_lst, MR.fLen_lst, MR.fTuple_lst, MR.fRev_lst, MR.fIx_str, MR.fSl_str, MR.fLen_str, MR.fInt_int, MR.fInt_bl,
        List.map_cons, List.map_nil, List.cons_append, List.nil_append, List.append_nil, List.length_cons, List.length_nil, List.replicate_succ, List.replicate_zero, List.set_cons_zero, List.set_cons_succ, List.getElem?_cons_zero, List.getElem?_cons_succ, List.getD_cons_zero, List.getD_cons_succ, Nat.reduceAdd, Nat.reduceSub, Nat.zero_add, Option.some.injEq, reduceIte, Bool.not_true, Bool.not_false, true_and, and_true, true_implies, false_implies, implies_true, MR.sRaise, MR.sTryAs, MR.sTry, MR.gIsE, PySem.W.kitAny, PySem.Value.ref.injEq, MR.sStar, MR.aSeq, MR.seqD, MR.gStp, List.take_succ_cons, List.take_zero, List.drop_succ_cons, List.drop_zero, MR.sl, MR.aFor_nil, MR.aComp_nil, Int.zero_add, MR.map_int_inj, MR.nil_map_int, MR.cons_map_int, List.map_eq_nil_iff, MR.eqOk_row, MR.eqOk_rowL, MR.eqOk_nil, MR.nil_eq, MR.nil_deq, MR.deq_row, MR.deq_rowL, MR.deq_nilr, MR.deq_nill, MR.deq_nils, MR.rng_zero, MR.isE_map, List.length_map, List.length_append, List.length_reverse,
        Nat.reduceLeDiff, Nat.reduceLT, Int.reduceLE, Int.reduceLT, Int.reducePow, Int.reduceNeg, Int.toNat_zero, Int.reduceToNat, Bool.not_eq_eq_eq_not, Bool.not_eq_true', decide_eq_false_iff_not, decide_eq_true_eq, Bool.false_eq_true, ite_not, ite_false, ite_true, decide_true, decide_false, not_true_eq_false, not_false_eq_true, List.cons.injEq, MR.D.tup.injEq, MR.D.lst.injEq, MR.D.int.injEq, MR.D.str.injEq, MR.D.bl.injEq, MR.D.adr.injEq, MR.Ent.d.injEq, MR.Ent.own.injEq, Option.some.injEq, Prod.mk.injEq, MR.fl_repx, List.length_replicate, exists_eq, exists_eq', and_assoc, exists_and_left, exists_and_right, exists_eq_left, exists_eq_left', exists_eq_right, exists_eq_right', ne_eq, eq_self, and_self, reduceCtorEq, false_and, and_false, or_false, false_or, Int.reduceEq, Int.reduceSub, Int.reduceAdd, Int.reduceMul, Nat.reduceMul, aRef, hb, h1, h2, m3, c]
      exact q
    · have le : wor b ys ≤ wor b xs := by omega
      have d0 : 0 ≤ wor b xs - wor b ys := by omega
      have dd := digs_ok hb1 d0 (by omega : wor b xs - wor b ys < b ^ xs.length)
      have ok := rok_row dd.1.lim hb2 (by omega)
      have ek : ∃ k, wor b xs - wor b ys < b ^ k ∧ k ≤ 50000 := ⟨xs.length, by omega, by omega⟩
      show N _ _
      rw [hN]
      clear hN
      show sSeq _ _ _ _ _
      refine seq_opq fun N hN => ?_
      simp -implicitDefEqProofs only [MR.sNil, MR.sSeq, MR.sDrop, MR.sRet_e, MR.sRet_f, MR.sRetN, MR.sBreak, MR.sCont, MR.sIf, MR.sSet, MR.sOwn, MR.sAsg, MR.sPar, MR.sAug, MR.sFrz, MR.sApp, MR.sPut, MR.sExt, MR.aName, MR.aTup, MR.aNil, MR.aCons, MR.frz,
        MR.gVar, MR.gC, MR.gOp, MR.gB, MR.bK, MR.gTru, MR.gNotT, MR.gAndT, MR.gOrT, MR.gAndV, MR.gOrV, MR.gNotV, MR.gIf, MR.gChain, MR.gNil, MR.gCons, MR.gTup, MR.gLst, MR.gFz, MR.gOwn, MR.gAsL, MR.gNo, MR.gPart, MR.gSl, MR.gSlF, MR.gUn, MR.gIxL, MR.gFn, MR.gLenL, MR.gYes,
        MR.fAddI, MR.fSub, MR.fDiv, MR.fMod, MR.fPow, MR.fLe, MR.fGt, MR.fGe, MR.fIs, MR.fIsN, MR.fNeg, MR.fMin, MR.fMax, MR.fDivmod, MR.fSum, MR.fAll, MR.fRepr, MR.fIsi, MR.tyD, MR.dInt, MR.dBool, MR.dTup, MR.dStr, MR.dLst,
        MR.gDkT, MR.gDkS, MR.gDkNe, MR.gDkPop, MR.sDkApp, MR.sDkPut, MR.gScr, MR.sDeck, MR.gCall, MR.sel, MR.sFor, MR.sForR1, MR.sForR2, MR.sWhile, MR.sForE, MR.sAugP, MR.gRepL, MR.gCatL, MR.gComp, MR.gCompR, MR.startA, MR.wipeA, MR.sNever, MR.gNever, MR.tNev, MR.sAsg2, MR.fMulS_str, MR.fIntS_str, MR.sParO, MR.sForG, MR.gCompG, MR.iSeqG, MR.iR1G, MR.iR2G, MR.iZipG, MR.iEnumG, MR.iEnumLG, MR.iRevG,
        MR.fTru_bl, MR.fTru_non, MR.fTru_int, MR.fTru_str, MR.fTru_lst, MR.fTru_tup, MR.fAdd_int, MR.fAdd_str, MR.fAdd_tup, MR.fAdd_lst, MR.fMul_int, MR.fMul_tup, MR.fMul_lst, MR.fEq_int, MR.fEq_str, MR.fEq_bl, MR.fEq_tup_tup, MR.fEq_tup_lst, MR.fEq_tup_int, MR.fEq_tup_non, MR.fEq_tup_str, MR.fEq_tup_bl, MR.fEq_lst_tup, MR.fEq_lst_lst, MR.fEq_lst_int, MR.fEq_lst_non, MR.fEq_lst_str, MR.fEq_lst_bl, MR.fEq_int_tup, MR.fEq_int_lst, MR.fEq_int_non, MR.fEq_int_str, MR.fEq_int_bl, MR.fEq_non_tup, MR.fEq_non_lst, MR.fEq_non_int, MR.fEq_non_non, MR.fEq_non_str, MR.fEq_non_bl, MR.fEq_str_tup, MR.fEq_str_lst, MR.fEq_str_int, MR.fEq_str_non, MR.fEq_str_bl, MR.fEq_bl_tup, MR.fEq_bl_lst, MR.fEq_bl_int, MR.fEq_bl_non, MR.fEq_bl_str, MR.fNe_int, MR.fNe_str, MR.fNe_bl, MR.fNe_tup_tup, MR.fNe_tup_lst, MR.fNe_tup_int, MR.fNe_tup_non, MR.fNe_tup_str, MR.fNe_tup_bl, MR.fNe_lst_tup, MR.fNe_lst_lst, MR.fNe_lst_int, MR.fNe_lst_non, MR.fNe_lst_str, MR.fNe_lst_bl, MR.fNe_int_tup, MR.fNe_int_lst, MR.fNe_int_non, MR.fNe_int_str, MR.fNe_int_bl, MR.fNe_non_tup, MR.fNe_non_lst, MR.fNe_non_int, MR.fNe_non_non, MR.fNe_non_str, MR.fNe_non_bl, MR.fNe_str_tup, MR.fNe_str_lst, MR.fNe_str_int, MR.fNe_str_non, MR.fNe_str_bl, MR.fNe_bl_tup, MR.fNe_bl_lst, MR.fNe_bl_int, MR.fNe_bl_non, MR.fNe_bl_str, MR.fLt_int, MR.fIx_tup, MR.fSl_tup, MR.fLen_tup, MR.fTuple_tup, MR.fRev_tup, MR.fIx_lst, MR.fSl_lst, MR.fLen_lst, MR.fTuple_lst, MR.fRev_lst, MR.fIx_str, MR.fSl_str, MR.fLen_str, MR.fInt_int, MR.fInt_bl,
        List.map_cons, List.map_nil, List.cons_append, List.nil_append, List.append_nil, List.length_cons, List.length_nil, List.replicate_succ, List.replicate_zero, List.set_cons_zero, List.set_cons_succ, List.getElem?_cons_zero, List.getElem?_cons_succ, List.getD_cons_zero, List.getD_cons_succ, Nat.reduceAdd, Nat.reduceSub, Nat.zero_add, Option.some.injEq, reduceIte, Bool.not_true, Bool.not_false, true_and, and_true, true_implies, false_implies, implies_true, MR.sRaise, MR.sTryAs, MR.sTry, MR.gIsE, PySem.W.kitAny, PySem.Value.ref.injEq, MR.sStar, MR.aSeq, MR.seqD, MR.gStp, List.take_succ_cons, List.take_zero, List.drop_succ_cons, List.drop_zero, MR.sl, MR.aFor_nil, MR.aComp_nil, Int.zero_add, MR.map_int_inj, MR.nil_map_int, MR.cons_map_int, List.map_eq_nil_iff, MR.eqOk_row, MR.eqOk_rowL, MR.eqOk_nil, MR.nil_eq, MR.nil_deq, MR.deq_row, MR.deq_rowL, MR.deq_nilr, MR.deq_nill, MR.deq_nils, MR.rng_zero, MR.isE_map, List.length_map, List.length_append, List.length_reverse,
        Nat.reduceLeDiff, Nat.reduceLT, Int.reduceLE, Int.reduceLT, Int.reducePow, Int.reduceNeg, Int.toNat_zero, Int.reduceToNat, Bool.not_eq_eq_eq_not, Bool.not_eq_true', decide_eq_false_iff_not, decide_eq_true_eq, Bool.false_eq_true, ite_not, ite_false, ite_true, decide_true, decide_false, not_true_eq_false, not_false_eq_true, List.cons.injEq, MR.D.tup.injEq, MR.D.lst.injEq, MR.D.int.injEq, MR.D.str.injEq, MR.D.bl.injEq, MR.D.adr.injEq, MR.Ent.d.injEq, MR.Ent.own.injEq, Option.some.injEq, Prod.mk.injEq, MR.fl_repx, List.length_replicate, exists_eq, exists_eq', and_assoc, exists_and_left, exists_and_right, exists_eq_left, exists_eq_left', exists_eq_right, exists_eq_right', ne_eq, eq_self, and_self, reduceCtorEq, false_and, and_false, or_false, false_or, Int.reduceEq, Int.reduceSub, Int.reduceAdd, Int.reduceMul, Nat.reduceMul, c]
      show N _ _
      rw [hN]
      clear hN
      show sSeq _ _ _ _ _
      refine seq_opq fun N hN => ?_
      simp -implicitDefEqProofs only [MR.sNil, MR.sSeq, MR.sDrop, MR.sRet_e, MR.sRet_f, MR.sRetN, MR.sBreak, MR.sCont, MR.sIf, MR.sSet, MR.sOwn, MR.sAsg, MR.sPar, MR.sAug, MR.sFrz, MR.sApp, MR.sPut, MR.sExt, MR.aName, MR.aTup, MR.aNil, MR.aCons, MR.frz,
        MR.gVar, MR.gC, MR.gOp, MR.gB, MR.bK, MR.gTru, MR.gNotT, MR.gAndT, MR.gOrT, MR.gAndV, MR.gOrV, MR.gNotV, MR.gIf, MR.gChain, MR.gNil, MR.gCons, MR.gTup, MR.gLst, MR.gFz, MR.gOwn, MR.gAsL, MR.gNo, MR.gPart, MR.gSl, MR.gSlF, MR.gUn, MR.gIxL, MR.gFn, MR.gLenL, MR.gYes,
        MR.fAddI, MR.fSub, MR.fDiv, MR.fMod, MR.fPow, MR.fLe, MR.fGt, MR.fGe, MR.fIs, MR.fIsN, MR.fNeg, MR.fMin, MR.fMax, MR.fDivmod, MR.fSum, MR.fAll, MR.fRepr, MR.fIsi, MR.tyD, MR.dInt, MR.dBool, MR.dTup, MR.dStr, MR.dLst,
        MR.gDkT, MR.gDkS, MR.gDkNe, MR.gDkPop, MR.sDkApp, MR.sDkPut, MR.gScr, MR.sDeck, MR.gCall, MR.sel, MR.sFor, MR.sForR1, MR.sForR2, MR.sWhile, MR.sForE, MR.sAugP, MR.gRepL, MR.gCatL, MR.gComp, MR.gCompR, MR.startA, MR.wipeA, MR.sNever, MR.gNever, MR.tNev, MR.sAsg2, MR.fMulS_str, MR.fIntS_str, MR.sParO, MR.sForG, MR.gCompG, MR.iSeqG, MR.iR1G, MR.iR2G, MR.iZipG, MR.iEnumG, MR.iEnumLG, MR.iRevG,
        MR.fTru_bl, MR.fTru_non, MR.fTru_int, MR.fTru_str, MR.fTru_lst, MR.fTru_tup, MR.fAdd_int, MR.fAdd_str, MR.fAdd_tup, MR.fAdd_lst, MR.fMul_int, MR.fMul_tup, MR.fMul_lst, MR.fEq_int, MR.fEq_str, MR.fEq_bl, MR.fEq_tup_tup, MR.fEq_tup_lst, MR.fEq_tup_int, MR.fEq_tup_non, MR.fEq_tup_str, MR.fEq_tup_bl, MR.fEq_lst_tup, MR.fEq_lst_lst, MR.fEq_lst_int, MR.fEq_lst_non, MR.fEq_lst_str, MR.fEq_lst_bl, MR.fEq_int_tup, MR.fEq_int_lst, MR.fEq_int_non, MR.fEq_int_str, MR.fEq_int_bl, MR.fEq_non_tup, MR.fEq_non_lst, MR.fEq_non_int, MR.fEq_non_non, MR.fEq_non_str, MR.fEq_non_bl, MR.fEq_str_tup, MR.fEq_str_lst, MR.fEq_str_int, MR.fEq_str_non, MR.fEq_str_bl, MR.fEq_bl_tup, MR.fEq_bl_lst, MR.fEq_bl_int, MR.fEq_bl_non, MR.fEq_bl_str, MR.fNe_int, MR.fNe_str, MR.fNe_bl, MR.fNe_tup_tup, MR.fNe_tup_lst, MR.fNe_tup_int, MR.fNe_tup_non, MR.fNe_tup_str, MR.fNe_tup_bl, MR.fNe_lst_tup, MR.fNe_lst_lst, MR.fNe_lst_int, MR.fNe_lst_non, MR.fNe_lst_str, MR.fNe_lst_bl, MR.fNe_int_tup, MR.fNe_int_lst, MR.fNe_int_non, MR.fNe_int_str, MR.fNe_int_bl, MR.fNe_non_tup, MR.fNe_non_lst, MR.fNe_non_int, MR.fNe_non_non, MR.fNe_non_str, MR.fNe_non_bl, MR.fNe_str_tup, MR.fNe_str_lst, MR.fNe_str_int, MR.fNe_str_non, MR.fNe_str_bl, MR.fNe_bl_tup, MR.fNe_bl_lst, MR.fNe_bl_int, MR.fNe_bl_non, MR.fNe_bl_str, MR.fLt_int, MR.fIx_tup, MR.fSl_tup, MR.fLen_tup, MR.fTuple_tup, MR.fRev_tup, MR.fIx_lst, MR.fSl_lst, MR.fLen_lst, MR.fTuple_lst, MR.fRev_lst, MR.fIx_str, MR.fSl_str, MR.fLen_str, MR.fInt_int, MR.fInt_bl,
        List.map_cons, List.map_nil, List.cons_append, List.nil_append, List.append_nil, List.length_cons, List.length_nil, List.replicate_succ, List.replicate_zero, List.set_cons_zero, List.set_cons_succ, List.getElem?_cons_zero, List.getElem?_cons_succ, List.getD_cons_zero, List.getD_cons_succ, Nat.reduceAdd, Nat.reduceSub, Nat.zero_add, Option.some.injEq, reduceIte, Bool.not_true, Bool.not_false, true_and, and_true, true_implies, false_implies, implies_true, MR.sRaise, MR.sTryAs, MR.sTry, MR.gIsE, PySem.W.kitAny, PySem.Value.ref.injEq, MR.sStar, MR.aSeq, MR.seqD, MR.gStp, List.take_succ_cons, List.take_zero, List.drop_succ_cons, List.drop_zero, MR.sl, MR.aFor_nil, MR.aComp_nil, Int.zero_add, MR.map_int_inj, MR.nil_map_int, MR.cons_map_int, List.map_eq_nil_iff, MR.eqOk_row, MR.eqOk_rowL, MR.eqOk_nil, MR.nil_eq, MR.nil_deq, MR.deq_row, MR.deq_rowL, MR.deq_nilr, MR.deq_nill, MR.deq_nils, MR.rng_zero, MR.isE_map, List.length_map, List.length_append, List.length_reverse,
        Nat.reduceLeDiff, Nat.reduceLT, Int.reduceLE, Int.reduceLT, Int.reducePow, Int.reduceNeg, Int.toNat_zero, Int.reduceToNat, Bool.not_eq_eq_eq_not, Bool.not_eq_true', decide_eq_false_iff_not, decide_eq_true_eq, Bool.false_eq_true, ite_not, ite_false, ite_true, decide_true, decide_false, not_true_eq_false, not_false_eq_true, List.cons.injEq, MR.D.tup.injEq, MR.D.lst.injEq, MR.D.int.injEq, MR.D.str.injEq, MR.D.bl.injEq, MR.D.adr.injEq, MR.Ent.d.injEq, MR.Ent.own.injEq, Option.some.injEq, Prod.mk.injEq, MR.fl_repx, List.length_replicate, exists_eq, exists_eq', and_assoc, exists_and_left, exists_and_right, exists_eq_left, exists_eq_left', exists_eq_right, exists_eq_right', ne_eq, eq_self, and_self, reduceCtorEq, false_and, and_false, or_false, false_or, Int.reduceEq, Int.reduceSub, Int.reduceAdd, Int.reduceMul, Nat.reduceMul, aRowOf, hb, ek, ok]
      by_cases c10 : b = 10
      · subst c10
        show N _ _
        rw [hN]
        clear hN
        show sSeq _ _ _ _ _
        refine seq_opq fun N hN => ?_
        simp -implicitDefEqProofs only [MR.sNil, MR.sSeq, MR.sDrop, MR.sRet_e, MR.sRet_f, MR.sRetN, MR.sBreak, MR.sCont, MR.sIf, MR.sSet, MR.sOwn, MR.sAsg, MR.sPar, MR.sAug, MR.sFrz, MR.sApp, MR.sPut, MR.sExt, MR.aName, MR.aTup, MR.aNil, MR.aCons, MR.frz,
        MR.gVar, MR.gC, MR.gOp, MR.gB, MR.bK, MR.gTru, MR.gNotT, MR.gAndT, MR.gOrT, MR.gAndV, MR.gOrV, MR.gNotV, MR.gIf, MR.gChain, MR.gNil, MR.gCons, MR.gTup, MR.gLst, MR.gFz, MR.gOwn, MR.gAsL, MR.gNo, MR.gPart, MR.gSl, MR.gSlF, MR.gUn, MR.gIxL, MR.gFn, MR.gLenL, MR.gYes,
        MR.fAddI, MR.fSub, MR.fDiv, MR.fMod, MR.fPow, MR.fLe, MR.fGt, MR.fGe, MR.fIs, MR.fIsN, MR.fNeg, MR.fMin, MR.fMax, MR.fDivmod, MR.fSum, MR.fAll, MR.fRepr, MR.fIsi, MR.tyD, MR.dInt, MR.dBool, MR.dTup, MR.dStr, MR.dLst,
        MR.gDkT, MR.gDkS, MR.gDkNe, MR.gDkPop, MR.sDkApp, MR.sDkPut, MR.gScr, MR.sDeck, MR.gCall, MR.sel, MR.sFor, MR.sForR1, MR.sForR2, MR.sWhile, MR.sForE, MR.sAugP, MR.gRepL, MR.gCatL, MR.gComp, MR.gCompR, MR.startA, MR.wipeA, MR.sNever, MR.gNever, MR.tNev, MR.sAsg2, MR.fMulS_str, MR.fIntS_str, MR.sParO, MR.sForG, MR.gCompG, MR.iSeqG, MR.iR1G, MR.iR2G, MR.iZipG, MR.iEnumG, MR.iEnumLG, MR.iRevG,
        MR.fTru_bl, MR.fTru_non, MR.fTru_int, MR.fTru_str, MR.fTru_lst, MR.fTru_tup, MR.fAdd_int, MR.fAdd_str, MR.fAdd_tup, MR.fAdd_lst, MR.fMul_int, MR.fMul_tup, MR.fMul_lst, MR.fEq_int, MR.fEq_str, MR.fEq_bl, MR.fEq_tup_tup, MR.fEq_tup_lst, MR.fEq_tup_int, MR.fEq_tup_non, MR.fEq_tup_str, MR.fEq_tup_bl, MR.fEq_lst_tup, MR.fEq_lst_lst, MR.fEq_lst_int, MR.fEq_lst_non, MR.fEq_lst_str, MR.fEq_lst_bl, MR.fEq_int_tup, MR.fEq_int_lst, MR.fEq_int_non, MR.fEq_int_str, MR.fEq_int_bl, MR.fEq_non_tup, MR.fEq_non_lst, MR.fEq_non_int, MR.fEq_non_non, MR.fEq_non_str, MR.fEq_non_bl, MR.fEq_str_tup, MR.fEq_str_lst, MR.fEq_str_int, MR.fEq_str_non, MR.fEq_str_bl, MR.fEq_bl_tup, MR.fEq_bl_lst, MR.fEq_bl_int, MR.fEq_bl_non, MR.fEq_bl_str, MR.fNe_int, MR.fNe_str, MR.fNe_bl, MR.fNe_tup_tup, MR.fNe_tup_lst, MR.fNe_tup_int, MR.fNe_tup_non, MR.fNe_tup_str, MR.fNe_tup_bl, MR.fNe_lst_tup, MR.fNe_lst_lst, MR.fNe_lst_int, MR.fNe_lst_non, MR.fNe_lst_str, MR.fNe_lst_bl, MR.fNe_int_tup, MR.fNe_int_lst, MR.fNe_int_non, MR.fNe_int_str, MR.fNe_int_bl, MR.fNe_non_tup, MR.fNe_non_lst, MR.fNe_non_int, MR.fNe_non_non, MR.fNe_non_str, MR.fNe_non_bl, MR.fNe_str_tup, MR.fNe_str_lst, MR.fNe_str_int, MR.fNe_str_non, MR.fNe_str_bl, MR.fNe_bl_tup, MR.fNe_bl_lst, MR.fNe_bl_int, MR.fNe_bl_non, MR.fNe_bl_str, MR.fLt_int, MR.fIx_tup, MR.fSl_tup, MR.fLen_tup, MR.fTuple_tup, MR.fRev_tup, MR.fIx_lst, MR.fSl_lst, MR.fLen_lst, MR.fTuple_lst, MR.fRev_lst, MR.fIx_str, MR.fSl_str, MR.fLen_str, MR.fInt_int, MR.fInt_bl,
        List.map_cons, List.map_nil, List.cons_append, List.nil_append, List.append_nil, List.length_cons, List.length_nil, List.replicate_succ, List.replicate_zero, List.set_cons_zero, List.set_cons_succ, List.getElem?_cons_zero, List.getElem?_cons_succ, List.getD_cons_zero, List.getD_cons_succ, Nat.reduceAdd, Nat.reduceSub, Nat.zero_add, Option.some.injEq, reduceIte, Bool.not_true, Bool.not_false, true_and, and_true, true_implies, false_implies, implies_true, MR.sRaise, MR.sTryAs, MR.sTry, MR.gIsE, PySem.W.kitAny, PySem.Value.ref.injEq, MR.sStar, MR.aSeq, MR.seqD, MR.gStp, List.take_succ_cons, List.take_zero, List.drop_succ_cons, List.drop_zero, MR.sl, MR.aFor_nil, MR.aComp_nil, Int.zero_add, MR.map_int_inj, MR.nil_map_int, MR.cons_map_int, List.map_eq_nil_iff, MR.eqOk_row, MR.eqOk_rowL, MR.eqOk_nil, MR.nil_eq, MR.nil_deq, MR.deq_row, MR.deq_rowL, MR.deq_nilr, MR.deq_nill, MR.deq_nils, MR.rng_zero, MR.isE_map, List.length_map, List.length_append, List.length_reverse,
        Nat.reduceLeDiff, Nat.reduceLT, Int.reduceLE, Int.reduceLT, Int.reducePow, Int.reduceNeg, Int.toNat_zero, Int.reduceToNat, Bool.not_eq_eq_eq_not, Bool.not_eq_true', decide_eq_false_iff_not, decide_eq_true_eq, Bool.false_eq_true, ite_not, ite_false, ite_true, decide_true, decide_false, not_true_eq_false, not_false_eq_true, List.cons.injEq, MR.D.tup.injEq, MR.D.lst.injEq, MR.D.int.injEq, MR.D.str.injEq, MR.D.bl.injEq, MR.D.adr.injEq, MR.Ent.d.injEq, MR.Ent.own.injEq, Option.some.injEq, Prod.mk.injEq, MR.fl_repx, List.length_replicate, exists_eq, exists_eq', and_assoc, exists_and_left, exists_and_right, exists_eq_left, exists_eq_left', exists_eq_right, exists_eq_right', ne_eq, eq_self, and_self, reduceCtorEq, false_and, and_false, or_false, false_or, Int.reduceEq, Int.reduceSub, Int.reduceAdd, Int.reduceMul, Nat.reduceMul, aLessX, hb, h1, h2, m3, c, le, ok]
        show N _ _
        rw [hN]
        clear hN
        simp -implicitDefEqProofs only [MR.sNil, MR.sSeq, MR.sDrop, MR.sRet_e, MR.sRet_f, MR.sRetN, MR.sBreak, MR.sCont, MR.sIf, MR.sSet, MR.sOwn, MR.sAsg, MR.sPar, MR.sAug, MR.sFrz, MR.sApp, MR.sPut, MR.sExt, MR.aName, MR.aTup, MR.aNil, MR.aCons, MR.frz,
        MR.gVar, MR.gC, MR.gOp, MR.gB, MR.bK, MR.gTru, MR.gNotT, MR.gAndT, MR.gOrT, MR.gAndV, MR.gOrV, MR.gNotV, MR.gIf, MR.gChain, MR.gNil, MR.gCons, MR.gTup, MR.gLst, MR.gFz, MR.gOwn, MR.gAsL, MR.gNo, MR.gPart, MR.gSl, MR.gSlF, MR.gUn, MR.gIxL, MR.gFn, MR.gLenL, MR.gYes,
        MR.fAddI, MR.fSub, MR.fDiv, MR.fMod, MR.fPow, MR.fLe, MR.fGt, MR.fGe, MR.fIs, MR.fIsN, MR.fNeg, MR.fMin, MR.fMax, MR.fDivmod, MR.fSum, MR.fAll, MR.fRepr, MR.fIsi, MR.tyD, MR.dInt, MR.dBool, MR.dTup, MR.dStr, MR.dLst,
        MR.gDkT, MR.gDkS, MR.gDkNe, MR.gDkPop, MR.sDkApp, MR.sDkPut, MR.gScr, MR.sDeck, MR.gCall, MR.sel, MR.sFor, MR.sForR1, MR.sForR2, MR.sWhile, MR.sForE, MR.sAugP, MR.gRepL, MR.gCatL, MR.gComp, MR.gCompR, MR.startA, MR.wipeA, MR.sNever, MR.gNever, MR.tNev, MR.sAsg2, MR.fMulS_str, MR.fIntS_str, MR.sParO, MR.sForG, MR.gCompG, MR.iSeqG, MR.iR1G, MR.iR2G, MR.iZipG, MR.iEnumG, MR.iEnumLG, MR.iRevG,
        MR.fTru_bl, MR.fTru_non, MR.fTru_int, MR.fTru_str, MR.fTru_lst, MR.fTru_tup, MR.fAdd_int, MR.fAdd_str, MR.fAdd_tup, MR.fAdd_lst, MR.fMul_int, MR.fMul_tup, MR.fMul_lst, MR.fEq_int, MR.fEq_str, MR.fEq_bl, MR.fEq_tup_tup, MR.fEq_tup_lst, MR.fEq_tup_int, MR.fEq_tup_non, MR.fEq_tup_str, MR.fEq_tup_bl, MR.fEq_lst_tup, MR.fEq_lst_lst, MR.fEq_lst_int, MR.fEq_lst_non, MR.fEq_lst_str, MR.fEq_lst_bl, MR.fEq_int_tup, MR.fEq_int_lst, MR.fEq_int_non, MR.fEq_int_str, MR.fEq_int_bl, MR.fEq_non_tup, MR.fEq_non_lst, MR.fEq_non_int, MR.fEq_non_non, MR.fEq_non_str, MR.fEq_non_bl, MR.fEq_str_tup, MR.fEq_str_lst, MR.fEq_str_int, MR.fEq_str_non, MR.fEq_str_bl, MR.fEq_bl_tup, MR.fEq_bl_lst, MR.fEq_bl_int, MR.fEq_bl_non, MR.fEq_bl_str, MR.fNe_int, MR.fNe_str, MR.fNe_bl, MR.fNe_tup_tup, MR.fNe_tup_lst, MR.fNe_tup_int, MR.fNe_tup_non, MR.fNe_tup_str, MR.fNe_tup_bl, MR.fNe_lst_tup, MR.fNe_lst_lst, MR.fNe_lst_int, MR.fNe_lst_non, MR.fNe_lst_str, MR.fNe_lst_bl, MR.fNe_int_tup, MR.fNe_int_lst, MR.fNe_int_non, MR.fNe_int_str, MR.fNe_int_bl, MR.fNe_non_tup, MR.fNe_non_lst, MR.fNe_non_int, MR.fNe_non_non, MR.fNe_non_str, MR.fNe_non_bl, MR.fNe_str_tup, MR.fNe_str_lst, MR.fNe_str_int, MR.fNe_str_non, MR.fNe_str_bl, MR.fNe_bl_tup, MR.fNe_bl_lst, MR.fNe_bl_int, MR.fNe_bl_non, MR.fNe_bl_str, MR.fLt_int, MR.fIx_tup, MR.fSl_tup, MR.fLen_tup, MR.fTuple_tup, MR.fRev_tup, MR.fIx_lst, MR.fSl_lst, MR.fLen_lst, MR.fTuple_lst, MR.fRev_lst, MR.fIx_str, MR.fSl_str, MR.fLen_str, MR.fInt_int, MR.fInt_bl,
        List.map_cons, List.map_nil, List.cons_append, List.nil_append, List.append_nil, List.length_cons, List.length_nil, List.replicate_succ, List.replicate_zero, List.set_cons_zero, List.set_cons_succ, List.getElem?_cons_zero, List.getElem?_cons_succ, List.getD_cons_zero, List.getD_cons_succ, Nat.reduceAdd, Nat.reduceSub, Nat.zero_add, Option.some.injEq, reduceIte, Bool.not_true, Bool.not_false, true_and, and_true, true_implies, false_implies, implies_true, MR.sRaise, MR.sTryAs, MR.sTry, MR.gIsE, PySem.W.kitAny, PySem.Value.ref.injEq, MR.sStar, MR.aSeq, MR.seqD, MR.gStp, List.take_succ_cons, List.take_zero, List.drop_succ_cons, List.drop_zero, MR.sl, MR.aFor_nil, MR.aComp_nil, Int.zero_add, MR.map_int_inj, MR.nil_map_int, MR.cons_map_int, List.map_eq_nil_iff, MR.eqOk_row, MR.eqOk_rowL, MR.eqOk_nil, MR.nil_eq, MR.nil_deq, MR.deq_row, MR.deq_rowL, MR.deq_nilr, MR.deq_nill, MR.deq_nils, MR.rng_zero, MR.isE_map, List.length_map, List.length_append, List.length_reverse,
        Nat.reduceLeDiff, Nat.reduceLT, Int.reduceLE, Int.reduceLT, Int.reducePow, Int.reduceNeg, Int.toNat_zero, Int.reduceToNat, Bool.not_eq_eq_eq_not, Bool.not_eq_true', decide_eq_false_iff_not, decide_eq_true_eq, Bool.false_eq_true, ite_not, ite_false, ite_true, decide_true, decide_false, not_true_eq_false, not_false_eq_true, List.cons.injEq, MR.D.tup.injEq, MR.D.lst.injEq, MR.D.int.injEq, MR.D.str.injEq, MR.D.bl.injEq, MR.D.adr.injEq, MR.Ent.d.injEq, MR.Ent.own.injEq, Option.some.injEq, Prod.mk.injEq, MR.fl_repx, List.length_replicate, exists_eq, exists_eq', and_assoc, exists_and_left, exists_and_right, exists_eq_left, exists_eq_left', exists_eq_right, exists_eq_right', ne_eq, eq_self, and_self, reduceCtorEq, false_and, and_false, or_false, false_or, Int.reduceEq, Int.reduceSub, Int.reduceAdd, Int.reduceMul, Nat.reduceMul, aLessX, hb, h1, h2, m3, c, le, ok]
        exact q
      · show N _ _
        rw [hN]
        clear hN
        show sSeq _ _ _ _ _
        refine seq_opq fun N hN => ?_
        simp -implicitDefEqProofs only [MR.sNil, MR.sSeq, MR.sDrop, MR.sRet_e, MR.sRet_f, MR.sRetN, MR.sBreak, MR.sCont, MR.sIf, MR.sSet, MR.sOwn, MR.sAsg, MR.sPar, MR.sAug, MR.sFrz, MR.sApp, MR.sPut, MR.sExt, MR.aName, MR.aTup, MR.aNil, MR.aCons, MR.frz,
        MR.gVar, MR.gC, MR.gOp, MR.gB, MR.bK, MR.gTru, MR.gNotT, MR.gAndT, MR.gOrT, MR.gAndV, MR.gOrV, MR.gNotV, MR.gIf, MR.gChain, MR.gNil, MR.gCons, MR.gTup, MR.gLst, MR.gFz, MR.gOwn, MR.gAsL, MR.gNo, MR.gPart, MR.gSl, MR.gSlF, MR.gUn, MR.gIxL, MR.gFn, MR.gLenL, MR.gYes,
        MR.fAddI, MR.fSub, MR.fDiv, MR.fMod, MR.fPow, MR.fLe, MR.fGt, MR.fGe, MR.fIs, MR.fIsN, MR.fNeg, MR.fMin, MR.fMax, MR.fDivmod, MR.fSum, MR.fAll, MR.fRepr, MR.fIsi, MR.tyD, MR.dInt, MR.dBool, MR.dTup, MR.dStr, MR.dLst,
        MR.gDkT, MR.gDkS, MR.gDkNe, MR.gDkPop, MR.sDkApp, MR.sDkPut, MR.gScr, MR.sDeck, MR.gCall, MR.sel, MR.sFor, MR.sForR1, MR.sForR2, MR.sWhile, MR.sForE, MR.sAugP, MR.gRepL, MR.gCatL, MR.gComp, MR.gCompR, MR.startA, MR.wipeA, MR.sNever, MR.gNever, MR.tNev, MR.sAsg2, MR.fMulS_str, MR.fIntS_str, MR.sParO, MR.sForG, MR.gCompG, MR.iSeqG, MR.iR1G, MR.iR2G, MR.iZipG, MR.iEnumG, MR.iEnumLG, MR.iRevG,
        MR.fTru_bl, MR.fTru_non, MR.fTru_int, MR.fTru_str, MR.fTru_lst, MR.fTru_tup, MR.fAdd_int, MR.fAdd_str, MR.fAdd_tup, MR.fAdd_lst, MR.fMul_int, MR.fMul_tup, MR.fMul_lst, MR.fEq_int, MR.fEq_str, MR.fEq_bl, MR.fEq_tup_tup, MR.fEq_tup_lst, MR.fEq_tup_int, MR.fEq_tup_non, MR.fEq_tup_str, MR.fEq_tup_bl, MR.fEq_lst_tup, MR.fEq_lst_lst, MR.fEq_lst_int, MR.fEq_lst_non, MR.fEq_lst_str, MR.fEq_lst_bl, MR.fEq_int_tup, MR.fEq_int_lst, MR.fEq_int_non, MR.fEq_int_str, MR.fEq_int_bl, MR.fEq_non_tup, MR.fEq_non_lst, MR.fEq_non_int, MR.fEq_non_non, MR.fEq_non_str, MR.fEq_non_bl, MR.fEq_str_tup, MR.fEq_str_lst, MR.fEq_str_int, MR.fEq_str_non, MR.fEq_str_bl, MR.fEq_bl_tup, MR.fEq_bl_lst, MR.fEq_bl_int, MR.fEq_bl_non, MR.fEq_bl_str, MR.fNe_int, MR.fNe_str, MR.fNe_bl, MR.fNe_tup_tup, MR.fNe_tup_lst, MR.fNe_tup_int, MR.fNe_tup_non, MR.fNe_tup_str, MR.fNe_tup_bl, MR.fNe_lst_tup, MR.fNe_lst_lst, MR.fNe_lst_int, MR.fNe_lst_non, MR.fNe_lst_str, MR.fNe_lst_bl, MR.fNe_int_tup, MR.fNe_int_lst, MR.fNe_int_non, MR.fNe_int_str, MR.fNe_int_bl, MR.fNe_non_tup, MR.fNe_non_lst, MR.fNe_non_int, MR.fNe_non_non, MR.fNe_non_str, MR.fNe_non_bl, MR.fNe_str_tup, MR.fNe_str_lst, MR.fNe_str_int, MR.fNe_str_non, MR.fNe_str_bl, MR.fNe_bl_tup, MR.fNe_bl_lst, MR.fNe_bl_int, MR.fNe_bl_non, MR.fNe_bl_str, MR.fLt_int, MR.fIx_tup, MR.fSl_tup, MR.fLen_tup, MR.fTuple_tup, MR.fRev_tup, MR.fIx_lst, MR.fSl_lst, MR.fLen_lst, MR.fTuple_lst, MR.fRev_lst, MR.fIx_str, MR.fSl_str, MR.fLen_str, MR.fInt_int, MR.fInt_bl,
        List.map_cons, List.map_nil, List.cons_append, List.nil_append, List.append_nil, List.length_cons, List.length_nil, List.replicate_succ, List.replicate_zero, List.set_cons_zero, List.set_cons_succ, List.getElem?_cons_zero, List.getElem?_cons_succ, List.getD_cons_zero, List.getD_cons_succ, Nat.reduceAdd, Nat.reduceSub, Nat.zero_add, Option.some.injEq, reduceIte, Bool.not_true, Bool.not_false, true_and, and_true, true_implies, false_implies, implies_true, MR.sRaise, MR.sTryAs, MR.sTry, MR.gIsE, PySem.W.kitAny, PySem.Value.ref.injEq, MR.sStar, MR.aSeq, MR.seqD, MR.gStp, List.take_succ_cons, List.take_zero, List.drop_succ_cons, List.drop_zero, MR.sl, MR.aFor_nil, MR.aComp_nil, Int.zero_add, MR.map_int_inj, MR.nil_map_int, MR.cons_map_int, List.map_eq_nil_iff, MR.eqOk_row, MR.eqOk_rowL, MR.eqOk_nil, MR.nil_eq, MR.nil_deq, MR.deq_row, MR.deq_rowL, MR.deq_nilr, MR.deq_nill, MR.deq_nils, MR.rng_zero, MR.isE_map, List.length_map, List.length_append, List.length_reverse,
        Nat.reduceLeDiff, Nat.reduceLT, Int.reduceLE, Int.reduceLT, Int.reducePow, Int.reduceNeg, Int.toNat_zero, Int.reduceToNat, Bool.not_eq_eq_eq_not, Bool.not_eq_true', decide_eq_false_iff_not, decide_eq_true_eq, Bool.false_eq_true, ite_not, ite_false, ite_true, decide_true, decide_false, not_true_eq_false, not_false_eq_true, List.cons.injEq, MR.D.tup.injEq, MR.D.lst.injEq, MR.D.int.injEq, MR.D.str.injEq, MR.D.bl.injEq, MR.D.adr.injEq, MR.Ent.d.injEq, MR.Ent.own.injEq, Option.some.injEq, Prod.mk.injEq, MR.fl_repx, List.length_replicate, exists_eq, exists_eq', and_assoc, exists_and_left, exists_and_right, exists_eq_left, exists_eq_left', exists_eq_right, exists_eq_right', ne_eq, eq_self, and_self, reduceCtorEq, false_and, and_false, or_false, false_or, Int.reduceEq, Int.reduceSub, Int.reduceAdd, Int.reduceMul, Nat.reduceMul, c10]
        show N _ _
        rw [hN]
        clear hN
        simp -implicitDefEqProofs only [MR.sNil, MR.sSeq, MR.sDrop, MR.sRet_e, MR.sRet_f, MR.sRetN, MR.sBreak, MR.sCont, MR.sIf, MR.sSet, MR.sOwn, MR.sAsg, MR.sPar, MR.sAug, MR.sFrz, MR.sApp, MR.sPut, MR.sExt, MR.aName, MR.aTup, MR.aNil, MR.aCons, MR.frz,
        MR.gVar, MR.gC, MR.gOp, MR.gB, MR.bK, MR.gTru, MR.gNotT, MR.gAndT, MR.gOrT, MR.gAndV, MR.gOrV, MR.gNotV, MR.gIf, MR.gChain, MR.gNil, MR.gCons, MR.gTup, MR.gLst, MR.gFz, MR.gOwn, MR.gAsL, MR.gNo, MR.gPart, MR.gSl, MR.gSlF, MR.gUn, MR.gIxL, MR.gFn, MR.gLenL, MR.gYes,
        MR.fAddI, MR.fSub, MR.fDiv, MR.fMod, MR.fPow, MR.fLe, MR.fGt, MR.fGe, MR.fIs, MR.fIsN, MR.fNeg, MR.fMin, MR.fMax, MR.fDivmod, MR.fSum, MR.fAll, MR.fRepr, MR.fIsi, MR.tyD, MR.dInt, MR.dBool, MR.dTup, MR.dStr, MR.dLst,
        MR.gDkT, MR.gDkS, MR.gDkNe, MR.gDkPop, MR.sDkApp, MR.sDkPut, MR.gScr, MR.sDeck, MR.gCall, MR.sel, MR.sFor, MR.sForR1, MR.sForR2, MR.sWhile, MR.sForE, MR.sAugP, MR.gRepL, MR.gCatL, MR.gComp, MR.gCompR, MR.startA, MR.wipeA, MR.sNever, MR.gNever, MR.tNev, MR.sAsg2, MR.fMulS_str, MR.fIntS_str, MR.sParO, MR.sForG, MR.gCompG, MR.iSeqG, MR.iR1G, MR.iR2G, MR.iZipG, MR.iEnumG, MR.iEnumLG, MR.iRevG,
        MR.fTru_bl, MR.fTru_non, MR.fTru_int, MR.fTru_str, MR.fTru_lst, MR.fTru_tup, MR.fAdd_int, MR.fAdd_str, MR.fAdd_tup, MR.fAdd_lst, MR.fMul_int, MR.fMul_tup, MR.fMul_lst, MR.fEq_int, MR.fEq_str, MR.fEq_bl, MR.fEq_tup_tup, MR.fEq_tup_lst, MR.fEq_tup_int, MR.fEq_tup_non, MR.fEq_tup_str, MR.fEq_tup_bl, MR.fEq_lst_tup, MR.fEq_lst_lst, MR.fEq_lst_int, MR.fEq_lst_non, MR.fEq_lst_str, MR.fEq_lst_bl, MR.fEq_int_tup, MR.fEq_int_lst, MR.fEq_int_non, MR.fEq_int_str, MR.fEq_int_bl, MR.fEq_non_tup, MR.fEq_non_lst, MR.fEq_non_int, MR.fEq_non_non, MR.fEq_non_str, MR.fEq_non_bl, MR.fEq_str_tup, MR.fEq_str_lst, MR.fEq_str_int, MR.fEq_str_non, MR.fEq_str_bl, MR.fEq_bl_tup, MR.fEq_bl_lst, MR.fEq_bl_int, MR.fEq_bl_non, MR.fEq_bl_str, MR.fNe_int, MR.fNe_str, MR.fNe_bl, MR.fNe_tup_tup, MR.fNe_tup_lst, MR.fNe_tup_int, MR.fNe_tup_non, MR.fNe_tup_str, MR.fNe_tup_bl, MR.fNe_lst_tup, MR.fNe_lst_lst, MR.fNe_lst_int, MR.fNe_lst_non, MR.fNe_lst_str, MR.fNe_lst_bl, MR.fNe_int_tup, MR.fNe_int_lst, MR.fNe_int_non, MR.fNe_int_str, MR.fNe_int_bl, MR.fNe_non_tup, MR.fNe_non_lst, MR.fNe_non_int, MR.fNe_non_non, MR.fNe_non_str, MR.fNe_non_bl, MR.fNe_str_tup, MR.fNe_str_lst, MR.fNe_str_int, MR.fNe_str_non, MR.fNe_str_bl, MR.fNe_bl_tup, MR.fNe_bl_lst, MR.fNe_bl_int, MR.fNe_bl_non, MR.fNe_bl_str, MR.fLt_int, MR.fIx_tup, MR.fSl_tup, MR.fLen_tup, MR.fTuple_tup, MR.fRev_tup, MR.fIx_lst, MR.fSl_lst, MR.fLen_lst, MR.fTuple_lst, MR.fRev_lst, MR.fIx_str, MR.fSl_str, MR.fLen_str, MR.fInt_int, MR.fInt_bl,
        List.map_cons, List.map_nil, List.cons_append, List.nil_append, List.append_nil, List.length_cons, List.length_nil, List.replicate_succ, List.replicate_zero, List.set_cons_zero, List.set_cons_succ, List.getElem?_cons_zero, List.getElem?_cons_succ, List.getD_cons_zero, List.getD_cons_succ, Nat.reduceAdd, Nat.reduceSub, Nat.zero_add, Option.some.injEq, reduceIte, Bool.not_true, Bool.not_false, true_and, and_true, true_implies, false_implies, implies_true, MR.sRaise, MR.sTryAs, MR.sTry, MR.gIsE, PySem.W.kitAny, PySem.Value.ref.injEq, MR.sStar, MR.aSeq, MR.seqD, MR.gStp, List.take_succ_cons, List.take_zero, List.drop_succ_cons, List.drop_zero, MR.sl, MR.aFor_nil, MR.aComp_nil, Int.zero_add, MR.map_int_inj, MR.nil_map_int, MR.cons_map_int, List.map_eq_nil_iff, MR.eqOk_row, MR.eqOk_rowL, MR.eqOk_nil, MR.nil_eq, MR.nil_deq, MR.deq_row, MR.deq_rowL, MR.deq_nilr, MR.deq_nill, MR.deq_nils, MR.rng_zero, MR.isE_map, List.length_map, List.length_append, List.length_reverse,
        Nat.reduceLeDiff, Nat.reduceLT, Int.reduceLE, Int.reduceLT, Int.reducePow, Int.reduceNeg, Int.toNat_zero, Int.reduceToNat, Bool.not_eq_eq_eq_not, Bool.not_eq_true', decide_eq_false_iff_not, decide_eq_true_eq, Bool.false_eq_true, ite_not, ite_false, ite_true, decide_true, decide_false, not_true_eq_false, not_false_eq_true, List.cons.injEq, MR.D.tup.injEq, MR.D.lst.injEq, MR.D.int.injEq, MR.D.str.injEq, MR.D.bl.injEq, MR.D.adr.injEq, MR.Ent.d.injEq, MR.Ent.own.injEq, Option.some.injEq, Prod.mk.injEq, MR.fl_repx, List.length_replicate, exists_eq, exists_eq', and_assoc, exists_and_left, exists_and_right, exists_eq_left, exists_eq_left', exists_eq_right, exists_eq_right', ne_eq, eq_self, and_self, reduceCtorEq, false_and, and_false, or_false, false_or, Int.reduceEq, Int.reduceSub, Int.reduceAdd, Int.reduceMul, Nat.reduceMul, aLessX, hb, h1, h2, m3, c, le, ok]
        exact q
  refine ⟨fd, ⟨t.g__law_differs_right, F.kp, ok⟩, ?_⟩
  · refine bnd_of F 3 [] [] [0, 1, 2] [] (by simp) rfl ?_
    intro kV doc pm an cdv ct D us mv ws h1 h2 h3 h4
    match us, mv, ws, h1, h2, h3 with
    | [u0, u1, u2], [], [], _, _, _ => exact rfl
theorem kn_summed (t : T K mg) : ∃ fd, Known PR w K mg base 2 "summed" (He.ga K "summed") fd ["one", "other", "base"] DWd 3 aSummed ∧ Bnd K fd ["one", "other", "base"] 2 ["base"] [0, 1, 2] [] ∧ Bnd K fd ["one", "other", "base"] 0 ["other", "base", "one"] [2, 0, 1] [] ∧ Bnd K fd ["one", "other", "base"] 2 [] [0, 1, 2] [.int 10] := by
  obtain ⟨fd, F⟩ := t.f_summed
  obtain ⟨fd_limb_at, k_limb_at, b_limb_at_0⟩ := kn_limb_at (w := w) (base := base) t
  have ok : FnG PR w K mg base (L2.CX PR w) 2 (He.ga K "summed") fd ["one", "other", "base"] (toSp DWd K 3 aSummed) := by
    refine fn_ok (N := n_summed) DWd aSummed F S_summed fun cdv A outer s H E hr hG => ?_
    have S := S_summed
    refine ⟨_, (gss_cons (gs_own 3 S.nd (gf_lst ga_nil))
      (gss_cons (gs_set 4 S.nd ge_int)
      (gss_cons (gs_forR1 po_cx rfl t.z_range (ge_fn (call_max2 rfl) c_max t.z_max (ga_cons (ge_fn call_len c_len t.z_len (ga_cons (ge_var 0) ga_nil)) (ga_cons (ge_fn call_len c_len t.z_len (ga_cons (ge_var 1) ga_nil)) ga_nil))) (gg_name 5 S.nd)
      (gss_cons (gs_asg (ge_fn call_divmod c_divmod t.z_divmod (ga_cons (ge_add (ge_add (ge_call1 k_limb_at (Room.mono hr (by decide)) hG tk_cx b_limb_at_0 (fun B => .nil) (ga_cons (ge_var 0) (ga_cons (ge_var 5) ga_nil))) (ge_call1 k_limb_at (Room.mono hr (by decide)) hG tk_cx b_limb_at_0 (fun B => .nil) (ga_cons (ge_var 1) (ga_cons (ge_var 5) ga_nil)))) (ge_var 4)) (ga_cons (ge_var 2) ga_nil))) (gg_tup rfl (ggs_cons (gg_name 4 S.nd) (ggs_cons (gg_name 6 S.nd) ggs_nil)) (AL.len (al_cons aex_name (al_cons aex_name al_nil)))))
      (gss_one (gs_app 3 (ge_var 6)))))
      (gss_frz 3 (gss_one (gs_ret (ge_ty call_tuple_of c_tuple t.z_tuple (ga_cons (ge_add (ge_var 3) (GF.ge (gf_rep (GF.gl (gf_lst (ga_cons ge_int ga_nil))) (ge_var 4)))) ga_nil)))))))), ?_⟩
    clear S hr hG F t k_limb_at b_limb_at_0
    rintro ds ω Qa Ea ⟨xs, ys, b, rfl, hb, h1, h2, l1, l2, q⟩ _
    have hb1 := hb.1
    have hb2 := hb.2
    have e1 : (if (ys.length : Int) > (xs.length : Int) then (ys.length : Int) else (xs.length : Int)) = ((max xs.length ys.length : Nat) : Int) := by split <;> omega
    simp -implicitDefEqProofs only [MR.sNil, MR.sSeq, MR.sDrop, MR.sRet_e, MR.sRet_f, MR.sRetN, MR.sBreak, MR.sCont, MR.sIf, MR.sSet, MR.sOwn, MR.sAsg, MR.sPar, MR.sAug, MR.sFrz, MR.sApp, MR.sPut, MR.sExt, MR.aName, MR.aTup, MR.aNil, MR.aCons, MR.frz,
        MR.gVar, MR.gC, MR.gOp, MR.gB, MR.bK, MR.gTru, MR.gNotT, MR.gAndT, MR.gOrT, MR.gAndV, MR.gOrV, MR.gNotV, MR.gIf, MR.gChain, MR.gNil, MR.gCons, MR.gTup, MR.gLst, MR.gFz, MR.gOwn, MR.gAsL, MR.gNo, MR.gPart, MR.gSl, MR.gSlF, MR.gUn, MR.gIxL, MR.gFn, MR.gLenL, MR.gYes,
        MR.fAddI, MR.fSub, MR.fDiv, MR.fMod, MR.fPow, MR.fLe, MR.fGt, MR.fGe, MR.fIs, MR.fIsN, MR.fNeg, MR.fMin, MR.fMax, MR.fDivmod, MR.fSum, MR.fAll, MR.fRepr, MR.fIsi, MR.tyD, MR.dInt, MR.dBool, MR.dTup, MR.dStr, MR.dLst,
        MR.gDkT, MR.gDkS, MR.gDkNe, MR.gDkPop, MR.sDkApp, MR.sDkPut, MR.gScr, MR.sDeck, MR.gCall, MR.sel, MR.sFor, MR.sForR1, MR.sForR2, MR.sWhile, MR.sForE, MR.sAugP, MR.gRepL, MR.gCatL, MR.gComp, MR.gCompR, MR.startA, MR.wipeA, MR.sNever, MR.gNever, MR.tNev, MR.sAsg2, MR.fMulS_str, MR.fIntS_str, MR.sParO, MR.sForG, MR.gCompG, MR.iSeqG, MR.iR1G, MR.iR2G, MR.iZipG, MR.iEnumG, MR.iEnumLG, MR.iRevG,
        MR.fTru_bl, MR.fTru_non, MR.fTru_int, MR.fTru_str, MR.fTru_lst, MR.fTru_tup, MR.fAdd_int, MR.fAdd_str, MR.fAdd_tup, MR.fAdd_lst, MR.fMul_int, MR.fMul_tup, MR.fMul_lst, MR.fEq_int, MR.fEq_str, MR.fEq_bl, MR.fEq_tup_tup, MR.fEq_tup_lst, MR.fEq_tup_int, MR.fEq_tup_non, MR.fEq_tup_str, MR.fEq_tup_bl, MR.fEq_lst_tup, MR.fEq_lst_lst, MR.fEq_lst_int, MR.fEq_lst_non, MR.fEq_lst_str, MR.fEq_lst_bl, MR.fEq_int_tup, MR.fEq_int_lst, MR.fEq_int_non, MR.fEq_int_str, MR.fEq_int_bl, MR.fEq_non_tup, MR.fEq_non_lst, MR.fEq_non_int, MR.fEq_non_non, MR.fEq_non_str, MR.fEq_non_bl, MR.fEq_str_tup, MR.fEq_str_lst, MR.fEq_str_int, MR.fEq_str_non, MR.fEq_str_bl, MR.fEq_bl_tup, MR.fEq_bl_lst, MR.fEq_bl_int, MR.fEq_bl_non, MR.fEq_bl_str, MR.fNe_int, MR.fNe_str, MR.fNe_bl, MR.fNe_tup_tup, MR.fNe_tup_lst, MR.fNe_tup_int, MR.fNe_tup_non, MR.fNe_tup_str, MR.fNe_tup_bl, MR.fNe_lst_tup, MR.fNe_lst_lst, MR.fNe_lst_int, MR.fNe_lst_non, MR.fNe_lst_str, MR.fNe_lst_bl, MR.fNe_int_tup, MR.fNe_int_lst, MR.fNe_int_non, MR.fNe_int_str, MR.fNe_int_bl, MR.fNe_non_tup, MR.fNe_non_lst, MR.fNe_non_int, MR.fNe_non_non, MR.fNe_non_str, MR.fNe_non_bl, MR.fNe_str_tup, MR.fNe_str_lst, MR.fNe_str_int, MR.fNe_str_non, MR.fNe_str_bl, MR.fNe_bl_tup, MR.fNe_bl_lst, MR.fNe_bl_int, MR.fNe_bl_non, MR.fNe_bl_str, MR.fLt_int, MR.fIx_tup, MR.fSl_tup, MR.fLen_tup, MR.fTuple_tup, MR.fRev_tup, MR.fIx_lst, MR.fSl_lst, MR.fLen_lst, MR.fTuple_lst, MR.fRev_lst, MR.fIx_str, MR.fSl_str, MR.fLen_str, MR.fInt_int, MR.fInt_bl,
        List.map_cons, List.map_nil, List.cons_append, List.nil_append, List.append_nil, List.length_cons, List.length_nil, List.replicate_succ, List.replicate_zero, List.set_cons_zero, List.set_cons_succ, List.getElem?_cons_zero, List.getElem?_cons_succ, List.getD_cons_zero, List.getD_cons_succ, Nat.reduceAdd, Nat.reduceSub, Nat.zero_add, Option.some.injEq, reduceIte, Bool.not_true, Bool.not_false, true_and, and_true, true_implies, false_implies, implies_true, MR.sRaise, MR.sTryAs, MR.sTry, MR.gIsE, PySem.W.kitAny, PySem.Value.ref.injEq, MR.sStar, MR.aSeq, MR.seqD, MR.gStp, List.take_succ_cons, List.take_zero, List.drop_succ_cons, List.drop_zero, MR.sl, MR.aFor_nil, MR.aComp_nil, Int.zero_add, MR.map_int_inj, MR.nil_map_int, MR.cons_map_int, List.map_eq_nil_iff, MR.eqOk_row, MR.eqOk_rowL, MR.eqOk_nil, MR.nil_eq, MR.nil_deq, MR.deq_row, MR.deq_rowL, MR.deq_nilr, MR.deq_nill, MR.deq_nils, MR.rng_zero, MR.isE_map, List.length_map, List.length_append, List.length_reverse,
        Nat.reduceLeDiff, Nat.reduceLT, Int.reduceLE, Int.reduceLT, Int.reducePow, Int.reduceNeg, Int.toNat_zero, Int.reduceToNat, Bool.not_eq_eq_eq_not, Bool.not_eq_true', decide_eq_false_iff_not, decide_eq_true_eq, Bool.false_eq_true, ite_not, ite_false, ite_true, decide_true, decide_false, not_true_eq_false, not_false_eq_true, List.cons.injEq, MR.D.tup.injEq, MR.D.lst.injEq, MR.D.int.injEq, MR.D.str.injEq, MR.D.bl.injEq, MR.D.adr.injEq, MR.Ent.d.injEq, MR.Ent.own.injEq, Option.some.injEq, Prod.mk.injEq, MR.fl_repx, List.length_replicate, exists_eq, exists_eq', and_assoc, exists_and_left, exists_and_right, exists_eq_left, exists_eq_left', exists_eq_right, exists_eq_right', ne_eq, eq_self, and_self, reduceCtorEq, false_and, and_false, or_false, false_or, Int.reduceEq, Int.reduceSub, Int.reduceAdd, Int.reduceMul, Nat.reduceMul, e1]
    refine ⟨by omega, by omega, fun i ρ ω' => ω' = ω ∧ ∃ x5 x6, ρ = [some (.d (row xs)), some (.d (row ys)), some (.d (.int b)), some (.own ((cLow b 0 ((psum xs ys).take i)).map D.int)), some (.d (.int (cFin b 0 ((psum xs ys).take i)))), x5, x6], ⟨rfl, none, none, rfl⟩, fun i d ρ ω' hd ⟨e1, x5, x6, e2⟩ => ?_, fun ρ ω' ⟨e1, x5, x6, e2⟩ => ?_⟩
    · subst e1 e2
      obtain ⟨hi, rfl⟩ := rng_of hd
      have hi : i < max xs.length ys.length := by omega
      obtain ⟨s1, s2, s3⟩ := cCar_snoc (b := b) 0 ((psum xs ys).take i) (xs.getD i 0 + ys.getD i 0)
      rw [← take_snoc (psum_at hi)] at s1 s2 s3
      simp -implicitDefEqProofs only [MR.sNil, MR.sSeq, MR.sDrop, MR.sRet_e, MR.sRet_f, MR.sRetN, MR.sBreak, MR.sCont, MR.sIf, MR.sSet, MR.sOwn, MR.sAsg, MR.sPar, MR.sAug, MR.sFrz, MR.sApp, MR.sPut, MR.sExt, MR.aName, MR.aTup, MR.aNil, MR.aCons, MR.frz,
        MR.gVar, MR.gC, MR.gOp, MR.gB, MR.bK, MR.gTru, MR.gNotT, MR.gAndT, MR.gOrT, MR.gAndV, MR.gOrV, MR.gNotV, MR.gIf, MR.gChain, MR.gNil, MR.gCons, MR.gTup, MR.gLst, MR.gFz, MR.gOwn, MR.gAsL, MR.gNo, MR.gPart, MR.gSl, MR.gSlF, MR.gUn, MR.gIxL, MR.gFn, MR.gLenL, MR.gYes,
        MR.fAddI, MR.fSub, MR.fDiv, MR.fMod, MR.fPow, MR.fLe, MR.fGt, MR.fGe, MR.fIs, MR.fIsN, MR.fNeg, MR.fMin, MR.fMax, MR.fDivmod, MR.fSum, MR.fAll, MR.fRepr, MR.fIsi, MR.tyD, MR.dInt, MR.dBool, MR.dTup, MR.dStr, MR.dLst,
        MR.gDkT, MR.gDkS, MR.gDkNe, MR.gDkPop, MR.sDkApp, MR.sDkPut, MR.gScr, MR.sDeck, MR.gCall, MR.sel, MR.sFor, MR.sForR1, MR.sForR2, MR.sWhile, MR.sForE, MR.sAugP, MR.gRepL, MR.gCatL, MR.gComp, MR.gCompR, MR.startA, MR.wipeA, MR.sNever, MR.gNever, MR.tNev, MR.sAsg2, MR.fMulS_str, MR.fIntS_str, MR.sParO, MR.sForG, MR.gCompG, MR.iSeqG, MR.iR1G, MR.iR2G, MR.iZipG, MR.iEnumG, MR.iEnumLG, MR.iRevG,
        MR.fTru_bl, MR.fTru_non, MR.fTru_int, MR.fTru_str, MR.fTru_lst, MR.fTru_tup, MR.fAdd_int, MR.fAdd_str, MR.fAdd_tup, MR.fAdd_lst, MR.fMul_int, MR.fMul_tup, MR.fMul_lst, MR.fEq_int, MR.fEq_str, MR.fEq_bl, MR.fEq_tup_tup, MR.fEq_tup_lst, MR.fEq_tup_int, MR.fEq_tup_non, MR.fEq_tup_str, MR.fEq_tup_bl, MR.fEq_lst_tup, MR.fEq_lst_lst, MR.fEq_lst_int, MR.fEq_lst_non, MR.fEq_lst_str, MR.fEq_lst_bl, MR.fEq_int_tup, MR.fEq_int_lst, MR.fEq_int_non, MR.fEq_int_str, MR.fEq_int_bl, MR.fEq_non_tup, MR.fEq_non_lst, MR.fEq_non_int, MR.fEq_non_non, MR.fEq_non_str, MR.fEq_non_bl, MR.fEq_str_tup, MR.fEq_str_lst, MR.fEq_str_int, MR.fEq_str_non, MR.fEq_str_bl, MR.fEq_bl_tup, MR.fEq_bl_lst, MR.fEq_bl_int, MR.fEq_bl_non, MR.fEq_bl_str, MR.fNe_int, MR.fNe_str, MR.fNe_bl, MR.fNe_tup_tup, MR.fNe_tup_lst, MR.fNe_tup_int, MR.fNe_tup_non, MR.fNe_tup_str, MR.fNe_tup_bl, MR.fNe_lst_tup, MR.fNe_lst_lst, MR.fNe_lst_int, MR.fNe_lst_non, MR.fNe_lst_str, MR.fNe_lst_bl, MR.fNe_int_tup, MR.fNe_int_lst, MR.fNe_int_non, MR.fNe_int_str, MR.fNe_int_bl, MR.fNe_non_tup, MR.fNe_non_lst, MR.fNe_non_int, MR.fNe_non_non, MR.fNe_non_str, MR.fNe_non_bl, MR.fNe_str_tup, MR.fNe_str_lst, MR.fNe_str_int, MR.fNe_str_non, MR.fNe_str_bl, MR.fNe_bl_tup, MR.fNe_bl_lst, MR.fNe_bl_int, MR.fNe_bl_non, MR.fNe_bl_str, MR.fLt_int, MR.fIx_tup, MR.fSl_tup, MR.fLen_tup, MR.fTuple_tup, MR.fRev_tup, MR.fIx_lst, MR.fSl_lst, MR.fLen_lst, MR.fTuple_lst, MR.fRev_lst, MR.fIx_str, MR.fSl_str, MR.fLen_str, MR.fInt_int, MR.fInt_bl,
        List.map_cons, List.map_nil, List.cons_append, List.nil_append, List.append_nil, List.length_cons, List.length_nil, List.replicate_succ, List.replicate_zero, List.set_cons_zero, List.set_cons_succ, List.getElem?_cons_zero, List.getElem?_cons_succ, List.getD_cons_zero, List.getD_cons_succ, Nat.reduceAdd, Nat.reduceSub, Nat.zero_add, Option.some.injEq, reduceIte, Bool.not_true, Bool.not_false, true_and, and_true, true_implies, false_implies, implies_true, MR.sRaise, MR.sTryAs, MR.sTry, MR.gIsE, PySem.W.kitAny, PySem.Value.ref.injEq, MR.sStar, MR.aSeq, MR.seqD, MR.gStp, List.take_succ_cons, List.take_zero, List.drop_succ_cons, List.drop_zero, MR.sl, MR.aFor_nil, MR.aComp_nil, Int.zero_add, MR.map_int_inj, MR.nil_map_int, MR.cons_map_int, List.map_eq_nil_iff, MR.eqOk_row, MR.eqOk_rowL, MR.eqOk_nil, MR.nil_eq, MR.nil_deq, MR.deq_row, MR.deq_rowL, MR.deq_nilr, MR.deq_nill, MR.deq_nils, MR.rng_zero, MR.isE_map, List.length_map, List.length_append, List.length_reverse,
        Nat.reduceLeDiff, Nat.reduceLT, Int.reduceLE, Int.reduceLT, Int.reducePow, Int.reduceNeg, Int.toNat_zero, Int.reduceToNat, Bool.not_eq_eq_eq_not, Bool.not_eq_true', decide_eq_false_iff_not, decide_eq_true_eq, Bool.false_eq_true, ite_not, ite_false, ite_true, decide_true, decide_false, not_true_eq_false, not_false_eq_true, List.cons.injEq, MR.D.tup.injEq, MR.D.lst.injEq, MR.D.int.injEq, MR.D.str.injEq, MR.D.bl.injEq, MR.D.adr.injEq, MR.Ent.d.injEq, MR.Ent.own.injEq, Option.some.injEq, Prod.mk.injEq, MR.fl_repx, List.length_replicate, exists_eq, exists_eq', and_assoc, exists_and_left, exists_and_right, exists_eq_left, exists_eq_left', exists_eq_right, exists_eq_right', ne_eq, eq_self, and_self, reduceCtorEq, false_and, and_false, or_false, false_or, Int.reduceEq, Int.reduceSub, Int.reduceAdd, Int.reduceMul, Nat.reduceMul, aLimbAt, Int.toNat_natCast, cLow_len, List.length_take]
      refine ⟨by omega, by omega, ⟨by omega, by omega⟩, by omega, ?_⟩
      rw [s2, s3, Int.add_comm (xs.getD i 0 + ys.getD i 0)]
      simp
    · subst e1 e2
      rw [rng_len]
      have e4 : (((max xs.length ys.length : Nat) : Int)).toNat = (psum xs ys).length := by rw [psum_len]; omega
      rw [e4, List.take_length]
      have f := (car01 hb1 0 (psum xs ys) (Int.le_refl 0) (by decide) (psum_le hb1 h1.lim h2.lim)).2
      have sr := sum_row hb1 h1 h2
      have er : cLow b 0 (psum xs ys) ++ List.replicate (cFin b 0 (psum xs ys)).toNat 1 = digs b (wor b xs + wor b ys) := by
        rw [← sr]
        unfold cAll
        by_cases c : cFin b 0 (psum xs ys) = 0
        · rw [c]
          rfl
        · have : cFin b 0 (psum xs ys) = 1 := by omega
          rw [this]
          rfl
      have nt : (cFin b 0 (psum xs ys)).toNat ≤ 1 := by omega
      simp -implicitDefEqProofs only [MR.sNil, MR.sSeq, MR.sDrop, MR.sRet_e, MR.sRet_f, MR.sRetN, MR.sBreak, MR.sCont, MR.sIf, MR.sSet, MR.sOwn, MR.sAsg, MR.sPar, MR.sAug, MR.sFrz, MR.sApp, MR.sPut, MR.sExt, MR.aName, MR.aTup, MR.aNil, MR.aCons, MR.frz,
        MR.gVar, MR.gC, MR.gOp, MR.gB, MR.bK, MR.gTru, MR.gNotT, MR.gAndT, MR.gOrT, MR.gAndV, MR.gOrV, MR.gNotV, MR.gIf, MR.gChain, MR.gNil, MR.gCons, MR.gTup, MR.gLst, MR.gFz, MR.gOwn, MR.gAsL, MR.gNo, MR.gPart, MR.gSl, MR.gSlF, MR.gUn, MR.gIxL, MR.gFn, MR.gLenL, MR.gYes,
        MR.fAddI, MR.fSub, MR.fDiv, MR.fMod, MR.fPow, MR.fLe, MR.fGt, MR.fGe, MR.fIs, MR.fIsN, MR.fNeg, MR.fMin, MR.fMax, MR.fDivmod, MR.fSum, MR.fAll, MR.fRepr, MR.fIsi, MR.tyD, MR.dInt, MR.dBool, MR.dTup, MR.dStr, MR.dLst,
        MR.gDkT, MR.gDkS, MR.gDkNe, MR.gDkPop, MR.sDkApp, MR.sDkPut, MR.gScr, MR.sDeck, MR.gCall, MR.sel, MR.sFor, MR.sForR1, MR.sForR2, MR.sWhile, MR.sForE, MR.sAugP, MR.gRepL, MR.gCatL, MR.gComp, MR.gCompR, MR.startA, MR.wipeA, MR.sNever, MR.gNever, MR.tNev, MR.sAsg2, MR.fMulS_str, MR.fIntS_str, MR.sParO, MR.sForG, MR.gCompG, MR.iSeqG, MR.iR1G, MR.iR2G, MR.iZipG, MR.iEnumG, MR.iEnumLG, MR.iRevG,
        MR.fTru_bl, MR.fTru_non, MR.fTru_int, MR.fTru_str, MR.fTru_lst, MR.fTru_tup, MR.fAdd_int, MR.fAdd_str, MR.fAdd_tup, MR.fAdd_lst, MR.fMul_int, MR.fMul_tup, MR.fMul_lst, MR.fEq_int, MR.fEq_str, MR.fEq_bl, MR.fEq_tup_tup, MR.fEq_tup_lst, MR.fEq_tup_int, MR.fEq_tup_non, MR.fEq_tup_str, MR.fEq_tup_bl, MR.fEq_lst_tup, MR.fEq_lst_lst, MR.fEq_lst_int, MR.fEq_lst_non, MR.fEq_lst_str, MR.fEq_lst_bl, MR.fEq_int_tup, MR.fEq_int_lst, MR.fEq_int_non, MR.fEq_int_str, MR.fEq_int_bl, MR.fEq_non_tup, MR.fEq_non_lst, MR.fEq_non_int, MR.fEq_non_non, MR.fEq_non_str, MR.fEq_non_bl, MR.fEq_str_tup, MR.fEq_str_lst, MR.fEq_str_int, MR.fEq_str_non, MR.fEq_str_bl, MR.fEq_bl_tup, MR.fEq_bl_lst, MR.fEq_bl_int, MR.fEq_bl_non, MR.fEq_bl_str, MR.fNe_int, MR.fNe_str, MR.fNe_bl, MR.fNe_tup_tup, MR.fNe_tup_lst, MR.fNe_tup_int, MR.fNe_tup_non, MR.fNe_tup_str, MR.fNe_tup_bl, MR.fNe_lst_tup, MR.fNe_lst_lst, MR.fNe_lst_int, MR.fNe_lst_non, MR.fNe_lst_str, MR.fNe_lst_bl, MR.fNe_int_tup, MR.fNe_int_lst, MR.fNe_int_non, MR.fNe_int_str, MR.fNe_int_bl, MR.fNe_non_tup, MR.fNe_non_lst, MR.fNe_non_int, MR.fNe_non_non, MR.fNe_non_str, MR.fNe_non_bl, MR.fNe_str_tup, MR.fNe_str_lst, MR.fNe_str_int, MR.fNe_str_non, MR.fNe_str_bl, MR.fNe_bl_tup, MR.fNe_bl_lst, MR.fNe_bl_int, MR.fNe_bl_non, MR.fNe_bl_str, MR.fLt_int, MR.fIx_tup, MR.fSl_tup, MR.fLen_tup, MR.fTuple_tup, MR.fRev_tup, MR.fIx_lst, MR.fSl_lst, MR.fLen_lst, MR.fTuple_lst, MR.fRev_lst, MR.fIx_str, MR.fSl_str, MR.fLen_str, MR.fInt_int, MR.fInt_bl,
        List.map_cons, List.map_nil, List.cons_append, List.nil_append, List.append_nil, List.length_cons, List.length_nil, List.replicate_succ, List.replicate_zero, List.set_cons_zero, List.set_cons_succ, List.getElem?_cons_zero, List.getElem?_cons_succ, List.getD_cons_zero, List.getD_cons_succ, Nat.reduceAdd, Nat.reduceSub, Nat.zero_add, Option.some.injEq, reduceIte, Bool.not_true, Bool.not_false, true_and, and_true, true_implies, false_implies, implies_true, MR.sRaise, MR.sTryAs, MR.sTry, MR.gIsE, PySem.W.kitAny, PySem.Value.ref.injEq, MR.sStar, MR.aSeq, MR.seqD, MR.gStp, List.take_succ_cons, List.take_zero, List.drop_succ_cons, List.drop_zero, MR.sl, MR.aFor_nil, MR.aComp_nil, Int.zero_add, MR.map_int_inj, MR.nil_map_int, MR.cons_map_int, List.map_eq_nil_iff, MR.eqOk_row, MR.eqOk_rowL, MR.eqOk_nil, MR.nil_eq, MR.nil_deq, MR.deq_row, MR.deq_rowL, MR.deq_nilr, MR.deq_nill, MR.deq_nils, MR.rng_zero, MR.isE_map, List.length_map, List.length_append, List.length_reverse,
        Nat.reduceLeDiff, Nat.reduceLT, Int.reduceLE, Int.reduceLT, Int.reducePow, Int.reduceNeg, Int.toNat_zero, Int.reduceToNat, Bool.not_eq_eq_eq_not, Bool.not_eq_true', decide_eq_false_iff_not, decide_eq_true_eq, Bool.false_eq_true, ite_not, ite_false, ite_true, decide_true, decide_false, not_true_eq_false, not_false_eq_true, List.cons.injEq, MR.D.tup.injEq, MR.D.lst.injEq, MR.D.int.injEq, MR.D.str.injEq, MR.D.bl.injEq, MR.D.adr.injEq, MR.Ent.d.injEq, MR.Ent.own.injEq, Option.some.injEq, Prod.mk.injEq, MR.fl_repx, List.length_replicate, exists_eq, exists_eq', and_assoc, exists_and_left, exists_and_right, exists_eq_left, exists_eq_left', exists_eq_right, exists_eq_right', ne_eq, eq_self, and_self, reduceCtorEq, false_and, and_false, or_false, false_or, Int.reduceEq, Int.reduceSub, Int.reduceAdd, Int.reduceMul, Nat.reduceMul, cLow_len, psum_len, Nat.one_mul]
      refine ⟨by omega, by omega, by omega, by omega, ?_⟩
      rw [← er] at q
      simpa [row] using q
  refine ⟨fd, ⟨t.g_summed, F.kp, ok⟩, ?_, ?_, ?_⟩
  · refine bnd_of F 2 ["base"] [] [0, 1, 2] [] (by simp) rfl ?_
    intro kV doc pm an cdv ct D us mv ws h1 h2 h3 h4
    match us, mv, ws, h1, h2, h3 with
    | [u0, u1], [], [v0], _, _, _ => exact rfl
  · refine bnd_of F 0 ["other", "base", "one"] [] [2, 0, 1] [] (by simp) rfl ?_
    intro kV doc pm an cdv ct D us mv ws h1 h2 h3 h4
    match us, mv, ws, h1, h2, h3 with
    | [], [], [v0, v1, v2], _, _, _ => exact rfl
  · refine bnd_of F 2 [] [("base", .int 10)] [0, 1, 2] [.int 10] (by simp) rfl ?_
    intro kV doc pm an cdv ct D us mv ws h1 h2 h3 h4
    match us, mv, ws, h1, h2, h3 with
    | [u0, u1], [m0], [], _, _, _ =>
      obtain rfl := h4 (by simp)
      exact ⟨_, _, _, _, _, _, rfl, rfl, rfl⟩
theorem add_lt {b : Int} (hb : 2 ≤ b) {xs ys : List Int} (h1 : limbs b xs) (h2 : limbs b ys) : 0 ≤ wor b xs + wor b ys ∧ wor b xs + wor b ys < b ^ (max xs.length ys.length + 1) := by
  have u1 := wor_lt (by omega : (1:Int) ≤ b) h1
  have u2 := wor_lt (by omega : (1:Int) ≤ b) h2
  have z1 := wor_nn (by omega : (0:Int) ≤ b) h1
  have z2 := wor_nn (by omega : (0:Int) ≤ b) h2
  have p1 : b ^ xs.length ≤ b ^ max xs.length ys.length := ipow_le (by omega) (Nat.le_max_left ..)
  have p2 : b ^ ys.length ≤ b ^ max xs.length ys.length := ipow_le (by omega) (Nat.le_max_right ..)
  have pp : (0:Int) < b ^ max xs.length ys.length := Int.pow_pos (by omega)
  have := Int.mul_le_mul_of_nonneg_left hb (Int.le_of_lt pp)
  rw [Int.pow_succ]
  omega

def aSR : ASp DWd := fun ds ω Q _ => ∃ xs ys b, ds = [row xs, row ys, .int b] ∧ base_ b ∧ isRow b xs ∧ isRow b ys ∧ xs.length ≤ 300 ∧ ys.length ≤ 300 ∧ Q (.bl true) ω

theorem kn__law_right (t : T K mg) : ∃ fd, Known PR w K mg base 5 "_law_right" (He.ga K "_law_right") fd ["_law_mine", "_law_theirs", "_law_to"] DWd 3 aSR ∧ Bnd K fd ["_law_mine", "_law_theirs", "_law_to"] 3 [] [0, 1, 2] [] := by
  obtain ⟨fd, F⟩ := t.f__law_right
  obtain ⟨fd__law_worth, k__law_worth, b__law_worth_0⟩ := kn__law_worth (w := w) (base := base) t
  obtain ⟨fd__law_row_of, k__law_row_of, b__law_row_of_0⟩ := kn__law_row_of (w := w) (base := base) t
  obtain ⟨fd__law_differs_right, k__law_differs_right, b__law_differs_right_0⟩ := kn__law_differs_right (w := w) (base := base) t
  obtain ⟨fd_is_less, k_is_less, b_is_less_0, b_is_less_1⟩ := kn_is_less (w := w) (base := base) t
  obtain ⟨fd_summed, k_summed, b_summed_0, b_summed_1, b_summed_2⟩ := kn_summed (w := w) (base := base) t
  have ok : FnG PR w K mg base (L2.CX PR w) 5 (He.ga K "_law_right") fd ["_law_mine", "_law_theirs", "_law_to"] (toSp DWd K 3 aSR) := by
    refine fn_ok (N := n__law_right) DWd aSR F S__law_right fun cdv A outer s H E hr hG => ?_
    have S := S__law_right
    refine ⟨_, (gss_cons (gs_par 3 4 rfl S.nd (ge_call1 k__law_worth (Room.mono hr (by decide)) hG tk_cx b__law_worth_0 (fun B => .nil) (ga_cons (ge_var 0) (ga_cons (ge_var 2) ga_nil))) (ge_call1 k__law_worth (Room.mono hr (by decide)) hG tk_cx b__law_worth_0 (fun B => .nil) (ga_cons (ge_var 1) (ga_cons (ge_var 2) ga_nil))))
      (gss_cons (gs_set 5 S.nd (ge_fn (call_repr hG (un100 hr)) c_repr t.z_repr (ga_cons (ge_call1 k__law_row_of (Room.mono hr (by decide)) hG tk_cx b__law_row_of_0 (fun B => .nil) (ga_cons (ge_add (ge_var 3) (ge_var 4)) (ga_cons (ge_var 2) ga_nil))) ga_nil)))
      (gss_cons (gs_if (GW.gt (gw_or (gt_cmp (m_ne (un64 hr)) op2_ne (nomark _) (ge_fn (call_repr hG (un100 hr)) c_repr t.z_repr (ga_cons (ge_call1 k_is_less (Room.mono hr (by decide)) hG tk_cx b_is_less_0 (fun B => .nil) (ga_cons (ge_var 0) (ga_cons (ge_var 1) ga_nil))) ga_nil)) (ge_fn (call_repr hG (un100 hr)) c_repr t.z_repr (ga_cons (ge_cmp (m_lt (un0 hr)) op2_lt (nomark _) (ge_var 3) (ge_var 4)) ga_nil))) (gw_or1 (gt_cmp (m_ne (un64 hr)) op2_ne (nomark _) (ge_fn (call_repr hG (un100 hr)) c_repr t.z_repr (ga_cons (ge_call3 k_is_less (Room.mono hr (by decide)) hG tk_cx b_is_less_1 (fun B => .nil) (gk_cons (ge_var 0) (gk_cons (ge_var 1) gk_nil))) ga_nil)) (ge_fn (call_repr hG (un100 hr)) c_repr t.z_repr (ga_cons (ge_cmp (m_lt (un0 hr)) op2_lt (nomark _) (ge_var 4) (ge_var 3)) ga_nil))))))
      (gss_one (gs_ret ge_bl))
      gss_nil)
      (gss_cons (gs_if (GW.gt (gw_or (gt_cmp (m_ne (un64 hr)) op2_ne (nomark _) (ge_fn (call_repr hG (un100 hr)) c_repr t.z_repr (ga_cons (ge_call2 k_summed (Room.mono hr (by decide)) hG tk_cx b_summed_0 (fun B => .nil) (ga_cons (ge_var 0) (ga_cons (ge_var 1) ga_nil)) (gk_cons (ge_var 2) gk_nil)) ga_nil)) (ge_var 5)) (gw_or1 (gt_cmp (m_ne (un64 hr)) op2_ne (nomark _) (ge_fn (call_repr hG (un100 hr)) c_repr t.z_repr (ga_cons (ge_call3 k_summed (Room.mono hr (by decide)) hG tk_cx b_summed_1 (fun B => .nil) (gk_cons (ge_var 0) (gk_cons (ge_var 2) (gk_cons (ge_var 1) gk_nil)))) ga_nil)) (ge_var 5)))))
      (gss_one (gs_ret ge_bl))
      gss_nil)
      (gss_cons (gs_if (GW.gt (gw_and (gt_cmp (m_eq (un64 hr)) op2_eq (nomark _) (ge_var 2) ge_int) (gw_and1 (gt_cmp (m_ne (un64 hr)) op2_ne (nomark _) (ge_fn (call_repr hG (un100 hr)) c_repr t.z_repr (ga_cons (ge_call1 k_summed (Room.mono hr (by decide)) hG tk_cx b_summed_2 (fun B => (.cons (.int _) .nil)) (ga_cons (ge_var 0) (ga_cons (ge_var 1) ga_nil))) ga_nil)) (ge_var 5)))))
      (gss_one (gs_ret ge_bl))
      gss_nil)
      (gss_one (gs_ret (ge_and (ge_call1 k__law_differs_right (Room.mono hr (by decide)) hG tk_cx b__law_differs_right_0 (fun B => .nil) (ga_cons (ge_var 0) (ga_cons (ge_var 1) (ga_cons (ge_var 2) ga_nil)))) (ge_one (ge_call1 k__law_differs_right (Room.mono hr (by decide)) hG tk_cx b__law_differs_right_0 (fun B => .nil) (ga_cons (ge_var 1) (ga_cons (ge_var 0) (ga_cons (ge_var 2) ga_nil))))))))))))), ?_⟩
    clear S hr hG F t k__law_worth b__law_worth_0 k__law_row_of b__law_row_of_0 k__law_differs_right b__law_differs_right_0 k_is_less b_is_less_0 b_is_less_1 k_summed b_summed_0 b_summed_1 b_summed_2
    rintro ds ω Qa Ea ⟨xs, ys, b, rfl, hb, h1, h2, l1, l2, q⟩ _
    have hb1 := hb.1
    have hb2 := hb.2
    have m1 : xs.length ≤ 50000 := by omega
    have m2 : ys.length ≤ 50000 := by omega
    have m3 : xs.length ≤ 20000 := by omega
    have m4 : ys.length ≤ 20000 := by omega
    have a := add_lt hb1 h1.lim h2.lim
    have dd := digs_ok hb1 a.1 a.2
    have ok := rok_row dd.1.lim hb2 (by omega)
    have ek : ∃ k, wor b xs + wor b ys < b ^ k ∧ k ≤ 50000 := ⟨_, a.2, by omega⟩
    have cm : wor b ys + wor b xs = wor b xs + wor b ys := Int.add_comm _ _
    show sSeq _ _ _ _ _
    refine seq_opq fun N hN => ?_
    simp -implicitDefEqProofs only [MR.sNil, MR.sSeq, MR.sDrop, MR.sRet_e, MR.sRet_f, MR.sRetN, MR.sBreak, MR.sCont, MR.sIf, MR.sSet, MR.sOwn, MR.sAsg, MR.sPar, MR.sAug, MR.sFrz, MR.sApp, MR.sPut, MR.sExt, MR.aName, MR.aTup, MR.aNil, MR.aCons, MR.frz,
        MR.gVar, MR.gC, MR.gOp, MR.gB, MR.bK, MR.gTru, MR.gNotT, MR.gAndT, MR.gOrT, MR.gAndV, MR.gOrV, MR.gNotV, MR.gIf, MR.gChain, MR.gNil, MR.gCons, MR.gTup, MR.gLst, MR.gFz, MR.gOwn, MR.gAsL, MR.gNo, MR.gPart, MR.gSl, MR.gSlF, MR.gUn, MR.gIxL, MR.gFn, MR.gLenL, MR.gYes,
        MR.fAddI, MR.fSub, MR.fDiv, MR.fMod, MR.fPow, MR.fLe, MR.fGt, MR.fGe, MR.fIs, MR.fIsN, MR.fNeg, MR.fMin, MR.fMax, MR.fDivmod, MR.fSum, MR.fAll, MR.fRepr, MR.fIsi, MR.tyD, MR.dInt, MR.dBool, MR.dTup, MR.dStr, MR.dLst,
        MR.gDkT, MR.gDkS, MR.gDkNe, MR.gDkPop, MR.sDkApp, MR.sDkPut, MR.gScr, MR.sDeck, MR.gCall, MR.sel, MR.sFor, MR.sForR1, MR.sForR2, MR.sWhile, MR.sForE, MR.sAugP, MR.gRepL, MR.gCatL, MR.gComp, MR.gCompR, MR.startA, MR.wipeA, MR.sNever, MR.gNever, MR.tNev, MR.sAsg2, MR.fMulS_str, MR.fIntS_str, MR.sParO, MR.sForG, MR.gCompG, MR.iSeqG, MR.iR1G, MR.iR2G, MR.iZipG, MR.iEnumG, MR.iEnumLG, MR.iRevG,
        MR.fTru_bl, MR.fTru_non, MR.fTru_int, MR.fTru_str, MR.fTru_lst, MR.fTru_tup, MR.fAdd_int, MR.fAdd_str, MR.fAdd_tup, MR.fAdd_lst, MR.fMul_int, MR.fMul_tup, MR.fMul_lst, MR.fEq_int, MR.fEq_str, MR.fEq_bl, MR.fEq_tup_tup, MR.fEq_tup_lst, MR.fEq_tup_int, MR.fEq_tup_non, MR.fEq_tup_str, MR.fEq_tup_bl, MR.fEq_lst_tup, MR.fEq_lst_lst, MR.fEq_lst_int, MR.fEq_lst_non, MR.fEq_lst_str, MR.fEq_lst_bl, MR.fEq_int_tup, MR.fEq_int_lst, MR.fEq_int_non, MR.fEq_int_str, MR.fEq_int_bl, MR.fEq_non_tup, MR.fEq_non_lst, MR.fEq_non_int, MR.fEq_non_non, MR.fEq_non_str, MR.fEq_non_bl, MR.fEq_str_tup, MR.fEq_str_lst, MR.fEq_str_int, MR.fEq_str_non, MR.fEq_str_bl, MR.fEq_bl_tup, MR.fEq_bl_lst, MR.fEq_bl_int, MR.fEq_bl_non, MR.fEq_bl_str, MR.fNe_int, MR.fNe_str, MR.fNe_bl, MR.fNe_tup_tup, MR.fNe_tup_lst, MR.fNe_tup_int, MR.fNe_tup_non, MR.fNe_tup_str, MR.fNe_tup_bl, MR.fNe_lst_tup, MR.fNe_lst_lst, MR.fNe_lst_int, MR.fNe_lst_non, MR.fNe_lst_str, MR.fNe_lst_bl, MR.fNe_int_tup, MR.fNe_int_lst, MR.fNe_int_non, MR.fNe_int_str, MR.fNe_int_bl, MR.fNe_non_tup, MR.fNe_non_lst, MR.fNe_non_int, MR.fNe_non_non, MR.fNe_non_str, MR.fNe_non_bl, MR.fNe_str_tup, MR.fNe_str_lst, MR.fNe_str_int, MR.fNe_str_non, MR.fNe_str_bl, MR.fNe_bl_tup, MR.fNe_bl_lst, MR.fNe_bl_int, MR.fNe_bl_non, MR.fNe_bl_str, MR.fLt_int, MR.fIx_tup, MR.fSl_tup, MR.fLen_tup, MR.fTuple_tup, MR.fRev_tup, MR.fIx_lst, MR.fSl_lst, MR.fLen_lst, MR.fTuple_lst, MR.fRev_lst, MR.fIx_str, MR.fSl_str, MR.fLen_str, MR.fInt_int, MR.fInt_bl,
        List.map_cons, List.map_nil, List.cons_append, List.nil_append, List.append_nil, List.length_cons, List.length_nil, List.replicate_succ, List.replicate_zero, List.set_cons_zero, List.set_cons_succ, List.getElem?_cons_zero, List.getElem?_cons_succ, List.getD_cons_zero, List.getD_cons_succ, Nat.reduceAdd, Nat.reduceSub, Nat.zero_add, Option.some.injEq, reduceIte, Bool.not_true, Bool.not_false, true_and, and_true, true_implies, false_implies, implies_true, MR.sRaise, MR.sTryAs, MR.sTry, MR.gIsE, PySem.W.kitAny, PySem.Value.ref.injEq, MR.sStar, MR.aSeq, MR.seqD, MR.gStp, List.take_succ_cons, List.take_zero, List.drop_succ_cons, List.drop_zero, MR.sl, MR.aFor_nil, MR.aComp_nil, Int.zero_add, MR.map_int_inj, MR.nil_map_int, MR.cons_map_int, List.map_eq_nil_iff, MR.eqOk_row, MR.eqOk_rowL, MR.eqOk_nil, MR.nil_eq, MR.nil_deq, MR.deq_row, MR.deq_rowL, MR.deq_nilr, MR.deq_nill, MR.deq_nils, MR.rng_zero, MR.isE_map, List.length_map, List.length_append, List.length_reverse,
        Nat.reduceLeDiff, Nat.reduceLT, Int.reduceLE, Int.reduceLT, Int.reducePow, Int.reduceNeg, Int.toNat_zero, Int.reduceToNat, Bool.not_eq_eq_eq_not, Bool.not_eq_true', decide_eq_false_iff_not, decide_eq_true_eq, Bool.false_eq_true, ite_not, ite_false, ite_true, decide_true, decide_false, not_true_eq_false, not_false_eq_true, List.cons.injEq, MR.D.tup.injEq, MR.D.lst.injEq, MR.D.int.injEq, MR.D.str.injEq, MR.D.bl.injEq, MR.D.adr.injEq, MR.Ent.d.injEq, MR.Ent.own.injEq, Option.some.injEq, Prod.mk.injEq, MR.fl_repx, List.length_replicate, exists_eq, exists_eq', and_assoc, exists_and_left, exists_and_right, exists_eq_left, exists_eq_left', exists_eq_right, exists_eq_right', ne_eq, eq_self, and_self, reduceCtorEq, false_and, and_false, or_false, false_or, Int.reduceEq, Int.reduceSub, Int.reduceAdd, Int.reduceMul, Nat.reduceMul, aWorth, hb, h1.lim, h2.lim, m1, m2]
    show N _ _
    rw [hN]
    clear hN
    show sSeq _ _ _ _ _
    refine seq_opq fun N hN => ?_
    simp -implicitDefEqProofs only [MR.sNil, MR.sSeq, MR.sDrop, MR.sRet_e, MR.sRet_f, MR.sRetN, MR.sBreak, MR.sCont, MR.sIf, MR.sSet, MR.sOwn, MR.sAsg, MR.sPar, MR.sAug, MR.sFrz, MR.sApp, MR.sPut, MR.sExt, MR.aName, MR.aTup, MR.aNil, MR.aCons, MR.frz,
        MR.gVar, MR.gC, MR.gOp, MR.gB, MR.bK, MR.gTru, MR.gNotT, MR.gAndT, MR.gOrT, MR.gAndV, MR.gOrV, MR.gNotV, MR.gIf, MR.gChain, MR.gNil, MR.gCons, MR.gTup, MR.gLst, MR.gFz, MR.gOwn, MR.gAsL, MR.gNo, MR.gPart, MR.gSl, MR.gSlF, MR.gUn, MR.gIxL, MR.gFn, MR.gLenL, MR.gYes,
        MR.fAddI, MR.fSub, MR.fDiv, MR.fMod, MR.fPow, MR.fLe, MR.fGt, MR.fGe, MR.fIs, MR.fIsN, MR.fNeg, MR.fMin, MR.fMax, MR.fDivmod, MR.fSum, MR.fAll, MR.fRepr, MR.fIsi, MR.tyD, MR.dInt, MR.dBool, MR.dTup, MR.dStr, MR.dLst,
        MR.gDkT, MR.gDkS, MR.gDkNe, MR.gDkPop, MR.sDkApp, MR.sDkPut, MR.gScr, MR.sDeck, MR.gCall, MR.sel, MR.sFor, MR.sForR1, MR.sForR2, MR.sWhile, MR.sForE, MR.sAugP, MR.gRepL, MR.gCatL, MR.gComp, MR.gCompR, MR.startA, MR.wipeA, MR.sNever, MR.gNever, MR.tNev, MR.sAsg2, MR.fMulS_str, MR.fIntS_str, MR.sParO, MR.sForG, MR.gCompG, MR.iSeqG, MR.iR1G, MR.iR2G, MR.iZipG, MR.iEnumG, MR.iEnumLG, MR.iRevG,
        MR.fTru_bl, MR.fTru_non, MR.fTru_int, MR.fTru_str, MR.fTru_lst, MR.fTru_tup, MR.fAdd_int, MR.fAdd_str, MR.fAdd_tup, MR.fAdd_lst, MR.fMul_int, MR.fMul_tup, MR.fMul_lst, MR.fEq_int, MR.fEq_str, MR.fEq_bl, MR.fEq_tup_tup, MR.fEq_tup_lst, MR.fEq_tup_int, MR.fEq_tup_non, MR.fEq_tup_str, MR.fEq_tup_bl, MR.fEq_lst_tup, MR.fEq_lst_lst, MR.fEq_lst_int, MR.fEq_lst_non, MR.fEq_lst_str, MR.fEq_lst_bl, MR.fEq_int_tup, MR.fEq_int_lst, MR.fEq_int_non, MR.fEq_int_str, MR.fEq_int_bl, MR.fEq_non_tup, MR.fEq_non_lst, MR.fEq_non_int, MR.fEq_non_non, MR.fEq_non_str, MR.fEq_non_bl, MR.fEq_str_tup, MR.fEq_str_lst, MR.fEq_str_int, MR.fEq_str_non, MR.fEq_str_bl, MR.fEq_bl_tup, MR.fEq_bl_lst, MR.fEq_bl_int, MR.fEq_bl_non, MR.fEq_bl_str, MR.fNe_int, MR.fNe_str, MR.fNe_bl, MR.fNe_tup_tup, MR.fNe_tup_lst, MR.fNe_tup_int, MR.fNe_tup_non, MR.fNe_tup_str, MR.fNe_tup_bl, MR.fNe_lst_tup, MR.fNe_lst_lst, MR.fNe_lst_int, MR.fNe_lst_non, MR.fNe_lst_str, MR.fNe_lst_bl, MR.fNe_int_tup, MR.fNe_int_lst, MR.fNe_int_non, MR.fNe_int_str, MR.fNe_int_bl, MR.fNe_non_tup, MR.fNe_non_lst, MR.fNe_non_int, MR.fNe_non_non, MR.fNe_non_str, MR.fNe_non_bl, MR.fNe_str_tup, MR.fNe_str_lst, MR.fNe_str_int, MR.fNe_str_non, MR.fNe_str_bl, MR.fNe_bl_tup, MR.fNe_bl_lst, MR.fNe_bl_int, MR.fNe_bl_non, MR.fNe_bl_str, MR.fLt_int, MR.fIx_tup, MR.fSl_tup, MR.fLen_tup, MR.fTuple_tup, MR.fRev_tup, MR.fIx_lst, MR.fSl_lst, MR.fLen_lst, MR.fTuple_lst, MR.fRev_lst, MR.fIx_str, MR.fSl_str, MR.fLen_str, MR.fInt_int, MR.fInt_bl,
        List.map_cons, List.map_nil, List.cons_append, List.nil_append, List.append_nil, List.length_cons, List.length_nil, List.replicate_succ, List.replicate_zero, List.set_cons_zero, List.set_cons_succ, List.getElem?_cons_zero, List.getElem?_cons_succ, List.getD_cons_zero, List.getD_cons_succ, Nat.reduceAdd, Nat.reduceSub, Nat.zero_add, Option.some.injEq, reduceIte, Bool.not_true, Bool.not_false, true_and, and_true, true_implies, false_implies, implies_true, MR.sRaise, MR.sTryAs, MR.sTry, MR.gIsE, PySem.W.kitAny, PySem.Value.ref.injEq, MR.sStar, MR.aSeq, MR.seqD, MR.gStp, List.take_succ_cons, List.take_zero, List.drop_succ_cons, List.drop_zero, MR.sl, MR.aFor_nil, MR.aComp_nil, Int.zero_add, MR.map_int_inj, MR.nil_map_int, MR.cons_map_int, List.map_eq_nil_iff, MR.eqOk_row, MR.eqOk_rowL, MR.eqOk_nil, MR.nil_eq, MR.nil_deq, MR.deq_row, MR.deq_rowL, MR.deq_nilr, MR.deq_nill, MR.deq_nils, MR.rng_zero, MR.isE_map, List.length_map, List.length_append, List.length_reverse,
        Nat.reduceLeDiff, Nat.reduceLT, Int.reduceLE, Int.reduceLT, Int.reducePow, Int.reduceNeg, Int.toNat_zero, Int.reduceToNat, Bool.not_eq_eq_eq_not, Bool.not_eq_true', decide_eq_false_iff_not, decide_eq_true_eq, Bool.false_eq_true, ite_not, ite_false, ite_true, decide_true, decide_false, not_true_eq_false, not_false_eq_true, List.cons.injEq, MR.D.tup.injEq, MR.D.lst.injEq, MR.D.int.injEq, MR.D.str.injEq, MR.D.bl.injEq, MR.D.adr.injEq, MR.Ent.d.injEq, MR.Ent.own.injEq, Option.some.injEq, Prod.mk.injEq, MR.fl_repx, List.length_replicate, exists_eq, exists_eq', and_assoc, exists_and_left, exists_and_right, exists_eq_left, exists_eq_left', exists_eq_right, exists_eq_right', ne_eq, eq_self, and_self, reduceCtorEq, false_and, and_false, or_false, false_or, Int.reduceEq, Int.reduceSub, Int.reduceAdd, Int.reduceMul, Nat.reduceMul, aRowOf, hb, ek, ok]
    have i1 : ∀ (us vs : List Int) ω (Q : AQ DWd) E, isRow b us → isRow b vs → Q (.bl (decide (wor b us < wor b vs))) ω → aIsLess [row us, row vs] ω Q E := fun us vs ω Q E u1 u2 h => ⟨us, vs, b, rfl, hb1, u1, u2, h⟩
    show N _ _
    rw [hN]
    clear hN
    show sSeq _ _ _ _ _
    refine seq_opq fun N hN => ?_
    simp -implicitDefEqProofs only [MR.sNil, MR.sSeq, MR.sDrop, MR.sRet_e, MR.sRet_f, MR.sRetN, MR.sBreak, MR.sCont, MR.sIf, MR.sSet, MR.sOwn, MR.sAsg, MR.sPar, MR.sAug, MR.sFrz, MR.sApp, MR.sPut, MR.sExt, MR.aName, MR.aTup, MR.aNil, MR.aCons, MR.frz,
        MR.gVar, MR.gC, MR.gOp, MR.gB, MR.bK, MR.gTru, MR.gNotT, MR.gAndT, MR.gOrT, MR.gAndV, MR.gOrV, MR.gNotV, MR.gIf, MR.gChain, MR.gNil, MR.gCons, MR.gTup, MR.gLst, MR.gFz, MR.gOwn, MR.gAsL, MR.gNo, MR.gPart, MR.gSl, MR.gSlF, MR.gUn, MR.gIxL, MR.gFn, MR.gLenL, MR.gYes,
        MR.fAddI, MR.fSub, MR.fDiv, MR.fMod, MR.fPow, MR.fLe, MR.fGt, MR.fGe, MR.fIs, MR.fIsN, MR.fNeg, MR.fMin, MR.fMax, MR.fDivmod, MR.fSum, MR.fAll, MR.fRepr, MR.fIsi, MR.tyD, MR.dInt, MR.dBool, MR.dTup, MR.dStr, MR.dLst,
        MR.gDkT, MR.gDkS, MR.gDkNe, MR.gDkPop, MR.sDkApp, MR.sDkPut, MR.gScr, MR.sDeck, MR.gCall, MR.sel, MR.sFor, MR.sForR1, MR.sForR2, MR.sWhile, MR.sForE, MR.sAugP, MR.gRepL, MR.gCatL, MR.gComp, MR.gCompR, MR.startA, MR.wipeA, MR.sNever, MR.gNever, MR.tNev, MR.sAsg2, MR.fMulS_str, MR.fIntS_str, MR.sParO, MR.sForG, MR.gCompG, MR.iSeqG, MR.iR1G, MR.iR2G, MR.iZipG, MR.iEnumG, MR.iEnumLG, MR.iRevG,
        MR.fTru_bl, MR.fTru_non, MR.fTru_int, MR.fTru_str, MR.fTru_lst, MR.fTru_tup, MR.fAdd_int, MR.fAdd_str, MR.fAdd_tup, MR.fAdd_lst, MR.fMul_int, MR.fMul_tup, MR.fMul_lst, MR.fEq_int, MR.fEq_str, MR.fEq_bl, MR.fEq_tup_tup, MR.fEq_tup_lst, MR.fEq_tup_int, MR.fEq_tup_non, MR.fEq_tup_str, MR.fEq_tup_bl, MR.fEq_lst_tup, MR.fEq_lst_lst, MR.fEq_lst_int, MR.fEq_lst_non, MR.fEq_lst_str, MR.fEq_lst_bl, MR.fEq_int_tup, MR.fEq_int_lst, MR.fEq_int_non, MR.fEq_int_str, MR.fEq_int_bl, MR.fEq_non_tup, MR.fEq_non_lst, MR.fEq_non_int, MR.fEq_non_non, MR.fEq_non_str, MR.fEq_non_bl, MR.fEq_str_tup, MR.fEq_str_lst, MR.fEq_str_int, MR.fEq_str_non, MR.fEq_str_bl, MR.fEq_bl_tup, MR.fEq_bl_lst, MR.fEq_bl_int, MR.fEq_bl_non, MR.fEq_bl_str, MR.fNe_int, MR.fNe_str, MR.fNe_bl, MR.fNe_tup_tup, MR.fNe_tup_lst, MR.fNe_tup_int, MR.fNe_tup_non, MR.fNe_tup_str, MR.fNe_tup_bl, MR.fNe_lst_tup, MR.fNe_lst_lst, MR.fNe_lst_int, MR.fNe_lst_non, MR.fNe_lst_str, MR.fNe_lst_bl, MR.fNe_int_tup, MR.fNe_int_lst, MR.fNe_int_non, MR.fNe_int_str, MR.fNe_int_bl, MR.fNe_non_tup, MR.fNe_non_lst, MR.fNe_non_int, MR.fNe_non_non, MR.fNe_non_str, MR.fNe_non_bl, MR.fNe_str_tup, MR.fNe_str_lst, MR.fNe_str_int, MR.fNe_str_non, MR.fNe_str_bl, MR.fNe_bl_tup, MR.fNe_bl_lst, MR.fNe_bl_int, MR.fNe_bl_non, MR.fNe_bl_str, MR.fLt_int, MR.fIx_tup, MR.fSl_tup, MR.fLen_tup, MR.fTuple_tup, MR.fRev_tup, MR.fIx_lst, MR.fSl_lst, MR.fLen_lst, MR.fTuple_lst, MR.fRev_lst, MR.fIx_str, MR.fSl_str, MR.fLen_str, MR.fInt_int, MR.fInt_bl,
        List.map_cons, List.map_nil, List.cons_append, List.nil_append, List.append_nil, List.length_cons, List.length_nil, List.replicate_succ, List.replicate_zero, List.set_cons_zero, List.set_cons_succ, List.getElem?_cons_zero, List.getElem?_cons_succ, List.getD_cons_zero, List.getD_cons_succ, Nat.reduceAdd, Nat.reduceSub, Nat.zero_add, Option.some.injEq, reduceIte, Bool.not_true, Bool.not_false, true_and, and_true, true_implies, false_implies, implies_true, MR.sRaise, MR.sTryAs, MR.sTry, MR.gIsE, PySem.W.kitAny, PySem.Value.ref.injEq, MR.sStar, MR.aSeq, MR.seqD, MR.gStp, List.take_succ_cons, List.take_zero, List.drop_succ_cons, List.drop_zero, MR.sl, MR.aFor_nil, MR.aComp_nil, Int.zero_add, MR.map_int_inj, MR.nil_map_int, MR.cons_map_int, List.map_eq_nil_iff, MR.eqOk_row, MR.eqOk_rowL, MR.eqOk_nil, MR.nil_eq, MR.nil_deq, MR.deq_row, MR.deq_rowL, MR.deq_nilr, MR.deq_nill, MR.deq_nils, MR.rng_zero, MR.isE_map, List.length_map, List.length_append, List.length_reverse,
        Nat.reduceLeDiff, Nat.reduceLT, Int.reduceLE, Int.reduceLT, Int.reducePow, Int.reduceNeg, Int.toNat_zero, Int.reduceToNat, Bool.not_eq_eq_eq_not, Bool.not_eq_true', decide_eq_false_iff_not, decide_eq_true_eq, Bool.false_eq_true, ite_not, ite_false, ite_true, decide_true, decide_false, not_true_eq_false, not_false_eq_true, List.cons.injEq, MR.D.tup.injEq, MR.D.lst.injEq, MR.D.int.injEq, MR.D.str.injEq, MR.D.bl.injEq, MR.D.adr.injEq, MR.Ent.d.injEq, MR.Ent.own.injEq, Option.some.injEq, Prod.mk.injEq, MR.fl_repx, List.length_replicate, exists_eq, exists_eq', and_assoc, exists_and_left, exists_and_right, exists_eq_left, exists_eq_left', exists_eq_right, exists_eq_right', ne_eq, eq_self, and_self, reduceCtorEq, false_and, and_false, or_false, false_or, Int.reduceEq, Int.reduceSub, Int.reduceAdd, Int.reduceMul, Nat.reduceMul, rok_bl]
    refine i1 _ _ _ _ _ h1 h2 ?_
    simp -implicitDefEqProofs only [MR.sNil, MR.sSeq, MR.sDrop, MR.sRet_e, MR.sRet_f, MR.sRetN, MR.sBreak, MR.sCont, MR.sIf, MR.sSet, MR.sOwn, MR.sAsg, MR.sPar, MR.sAug, MR.sFrz, MR.sApp, MR.sPut, MR.sExt, MR.aName, MR.aTup, MR.aNil, MR.aCons, MR.frz,
        MR.gVar, MR.gC, MR.gOp, MR.gB, MR.bK, MR.gTru, MR.gNotT, MR.gAndT, MR.gOrT, MR.gAndV, MR.gOrV, MR.gNotV, MR.gIf, MR.gChain, MR.gNil, MR.gCons, MR.gTup, MR.gLst, MR.gFz, MR.gOwn, MR.gAsL, MR.gNo, MR.gPart, MR.gSl, MR.gSlF, MR.gUn, MR.gIxL, MR.gFn, MR.gLenL, MR.gYes,
        MR.fAddI, MR.fSub, MR.fDiv, MR.fMod, MR.fPow, MR.fLe, MR.fGt, MR.fGe, MR.fIs, MR.fIsN, MR.fNeg, MR.fMin, MR.fMax, MR.fDivmod, MR.fSum, MR.fAll, MR.fRepr, MR.fIsi, MR.tyD, MR.dInt, MR.dBool, MR.dTup, MR.dStr, MR.dLst,
        MR.gDkT, MR.gDkS, MR.gDkNe, MR.gDkPop, MR.sDkApp, MR.sDkPut, MR.gScr, MR.sDeck, MR.gCall, MR.sel, MR.sFor, MR.sForR1, MR.sForR2, MR.sWhile, MR.sForE, MR.sAugP, MR.gRepL, MR.gCatL, MR.gComp, MR.gCompR, MR.startA, MR.wipeA, MR.sNever, MR.gNever, MR.tNev, MR.sAsg2, MR.fMulS_str, MR.fIntS_str, MR.sParO, MR.sForG, MR.gCompG, MR.iSeqG, MR.iR1G, MR.iR2G, MR.iZipG, MR.iEnumG, MR.iEnumLG, MR.iRevG,
        MR.fTru_bl, MR.fTru_non, MR.fTru_int, MR.fTru_str, MR.fTru_lst, MR.fTru_tup, MR.fAdd_int, MR.fAdd_str, MR.fAdd_tup, MR.fAdd_lst, MR.fMul_int, MR.fMul_tup, MR.fMul_lst, MR.fEq_int, MR.fEq_str, MR.fEq_bl, MR.fEq_tup_tup, MR.fEq_tup_lst, MR.fEq_tup_int, MR.fEq_tup_non, MR.fEq_tup_str, MR.fEq_tup_bl, MR.fEq_lst_tup, MR.fEq_lst_lst, MR.fEq_lst_int, MR.fEq_lst_non, MR.fEq_lst_str, MR.fEq_lst_bl, MR.fEq_int_tup, MR.fEq_int_lst, MR.fEq_int_non, MR.fEq_int_str, MR.fEq_int_bl, MR.fEq_non_tup, MR.fEq_non_lst, MR.fEq_non_int, MR.fEq_non_non, MR.fEq_non_str, MR.fEq_non_bl, MR.fEq_str_tup, MR.fEq_str_lst, MR.fEq_str_int, MR.fEq_str_non, MR.fEq_str_bl, MR.fEq_bl_tup, MR.fEq_bl_lst, MR.fEq_bl_int, MR.fEq_bl_non, MR.fEq_bl_str, MR.fNe_int, MR.fNe_str, MR.fNe_bl, MR.fNe_tup_tup, MR.fNe_tup_lst, MR.fNe_tup_int, MR.fNe_tup_non, MR.fNe_tup_str, MR.fNe_tup_bl, MR.fNe_lst_tup, MR.fNe_lst_lst, MR.fNe_lst_int, MR.fNe_lst_non, MR.fNe_lst_str, MR.fNe_lst_bl, MR.fNe_int_tup, MR.fNe_int_lst, MR.fNe_int_non, MR.fNe_int_str, MR.fNe_int_bl, MR.fNe_non_tup, MR.fNe_non_lst, MR.fNe_non_int, MR.fNe_non_non, MR.fNe_non_str, MR.fNe_non_bl, MR.fNe_str_tup, MR.fNe_str_lst, MR.fNe_str_int, MR.fNe_str_non, MR.fNe_str_bl, MR.fNe_bl_tup, MR.fNe_bl_lst, MR.fNe_bl_int, MR.fNe_bl_non, MR.fNe_bl_str, MR.fLt_int, MR.fIx_tup, MR.fSl_tup, MR.fLen_tup, MR.fTuple_tup, MR.fRev_tup, MR.fIx_lst, MR.fSl_lst, MR.fLen_lst, MR.fTuple_lst, MR.fRev_lst, MR.fIx_str, MR.fSl_str, MR.fLen_str, MR.fInt_int, MR.fInt_bl,
        List.map_cons, List.map_nil, List.cons_append, List.nil_append, List.append_nil, List.length_cons, List.length_nil, List.replicate_succ, List.replicate_zero, List.set_cons_zero, List.set_cons_succ, List.getElem?_cons_zero, List.getElem?_cons_succ, List.getD_cons_zero, List.getD_cons_succ, Nat.reduceAdd, Nat.reduceSub, Nat.zero_add, Option.some.injEq, reduceIte, Bool.not_true, Bool.not_false, true_and, and_true, true_implies, false_implies, implies_true, MR.sRaise, MR.sTryAs, MR.sTry, MR.gIsE, PySem.W.kitAny, PySem.Value.ref.injEq, MR.sStar, MR.aSeq, MR.seqD, MR.gStp, List.take_succ_cons, List.take_zero, List.drop_succ_cons, List.drop_zero, MR.sl, MR.aFor_nil, MR.aComp_nil, Int.zero_add, MR.map_int_inj, MR.nil_map_int, MR.cons_map_int, List.map_eq_nil_iff, MR.eqOk_row, MR.eqOk_rowL, MR.eqOk_nil, MR.nil_eq, MR.nil_deq, MR.deq_row, MR.deq_rowL, MR.deq_nilr, MR.deq_nill, MR.deq_nils, MR.rng_zero, MR.isE_map, List.length_map, List.length_append, List.length_reverse,
        Nat.reduceLeDiff, Nat.reduceLT, Int.reduceLE, Int.reduceLT, Int.reducePow, Int.reduceNeg, Int.toNat_zero, Int.reduceToNat, Bool.not_eq_eq_eq_not, Bool.not_eq_true', decide_eq_false_iff_not, decide_eq_true_eq, Bool.false_eq_true, ite_not, ite_false, ite_true, decide_true, decide_false, not_true_eq_false, not_false_eq_true, List.cons.injEq, MR.D.tup.injEq, MR.D.lst.injEq, MR.D.int.injEq, MR.D.str.injEq, MR.D.bl.injEq, MR.D.adr.injEq, MR.Ent.d.injEq, MR.Ent.own.injEq, Option.some.injEq, Prod.mk.injEq, MR.fl_repx, List.length_replicate, exists_eq, exists_eq', and_assoc, exists_and_left, exists_and_right, exists_eq_left, exists_eq_left', exists_eq_right, exists_eq_right', ne_eq, eq_self, and_self, reduceCtorEq, false_and, and_false, or_false, false_or, Int.reduceEq, Int.reduceSub, Int.reduceAdd, Int.reduceMul, Nat.reduceMul, rok_bl]
    refine i1 _ _ _ _ _ h2 h1 ?_
    simp -implicitDefEqProofs only [MR.sNil, MR.sSeq, MR.sDrop, MR.sRet_e, MR.sRet_f, MR.sRetN, MR.sBreak, MR.sCont, MR.sIf, MR.sSet, MR.sOwn, MR.sAsg, MR.sPar, MR.sAug, MR.sFrz, MR.sApp, MR.sPut, MR.sExt, MR.aName, MR.aTup, MR.aNil, MR.aCons, MR.frz,
        MR.gVar, MR.gC, MR.gOp, MR.gB, MR.bK, MR.gTru, MR.gNotT, MR.gAndT, MR.gOrT, MR.gAndV, MR.gOrV, MR.gNotV, MR.gIf, MR.gChain, MR.gNil, MR.gCons, MR.gTup, MR.gLst, MR.gFz, MR.gOwn, MR.gAsL, MR.gNo, MR.gPart, MR.gSl, MR.gSlF, MR.gUn, MR.gIxL, MR.gFn, MR.gLenL, MR.gYes,
        MR.fAddI, MR.fSub, MR.fDiv, MR.fMod, MR.fPow, MR.fLe, MR.fGt, MR.fGe, MR.fIs, MR.fIsN, MR.fNeg, MR.fMin, MR.fMax, MR.fDivmod, MR.fSum, MR.fAll, MR.fRepr, MR.fIsi, MR.tyD, MR.dInt, MR.dBool, MR.dTup, MR.dStr, MR.dLst,
        MR.gDkT, MR.gDkS, MR.gDkNe, MR.gDkPop, MR.sDkApp, MR.sDkPut, MR.gScr, MR.sDeck, MR.gCall, MR.sel, MR.sFor, MR.sForR1, MR.sForR2, MR.sWhile, MR.sForE, MR.sAugP, MR.gRepL, MR.gCatL, MR.gComp, MR.gCompR, MR.startA, MR.wipeA, MR.sNever, MR.gNever, MR.tNev, MR.sAsg2, MR.fMulS_str, MR.fIntS_str, MR.sParO, MR.sForG, MR.gCompG, MR.iSeqG, MR.iR1G, MR.iR2G, MR.iZipG, MR.iEnumG, MR.iEnumLG, MR.iRevG,
        MR.fTru_bl, MR.fTru_non, MR.fTru_int, MR.fTru_str, MR.fTru_lst, MR.fTru_tup, MR.fAdd_int, MR.fAdd_str, MR.fAdd_tup, MR.fAdd_lst, MR.fMul_int, MR.fMul_tup, MR.fMul_lst, MR.fEq_int, MR.fEq_str, MR.fEq_bl, MR.fEq_tup_tup, MR.fEq_tup_lst, MR.fEq_tup_int, MR.fEq_tup_non, MR.fEq_tup_str, MR.fEq_tup_bl, MR.fEq_lst_tup, MR.fEq_lst_lst, MR.fEq_lst_int, MR.fEq_lst_non, MR.fEq_lst_str, MR.fEq_lst_bl, MR.fEq_int_tup, MR.fEq_int_lst, MR.fEq_int_non, MR.fEq_int_str, MR.fEq_int_bl, MR.fEq_non_tup, MR.fEq_non_lst, MR.fEq_non_int, MR.fEq_non_non, MR.fEq_non_str, MR.fEq_non_bl, MR.fEq_str_tup, MR.fEq_str_lst, MR.fEq_str_int, MR.fEq_str_non, MR.fEq_str_bl, MR.fEq_bl_tup, MR.fEq_bl_lst, MR.fEq_bl_int, MR.fEq_bl_non, MR.fEq_bl_str, MR.fNe_int, MR.fNe_str, MR.fNe_bl, MR.fNe_tup_tup, MR.fNe_tup_lst, MR.fNe_tup_int, MR.fNe_tup_non, MR.fNe_tup_str, MR.fNe_tup_bl, MR.fNe_lst_tup, MR.fNe_lst_lst, MR.fNe_lst_int, MR.fNe_lst_non, MR.fNe_lst_str, MR.fNe_lst_bl, MR.fNe_int_tup, MR.fNe_int_lst, MR.fNe_int_non, MR.fNe_int_str, MR.fNe_int_bl, MR.fNe_non_tup, MR.fNe_non_lst, MR.fNe_non_int, MR.fNe_non_non, MR.fNe_non_str, MR.fNe_non_bl, MR.fNe_str_tup, MR.fNe_str_lst, MR.fNe_str_int, MR.fNe_str_non, MR.fNe_str_bl, MR.fNe_bl_tup, MR.fNe_bl_lst, MR.fNe_bl_int, MR.fNe_bl_non, MR.fNe_bl_str, MR.fLt_int, MR.fIx_tup, MR.fSl_tup, MR.fLen_tup, MR.fTuple_tup, MR.fRev_tup, MR.fIx_lst, MR.fSl_lst, MR.fLen_lst, MR.fTuple_lst, MR.fRev_lst, MR.fIx_str, MR.fSl_str, MR.fLen_str, MR.fInt_int, MR.fInt_bl,
        List.map_cons, List.map_nil, List.cons_append, List.nil_append, List.append_nil, List.length_cons, List.length_nil, List.replicate_succ, List.replicate_zero, List.set_cons_zero, List.set_cons_succ, List.getElem?_cons_zero, List.getElem?_cons_succ, List.getD_cons_zero, List.getD_cons_succ, Nat.reduceAdd, Nat.reduceSub, Nat.zero_add, Option.some.injEq, reduceIte, Bool.not_true, Bool.not_false, true_and, and_true, true_implies, false_implies, implies_true, MR.sRaise, MR.sTryAs, MR.sTry, MR.gIsE, PySem.W.kitAny, PySem.Value.ref.injEq, MR.sStar, MR.aSeq, MR.seqD, MR.gStp, List.take_succ_cons, List.take_zero, List.drop_succ_cons, List.drop_zero, MR.sl, MR.aFor_nil, MR.aComp_nil, Int.zero_add, MR.map_int_inj, MR.nil_map_int, MR.cons_map_int, List.map_eq_nil_iff, MR.eqOk_row, MR.eqOk_rowL, MR.eqOk_nil, MR.nil_eq, MR.nil_deq, MR.deq_row, MR.deq_rowL, MR.deq_nilr, MR.deq_nill, MR.deq_nils, MR.rng_zero, MR.isE_map, List.length_map, List.length_append, List.length_reverse,
        Nat.reduceLeDiff, Nat.reduceLT, Int.reduceLE, Int.reduceLT, Int.reducePow, Int.reduceNeg, Int.toNat_zero, Int.reduceToNat, Bool.not_eq_eq_eq_not, Bool.not_eq_true', decide_eq_false_iff_not, decide_eq_true_eq, Bool.false_eq_true, ite_not, ite_false, ite_true, decide_true, decide_false, not_true_eq_false, not_false_eq_true, List.cons.injEq, MR.D.tup.injEq, MR.D.lst.injEq, MR.D.int.injEq, MR.D.str.injEq, MR.D.bl.injEq, MR.D.adr.injEq, MR.Ent.d.injEq, MR.Ent.own.injEq, Option.some.injEq, Prod.mk.injEq, MR.fl_repx, List.length_replicate, exists_eq, exists_eq', and_assoc, exists_and_left, exists_and_right, exists_eq_left, exists_eq_left', exists_eq_right, exists_eq_right', ne_eq, eq_self, and_self, reduceCtorEq, false_and, and_false, or_false, false_or, Int.reduceEq, Int.reduceSub, Int.reduceAdd, Int.reduceMul, Nat.reduceMul, rok_bl]
    show N _ _
    rw [hN]
    clear hN
    show sSeq _ _ _ _ _
    refine seq_opq fun N hN => ?_
    simp -implicitDefEqProofs only [MR.sNil, MR.sSeq, MR.sDrop, MR.sRet_e, MR.sRet_f, MR.sRetN, MR.sBreak, MR.sCont, MR.sIf, MR.sSet, MR.sOwn, MR.sAsg, MR.sPar, MR.sAug, MR.sFrz, MR.sApp, MR.sPut, MR.sExt, MR.aName, MR.aTup, MR.aNil, MR.aCons, MR.frz,
        MR.gVar, MR.gC, MR.gOp, MR.gB, MR.bK, MR.gTru, MR.gNotT, MR.gAndT, MR.gOrT, MR.gAndV, MR.gOrV, MR.gNotV, MR.gIf, MR.gChain, MR.gNil, MR.gCons, MR.gTup, MR.gLst, MR.gFz, MR.gOwn, MR.gAsL, MR.gNo, MR.gPart, MR.gSl, MR.gSlF, MR.gUn, MR.gIxL, MR.gFn, MR.gLenL, MR.gYes,
        MR.fAddI, MR.fSub, MR.fDiv, MR.fMod, MR.fPow, MR.fLe, MR.fGt, MR.fGe, MR.fIs, MR.fIsN, MR.fNeg, MR.fMin, MR.fMax, MR.fDivmod, MR.fSum, MR.fAll, MR.fRepr, MR.fIsi, MR.tyD, MR.dInt, MR.dBool, MR.dTup, MR.dStr, MR.dLst,
        MR.gDkT, MR.gDkS, MR.gDkNe, MR.gDkPop, MR.sDkApp, MR.sDkPut, MR.gScr, MR.sDeck, MR.gCall, MR.sel, MR.sFor, MR.sForR1, MR.sForR2, MR.sWhile, MR.sForE, MR.sAugP, MR.gRepL, MR.gCatL, MR.gComp, MR.gCompR, MR.startA, MR.wipeA, MR.sNever, MR.gNever, MR.tNev, MR.sAsg2, MR.fMulS_str, MR.fIntS_str, MR.sParO, MR.sForG, MR.gCompG, MR.iSeqG, MR.iR1G, MR.iR2G, MR.iZipG, MR.iEnumG, MR.iEnumLG, MR.iRevG,
        MR.fTru_bl, MR.fTru_non, MR.fTru_int, MR.fTru_str, MR.fTru_lst, MR.fTru_tup, MR.fAdd_int, MR.fAdd_str, MR.fAdd_tup, MR.fAdd_lst, MR.fMul_int, MR.fMul_tup, MR.fMul_lst, MR.fEq_int, MR.fEq_str, MR.fEq_bl, MR.fEq_tup_tup, MR.fEq_tup_lst, MR.fEq_tup_int, MR.fEq_tup_non, MR.fEq_tup_str, MR.fEq_tup_bl, MR.fEq_lst_tup, MR.fEq_lst_lst, MR.fEq_lst_int, MR.fEq_lst_non, MR.fEq_lst_str, MR.fEq_lst_bl, MR.fEq_int_tup, MR.fEq_int_lst, MR.fEq_int_non, MR.fEq_int_str, MR.fEq_int_bl, MR.fEq_non_tup, MR.fEq_non_lst, MR.fEq_non_int, MR.fEq_non_non, MR.fEq_non_str, MR.fEq_non_bl, MR.fEq_str_tup, MR.fEq_str_lst, MR.fEq_str_int, MR.fEq_str_non, MR.fEq_str_bl, MR.fEq_bl_tup, MR.fEq_bl_lst, MR.fEq_bl_int, MR.fEq_bl_non, MR.fEq_bl_str, MR.fNe_int, MR.fNe_str, MR.fNe_bl, MR.fNe_tup_tup, MR.fNe_tup_lst, MR.fNe_tup_int, MR.fNe_tup_non, MR.fNe_tup_str, MR.fNe_tup_bl, MR.fNe_lst_tup, MR.fNe_lst_lst, MR.fNe_lst_int, MR.fNe_lst_non, MR.fNe_lst_str, MR.fNe_lst_bl, MR.fNe_int_tup, MR.fNe_int_lst, MR.fNe_int_non, MR.fNe_int_str, MR.fNe_int_bl, MR.fNe_non_tup, MR.fNe_non_lst, MR.fNe_non_int, MR.fNe_non_non, MR.fNe_non_str, MR.fNe_non_bl, MR.fNe_str_tup, MR.fNe_str_lst, MR.fNe_str_int, MR.fNe_str_non, MR.fNe_str_bl, MR.fNe_bl_tup, MR.fNe_bl_lst, MR.fNe_bl_int, MR.fNe_bl_non, MR.fNe_bl_str, MR.fLt_int, MR.fIx_tup, MR.fSl_tup, MR.fLen_tup, MR.fTuple_tup, MR.fRev_tup, MR.fIx_lst, MR.fSl_lst, MR.fLen_lst, MR.fTuple_lst, MR.fRev_lst, MR.fIx_str, MR.fSl_str, MR.fLen_str, MR.fInt_int, MR.fInt_bl,
        List.map_cons, List.map_nil, List.cons_append, List.nil_append, List.append_nil, List.length_cons, List.length_nil, List.replicate_succ, List.replicate_zero, List.set_cons_zero, List.set_cons_succ, List.getElem?_cons_zero, List.getElem?_cons_succ, List.getD_cons_zero, List.getD_cons_succ, Nat.reduceAdd, Nat.reduceSub, Nat.zero_add, Option.some.injEq, reduceIte, Bool.not_true, Bool.not_false, true_and, and_true, true_implies, false_implies, implies_true, MR.sRaise, MR.sTryAs, MR.sTry, MR.gIsE, PySem.W.kitAny, PySem.Value.ref.injEq, MR.sStar, MR.aSeq, MR.seqD, MR.gStp, List.take_succ_cons, List.take_zero, List.drop_succ_cons, List.drop_zero, MR.sl, MR.aFor_nil, MR.aComp_nil, Int.zero_add, MR.map_int_inj, MR.nil_map_int, MR.cons_map_int, List.map_eq_nil_iff, MR.eqOk_row, MR.eqOk_rowL, MR.eqOk_nil, MR.nil_eq, MR.nil_deq, MR.deq_row, MR.deq_rowL, MR.deq_nilr, MR.deq_nill, MR.deq_nils, MR.rng_zero, MR.isE_map, List.length_map, List.length_append, List.length_reverse,
        Nat.reduceLeDiff, Nat.reduceLT, Int.reduceLE, Int.reduceLT, Int.reducePow, Int.reduceNeg, Int.toNat_zero, Int.reduceToNat, Bool.not_eq_eq_eq_not, Bool.not_eq_true', decide_eq_false_iff_not, decide_eq_true_eq, Bool.false_eq_true, ite_not, ite_false, ite_true, decide_true, decide_false, not_true_eq_false, not_false_eq_true, List.cons.injEq, MR.D.tup.injEq, MR.D.lst.injEq, MR.D.int.injEq, MR.D.str.injEq, MR.D.bl.injEq, MR.D.adr.injEq, MR.Ent.d.injEq, MR.Ent.own.injEq, Option.some.injEq, Prod.mk.injEq, MR.fl_repx, List.length_replicate, exists_eq, exists_eq', and_assoc, exists_and_left, exists_and_right, exists_eq_left, exists_eq_left', exists_eq_right, exists_eq_right', ne_eq, eq_self, and_self, reduceCtorEq, false_and, and_false, or_false, false_or, Int.reduceEq, Int.reduceSub, Int.reduceAdd, Int.reduceMul, Nat.reduceMul, aSummed, hb, h1, h2, m3, m4, ok, cm]
    by_cases c10 : b = 10
    · subst c10
      show N _ _
      rw [hN]
      clear hN
      show sSeq _ _ _ _ _
      refine seq_opq fun N hN => ?_
      simp -implicitDefEqProofs only [MR.sNil, MR.sSeq, MR.sDrop, MR.sRet_e, MR.sRet_f, MR.sRetN, MR.sBreak, MR.sCont, MR.sIf, MR.sSet, MR.sOwn, MR.sAsg, MR.sPar, MR.sAug, MR.sFrz, MR.sApp, MR.sPut, MR.sExt, MR.aName, MR.aTup, MR.aNil, MR.aCons, MR.frz,
        MR.gVar, MR.gC, MR.gOp, MR.gB, MR.bK, MR.gTru, MR.gNotT, MR.gAndT, MR.gOrT, MR.gAndV, MR.gOrV, MR.gNotV, MR.gIf, MR.gChain, MR.gNil, MR.gCons, MR.gTup, MR.gLst, MR.gFz, MR.gOwn, MR.gAsL, MR.gNo, MR.gPart, MR.gSl, MR.gSlF, MR.gUn, MR.gIxL, MR.gFn, MR.gLenL, MR.gYes,
        MR.fAddI, MR.fSub, MR.fDiv, MR.fMod, MR.fPow, MR.fLe, MR.fGt, MR.fGe, MR.fIs, MR.fIsN, MR.fNeg, MR.fMin, MR.fMax, MR.fDivmod, MR.fSum, MR.fAll, MR.fRepr, MR.fIsi, MR.tyD, MR.dInt, MR.dBool, MR.dTup, MR.dStr, MR.dLst,
        MR.gDkT, MR.gDkS, MR.gDkNe, MR.gDkPop, MR.sDkApp, MR.sDkPut, MR.gScr, MR.sDeck, MR.gCall, MR.sel, MR.sFor, MR.sForR1, MR.sForR2, MR.sWhile, MR.sForE, MR.sAugP, MR.gRepL, MR.gCatL, MR.gComp, MR.gCompR, MR.startA, MR.wipeA, MR.sNever, MR.gNever, MR.tNev, MR.sAsg2, MR.fMulS_str, MR.fIntS_str, MR.sParO, MR.sForG, MR.gCompG, MR.iSeqG, MR.iR1G, MR.iR2G, MR.iZipG, MR.iEnumG, MR.iEnumLG, MR.iRevG,
        MR.fTru_bl, MR.fTru_non, MR.fTru_int, MR.fTru_str, MR.fTru_lst, MR.fTru_tup, MR.fAdd_int, MR.fAdd_str, MR.fAdd_tup, MR.fAdd_lst, MR.fMul_int, MR.fMul_tup, MR.fMul_lst, MR.fEq_int, MR.fEq_str, MR.fEq_bl, MR.fEq_tup_tup, MR.fEq_tup_lst, MR.fEq_tup_int, MR.fEq_tup_non, MR.fEq_tup_str, MR.fEq_tup_bl, MR.fEq_lst_tup, MR.fEq_lst_lst, MR.fEq_lst_int, MR.fEq_lst_non, MR.fEq_lst_str, MR.fEq_lst_bl, MR.fEq_int_tup, MR.fEq_int_lst, MR.fEq_int_non, MR.fEq_int_str, MR.fEq_int_bl, MR.fEq_non_tup, MR.fEq_non_lst, MR.fEq_non_int, MR.fEq_non_non, MR.fEq_non_str, MR.fEq_non_bl, MR.fEq_str_tup, MR.fEq_str_lst, MR.fEq_str_int, MR.fEq_str_non, MR.fEq_str_bl, MR.fEq_bl_tup, MR.fEq_bl_lst, MR.fEq_bl_int, MR.fEq_bl_non, MR.fEq_bl_str, MR.fNe_int, MR.fNe_str, MR.fNe_bl, MR.fNe_tup_tup, MR.fNe_tup_lst, MR.fNe_tup_int, MR.fNe_tup_non, MR.fNe_tup_str, MR.fNe_tup_bl, MR.fNe_lst_tup, MR.fNe_lst_lst, MR.fNe_lst_int, MR.fNe_lst_non, MR.fNe_lst_str, MR.fNe_lst_bl, MR.fNe_int_tup, MR.fNe_int_lst, MR.fNe_int_non, MR.fNe_int_str, MR.fNe_int_bl, MR.fNe_non_tup, MR.fNe_non_lst, MR.fNe_non_int, MR.fNe_non_non, MR.fNe_non_str, MR.fNe_non_bl, MR.fNe_str_tup, MR.fNe_str_lst, MR.fNe_str_int, MR.fNe_str_non, MR.fNe_str_bl, MR.fNe_bl_tup, MR.fNe_bl_lst, MR.fNe_bl_int, MR.fNe_bl_non, MR.fNe_bl_str, MR.fLt_int, MR.fIx_tup, MR.fSl_tup, MR.fLen_tup, MR.fTuple_tup, MR.fRev_tup, MR.fIx_lst, MR.fSl_lst, MR.fLen_lst, MR.fTuple_lst, MR.fRev_lst, MR.fIx_str, MR.fSl_str, MR.fLen_str, MR.fInt_int, MR.fInt_bl,
        List.map_cons, List.map_nil, List.cons_append, List.nil_append, List.append_nil, List.length_cons, List.length_nil, List.replicate_succ, List.replicate_zero, List.set_cons_zero, List.set_cons_succ, List.getElem?_cons_zero, List.getElem?_cons_succ, List.getD_cons_zero, List.getD_cons_succ, Nat.reduceAdd, Nat.reduceSub, Nat.zero_add, Option.some.injEq, reduceIte, Bool.not_true, Bool.not_false, true_and, and_true, true_implies, false_implies, implies_true, MR.sRaise, MR.sTryAs, MR.sTry, MR.gIsE, PySem.W.kitAny, PySem.Value.ref.injEq, MR.sStar, MR.aSeq, MR.seqD, MR.gStp, List.take_succ_cons, List.take_zero, List.drop_succ_cons, List.drop_zero, MR.sl, MR.aFor_nil, MR.aComp_nil, Int.zero_add, MR.map_int_inj, MR.nil_map_int, MR.cons_map_int, List.map_eq_nil_iff, MR.eqOk_row, MR.eqOk_rowL, MR.eqOk_nil, MR.nil_eq, MR.nil_deq, MR.deq_row, MR.deq_rowL, MR.deq_nilr, MR.deq_nill, MR.deq_nils, MR.rng_zero, MR.isE_map, List.length_map, List.length_append, List.length_reverse,
        Nat.reduceLeDiff, Nat.reduceLT, Int.reduceLE, Int.reduceLT, Int.reducePow, Int.reduceNeg, Int.toNat_zero, Int.reduceToNat, Bool.not_eq_eq_eq_not, Bool.not_eq_true', decide_eq_false_iff_not, decide_eq_true_eq, Bool.false_eq_true, ite_not, ite_false, ite_true, decide_true, decide_false, not_true_eq_false, not_false_eq_true, List.cons.injEq, MR.D.tup.injEq, MR.D.lst.injEq, MR.D.int.injEq, MR.D.str.injEq, MR.D.bl.injEq, MR.D.adr.injEq, MR.Ent.d.injEq, MR.Ent.own.injEq, Option.some.injEq, Prod.mk.injEq, MR.fl_repx, List.length_replicate, exists_eq, exists_eq', and_assoc, exists_and_left, exists_and_right, exists_eq_left, exists_eq_left', exists_eq_right, exists_eq_right', ne_eq, eq_self, and_self, reduceCtorEq, false_and, and_false, or_false, false_or, Int.reduceEq, Int.reduceSub, Int.reduceAdd, Int.reduceMul, Nat.reduceMul, aSummed, hb, h1, h2, m3, m4, ok]
      show N _ _
      rw [hN]
      clear hN
      simp -implicitDefEqProofs only [MR.sNil, MR.sSeq, MR.sDrop, MR.sRet_e, MR.sRet_f, MR.sRetN, MR.sBreak, MR.sCont, MR.sIf, MR.sSet, MR.sOwn, MR.sAsg, MR.sPar, MR.sAug, MR.sFrz, MR.sApp, MR.sPut, MR.sExt, MR.aName, MR.aTup, MR.aNil, MR.aCons, MR.frz,
        MR.gVar, MR.gC, MR.gOp, MR.gB, MR.bK, MR.gTru, MR.gNotT, MR.gAndT, MR.gOrT, MR.gAndV, MR.gOrV, MR.gNotV, MR.gIf, MR.gChain, MR.gNil, MR.gCons, MR.gTup, MR.gLst, MR.gFz, MR.gOwn, MR.gAsL, MR.gNo, MR.gPart, MR.gSl, MR.gSlF, MR.gUn, MR.gIxL, MR.gFn, MR.gLenL, MR.gYes,
        MR.fAddI, MR.fSub, MR.fDiv, MR.fMod, MR.fPow, MR.fLe, MR.fGt, MR.fGe, MR.fIs, MR.fIsN, MR.fNeg, MR.fMin, MR.fMax, MR.fDivmod, MR.fSum, MR.fAll, MR.fRepr, MR.fIsi, MR.tyD, MR.dInt, MR.dBool, MR.dTup, MR.dStr, MR.dLst,
        MR.gDkT, MR.gDkS, MR.gDkNe, MR.gDkPop, MR.sDkApp, MR.sDkPut, MR.gScr, MR.sDeck, MR.gCall, MR.sel, MR.sFor, MR.sForR1, MR.sForR2, MR.sWhile, MR.sForE, MR.sAugP, MR.gRepL, MR.gCatL, MR.gComp, MR.gCompR, MR.startA, MR.wipeA, MR.sNever, MR.gNever, MR.tNev, MR.sAsg2, MR.fMulS_str, MR.fIntS_str, MR.sParO, MR.sForG, MR.gCompG, MR.iSeqG, MR.iR1G, MR.iR2G, MR.iZipG, MR.iEnumG, MR.iEnumLG, MR.iRevG,
        MR.fTru_bl, MR.fTru_non, MR.fTru_int, MR.fTru_str, MR.fTru_lst, MR.fTru_tup, MR.fAdd_int, MR.fAdd_str, MR.fAdd_tup, MR.fAdd_lst, MR.fMul_int, MR.fMul_tup, MR.fMul_lst, MR.fEq_int, MR.fEq_str, MR.fEq_bl, MR.fEq_tup_tup, MR.fEq_tup_lst, MR.fEq_tup_int, MR.fEq_tup_non, MR.fEq_tup_str, MR.fEq_tup_bl, MR.fEq_lst_tup, MR.fEq_lst_lst, MR.fEq_lst_int, MR.fEq_lst_non, MR.fEq_lst_str, MR.fEq_lst_bl, MR.fEq_int_tup, MR.fEq_int_lst, MR.fEq_int_non, MR.fEq_int_str, MR.fEq_int_bl, MR.fEq_non_tup, MR.fEq_non_lst, MR.fEq_non_int, MR.fEq_non_non, MR.fEq_non_str, MR.fEq_non_bl, MR.fEq_str_tup, MR.fEq_str_lst, MR.fEq_str_int, MR.fEq_str_non, MR.fEq_str_bl, MR.fEq_bl_tup, MR.fEq_bl_lst, MR.fEq_bl_int, MR.fEq_bl_non, MR.fEq_bl_str, MR.fNe_int, MR.fNe_str, MR.fNe_bl, MR.fNe_tup_tup, MR.fNe_tup_lst, MR.fNe_tup_int, MR.fNe_tup_non, MR.fNe_tup_str, MR.fNe_tup_bl, MR.fNe_lst_tup, MR.fNe_lst_lst, MR.fNe_lst_int, MR.fNe_lst_non, MR.fNe_lst_str, MR.fNe_lst_bl, MR.fNe_int_tup, MR.fNe_int_lst, MR.fNe_int_non, MR.fNe_int_str, MR.fNe_int_bl, MR.fNe_non_tup, MR.fNe_non_lst, MR.fNe_non_int, MR.fNe_non_non, MR.fNe_non_str, MR.fNe_non_bl, MR.fNe_str_tup, MR.fNe_str_lst, MR.fNe_str_int, MR.fNe_str_non, MR.fNe_str_bl, MR.fNe_bl_tup, MR.fNe_bl_lst, MR.fNe_bl_int, MR.fNe_bl_non, MR.fNe_bl_str, MR.fLt_int, MR.fIx_tup, MR.fSl_tup, MR.fLen_tup, MR.fTuple_tup, MR.fRev_tup, MR.fIx_lst, MR.fSl_lst, MR.fLen_lst, MR.fTuple_lst, MR.fRev_lst, MR.fIx_str, MR.fSl_str, MR.fLen_str, MR.fInt_int, MR.fInt_bl,
        List.map_cons, List.map_nil, List.cons_append, List.nil_append, List.append_nil, List.length_cons, List.length_nil, List.replicate_succ, List.replicate_zero, List.set_cons_zero, List.set_cons_succ, List.getElem?_cons_zero, List.getElem?_cons_succ, List.getD_cons_zero, List.getD_cons_succ, Nat.reduceAdd, Nat.reduceSub, Nat.zero_add, Option.some.injEq, reduceIte, Bool.not_true, Bool.not_false, true_and, and_true, true_implies, false_implies, implies_true, MR.sRaise, MR.sTryAs, MR.sTry, MR.gIsE, PySem.W.kitAny, PySem.Value.ref.injEq, MR.sStar, MR.aSeq, MR.seqD, MR.gStp, List.take_succ_cons, List.take_zero, List.drop_succ_cons, List.drop_zero, MR.sl, MR.aFor_nil, MR.aComp_nil, Int.zero_add, MR.map_int_inj, MR.nil_map_int, MR.cons_map_int, List.map_eq_nil_iff, MR.eqOk_row, MR.eqOk_rowL, MR.eqOk_nil, MR.nil_eq, MR.nil_deq, MR.deq_row, MR.deq_rowL, MR.deq_nilr, MR.deq_nill, MR.deq_nils, MR.rng_zero, MR.isE_map, List.length_map, List.length_append, List.length_reverse,
        Nat.reduceLeDiff, Nat.reduceLT, Int.reduceLE, Int.reduceLT, Int.reducePow, Int.reduceNeg, Int.toNat_zero, Int.reduceToNat, Bool.not_eq_eq_eq_not, Bool.not_eq_true', decide_eq_false_iff_not, decide_eq_true_eq, Bool.false_eq_true, ite_not, ite_false, ite_true, decide_true, decide_false, not_true_eq_false, not_false_eq_true, List.cons.injEq, MR.D.tup.injEq, MR.D.lst.injEq, MR.D.int.injEq, MR.D.str.injEq, MR.D.bl.injEq, MR.D.adr.injEq, MR.Ent.d.injEq, MR.Ent.own.injEq, Option.some.injEq, Prod.mk.injEq, MR.fl_repx, List.length_replicate, exists_eq, exists_eq', and_assoc, exists_and_left, exists_and_right, exists_eq_left, exists_eq_left', exists_eq_right, exists_eq_right', ne_eq, eq_self, and_self, reduceCtorEq, false_and, and_false, or_false, false_or, Int.reduceEq, Int.reduceSub, Int.reduceAdd, Int.reduceMul, Nat.reduceMul, aDR, hb, h1, h2, l1, l2]
      exact q
    · show N _ _
      rw [hN]
      clear hN
      show sSeq _ _ _ _ _
      refine seq_opq fun N hN => ?_
      simp -implicitDefEqProofs only [MR.sNil, MR.sSeq, MR.sDrop, MR.sRet_e, MR.sRet_f, MR.sRetN, MR.sBreak, MR.sCont, MR.sIf, MR.sSet, MR.sOwn, MR.sAsg, MR.sPar, MR.sAug, MR.sFrz, MR.sApp, MR.sPut, MR.sExt, MR.aName, MR.aTup, MR.aNil, MR.aCons, MR.frz,
        MR.gVar, MR.gC, MR.gOp, MR.gB, MR.bK, MR.gTru, MR.gNotT, MR.gAndT, MR.gOrT, MR.gAndV, MR.gOrV, MR.gNotV, MR.gIf, MR.gChain, MR.gNil, MR.gCons, MR.gTup, MR.gLst, MR.gFz, MR.gOwn, MR.gAsL, MR.gNo, MR.gPart, MR.gSl, MR.gSlF, MR.gUn, MR.gIxL, MR.gFn, MR.gLenL, MR.gYes,
        MR.fAddI, MR.fSub, MR.fDiv, MR.fMod, MR.fPow, MR.fLe, MR.fGt, MR.fGe, MR.fIs, MR.fIsN, MR.fNeg, MR.fMin, MR.fMax, MR.fDivmod, MR.fSum, MR.fAll, MR.fRepr, MR.fIsi, MR.tyD, MR.dInt, MR.dBool, MR.dTup, MR.dStr, MR.dLst,
        MR.gDkT, MR.gDkS, MR.gDkNe, MR.gDkPop, MR.sDkApp, MR.sDkPut, MR.gScr, MR.sDeck, MR.gCall, MR.sel, MR.sFor, MR.sForR1, MR.sForR2, MR.sWhile, MR.sForE, MR.sAugP, MR.gRepL, MR.gCatL, MR.gComp, MR.gCompR, MR.startA, MR.wipeA, MR.sNever, MR.gNever, MR.tNev, MR.sAsg2, MR.fMulS_str, MR.fIntS_str, MR.sParO, MR.sForG, MR.gCompG, MR.iSeqG, MR.iR1G, MR.iR2G, MR.iZipG, MR.iEnumG, MR.iEnumLG, MR.iRevG,
        MR.fTru_bl, MR.fTru_non, MR.fTru_int, MR.fTru_str, MR.fTru_lst, MR.fTru_tup, MR.fAdd_int, MR.fAdd_str, MR.fAdd_tup, MR.fAdd_lst, MR.fMul_int, MR.fMul_tup, MR.fMul_lst, MR.fEq_int, MR.fEq_str, MR.fEq_bl, MR.fEq_tup_tup, MR.fEq_tup_lst, MR.fEq_tup_int, MR.fEq_tup_non, MR.fEq_tup_str, MR.fEq_tup_bl, MR.fEq_lst_tup, MR.fEq_lst_lst, MR.fEq_lst_int, MR.fEq_lst_non, MR.fEq_lst_str, MR.fEq_lst_bl, MR.fEq_int_tup, MR.fEq_int_lst, MR.fEq_int_non, MR.fEq_int_str, MR.fEq_int_bl, MR.fEq_non_tup, MR.fEq_non_lst, MR.fEq_non_int, MR.fEq_non_non, MR.fEq_non_str, MR.fEq_non_bl, MR.fEq_str_tup, MR.fEq_str_lst, MR.fEq_str_int, MR.fEq_str_non, MR.fEq_str_bl, MR.fEq_bl_tup, MR.fEq_bl_lst, MR.fEq_bl_int, MR.fEq_bl_non, MR.fEq_bl_str, MR.fNe_int, MR.fNe_str, MR.fNe_bl, MR.fNe_tup_tup, MR.fNe_tup_lst, MR.fNe_tup_int, MR.fNe_tup_non, MR.fNe_tup_str, MR.fNe_tup_bl, MR.fNe_lst_tup, MR.fNe_lst_lst, MR.fNe_lst_int, MR.fNe_lst_non, MR.fNe_lst_str, MR.fNe_lst_bl, MR.fNe_int_tup, MR.fNe_int_lst, MR.fNe_int_non, MR.fNe_int_str, MR.fNe_int_bl, MR.fNe_non_tup, MR.fNe_non_lst, MR.fNe_non_int, MR.fNe_non_non, MR.fNe_non_str, MR.fNe_non_bl, MR.fNe_str_tup, MR.fNe_str_lst, MR.fNe_str_int, MR.fNe_str_non, MR.fNe_str_bl, MR.fNe_bl_tup, MR.fNe_bl_lst, MR.fNe_bl_int, MR.fNe_bl_non, MR.fNe_bl_str, MR.fLt_int, MR.fIx_tup, MR.fSl_tup, MR.fLen_tup, MR.fTuple_tup, MR.fRev_tup, MR.fIx_lst, MR.fSl_lst, MR.fLen_lst, MR.fTuple_lst, MR.fRev_lst, MR.fIx_str, MR.fSl_str, MR.fLen_str, MR.fInt_int, MR.fInt_bl,
        List.map_cons, List.map_nil, List.cons_append, List.nil_append, List.append_nil, List.length_cons, List.length_nil, List.replicate_succ, List.replicate_zero, List.set_cons_zero, List.set_cons_succ, List.getElem?_cons_zero, List.getElem?_cons_succ, List.getD_cons_zero, List.getD_cons_succ, Nat.reduceAdd, Nat.reduceSub, Nat.zero_add, Option.some.injEq, reduceIte, Bool.not_true, Bool.not_false, true_and, and_true, true_implies, false_implies, implies_true, MR.sRaise, MR.sTryAs, MR.sTry, MR.gIsE, PySem.W.kitAny, PySem.Value.ref.injEq, MR.sStar, MR.aSeq, MR.seqD, MR.gStp, List.take_succ_cons, List.take_zero, List.drop_succ_cons, List.drop_zero, MR.sl, MR.aFor_nil, MR.aComp_nil, Int.zero_add, MR.map_int_inj, MR.nil_map_int, MR.cons_map_int, List.map_eq_nil_iff, MR.eqOk_row, MR.eqOk_rowL, MR.eqOk_nil, MR.nil_eq, MR.nil_deq, MR.deq_row, MR.deq_rowL, MR.deq_nilr, MR.deq_nill, MR.deq_nils, MR.rng_zero, MR.isE_map, List.length_map, List.length_append, List.length_reverse,
        Nat.reduceLeDiff, Nat.reduceLT, Int.reduceLE, Int.reduceLT, Int.reducePow, Int.reduceNeg, Int.toNat_zero, Int.reduceToNat, Bool.not_eq_eq_eq_not, Bool.not_eq_true', decide_eq_false_iff_not, decide_eq_true_eq, Bool.false_eq_true, ite_not, ite_false, ite_true, decide_true, decide_false, not_true_eq_false, not_false_eq_true, List.cons.injEq, MR.D.tup.injEq, MR.D.lst.injEq, MR.D.int.injEq, MR.D.str.injEq, MR.D.bl.injEq, MR.D.adr.injEq, MR.Ent.d.injEq, MR.Ent.own.injEq, Option.some.injEq, Prod.mk.injEq, MR.fl_repx, List.length_replicate, exists_eq, exists_eq', and_assoc, exists_and_left, exists_and_right, exists_eq_left, exists_eq_left', exists_eq_right, exists_eq_right', ne_eq, eq_self, and_self, reduceCtorEq, false_and, and_false, or_false, false_or, Int.reduceEq, Int.reduceSub, Int.reduceAdd, Int.reduceMul, Nat.reduceMul, c10]
      show N _ _
      rw [hN]
      clear hN
      simp -implicitDefEqProofs only [MR.sNil, MR.sSeq, MR.sDrop, MR.sRet_e, MR.sRet_f, MR.sRetN, MR.sBreak, MR.sCont, MR.sIf, MR.sSet, MR.sOwn, MR.sAsg, MR.sPar, MR.sAug, MR.sFrz, MR.sApp, MR.sPut, MR.sExt, MR.aName, MR.aTup, MR.aNil, MR.aCons, MR.frz,
        MR.gVar, MR.gC, MR.gOp, MR.gB, MR.bK, MR.gTru, MR.gNotT, MR.gAndT, MR.gOrT, MR.gAndV, MR.gOrV, MR.gNotV, MR.gIf, MR.gChain, MR.gNil, MR.gCons, MR.gTup, MR.gLst, MR.gFz, MR.gOwn, MR.gAsL, MR.gNo, MR.gPart, MR.gSl, MR.gSlF, MR.gUn, MR.gIxL, MR.gFn, MR.gLenL, MR.gYes,
        MR.fAddI, MR.fSub, MR.fDiv, MR.fMod, MR.fPow, MR.fLe, MR.fGt, MR.fGe, MR.fIs, MR.fIsN, MR.fNeg, MR.fMin, MR.fMax, MR.fDivmod, MR.fSum, MR.fAll, MR.fRepr, MR.fIsi, MR.tyD, MR.dInt, MR.dBool, MR.dTup, MR.dStr, MR.dLst,
        MR.gDkT, MR.gDkS, MR.gDkNe, MR.gDkPop, MR.sDkApp, MR.sDkPut, MR.gScr, MR.sDeck, MR.gCall, MR.sel, MR.sFor, MR.sForR1, MR.sForR2, MR.sWhile, MR.sForE, MR.sAugP, MR.gRepL, MR.gCatL, MR.gComp, MR.gCompR, MR.startA, MR.wipeA, MR.sNever, MR.gNever, MR.tNev, MR.sAsg2, MR.fMulS_str, MR.fIntS_str, MR.sParO, MR.sForG, MR.gCompG, MR.iSeqG, MR.iR1G, MR.iR2G, MR.iZipG, MR.iEnumG, MR.iEnumLG, MR.iRevG,
        MR.fTru_bl, MR.fTru_non, MR.fTru_int, MR.fTru_str, MR.fTru_lst, MR.fTru_tup, MR.fAdd_int, MR.fAdd_str, MR.fAdd_tup, MR.fAdd_lst, MR.fMul_int, MR.fMul_tup, MR.fMul_lst, MR.fEq_int, MR.fEq_str, MR.fEq_bl, MR.fEq_tup_tup, MR.fEq_tup_lst, MR.fEq_tup_int, MR.fEq_tup_non, MR.fEq_tup_str, MR.fEq_tup_bl, MR.fEq_lst_tup, MR.fEq_lst_lst, MR.fEq_lst_int, MR.fEq_lst_non, MR.fEq_lst_str, MR.fEq_lst_bl, MR.fEq_int_tup, MR.fEq_int_lst, MR.fEq_int_non, MR.fEq_int_str, MR.fEq_int_bl, MR.fEq_non_tup, MR.fEq_non_lst, MR.fEq_non_int, MR.fEq_non_non, MR.fEq_non_str, MR.fEq_non_bl, MR.fEq_str_tup, MR.fEq_str_lst, MR.fEq_str_int, MR.fEq_str_non, MR.fEq_str_bl, MR.fEq_bl_tup, MR.fEq_bl_lst, MR.fEq_bl_int, MR.fEq_bl_non, MR.fEq_bl_str, MR.fNe_int, MR.fNe_str, MR.fNe_bl, MR.fNe_tup_tup, MR.fNe_tup_lst, MR.fNe_tup_int, MR.fNe_tup_non, MR.fNe_tup_str, MR.fNe_tup_bl, MR.fNe_lst_tup, MR.fNe_lst_lst, MR.fNe_lst_int, MR.fNe_lst_non, MR.fNe_lst_str, MR.fNe_lst_bl, MR.fNe_int_tup, MR.fNe_int_lst, MR.fNe_int_non, MR.fNe_int_str, MR.fNe_int_bl, MR.fNe_non_tup, MR.fNe_non_lst, MR.fNe_non_int, MR.fNe_non_non, MR.fNe_non_str, MR.fNe_non_bl, MR.fNe_str_tup, MR.fNe_str_lst, MR.fNe_str_int, MR.fNe_str_non, MR.fNe_str_bl, MR.fNe_bl_tup, MR.fNe_bl_lst, MR.fNe_bl_int, MR.fNe_bl_non, MR.fNe_bl_str, MR.fLt_int, MR.fIx_tup, MR.fSl_tup, MR.fLen_tup, MR.fTuple_tup, MR.fRev_tup, MR.fIx_lst, MR.fSl_lst, MR.fLen_lst, MR.fTuple_lst, MR.fRev_lst, MR.fIx_str, MR.fSl_str, MR.fLen_str, MR.fInt_int, MR.fInt_bl,
        List.map_cons, List.map_nil, List.cons_append, List.nil_append, List.append_nil, List.length_cons, List.length_nil, List.replicate_succ, List.replicate_zero, List.set_cons_zero, List.set_cons_succ, List.getElem?_cons_zero, List.getElem?_cons_succ, List.getD_cons_zero, List.getD_cons_succ, Nat.reduceAdd, Nat.reduceSub, Nat.zero_add, Option.some.injEq, reduceIte, Bool.not_true, Bool.not_false, true_and, and_true, true_implies, false_implies, implies_true, MR.sRaise, MR.sTryAs, MR.sTry, MR.gIsE, PySem.W.kitAny, PySem.Value.ref.injEq, MR.sStar, MR.aSeq, MR.seqD, MR.gStp, List.take_succ_cons, List.take_zero, List.drop_succ_cons, List.drop_zero, MR.sl, MR.aFor_nil, MR.aComp_nil, Int.zero_add, MR.map_int_inj, MR.nil_map_int, MR.cons_map_int, List.map_eq_nil_iff, MR.eqOk_row, MR.eqOk_rowL, MR.eqOk_nil, MR.nil_eq, MR.nil_deq, MR.deq_row, MR.deq_rowL, MR.deq_nilr, MR.deq_nill, MR.deq_nils, MR.rng_zero, MR.isE_map, List.length_map, List.length_append, List.length_reverse,
        Nat.reduceLeDiff, Nat.reduceLT, Int.reduceLE, Int.reduceLT, Int.reducePow, Int.reduceNeg, Int.toNat_zero, Int.reduceToNat, Bool.not_eq_eq_eq_not, Bool.not_eq_true', decide_eq_false_iff_not, decide_eq_true_eq, Bool.false_eq_true, ite_not, ite_false, ite_true, decide_true, decide_false, not_true_eq_false, not_false_eq_true, List.cons.injEq, MR.D.tup.injEq, MR.D.lst.injEq, MR.D.int.injEq, MR.D.str.injEq, MR.D.bl.injEq, MR.D.adr.injEq, MR.Ent.d.injEq, MR.Ent.own.injEq, Option.some.injEq, Prod.mk.injEq, MR.fl_repx, List.length_replicate, exists_eq, exists_eq', and_assoc, exists_and_left, exists_and_right, exists_eq_left, exists_eq_left', exists_eq_right, exists_eq_right', ne_eq, eq_self, and_self, reduceCtorEq, false_and, and_false, or_false, false_or, Int.reduceEq, Int.reduceSub, Int.reduceAdd, Int.reduceMul, Nat.reduceMul, aDR, hb, h1, h2, l1, l2]
      exact q
  refine ⟨fd, ⟨t.g__law_right, F.kp, ok⟩, ?_⟩
  · refine bnd_of F 3 [] [] [0, 1, 2] [] (by simp) rfl ?_
    intro kV doc pm an cdv ct D us mv ws h1 h2 h3 h4
    match us, mv, ws, h1, h2, h3 with
    | [u0, u1, u2], [], [], _, _, _ => exact rfl

def askd (d : D) : Prop := ∃ xs ys b, d = .tup [row xs, row ys, .int b] ∧ base_ b ∧ isRow b xs ∧ isRow b ys ∧ xs.length ≤ 40 ∧ ys.length ≤ 40

theorem kn_law (t : T K mg) : ∃ fd, FunD K "law" "law" (defArgs s_law) (defBody s_law) (defScope s_law) [] [] (He.ga K "law") fd ∧ FnG PR w K mg base CX0 6 (He.ga K "law") fd ["_law_script"] (toSp DWd K 1 aLaw) := by
  obtain ⟨fd, F⟩ := t.f_law
  obtain ⟨fd__law_deck, k__law_deck, b__law_deck_0⟩ := kn__law_deck (w := w) (base := base) t
  obtain ⟨fd__law_draw, k__law_draw, b__law_draw_0⟩ := kn__law_draw (w := w) (base := base) t
  obtain ⟨fd__law_any_base, k__law_any_base, b__law_any_base_0⟩ := kn__law_any_base (w := w) (base := base) t
  obtain ⟨fd__law_long_row, k__law_long_row, b__law_long_row_0⟩ := kn__law_long_row (w := w) (base := base) t
  obtain ⟨fd__law_near, k__law_near, b__law_near_0⟩ := kn__law_near (w := w) (base := base) t
  obtain ⟨fd__law_right, k__law_right, b__law_right_0⟩ := kn__law_right (w := w) (base := base) t
  obtain ⟨fd_lessened, k_lessened, b_lessened_0, b_lessened_1, b_lessened_2⟩ := kn_lessened (w := w) (base := base) t
  obtain ⟨fd_is_less, k_is_less, b_is_less_0, b_is_less_1⟩ := kn_is_less (w := w) (base := base) t
  refine ⟨fd, F, ?_⟩
  have ok : FnG PR w K mg base CX0 6 (He.ga K "law") fd ["_law_script"] (toSp DWd K 1 aLaw) := by
    refine fn_ok0 (N := n_law) DWd aLaw F S_law (fun cdv A outer s H E hr hG => ?_) (fun ds ω Qa Ea h => h)
    have S := S_law
    refine ⟨_, (gss_cons (gs_set 1 S.nd (ge_call1 k__law_deck (Room.mono hr (by decide)) hG takes0 b__law_deck_0 (fun B => .nil) (ga_cons (ge_var 0) ga_nil)))
      (gss_cons (gs_own 2 S.nd (gf_lst ga_nil))
      (gss_cons (gs_forR1 po_cx rfl t.z_range ge_int (gg_name 3 S.nd)
      (gss_cons (gs_set 4 S.nd (ge_call1 k__law_draw (Room.mono hr (by decide)) hG takes0 b__law_draw_0 (fun B => .nil) (ga_cons (ge_var 1) (ga_cons ge_int ga_nil))))
      (gss_cons (gs_set 5 S.nd (ge_call1 k__law_any_base (Room.mono hr (by decide)) hG takes0 b__law_any_base_0 (fun B => .nil) (ga_cons (ge_var 1) ga_nil)))
      (gss_cons (gs_set 6 S.nd (ge_call1 k__law_long_row (Room.mono hr (by decide)) hG takes0 b__law_long_row_0 (fun B => .nil) (ga_cons (ge_var 1) (ga_cons (ge_var 5) (ga_cons ge_int ga_nil)))))
      (gss_one (gs_app 2 (ge_tup (ga_cons (ge_var 6) (ga_cons (ge_call1 k__law_near (Room.mono hr (by decide)) hG takes0 b__law_near_0 (fun B => .nil) (ga_cons (ge_var 1) (ga_cons (ge_var 6) (ga_cons (ge_var 5) (ga_cons (ge_var 4) ga_nil))))) (ga_cons (ge_var 5) ga_nil))))))))))
      (gss_frz 2 (gss_cons (gs_for po_cx rfl (ge_add (ge_var 2) (ge_slice (ge_var 2) go_none (go_some ge_int))) (gg_tup rfl (ggs_cons (gg_name 6 S.nd) (ggs_cons (gg_name 7 S.nd) (ggs_cons (gg_name 5 S.nd) ggs_nil))) (AL.len (al_cons aex_name (al_cons aex_name (al_cons aex_name al_nil)))))
      (gss_one (gs_if (GW.gt (gw_or (gt_not (gt_tru (ge_call1 k__law_right (Room.mono hr (by decide)) hG takes0 b__law_right_0 (fun B => .nil) (ga_cons (ge_var 6) (ga_cons (ge_var 7) (ga_cons (ge_var 5) ga_nil)))))) (gw_or1 (gt_cmp (m_ne (un64 hr)) op2_ne (nomark _) (ge_fn (call_repr hG (un100 hr)) c_repr t.z_repr (ga_cons (ge_call2 k_lessened (Room.mono hr (by decide)) hG takes0 b_lessened_0 (fun B => .nil) (ga_cons (ge_var 6) (ga_cons (ge_var 6) ga_nil)) (gk_cons (ge_var 5) gk_nil)) ga_nil)) ge_str))))
      (gss_one (gs_ret ge_bl))
      gss_nil)))
      (gss_one (gs_ret (ge_cmp (m_eq (un64 hr)) op2_eq (nomark _) (GF.ge (gf_comp rfl S.nd (ge_var 2) (blkOk_by (own := [("_law_mine", 6), ("_law_theirs", 7), ("_law_to", 5)]) rfl) (fun s2 H2 C2 cl2 fp2 => (gc_tup K rfl (gcs_cons (gc_name 6 S.nd) (gcs_cons (gc_name 7 S.nd) (gcs_cons (gc_name 5 S.nd) gcs_nil))) (AL.len (al_cons aex_name (al_cons aex_name (al_cons aex_name al_nil)))))) (fun s2 H2 C2 cl2 fp2 => (gts_one (gt_cmp op_notBl op2_isn (nomark _) (ge_call1 k_is_less (Room.mono hr (by decide)) hG takes0 b_is_less_0 (fun B => .nil) (ga_cons (ge_var 6) (ga_cons (ge_var 6) ga_nil))) ge_bl))) (fun s2 H2 C2 cl2 fp2 => (ge_var 6)))) (GF.ge (gf_lst ga_nil)))))))))), ?_⟩
    clear S hr hG F t k__law_deck b__law_deck_0 k__law_draw b__law_draw_0 k__law_any_base b__law_any_base_0 k__law_long_row b__law_long_row_0 k__law_near b__law_near_0 k__law_right b__law_right_0 k_lessened b_lessened_0 b_lessened_1 b_lessened_2 k_is_less b_is_less_0 b_is_less_1
    rintro ds ω Qa ⟨a, ns, rfl, e, hl, hn, q⟩ _
    show sSeq _ _ _ _ _
    refine seq_opq fun N hN => ?_
    simp -implicitDefEqProofs only [MR.sNil, MR.sSeq, MR.sDrop, MR.sRet_e, MR.sRet_f, MR.sRetN, MR.sBreak, MR.sCont, MR.sIf, MR.sSet, MR.sOwn, MR.sAsg, MR.sPar, MR.sAug, MR.sFrz, MR.sApp, MR.sPut, MR.sExt, MR.aName, MR.aTup, MR.aNil, MR.aCons, MR.frz,
        MR.gVar, MR.gC, MR.gOp, MR.gB, MR.bK, MR.gTru, MR.gNotT, MR.gAndT, MR.gOrT, MR.gAndV, MR.gOrV, MR.gNotV, MR.gIf, MR.gChain, MR.gNil, MR.gCons, MR.gTup, MR.gLst, MR.gFz, MR.gOwn, MR.gAsL, MR.gNo, MR.gPart, MR.gSl, MR.gSlF, MR.gUn, MR.gIxL, MR.gFn, MR.gLenL, MR.gYes,
        MR.fAddI, MR.fSub, MR.fDiv, MR.fMod, MR.fPow, MR.fLe, MR.fGt, MR.fGe, MR.fIs, MR.fIsN, MR.fNeg, MR.fMin, MR.fMax, MR.fDivmod, MR.fSum, MR.fAll, MR.fRepr, MR.fIsi, MR.tyD, MR.dInt, MR.dBool, MR.dTup, MR.dStr, MR.dLst,
        MR.gDkT, MR.gDkS, MR.gDkNe, MR.gDkPop, MR.sDkApp, MR.sDkPut, MR.gScr, MR.sDeck, MR.gCall, MR.sel, MR.sFor, MR.sForR1, MR.sForR2, MR.sWhile, MR.sForE, MR.sAugP, MR.gRepL, MR.gCatL, MR.gComp, MR.gCompR, MR.startA, MR.wipeA, MR.sNever, MR.gNever, MR.tNev, MR.sAsg2, MR.fMulS_str, MR.fIntS_str, MR.sParO, MR.sForG, MR.gCompG, MR.iSeqG, MR.iR1G, MR.iR2G, MR.iZipG, MR.iEnumG, MR.iEnumLG, MR.iRevG,
        MR.fTru_bl, MR.fTru_non, MR.fTru_int, MR.fTru_str, MR.fTru_lst, MR.fTru_tup, MR.fAdd_int, MR.fAdd_str, MR.fAdd_tup, MR.fAdd_lst, MR.fMul_int, MR.fMul_tup, MR.fMul_lst, MR.fEq_int, MR.fEq_str, MR.fEq_bl, MR.fEq_tup_tup, MR.fEq_tup_lst, MR.fEq_tup_int, MR.fEq_tup_non, MR.fEq_tup_str, MR.fEq_tup_bl, MR.fEq_lst_tup, MR.fEq_lst_lst, MR.fEq_lst_int, MR.fEq_lst_non, MR.fEq_lst_str, MR.fEq_lst_bl, MR.fEq_int_tup, MR.fEq_int_lst, MR.fEq_int_non, MR.fEq_int_str, MR.fEq_int_bl, MR.fEq_non_tup, MR.fEq_non_lst, MR.fEq_non_int, MR.fEq_non_non, MR.fEq_non_str, MR.fEq_non_bl, MR.fEq_str_tup, MR.fEq_str_lst, MR.fEq_str_int, MR.fEq_str_non, MR.fEq_str_bl, MR.fEq_bl_tup, MR.fEq_bl_lst, MR.fEq_bl_int, MR.fEq_bl_non, MR.fEq_bl_str, MR.fNe_int, MR.fNe_str, MR.fNe_bl, MR.fNe_tup_tup, MR.fNe_tup_lst, MR.fNe_tup_int, MR.fNe_tup_non, MR.fNe_tup_str, MR.fNe_tup_bl, MR.fNe_lst_tup, MR.fNe_lst_lst, MR.fNe_lst_int, MR.fNe_lst_non, MR.fNe_lst_str, MR.fNe_lst_bl, MR.fNe_int_tup, MR.fNe_int_lst, MR.fNe_int_non, MR.fNe_int_str, MR.fNe_int_bl, MR.fNe_non_tup, MR.fNe_non_lst, MR.fNe_non_int, MR.fNe_non_non, MR.fNe_non_str, MR.fNe_non_bl, MR.fNe_str_tup, MR.fNe_str_lst, MR.fNe_str_int, MR.fNe_str_non, MR.fNe_str_bl, MR.fNe_bl_tup, MR.fNe_bl_lst, MR.fNe_bl_int, MR.fNe_bl_non, MR.fNe_bl_str, MR.fLt_int, MR.fIx_tup, MR.fSl_tup, MR.fLen_tup, MR.fTuple_tup, MR.fRev_tup, MR.fIx_lst, MR.fSl_lst, MR.fLen_lst, MR.fTuple_lst, MR.fRev_lst, MR.fIx_str, MR.fSl_str, MR.fLen_str, MR.fInt_int, MR.fInt_bl,
        List.map_cons, List.map_nil, List.cons_append, List.nil_append, List.append_nil, List.length_cons, List.length_nil, List.replicate_succ, List.replicate_zero, List.set_cons_zero, List.set_cons_succ, List.getElem?_cons_zero, List.getElem?_cons_succ, List.getD_cons_zero, List.getD_cons_succ, Nat.reduceAdd, Nat.reduceSub, Nat.zero_add, Option.some.injEq, reduceIte, Bool.not_true, Bool.not_false, true_and, and_true, true_implies, false_implies, implies_true, MR.sRaise, MR.sTryAs, MR.sTry, MR.gIsE, PySem.W.kitAny, PySem.Value.ref.injEq, MR.sStar, MR.aSeq, MR.seqD, MR.gStp, List.take_succ_cons, List.take_zero, List.drop_succ_cons, List.drop_zero, MR.sl, MR.aFor_nil, MR.aComp_nil, Int.zero_add, MR.map_int_inj, MR.nil_map_int, MR.cons_map_int, List.map_eq_nil_iff, MR.eqOk_row, MR.eqOk_rowL, MR.eqOk_nil, MR.nil_eq, MR.nil_deq, MR.deq_row, MR.deq_rowL, MR.deq_nilr, MR.deq_nill, MR.deq_nils, MR.rng_zero, MR.isE_map, List.length_map, List.length_append, List.length_reverse,
        Nat.reduceLeDiff, Nat.reduceLT, Int.reduceLE, Int.reduceLT, Int.reducePow, Int.reduceNeg, Int.toNat_zero, Int.reduceToNat, Bool.not_eq_eq_eq_not, Bool.not_eq_true', decide_eq_false_iff_not, decide_eq_true_eq, Bool.false_eq_true, ite_not, ite_false, ite_true, decide_true, decide_false, not_true_eq_false, not_false_eq_true, List.cons.injEq, MR.D.tup.injEq, MR.D.lst.injEq, MR.D.int.injEq, MR.D.str.injEq, MR.D.bl.injEq, MR.D.adr.injEq, MR.Ent.d.injEq, MR.Ent.own.injEq, Option.some.injEq, Prod.mk.injEq, MR.fl_repx, List.length_replicate, exists_eq, exists_eq', and_assoc, exists_and_left, exists_and_right, exists_eq_left, exists_eq_left', exists_eq_right, exists_eq_right', ne_eq, eq_self, and_self, reduceCtorEq, false_and, and_false, or_false, false_or, Int.reduceEq, Int.reduceSub, Int.reduceAdd, Int.reduceMul, Nat.reduceMul, aDeck, e, hl, hn]
    intro p ω1 k0
    show N _ _
    rw [hN]
    clear hN
    show sSeq _ _ _ _ _
    refine seq_opq fun N hN => ?_
    simp -implicitDefEqProofs only [MR.sNil, MR.sSeq, MR.sDrop, MR.sRet_e, MR.sRet_f, MR.sRetN, MR.sBreak, MR.sCont, MR.sIf, MR.sSet, MR.sOwn, MR.sAsg, MR.sPar, MR.sAug, MR.sFrz, MR.sApp, MR.sPut, MR.sExt, MR.aName, MR.aTup, MR.aNil, MR.aCons, MR.frz,
        MR.gVar, MR.gC, MR.gOp, MR.gB, MR.bK, MR.gTru, MR.gNotT, MR.gAndT, MR.gOrT, MR.gAndV, MR.gOrV, MR.gNotV, MR.gIf, MR.gChain, MR.gNil, MR.gCons, MR.gTup, MR.gLst, MR.gFz, MR.gOwn, MR.gAsL, MR.gNo, MR.gPart, MR.gSl, MR.gSlF, MR.gUn, MR.gIxL, MR.gFn, MR.gLenL, MR.gYes,
        MR.fAddI, MR.fSub, MR.fDiv, MR.fMod, MR.fPow, MR.fLe, MR.fGt, MR.fGe, MR.fIs, MR.fIsN, MR.fNeg, MR.fMin, MR.fMax, MR.fDivmod, MR.fSum, MR.fAll, MR.fRepr, MR.fIsi, MR.tyD, MR.dInt, MR.dBool, MR.dTup, MR.dStr, MR.dLst,
        MR.gDkT, MR.gDkS, MR.gDkNe, MR.gDkPop, MR.sDkApp, MR.sDkPut, MR.gScr, MR.sDeck, MR.gCall, MR.sel, MR.sFor, MR.sForR1, MR.sForR2, MR.sWhile, MR.sForE, MR.sAugP, MR.gRepL, MR.gCatL, MR.gComp, MR.gCompR, MR.startA, MR.wipeA, MR.sNever, MR.gNever, MR.tNev, MR.sAsg2, MR.fMulS_str, MR.fIntS_str, MR.sParO, MR.sForG, MR.gCompG, MR.iSeqG, MR.iR1G, MR.iR2G, MR.iZipG, MR.iEnumG, MR.iEnumLG, MR.iRevG,
        MR.fTru_bl, MR.fTru_non, MR.fTru_int, MR.fTru_str, MR.fTru_lst, MR.fTru_tup, MR.fAdd_int, MR.fAdd_str, MR.fAdd_tup, MR.fAdd_lst, MR.fMul_int, MR.fMul_tup, MR.fMul_lst, MR.fEq_int, MR.fEq_str, MR.fEq_bl, MR.fEq_tup_tup, MR.fEq_tup_lst, MR.fEq_tup_int, MR.fEq_tup_non, MR.fEq_tup_str, MR.fEq_tup_bl, MR.fEq_lst_tup, MR.fEq_lst_lst, MR.fEq_lst_int, MR.fEq_lst_non, MR.fEq_lst_str, MR.fEq_lst_bl, MR.fEq_int_tup, MR.fEq_int_lst, MR.fEq_int_non, MR.fEq_int_str, MR.fEq_int_bl, MR.fEq_non_tup, MR.fEq_non_lst, MR.fEq_non_int, MR.fEq_non_non, MR.fEq_non_str, MR.fEq_non_bl, MR.fEq_str_tup, MR.fEq_str_lst, MR.fEq_str_int, MR.fEq_str_non, MR.fEq_str_bl, MR.fEq_bl_tup, MR.fEq_bl_lst, MR.fEq_bl_int, MR.fEq_bl_non, MR.fEq_bl_str, MR.fNe_int, MR.fNe_str, MR.fNe_bl, MR.fNe_tup_tup, MR.fNe_tup_lst, MR.fNe_tup_int, MR.fNe_tup_non, MR.fNe_tup_str, MR.fNe_tup_bl, MR.fNe_lst_tup, MR.fNe_lst_lst, MR.fNe_lst_int, MR.fNe_lst_non, MR.fNe_lst_str, MR.fNe_lst_bl, MR.fNe_int_tup, MR.fNe_int_lst, MR.fNe_int_non, MR.fNe_int_str, MR.fNe_int_bl, MR.fNe_non_tup, MR.fNe_non_lst, MR.fNe_non_int, MR.fNe_non_non, MR.fNe_non_str, MR.fNe_non_bl, MR.fNe_str_tup, MR.fNe_str_lst, MR.fNe_str_int, MR.fNe_str_non, MR.fNe_str_bl, MR.fNe_bl_tup, MR.fNe_bl_lst, MR.fNe_bl_int, MR.fNe_bl_non, MR.fNe_bl_str, MR.fLt_int, MR.fIx_tup, MR.fSl_tup, MR.fLen_tup, MR.fTuple_tup, MR.fRev_tup, MR.fIx_lst, MR.fSl_lst, MR.fLen_lst, MR.fTuple_lst, MR.fRev_lst, MR.fIx_str, MR.fSl_str, MR.fLen_str, MR.fInt_int, MR.fInt_bl,
        List.map_cons, List.map_nil, List.cons_append, List.nil_append, List.append_nil, List.length_cons, List.length_nil, List.replicate_succ, List.replicate_zero, List.set_cons_zero, List.set_cons_succ, List.getElem?_cons_zero, List.getElem?_cons_succ, List.getD_cons_zero, List.getD_cons_succ, Nat.reduceAdd, Nat.reduceSub, Nat.zero_add, Option.some.injEq, reduceIte, Bool.not_true, Bool.not_false, true_and, and_true, true_implies, false_implies, implies_true, MR.sRaise, MR.sTryAs, MR.sTry, MR.gIsE, PySem.W.kitAny, PySem.Value.ref.injEq, MR.sStar, MR.aSeq, MR.seqD, MR.gStp, List.take_succ_cons, List.take_zero, List.drop_succ_cons, List.drop_zero, MR.sl, MR.aFor_nil, MR.aComp_nil, Int.zero_add, MR.map_int_inj, MR.nil_map_int, MR.cons_map_int, List.map_eq_nil_iff, MR.eqOk_row, MR.eqOk_rowL, MR.eqOk_nil, MR.nil_eq, MR.nil_deq, MR.deq_row, MR.deq_rowL, MR.deq_nilr, MR.deq_nill, MR.deq_nils, MR.rng_zero, MR.isE_map, List.length_map, List.length_append, List.length_reverse,
        Nat.reduceLeDiff, Nat.reduceLT, Int.reduceLE, Int.reduceLT, Int.reducePow, Int.reduceNeg, Int.toNat_zero, Int.reduceToNat, Bool.not_eq_eq_eq_not, Bool.not_eq_true', decide_eq_false_iff_not, decide_eq_true_eq, Bool.false_eq_true, ite_not, ite_false, ite_true, decide_true, decide_false, not_true_eq_false, not_false_eq_true, List.cons.injEq, MR.D.tup.injEq, MR.D.lst.injEq, MR.D.int.injEq, MR.D.str.injEq, MR.D.bl.injEq, MR.D.adr.injEq, MR.Ent.d.injEq, MR.Ent.own.injEq, Option.some.injEq, Prod.mk.injEq, MR.fl_repx, List.length_replicate, exists_eq, exists_eq', and_assoc, exists_and_left, exists_and_right, exists_eq_left, exists_eq_left', exists_eq_right, exists_eq_right', ne_eq, eq_self, and_self, reduceCtorEq, false_and, and_false, or_false, false_or, Int.reduceEq, Int.reduceSub, Int.reduceAdd, Int.reduceMul, Nat.reduceMul]
    obtain ⟨Iv, hIv⟩ : ∃ Iv : Nat → AEnv → DWd.W → Prop, ∀ (i : Nat) ρ ω', Iv i ρ ω' ↔ (∃ x3 x4 x5 x6 x7, ∃ ds : List D, Dk ω' p (1000 * (i : Int)) ∧ (∀ d ∈ ds, askd d) ∧ ds.length = i ∧ ρ = [some (.d (.adr a)), some (.d (.adr p)), some (.own ds), x3, x4, x5, x6, x7]) := ⟨_, fun _ _ _ => Iff.rfl⟩
    show N _ _
    rw [hN]
    clear hN
    show sSeq _ _ _ _ _
    refine seq_opq fun N hN => ?_
    simp -implicitDefEqProofs only [MR.sNil, MR.sSeq, MR.sDrop, MR.sRet_e, MR.sRet_f, MR.sRetN, MR.sBreak, MR.sCont, MR.sIf, MR.sSet, MR.sOwn, MR.sAsg, MR.sPar, MR.sAug, MR.sFrz, MR.sApp, MR.sPut, MR.sExt, MR.aName, MR.aTup, MR.aNil, MR.aCons, MR.frz,
        MR.gVar, MR.gC, MR.gOp, MR.gB, MR.bK, MR.gTru, MR.gNotT, MR.gAndT, MR.gOrT, MR.gAndV, MR.gOrV, MR.gNotV, MR.gIf, MR.gChain, MR.gNil, MR.gCons, MR.gTup, MR.gLst, MR.gFz, MR.gOwn, MR.gAsL, MR.gNo, MR.gPart, MR.gSl, MR.gSlF, MR.gUn, MR.gIxL, MR.gFn, MR.gLenL, MR.gYes,
        MR.fAddI, MR.fSub, MR.fDiv, MR.fMod, MR.fPow, MR.fLe, MR.fGt, MR.fGe, MR.fIs, MR.fIsN, MR.fNeg, MR.fMin, MR.fMax, MR.fDivmod, MR.fSum, MR.fAll, MR.fRepr, MR.fIsi, MR.tyD, MR.dInt, MR.dBool, MR.dTup, MR.dStr, MR.dLst,
        MR.gDkT, MR.gDkS, MR.gDkNe, MR.gDkPop, MR.sDkApp, MR.sDkPut, MR.gScr, MR.sDeck, MR.gCall, MR.sel, MR.sFor, MR.sForR1, MR.sForR2, MR.sWhile, MR.sForE, MR.sAugP, MR.gRepL, MR.gCatL, MR.gComp, MR.gCompR, MR.startA, MR.wipeA, MR.sNever, MR.gNever, MR.tNev, MR.sAsg2, MR.fMulS_str, MR.fIntS_str, MR.sParO, MR.sForG, MR.gCompG, MR.iSeqG, MR.iR1G, MR.iR2G, MR.iZipG, MR.iEnumG, MR.iEnumLG, MR.iRevG,
        MR.fTru_bl, MR.fTru_non, MR.fTru_int, MR.fTru_str, MR.fTru_lst, MR.fTru_tup, MR.fAdd_int, MR.fAdd_str, MR.fAdd_tup, MR.fAdd_lst, MR.fMul_int, MR.fMul_tup, MR.fMul_lst, MR.fEq_int, MR.fEq_str, MR.fEq_bl, MR.fEq_tup_tup, MR.fEq_tup_lst, MR.fEq_tup_int, MR.fEq_tup_non, MR.fEq_tup_str, MR.fEq_tup_bl, MR.fEq_lst_tup, MR.fEq_lst_lst, MR.fEq_lst_int, MR.fEq_lst_non, MR.fEq_lst_str, MR.fEq_lst_bl, MR.fEq_int_tup, MR.fEq_int_lst, MR.fEq_int_non, MR.fEq_int_str, MR.fEq_int_bl, MR.fEq_non_tup, MR.fEq_non_lst, MR.fEq_non_int, MR.fEq_non_non, MR.fEq_non_str, MR.fEq_non_bl, MR.fEq_str_tup, MR.fEq_str_lst, MR.fEq_str_int, MR.fEq_str_non, MR.fEq_str_bl, MR.fEq_bl_tup, MR.fEq_bl_lst, MR.fEq_bl_int, MR.fEq_bl_non, MR.fEq_bl_str, MR.fNe_int, MR.fNe_str, MR.fNe_bl, MR.fNe_tup_tup, MR.fNe_tup_lst, MR.fNe_tup_int, MR.fNe_tup_non, MR.fNe_tup_str, MR.fNe_tup_bl, MR.fNe_lst_tup, MR.fNe_lst_lst, MR.fNe_lst_int, MR.fNe_lst_non, MR.fNe_lst_str, MR.fNe_lst_bl, MR.fNe_int_tup, MR.fNe_int_lst, MR.fNe_int_non, MR.fNe_int_str, MR.fNe_int_bl, MR.fNe_non_tup, MR.fNe_non_lst, MR.fNe_non_int, MR.fNe_non_non, MR.fNe_non_str, MR.fNe_non_bl, MR.fNe_str_tup, MR.fNe_str_lst, MR.fNe_str_int, MR.fNe_str_non, MR.fNe_str_bl, MR.fNe_bl_tup, MR.fNe_bl_lst, MR.fNe_bl_int, MR.fNe_bl_non, MR.fNe_bl_str, MR.fLt_int, MR.fIx_tup, MR.fSl_tup, MR.fLen_tup, MR.fTuple_tup, MR.fRev_tup, MR.fIx_lst, MR.fSl_lst, MR.fLen_lst, MR.fTuple_lst, MR.fRev_lst, MR.fIx_str, MR.fSl_str, MR.fLen_str, MR.fInt_int, MR.fInt_bl,
        List.map_cons, List.map_nil, List.cons_append, List.nil_append, List.append_nil, List.length_cons, List.length_nil, List.replicate_succ, List.replicate_zero, List.set_cons_zero, List.set_cons_succ, List.getElem?_cons_zero, List.getElem?_cons_succ, List.getD_cons_zero, List.getD_cons_succ, Nat.reduceAdd, Nat.reduceSub, Nat.zero_add, Option.some.injEq, reduceIte, Bool.not_true, Bool.not_false, true_and, and_true, true_implies, false_implies, implies_true, MR.sRaise, MR.sTryAs, MR.sTry, MR.gIsE, PySem.W.kitAny, PySem.Value.ref.injEq, MR.sStar, MR.aSeq, MR.seqD, MR.gStp, List.take_succ_cons, List.take_zero, List.drop_succ_cons, List.drop_zero, MR.sl, MR.aFor_nil, MR.aComp_nil, Int.zero_add, MR.map_int_inj, MR.nil_map_int, MR.cons_map_int, List.map_eq_nil_iff, MR.eqOk_row, MR.eqOk_rowL, MR.eqOk_nil, MR.nil_eq, MR.nil_deq, MR.deq_row, MR.deq_rowL, MR.deq_nilr, MR.deq_nill, MR.deq_nils, MR.rng_zero, MR.isE_map, List.length_map, List.length_append, List.length_reverse,
        Nat.reduceLeDiff, Nat.reduceLT, Int.reduceLE, Int.reduceLT, Int.reducePow, Int.reduceNeg, Int.toNat_zero, Int.reduceToNat, Bool.not_eq_eq_eq_not, Bool.not_eq_true', decide_eq_false_iff_not, decide_eq_true_eq, Bool.false_eq_true, ite_not, ite_false, ite_true, decide_true, decide_false, not_true_eq_false, not_false_eq_true, List.cons.injEq, MR.D.tup.injEq, MR.D.lst.injEq, MR.D.int.injEq, MR.D.str.injEq, MR.D.bl.injEq, MR.D.adr.injEq, MR.Ent.d.injEq, MR.Ent.own.injEq, Option.some.injEq, Prod.mk.injEq, MR.fl_repx, List.length_replicate, exists_eq, exists_eq', and_assoc, exists_and_left, exists_and_right, exists_eq_left, exists_eq_left', exists_eq_right, exists_eq_right', ne_eq, eq_self, and_self, reduceCtorEq, false_and, and_false, or_false, false_or, Int.reduceEq, Int.reduceSub, Int.reduceAdd, Int.reduceMul, Nat.reduceMul]
    refine ⟨Iv, (hIv _ _ _).mpr ⟨none, none, none, none, none, [], k0.le (by decide), (fun _ h => nomatch h), rfl, rfl⟩, fun i d ρ ω' hd hv => ?_, fun ρ ω' hv => ?_⟩
    · replace hv := (hIv _ _ _).mp hv
      obtain ⟨x3, x4, x5, x6, x7, ds, k1, h1, h2, e2⟩ := hv
      subst e2
      obtain ⟨hi, rfl⟩ := rng_of hd
      clear hN
      show sSeq _ _ _ _ _
      refine seq_opq fun N hN => ?_
      simp -implicitDefEqProofs only [MR.sNil, MR.sSeq, MR.sDrop, MR.sRet_e, MR.sRet_f, MR.sRetN, MR.sBreak, MR.sCont, MR.sIf, MR.sSet, MR.sOwn, MR.sAsg, MR.sPar, MR.sAug, MR.sFrz, MR.sApp, MR.sPut, MR.sExt, MR.aName, MR.aTup, MR.aNil, MR.aCons, MR.frz,
        MR.gVar, MR.gC, MR.gOp, MR.gB, MR.bK, MR.gTru, MR.gNotT, MR.gAndT, MR.gOrT, MR.gAndV, MR.gOrV, MR.gNotV, MR.gIf, MR.gChain, MR.gNil, MR.gCons, MR.gTup, MR.gLst, MR.gFz, MR.gOwn, MR.gAsL, MR.gNo, MR.gPart, MR.gSl, MR.gSlF, MR.gUn, MR.gIxL, MR.gFn, MR.gLenL, MR.gYes,
        MR.fAddI, MR.fSub, MR.fDiv, MR.fMod, MR.fPow, MR.fLe, MR.fGt, MR.fGe, MR.fIs, MR.fIsN, MR.fNeg, MR.fMin, MR.fMax, MR.fDivmod, MR.fSum, MR.fAll, MR.fRepr, MR.fIsi, MR.tyD, MR.dInt, MR.dBool, MR.dTup, MR.dStr, MR.dLst,
        MR.gDkT, MR.gDkS, MR.gDkNe, MR.gDkPop, MR.sDkApp, MR.sDkPut, MR.gScr, MR.sDeck, MR.gCall, MR.sel, MR.sFor, MR.sForR1, MR.sForR2, MR.sWhile, MR.sForE, MR.sAugP, MR.gRepL, MR.gCatL, MR.gComp, MR.gCompR, MR.startA, MR.wipeA, MR.sNever, MR.gNever, MR.tNev, MR.sAsg2, MR.fMulS_str, MR.fIntS_str, MR.sParO, MR.sForG, MR.gCompG, MR.iSeqG, MR.iR1G, MR.iR2G, MR.iZipG, MR.iEnumG, MR.iEnumLG, MR.iRevG,
        MR.fTru_bl, MR.fTru_non, MR.fTru_int, MR.fTru_str, MR.fTru_lst, MR.fTru_tup, MR.fAdd_int, MR.fAdd_str, MR.fAdd_tup, MR.fAdd_lst, MR.fMul_int, MR.fMul_tup, MR.fMul_lst, MR.fEq_int, MR.fEq_str, MR.fEq_bl, MR.fEq_tup_tup, MR.fEq_tup_lst, MR.fEq_tup_int, MR.fEq_tup_non, MR.fEq_tup_str, MR.fEq_tup_bl, MR.fEq_lst_tup, MR.fEq_lst_lst, MR.fEq_lst_int, MR.fEq_lst_non, MR.fEq_lst_str, MR.fEq_lst_bl, MR.fEq_int_tup, MR.fEq_int_lst, MR.fEq_int_non, MR.fEq_int_str, MR.fEq_int_bl, MR.fEq_non_tup, MR.fEq_non_lst, MR.fEq_non_int, MR.fEq_non_non, MR.fEq_non_str, MR.fEq_non_bl, MR.fEq_str_tup, MR.fEq_str_lst, MR.fEq_str_int, MR.fEq_str_non, MR.fEq_str_bl, MR.fEq_bl_tup, MR.fEq_bl_lst, MR.fEq_bl_int, MR.fEq_bl_non, MR.fEq_bl_str, MR.fNe_int, MR.fNe_str, MR.fNe_bl, MR.fNe_tup_tup, MR.fNe_tup_lst, MR.fNe_tup_int, MR.fNe_tup_non, MR.fNe_tup_str, MR.fNe_tup_bl, MR.fNe_lst_tup, MR.fNe_lst_lst, MR.fNe_lst_int, MR.fNe_lst_non, MR.fNe_lst_str, MR.fNe_lst_bl, MR.fNe_int_tup, MR.fNe_int_lst, MR.fNe_int_non, MR.fNe_int_str, MR.fNe_int_bl, MR.fNe_non_tup, MR.fNe_non_lst, MR.fNe_non_int, MR.fNe_non_non, MR.fNe_non_str, MR.fNe_non_bl, MR.fNe_str_tup, MR.fNe_str_lst, MR.fNe_str_int, MR.fNe_str_non, MR.fNe_str_bl, MR.fNe_bl_tup, MR.fNe_bl_lst, MR.fNe_bl_int, MR.fNe_bl_non, MR.fNe_bl_str, MR.fLt_int, MR.fIx_tup, MR.fSl_tup, MR.fLen_tup, MR.fTuple_tup, MR.fRev_tup, MR.fIx_lst, MR.fSl_lst, MR.fLen_lst, MR.fTuple_lst, MR.fRev_lst, MR.fIx_str, MR.fSl_str, MR.fLen_str, MR.fInt_int, MR.fInt_bl,
        List.map_cons, List.map_nil, List.cons_append, List.nil_append, List.append_nil, List.length_cons, List.length_nil, List.replicate_succ, List.replicate_zero, List.set_cons_zero, List.set_cons_succ, List.getElem?_cons_zero, List.getElem?_cons_succ, List.getD_cons_zero, List.getD_cons_succ, Nat.reduceAdd, Nat.reduceSub, Nat.zero_add, Option.some.injEq, reduceIte, Bool.not_true, Bool.not_false, true_and, and_true, true_implies, false_implies, implies_true, MR.sRaise, MR.sTryAs, MR.sTry, MR.gIsE, PySem.W.kitAny, PySem.Value.ref.injEq, MR.sStar, MR.aSeq, MR.seqD, MR.gStp, List.take_succ_cons, List.take_zero, List.drop_succ_cons, List.drop_zero, MR.sl, MR.aFor_nil, MR.aComp_nil, Int.zero_add, MR.map_int_inj, MR.nil_map_int, MR.cons_map_int, List.map_eq_nil_iff, MR.eqOk_row, MR.eqOk_rowL, MR.eqOk_nil, MR.nil_eq, MR.nil_deq, MR.deq_row, MR.deq_rowL, MR.deq_nilr, MR.deq_nill, MR.deq_nils, MR.rng_zero, MR.isE_map, List.length_map, List.length_append, List.length_reverse,
        Nat.reduceLeDiff, Nat.reduceLT, Int.reduceLE, Int.reduceLT, Int.reducePow, Int.reduceNeg, Int.toNat_zero, Int.reduceToNat, Bool.not_eq_eq_eq_not, Bool.not_eq_true', decide_eq_false_iff_not, decide_eq_true_eq, Bool.false_eq_true, ite_not, ite_false, ite_true, decide_true, decide_false, not_true_eq_false, not_false_eq_true, List.cons.injEq, MR.D.tup.injEq, MR.D.lst.injEq, MR.D.int.injEq, MR.D.str.injEq, MR.D.bl.injEq, MR.D.adr.injEq, MR.Ent.d.injEq, MR.Ent.own.injEq, Option.some.injEq, Prod.mk.injEq, MR.fl_repx, List.length_replicate, exists_eq, exists_eq', and_assoc, exists_and_left, exists_and_right, exists_eq_left, exists_eq_left', exists_eq_right, exists_eq_right', ne_eq, eq_self, and_self, reduceCtorEq, false_and, and_false, or_false, false_or, Int.reduceEq, Int.reduceSub, Int.reduceAdd, Int.reduceMul, Nat.reduceMul, aDraw]
      refine ⟨_, k1, small_m (by decide), by omega, fun way ω2 w0 w1 k2 => ?_⟩
      show N _ _
      rw [hN]
      clear hN
      show sSeq _ _ _ _ _
      refine seq_opq fun N hN => ?_
      simp -implicitDefEqProofs only [MR.sNil, MR.sSeq, MR.sDrop, MR.sRet_e, MR.sRet_f, MR.sRetN, MR.sBreak, MR.sCont, MR.sIf, MR.sSet, MR.sOwn, MR.sAsg, MR.sPar, MR.sAug, MR.sFrz, MR.sApp, MR.sPut, MR.sExt, MR.aName, MR.aTup, MR.aNil, MR.aCons, MR.frz,
        MR.gVar, MR.gC, MR.gOp, MR.gB, MR.bK, MR.gTru, MR.gNotT, MR.gAndT, MR.gOrT, MR.gAndV, MR.gOrV, MR.gNotV, MR.gIf, MR.gChain, MR.gNil, MR.gCons, MR.gTup, MR.gLst, MR.gFz, MR.gOwn, MR.gAsL, MR.gNo, MR.gPart, MR.gSl, MR.gSlF, MR.gUn, MR.gIxL, MR.gFn, MR.gLenL, MR.gYes,
        MR.fAddI, MR.fSub, MR.fDiv, MR.fMod, MR.fPow, MR.fLe, MR.fGt, MR.fGe, MR.fIs, MR.fIsN, MR.fNeg, MR.fMin, MR.fMax, MR.fDivmod, MR.fSum, MR.fAll, MR.fRepr, MR.fIsi, MR.tyD, MR.dInt, MR.dBool, MR.dTup, MR.dStr, MR.dLst,
        MR.gDkT, MR.gDkS, MR.gDkNe, MR.gDkPop, MR.sDkApp, MR.sDkPut, MR.gScr, MR.sDeck, MR.gCall, MR.sel, MR.sFor, MR.sForR1, MR.sForR2, MR.sWhile, MR.sForE, MR.sAugP, MR.gRepL, MR.gCatL, MR.gComp, MR.gCompR, MR.startA, MR.wipeA, MR.sNever, MR.gNever, MR.tNev, MR.sAsg2, MR.fMulS_str, MR.fIntS_str, MR.sParO, MR.sForG, MR.gCompG, MR.iSeqG, MR.iR1G, MR.iR2G, MR.iZipG, MR.iEnumG, MR.iEnumLG, MR.iRevG,
        MR.fTru_bl, MR.fTru_non, MR.fTru_int, MR.fTru_str, MR.fTru_lst, MR.fTru_tup, MR.fAdd_int, MR.fAdd_str, MR.fAdd_tup, MR.fAdd_lst, MR.fMul_int, MR.fMul_tup, MR.fMul_lst, MR.fEq_int, MR.fEq_str, MR.fEq_bl, MR.fEq_tup_tup, MR.fEq_tup_lst, MR.fEq_tup_int, MR.fEq_tup_non, MR.fEq_tup_str, MR.fEq_tup_bl, MR.fEq_lst_tup, MR.fEq_lst_lst, MR.fEq_lst_int, MR.fEq_lst_non, MR.fEq_lst_str, MR.fEq_lst_bl, MR.fEq_int_tup, MR.fEq_int_lst, MR.fEq_int_non, MR.fEq_int_str, MR.fEq_int_bl, MR.fEq_non_tup, MR.fEq_non_lst, MR.fEq_non_int, MR.fEq_non_non, MR.fEq_non_str, MR.fEq_non_bl, MR.fEq_str_tup, MR.fEq_str_lst, MR.fEq_str_int, MR.fEq_str_non, MR.fEq_str_bl, MR.fEq_bl_tup, MR.fEq_bl_lst, MR.fEq_bl_int, MR.fEq_bl_non, MR.fEq_bl_str, MR.fNe_int, MR.fNe_str, MR.fNe_bl, MR.fNe_tup_tup, MR.fNe_tup_lst, MR.fNe_tup_int, MR.fNe_tup_non, MR.fNe_tup_str, MR.fNe_tup_bl, MR.fNe_lst_tup, MR.fNe_lst_lst, MR.fNe_lst_int, MR.fNe_lst_non, MR.fNe_lst_str, MR.fNe_lst_bl, MR.fNe_int_tup, MR.fNe_int_lst, MR.fNe_int_non, MR.fNe_int_str, MR.fNe_int_bl, MR.fNe_non_tup, MR.fNe_non_lst, MR.fNe_non_int, MR.fNe_non_non, MR.fNe_non_str, MR.fNe_non_bl, MR.fNe_str_tup, MR.fNe_str_lst, MR.fNe_str_int, MR.fNe_str_non, MR.fNe_str_bl, MR.fNe_bl_tup, MR.fNe_bl_lst, MR.fNe_bl_int, MR.fNe_bl_non, MR.fNe_bl_str, MR.fLt_int, MR.fIx_tup, MR.fSl_tup, MR.fLen_tup, MR.fTuple_tup, MR.fRev_tup, MR.fIx_lst, MR.fSl_lst, MR.fLen_lst, MR.fTuple_lst, MR.fRev_lst, MR.fIx_str, MR.fSl_str, MR.fLen_str, MR.fInt_int, MR.fInt_bl,
        List.map_cons, List.map_nil, List.cons_append, List.nil_append, List.append_nil, List.length_cons, List.length_nil, List.replicate_succ, List.replicate_zero, List.set_cons_zero, List.set_cons_succ, List.getElem?_cons_zero, List.getElem?_cons_succ, List.getD_cons_zero, List.getD_cons_succ, Nat.reduceAdd, Nat.reduceSub, Nat.zero_add, Option.some.injEq, reduceIte, Bool.not_true, Bool.not_false, true_and, and_true, true_implies, false_implies, implies_true, MR.sRaise, MR.sTryAs, MR.sTry, MR.gIsE, PySem.W.kitAny, PySem.Value.ref.injEq, MR.sStar, MR.aSeq, MR.seqD, MR.gStp, List.take_succ_cons, List.take_zero, List.drop_succ_cons, List.drop_zero, MR.sl, MR.aFor_nil, MR.aComp_nil, Int.zero_add, MR.map_int_inj, MR.nil_map_int, MR.cons_map_int, List.map_eq_nil_iff, MR.eqOk_row, MR.eqOk_rowL, MR.eqOk_nil, MR.nil_eq, MR.nil_deq, MR.deq_row, MR.deq_rowL, MR.deq_nilr, MR.deq_nill, MR.deq_nils, MR.rng_zero, MR.isE_map, List.length_map, List.length_append, List.length_reverse,
        Nat.reduceLeDiff, Nat.reduceLT, Int.reduceLE, Int.reduceLT, Int.reducePow, Int.reduceNeg, Int.toNat_zero, Int.reduceToNat, Bool.not_eq_eq_eq_not, Bool.not_eq_true', decide_eq_false_iff_not, decide_eq_true_eq, Bool.false_eq_true, ite_not, ite_false, ite_true, decide_true, decide_false, not_true_eq_false, not_false_eq_true, List.cons.injEq, MR.D.tup.injEq, MR.D.lst.injEq, MR.D.int.injEq, MR.D.str.injEq, MR.D.bl.injEq, MR.D.adr.injEq, MR.Ent.d.injEq, MR.Ent.own.injEq, Option.some.injEq, Prod.mk.injEq, MR.fl_repx, List.length_replicate, exists_eq, exists_eq', and_assoc, exists_and_left, exists_and_right, exists_eq_left, exists_eq_left', exists_eq_right, exists_eq_right', ne_eq, eq_self, and_self, reduceCtorEq, false_and, and_false, or_false, false_or, Int.reduceEq, Int.reduceSub, Int.reduceAdd, Int.reduceMul, Nat.reduceMul, aAnyBase]
      refine ⟨_, k2, by omega, fun b ω3 hb k3 => ?_⟩
      show N _ _
      rw [hN]
      clear hN
      show sSeq _ _ _ _ _
      refine seq_opq fun N hN => ?_
      simp -implicitDefEqProofs only [MR.sNil, MR.sSeq, MR.sDrop, MR.sRet_e, MR.sRet_f, MR.sRetN, MR.sBreak, MR.sCont, MR.sIf, MR.sSet, MR.sOwn, MR.sAsg, MR.sPar, MR.sAug, MR.sFrz, MR.sApp, MR.sPut, MR.sExt, MR.aName, MR.aTup, MR.aNil, MR.aCons, MR.frz,
        MR.gVar, MR.gC, MR.gOp, MR.gB, MR.bK, MR.gTru, MR.gNotT, MR.gAndT, MR.gOrT, MR.gAndV, MR.gOrV, MR.gNotV, MR.gIf, MR.gChain, MR.gNil, MR.gCons, MR.gTup, MR.gLst, MR.gFz, MR.gOwn, MR.gAsL, MR.gNo, MR.gPart, MR.gSl, MR.gSlF, MR.gUn, MR.gIxL, MR.gFn, MR.gLenL, MR.gYes,
        MR.fAddI, MR.fSub, MR.fDiv, MR.fMod, MR.fPow, MR.fLe, MR.fGt, MR.fGe, MR.fIs, MR.fIsN, MR.fNeg, MR.fMin, MR.fMax, MR.fDivmod, MR.fSum, MR.fAll, MR.fRepr, MR.fIsi, MR.tyD, MR.dInt, MR.dBool, MR.dTup, MR.dStr, MR.dLst,
        MR.gDkT, MR.gDkS, MR.gDkNe, MR.gDkPop, MR.sDkApp, MR.sDkPut, MR.gScr, MR.sDeck, MR.gCall, MR.sel, MR.sFor, MR.sForR1, MR.sForR2, MR.sWhile, MR.sForE, MR.sAugP, MR.gRepL, MR.gCatL, MR.gComp, MR.gCompR, MR.startA, MR.wipeA, MR.sNever, MR.gNever, MR.tNev, MR.sAsg2, MR.fMulS_str, MR.fIntS_str, MR.sParO, MR.sForG, MR.gCompG, MR.iSeqG, MR.iR1G, MR.iR2G, MR.iZipG, MR.iEnumG, MR.iEnumLG, MR.iRevG,
        MR.fTru_bl, MR.fTru_non, MR.fTru_int, MR.fTru_str, MR.fTru_lst, MR.fTru_tup, MR.fAdd_int, MR.fAdd_str, MR.fAdd_tup, MR.fAdd_lst, MR.fMul_int, MR.fMul_tup, MR.fMul_lst, MR.fEq_int, MR.fEq_str, MR.fEq_bl, MR.fEq_tup_tup, MR.fEq_tup_lst, MR.fEq_tup_int, MR.fEq_tup_non, MR.fEq_tup_str, MR.fEq_tup_bl, MR.fEq_lst_tup, MR.fEq_lst_lst, MR.fEq_lst_int, MR.fEq_lst_non, MR.fEq_lst_str, MR.fEq_lst_bl, MR.fEq_int_tup, MR.fEq_int_lst, MR.fEq_int_non, MR.fEq_int_str, MR.fEq_int_bl, MR.fEq_non_tup, MR.fEq_non_lst, MR.fEq_non_int, MR.fEq_non_non, MR.fEq_non_str, MR.fEq_non_bl, MR.fEq_str_tup, MR.fEq_str_lst, MR.fEq_str_int, MR.fEq_str_non, MR.fEq_str_bl, MR.fEq_bl_tup, MR.fEq_bl_lst, MR.fEq_bl_int, MR.fEq_bl_non, MR.fEq_bl_str, MR.fNe_int, MR.fNe_str, MR.fNe_bl, MR.fNe_tup_tup, MR.fNe_tup_lst, MR.fNe_tup_int, MR.fNe_tup_non, MR.fNe_tup_str, MR.fNe_tup_bl, MR.fNe_lst_tup, MR.fNe_lst_lst, MR.fNe_lst_int, MR.fNe_lst_non, MR.fNe_lst_str, MR.fNe_lst_bl, MR.fNe_int_tup, MR.fNe_int_lst, MR.fNe_int_non, MR.fNe_int_str, MR.fNe_int_bl, MR.fNe_non_tup, MR.fNe_non_lst, MR.fNe_non_int, MR.fNe_non_non, MR.fNe_non_str, MR.fNe_non_bl, MR.fNe_str_tup, MR.fNe_str_lst, MR.fNe_str_int, MR.fNe_str_non, MR.fNe_str_bl, MR.fNe_bl_tup, MR.fNe_bl_lst, MR.fNe_bl_int, MR.fNe_bl_non, MR.fNe_bl_str, MR.fLt_int, MR.fIx_tup, MR.fSl_tup, MR.fLen_tup, MR.fTuple_tup, MR.fRev_tup, MR.fIx_lst, MR.fSl_lst, MR.fLen_lst, MR.fTuple_lst, MR.fRev_lst, MR.fIx_str, MR.fSl_str, MR.fLen_str, MR.fInt_int, MR.fInt_bl,
        List.map_cons, List.map_nil, List.cons_append, List.nil_append, List.append_nil, List.length_cons, List.length_nil, List.replicate_succ, List.replicate_zero, List.set_cons_zero, List.set_cons_succ, List.getElem?_cons_zero, List.getElem?_cons_succ, List.getD_cons_zero, List.getD_cons_succ, Nat.reduceAdd, Nat.reduceSub, Nat.zero_add, Option.some.injEq, reduceIte, Bool.not_true, Bool.not_false, true_and, and_true, true_implies, false_implies, implies_true, MR.sRaise, MR.sTryAs, MR.sTry, MR.gIsE, PySem.W.kitAny, PySem.Value.ref.injEq, MR.sStar, MR.aSeq, MR.seqD, MR.gStp, List.take_succ_cons, List.take_zero, List.drop_succ_cons, List.drop_zero, MR.sl, MR.aFor_nil, MR.aComp_nil, Int.zero_add, MR.map_int_inj, MR.nil_map_int, MR.cons_map_int, List.map_eq_nil_iff, MR.eqOk_row, MR.eqOk_rowL, MR.eqOk_nil, MR.nil_eq, MR.nil_deq, MR.deq_row, MR.deq_rowL, MR.deq_nilr, MR.deq_nill, MR.deq_nils, MR.rng_zero, MR.isE_map, List.length_map, List.length_append, List.length_reverse,
        Nat.reduceLeDiff, Nat.reduceLT, Int.reduceLE, Int.reduceLT, Int.reducePow, Int.reduceNeg, Int.toNat_zero, Int.reduceToNat, Bool.not_eq_eq_eq_not, Bool.not_eq_true', decide_eq_false_iff_not, decide_eq_true_eq, Bool.false_eq_true, ite_not, ite_false, ite_true, decide_true, decide_false, not_true_eq_false, not_false_eq_true, List.cons.injEq, MR.D.tup.injEq, MR.D.lst.injEq, MR.D.int.injEq, MR.D.str.injEq, MR.D.bl.injEq, MR.D.adr.injEq, MR.Ent.d.injEq, MR.Ent.own.injEq, Option.some.injEq, Prod.mk.injEq, MR.fl_repx, List.length_replicate, exists_eq, exists_eq', and_assoc, exists_and_left, exists_and_right, exists_eq_left, exists_eq_left', exists_eq_right, exists_eq_right', ne_eq, eq_self, and_self, reduceCtorEq, false_and, and_false, or_false, false_or, Int.reduceEq, Int.reduceSub, Int.reduceAdd, Int.reduceMul, Nat.reduceMul, aLongRow]
      refine ⟨_, k3, by omega, hb, fun xs ω4 rx lx k4 => ?_⟩
      show N _ _
      rw [hN]
      clear hN
      simp -implicitDefEqProofs only [MR.sNil, MR.sSeq, MR.sDrop, MR.sRet_e, MR.sRet_f, MR.sRetN, MR.sBreak, MR.sCont, MR.sIf, MR.sSet, MR.sOwn, MR.sAsg, MR.sPar, MR.sAug, MR.sFrz, MR.sApp, MR.sPut, MR.sExt, MR.aName, MR.aTup, MR.aNil, MR.aCons, MR.frz,
        MR.gVar, MR.gC, MR.gOp, MR.gB, MR.bK, MR.gTru, MR.gNotT, MR.gAndT, MR.gOrT, MR.gAndV, MR.gOrV, MR.gNotV, MR.gIf, MR.gChain, MR.gNil, MR.gCons, MR.gTup, MR.gLst, MR.gFz, MR.gOwn, MR.gAsL, MR.gNo, MR.gPart, MR.gSl, MR.gSlF, MR.gUn, MR.gIxL, MR.gFn, MR.gLenL, MR.gYes,
        MR.fAddI, MR.fSub, MR.fDiv, MR.fMod, MR.fPow, MR.fLe, MR.fGt, MR.fGe, MR.fIs, MR.fIsN, MR.fNeg, MR.fMin, MR.fMax, MR.fDivmod, MR.fSum, MR.fAll, MR.fRepr, MR.fIsi, MR.tyD, MR.dInt, MR.dBool, MR.dTup, MR.dStr, MR.dLst,
        MR.gDkT, MR.gDkS, MR.gDkNe, MR.gDkPop, MR.sDkApp, MR.sDkPut, MR.gScr, MR.sDeck, MR.gCall, MR.sel, MR.sFor, MR.sForR1, MR.sForR2, MR.sWhile, MR.sForE, MR.sAugP, MR.gRepL, MR.gCatL, MR.gComp, MR.gCompR, MR.startA, MR.wipeA, MR.sNever, MR.gNever, MR.tNev, MR.sAsg2, MR.fMulS_str, MR.fIntS_str, MR.sParO, MR.sForG, MR.gCompG, MR.iSeqG, MR.iR1G, MR.iR2G, MR.iZipG, MR.iEnumG, MR.iEnumLG, MR.iRevG,
        MR.fTru_bl, MR.fTru_non, MR.fTru_int, MR.fTru_str, MR.fTru_lst, MR.fTru_tup, MR.fAdd_int, MR.fAdd_str, MR.fAdd_tup, MR.fAdd_lst, MR.fMul_int, MR.fMul_tup, MR.fMul_lst, MR.fEq_int, MR.fEq_str, MR.fEq_bl, MR.fEq_tup_tup, MR.fEq_tup_lst, MR.fEq_tup_int, MR.fEq_tup_non, MR.fEq_tup_str, MR.fEq_tup_bl, MR.fEq_lst_tup, MR.fEq_lst_lst, MR.fEq_lst_int, MR.fEq_lst_non, MR.fEq_lst_str, MR.fEq_lst_bl, MR.fEq_int_tup, MR.fEq_int_lst, MR.fEq_int_non, MR.fEq_int_str, MR.fEq_int_bl, MR.fEq_non_tup, MR.fEq_non_lst, MR.fEq_non_int, MR.fEq_non_non, MR.fEq_non_str, MR.fEq_non_bl, MR.fEq_str_tup, MR.fEq_str_lst, MR.fEq_str_int, MR.fEq_str_non, MR.fEq_str_bl, MR.fEq_bl_tup, MR.fEq_bl_lst, MR.fEq_bl_int, MR.fEq_bl_non, MR.fEq_bl_str, MR.fNe_int, MR.fNe_str, MR.fNe_bl, MR.fNe_tup_tup, MR.fNe_tup_lst, MR.fNe_tup_int, MR.fNe_tup_non, MR.fNe_tup_str, MR.fNe_tup_bl, MR.fNe_lst_tup, MR.fNe_lst_lst, MR.fNe_lst_int, MR.fNe_lst_non, MR.fNe_lst_str, MR.fNe_lst_bl, MR.fNe_int_tup, MR.fNe_int_lst, MR.fNe_int_non, MR.fNe_int_str, MR.fNe_int_bl, MR.fNe_non_tup, MR.fNe_non_lst, MR.fNe_non_int, MR.fNe_non_non, MR.fNe_non_str, MR.fNe_non_bl, MR.fNe_str_tup, MR.fNe_str_lst, MR.fNe_str_int, MR.fNe_str_non, MR.fNe_str_bl, MR.fNe_bl_tup, MR.fNe_bl_lst, MR.fNe_bl_int, MR.fNe_bl_non, MR.fNe_bl_str, MR.fLt_int, MR.fIx_tup, MR.fSl_tup, MR.fLen_tup, MR.fTuple_tup, MR.fRev_tup, MR.fIx_lst, MR.fSl_lst, MR.fLen_lst, MR.fTuple_lst, MR.fRev_lst, MR.fIx_str, MR.fSl_str, MR.fLen_str, MR.fInt_int, MR.fInt_bl,
        List.map_cons, List.map_nil, List.cons_append, List.nil_append, List.append_nil, List.length_cons, List.length_nil, List.replicate_succ, List.replicate_zero, List.set_cons_zero, List.set_cons_succ, List.getElem?_cons_zero, List.getElem?_cons_succ, List.getD_cons_zero, List.getD_cons_succ, Nat.reduceAdd, Nat.reduceSub, Nat.zero_add, Option.some.injEq, reduceIte, Bool.not_true, Bool.not_false, true_and, and_true, true_implies, false_implies, implies_true, MR.sRaise, MR.sTryAs, MR.sTry, MR.gIsE, PySem.W.kitAny, PySem.Value.ref.injEq, MR.sStar, MR.aSeq, MR.seqD, MR.gStp, List.take_succ_cons, List.take_zero, List.drop_succ_cons, List.drop_zero, MR.sl, MR.aFor_nil, MR.aComp_nil, Int.zero_add, MR.map_int_inj, MR.nil_map_int, MR.cons_map_int, List.map_eq_nil_iff, MR.eqOk_row, MR.eqOk_rowL, MR.eqOk_nil, MR.nil_eq, MR.nil_deq, MR.deq_row, MR.deq_rowL, MR.deq_nilr, MR.deq_nill, MR.deq_nils, MR.rng_zero, MR.isE_map, List.length_map, List.length_append, List.length_reverse,
        Nat.reduceLeDiff, Nat.reduceLT, Int.reduceLE, Int.reduceLT, Int.reducePow, Int.reduceNeg, Int.toNat_zero, Int.reduceToNat, Bool.not_eq_eq_eq_not, Bool.not_eq_true', decide_eq_false_iff_not, decide_eq_true_eq, Bool.false_eq_true, ite_not, ite_false, ite_true, decide_true, decide_false, not_true_eq_false, not_false_eq_true, List.cons.injEq, MR.D.tup.injEq, MR.D.lst.injEq, MR.D.int.injEq, MR.D.str.injEq, MR.D.bl.injEq, MR.D.adr.injEq, MR.Ent.d.injEq, MR.Ent.own.injEq, Option.some.injEq, Prod.mk.injEq, MR.fl_repx, List.length_replicate, exists_eq, exists_eq', and_assoc, exists_and_left, exists_and_right, exists_eq_left, exists_eq_left', exists_eq_right, exists_eq_right', ne_eq, eq_self, and_self, reduceCtorEq, false_and, and_false, or_false, false_or, Int.reduceEq, Int.reduceSub, Int.reduceAdd, Int.reduceMul, Nat.reduceMul, aNear]
      have lx2 : xs.length ≤ 40 := by omega
      refine ⟨_, k4, by omega, hb, rx, lx2, w0, w1, fun ys ω5 ry ly k5 => ⟨by omega, (hIv _ _ _).mpr ⟨_, _, _, _, _, ds ++ [.tup [row xs, row ys, .int b]], k5.le (by omega), fun d hd => ?_, by rw [List.length_append, h2]; rfl, rfl⟩⟩⟩
      rcases List.mem_append.mp hd with hd | hd
      · exact h1 d hd
      · rw [List.mem_singleton] at hd
        exact ⟨xs, ys, b, hd, hb, rx, ry, lx2, ly⟩
    · replace hv := (hIv _ _ _).mp hv
      obtain ⟨x3, x4, x5, x6, x7, ds, k1, h1, h2, e2⟩ := hv
      subst e2
      rw [rng_len] at h2
      obtain ⟨Lv, hLv⟩ : ∃ Lv : Nat → AEnv → DWd.W → Prop, ∀ (i : Nat) ρ ω2, Lv i ρ ω2 ↔ (∃ x3 x4 x5 x6 x7, ρ = [some (.d (.adr a)), some (.d (.adr p)), some (.d (.lst ds)), x3, x4, x5, x6, x7]) := ⟨_, fun _ _ _ => Iff.rfl⟩
      have lc : (cutD ds none (some 2)).length ≤ ds.length := len_cut (by decide)
      show N _ _
      rw [hN]
      clear hN
      show sSeq _ _ _ _ _
      refine seq_opq fun N hN => ?_
      simp -implicitDefEqProofs only [MR.sNil, MR.sSeq, MR.sDrop, MR.sRet_e, MR.sRet_f, MR.sRetN, MR.sBreak, MR.sCont, MR.sIf, MR.sSet, MR.sOwn, MR.sAsg, MR.sPar, MR.sAug, MR.sFrz, MR.sApp, MR.sPut, MR.sExt, MR.aName, MR.aTup, MR.aNil, MR.aCons, MR.frz,
        MR.gVar, MR.gC, MR.gOp, MR.gB, MR.bK, MR.gTru, MR.gNotT, MR.gAndT, MR.gOrT, MR.gAndV, MR.gOrV, MR.gNotV, MR.gIf, MR.gChain, MR.gNil, MR.gCons, MR.gTup, MR.gLst, MR.gFz, MR.gOwn, MR.gAsL, MR.gNo, MR.gPart, MR.gSl, MR.gSlF, MR.gUn, MR.gIxL, MR.gFn, MR.gLenL, MR.gYes,
        MR.fAddI, MR.fSub, MR.fDiv, MR.fMod, MR.fPow, MR.fLe, MR.fGt, MR.fGe, MR.fIs, MR.fIsN, MR.fNeg, MR.fMin, MR.fMax, MR.fDivmod, MR.fSum, MR.fAll, MR.fRepr, MR.fIsi, MR.tyD, MR.dInt, MR.dBool, MR.dTup, MR.dStr, MR.dLst,
        MR.gDkT, MR.gDkS, MR.gDkNe, MR.gDkPop, MR.sDkApp, MR.sDkPut, MR.gScr, MR.sDeck, MR.gCall, MR.sel, MR.sFor, MR.sForR1, MR.sForR2, MR.sWhile, MR.sForE, MR.sAugP, MR.gRepL, MR.gCatL, MR.gComp, MR.gCompR, MR.startA, MR.wipeA, MR.sNever, MR.gNever, MR.tNev, MR.sAsg2, MR.fMulS_str, MR.fIntS_str, MR.sParO, MR.sForG, MR.gCompG, MR.iSeqG, MR.iR1G, MR.iR2G, MR.iZipG, MR.iEnumG, MR.iEnumLG, MR.iRevG,
        MR.fTru_bl, MR.fTru_non, MR.fTru_int, MR.fTru_str, MR.fTru_lst, MR.fTru_tup, MR.fAdd_int, MR.fAdd_str, MR.fAdd_tup, MR.fAdd_lst, MR.fMul_int, MR.fMul_tup, MR.fMul_lst, MR.fEq_int, MR.fEq_str, MR.fEq_bl, MR.fEq_tup_tup, MR.fEq_tup_lst, MR.fEq_tup_int, MR.fEq_tup_non, MR.fEq_tup_str, MR.fEq_tup_bl, MR.fEq_lst_tup, MR.fEq_lst_lst, MR.fEq_lst_int, MR.fEq_lst_non, MR.fEq_lst_str, MR.fEq_lst_bl, MR.fEq_int_tup, MR.fEq_int_lst, MR.fEq_int_non, MR.fEq_int_str, MR.fEq_int_bl, MR.fEq_non_tup, MR.fEq_non_lst, MR.fEq_non_int, MR.fEq_non_non, MR.fEq_non_str, MR.fEq_non_bl, MR.fEq_str_tup, MR.fEq_str_lst, MR.fEq_str_int, MR.fEq_str_non, MR.fEq_str_bl, MR.fEq_bl_tup, MR.fEq_bl_lst, MR.fEq_bl_int, MR.fEq_bl_non, MR.fEq_bl_str, MR.fNe_int, MR.fNe_str, MR.fNe_bl, MR.fNe_tup_tup, MR.fNe_tup_lst, MR.fNe_tup_int, MR.fNe_tup_non, MR.fNe_tup_str, MR.fNe_tup_bl, MR.fNe_lst_tup, MR.fNe_lst_lst, MR.fNe_lst_int, MR.fNe_lst_non, MR.fNe_lst_str, MR.fNe_lst_bl, MR.fNe_int_tup, MR.fNe_int_lst, MR.fNe_int_non, MR.fNe_int_str, MR.fNe_int_bl, MR.fNe_non_tup, MR.fNe_non_lst, MR.fNe_non_int, MR.fNe_non_non, MR.fNe_non_str, MR.fNe_non_bl, MR.fNe_str_tup, MR.fNe_str_lst, MR.fNe_str_int, MR.fNe_str_non, MR.fNe_str_bl, MR.fNe_bl_tup, MR.fNe_bl_lst, MR.fNe_bl_int, MR.fNe_bl_non, MR.fNe_bl_str, MR.fLt_int, MR.fIx_tup, MR.fSl_tup, MR.fLen_tup, MR.fTuple_tup, MR.fRev_tup, MR.fIx_lst, MR.fSl_lst, MR.fLen_lst, MR.fTuple_lst, MR.fRev_lst, MR.fIx_str, MR.fSl_str, MR.fLen_str, MR.fInt_int, MR.fInt_bl,
        List.map_cons, List.map_nil, List.cons_append, List.nil_append, List.append_nil, List.length_cons, List.length_nil, List.replicate_succ, List.replicate_zero, List.set_cons_zero, List.set_cons_succ, List.getElem?_cons_zero, List.getElem?_cons_succ, List.getD_cons_zero, List.getD_cons_succ, Nat.reduceAdd, Nat.reduceSub, Nat.zero_add, Option.some.injEq, reduceIte, Bool.not_true, Bool.not_false, true_and, and_true, true_implies, false_implies, implies_true, MR.sRaise, MR.sTryAs, MR.sTry, MR.gIsE, PySem.W.kitAny, PySem.Value.ref.injEq, MR.sStar, MR.aSeq, MR.seqD, MR.gStp, List.take_succ_cons, List.take_zero, List.drop_succ_cons, List.drop_zero, MR.sl, MR.aFor_nil, MR.aComp_nil, Int.zero_add, MR.map_int_inj, MR.nil_map_int, MR.cons_map_int, List.map_eq_nil_iff, MR.eqOk_row, MR.eqOk_rowL, MR.eqOk_nil, MR.nil_eq, MR.nil_deq, MR.deq_row, MR.deq_rowL, MR.deq_nilr, MR.deq_nill, MR.deq_nils, MR.rng_zero, MR.isE_map, List.length_map, List.length_append, List.length_reverse,
        Nat.reduceLeDiff, Nat.reduceLT, Int.reduceLE, Int.reduceLT, Int.reducePow, Int.reduceNeg, Int.toNat_zero, Int.reduceToNat, Bool.not_eq_eq_eq_not, Bool.not_eq_true', decide_eq_false_iff_not, decide_eq_true_eq, Bool.false_eq_true, ite_not, ite_false, ite_true, decide_true, decide_false, not_true_eq_false, not_false_eq_true, List.cons.injEq, MR.D.tup.injEq, MR.D.lst.injEq, MR.D.int.injEq, MR.D.str.injEq, MR.D.bl.injEq, MR.D.adr.injEq, MR.Ent.d.injEq, MR.Ent.own.injEq, Option.some.injEq, Prod.mk.injEq, MR.fl_repx, List.length_replicate, exists_eq, exists_eq', and_assoc, exists_and_left, exists_and_right, exists_eq_left, exists_eq_left', exists_eq_right, exists_eq_right', ne_eq, eq_self, and_self, reduceCtorEq, false_and, and_false, or_false, false_or, Int.reduceEq, Int.reduceSub, Int.reduceAdd, Int.reduceMul, Nat.reduceMul]
      refine ⟨by omega, Lv, (hLv _ _ _).mpr ⟨_, _, _, _, _, rfl⟩, fun i d ρ ω2 hd hv => ?_, fun ρ ω2 hv => ?_⟩
      · replace hv := (hLv _ _ _).mp hv
        obtain ⟨x3, x4, x5, x6, x7, e2⟩ := hv
        subst e2
        obtain ⟨xs, ys, b, rfl, hb, rx, ry, lx, ly⟩ := all_cut h1 (k := 2) (by decide) d (List.mem_of_getElem? hd)
        have l1 : xs.length ≤ 300 := by omega
        have l2 : ys.length ≤ 300 := by omega
        have l3 : xs.length ≤ 20000 := by omega
        have le : wor b xs ≤ wor b xs := Int.le_refl _
        have nl : ¬ wor b xs < wor b xs := by omega
        have z0 : digs b (wor b xs - wor b xs) = [] := by rw [Int.sub_self]; exact digs_nil (Int.le_refl 0)
        have o1 : rOk (row []) = true := by decide
        have o2 : shownD (row []) = Str.ofString "()" := by decide
        simp -implicitDefEqProofs only [MR.sNil, MR.sSeq, MR.sDrop, MR.sRet_e, MR.sRet_f, MR.sRetN, MR.sBreak, MR.sCont, MR.sIf, MR.sSet, MR.sOwn, MR.sAsg, MR.sPar, MR.sAug, MR.sFrz, MR.sApp, MR.sPut, MR.sExt, MR.aName, MR.aTup, MR.aNil, MR.aCons, MR.frz,
        MR.gVar, MR.gC, MR.gOp, MR.gB, MR.bK, MR.gTru, MR.gNotT, MR.gAndT, MR.gOrT, MR.gAndV, MR.gOrV, MR.gNotV, MR.gIf, MR.gChain, MR.gNil, MR.gCons, MR.gTup, MR.gLst, MR.gFz, MR.gOwn, MR.gAsL, MR.gNo, MR.gPart, MR.gSl, MR.gSlF, MR.gUn, MR.gIxL, MR.gFn, MR.gLenL, MR.gYes,
        MR.fAddI, MR.fSub, MR.fDiv, MR.fMod, MR.fPow, MR.fLe, MR.fGt, MR.fGe, MR.fIs, MR.fIsN, MR.fNeg, MR.fMin, MR.fMax, MR.fDivmod, MR.fSum, MR.fAll, MR.fRepr, MR.fIsi, MR.tyD, MR.dInt, MR.dBool, MR.dTup, MR.dStr, MR.dLst,
        MR.gDkT, MR.gDkS, MR.gDkNe, MR.gDkPop, MR.sDkApp, MR.sDkPut, MR.gScr, MR.sDeck, MR.gCall, MR.sel, MR.sFor, MR.sForR1, MR.sForR2, MR.sWhile, MR.sForE, MR.sAugP, MR.gRepL, MR.gCatL, MR.gComp, MR.gCompR, MR.startA, MR.wipeA, MR.sNever, MR.gNever, MR.tNev, MR.sAsg2, MR.fMulS_str, MR.fIntS_str, MR.sParO, MR.sForG, MR.gCompG, MR.iSeqG, MR.iR1G, MR.iR2G, MR.iZipG, MR.iEnumG, MR.iEnumLG, MR.iRevG,
        MR.fTru_bl, MR.fTru_non, MR.fTru_int, MR.fTru_str, MR.fTru_lst, MR.fTru_tup, MR.fAdd_int, MR.fAdd_str, MR.fAdd_tup, MR.fAdd_lst, MR.fMul_int, MR.fMul_tup, MR.fMul_lst, MR.fEq_int, MR.fEq_str, MR.fEq_bl, MR.fEq_tup_tup, MR.fEq_tup_lst, MR.fEq_tup_int, MR.fEq_tup_non, MR.fEq_tup_str, MR.fEq_tup_bl, MR.fEq_lst_tup, MR.fEq_lst_lst, MR.fEq_lst_int, MR.fEq_lst_non, MR.fEq_lst_str, MR.fEq_lst_bl, MR.fEq_int_tup, MR.fEq_int_lst, MR.fEq_int_non, MR.fEq_int_str, MR.fEq_int_bl, MR.fEq_non_tup, MR.fEq_non_lst, MR.fEq_non_int, MR.fEq_non_non, MR.fEq_non_str, MR.fEq_non_bl, MR.fEq_str_tup, MR.fEq_str_lst, MR.fEq_str_int, MR.fEq_str_non, MR.fEq_str_bl, MR.fEq_bl_tup, MR.fEq_bl_lst, MR.fEq_bl_int, MR.fEq_bl_non, MR.fEq_bl_str, MR.fNe_int, MR.fNe_str, MR.fNe_bl, MR.fNe_tup_tup, MR.fNe_tup_lst, MR.fNe_tup_int, MR.fNe_tup_non, MR.fNe_tup_str, MR.fNe_tup_bl, MR.fNe_lst_tup, MR.fNe_lst_lst, MR.fNe_lst_int, MR.fNe_lst_non, MR.fNe_lst_str, MR.fNe_lst_bl, MR.fNe_int_tup, MR.fNe_int_lst, MR.fNe_int_non, MR.fNe_int_str, MR.fNe_int_bl, MR.fNe_non_tup, MR.fNe_non_lst, MR.fNe_non_int, MR.fNe_non_non, MR.fNe_non_str, MR.fNe_non_bl, MR.fNe_str_tup, MR.fNe_str_lst, MR.fNe_str_int, MR.fNe_str_non, MR.fNe_str_bl, MR.fNe_bl_tup, MR.fNe_bl_lst, MR.fNe_bl_int, MR.fNe_bl_non, MR.fNe_bl_str, MR.fLt_int, MR.fIx_tup, MR.fSl_tup, MR.fLen_tup, MR.fTuple_tup, MR.fRev_tup, MR.fIx_lst, MR.fSl_lst, MR.fLen_lst, MR.fTuple_lst, MR.fRev_lst, MR.fIx_str, MR.fSl_str, MR.fLen_str, MR.fInt_int, MR.fInt_bl,
        List.map_cons, List.map_nil, List.cons_append, List.nil_append, List.append_nil, List.length_cons, List.length_nil, List.replicate_succ, List.replicate_zero, List.set_cons_zero, List.set_cons_succ, List.getElem?_cons_zero, List.getElem?_cons_succ, List.getD_cons_zero, List.getD_cons_succ, Nat.reduceAdd, Nat.reduceSub, Nat.zero_add, Option.some.injEq, reduceIte, Bool.not_true, Bool.not_false, true_and, and_true, true_implies, false_implies, implies_true, MR.sRaise, MR.sTryAs, MR.sTry, MR.gIsE, PySem.W.kitAny, PySem.Value.ref.injEq, MR.sStar, MR.aSeq, MR.seqD, MR.gStp, List.take_succ_cons, List.take_zero, List.drop_succ_cons, List.drop_zero, MR.sl, MR.aFor_nil, MR.aComp_nil, Int.zero_add, MR.map_int_inj, MR.nil_map_int, MR.cons_map_int, List.map_eq_nil_iff, MR.eqOk_row, MR.eqOk_rowL, MR.eqOk_nil, MR.nil_eq, MR.nil_deq, MR.deq_row, MR.deq_rowL, MR.deq_nilr, MR.deq_nill, MR.deq_nils, MR.rng_zero, MR.isE_map, List.length_map, List.length_append, List.length_reverse,
        Nat.reduceLeDiff, Nat.reduceLT, Int.reduceLE, Int.reduceLT, Int.reducePow, Int.reduceNeg, Int.toNat_zero, Int.reduceToNat, Bool.not_eq_eq_eq_not, Bool.not_eq_true', decide_eq_false_iff_not, decide_eq_true_eq, Bool.false_eq_true, ite_not, ite_false, ite_true, decide_true, decide_false, not_true_eq_false, not_false_eq_true, List.cons.injEq, MR.D.tup.injEq, MR.D.lst.injEq, MR.D.int.injEq, MR.D.str.injEq, MR.D.bl.injEq, MR.D.adr.injEq, MR.Ent.d.injEq, MR.Ent.own.injEq, Option.some.injEq, Prod.mk.injEq, MR.fl_repx, List.length_replicate, exists_eq, exists_eq', and_assoc, exists_and_left, exists_and_right, exists_eq_left, exists_eq_left', exists_eq_right, exists_eq_right', ne_eq, eq_self, and_self, reduceCtorEq, false_and, and_false, or_false, false_or, Int.reduceEq, Int.reduceSub, Int.reduceAdd, Int.reduceMul, Nat.reduceMul, aSR, aLessX, hb, rx, ry, l1, l2, l3, le, nl, z0, o1, o2]
        exact (hLv _ _ _).mpr ⟨_, _, _, _, _, rfl⟩
      · replace hv := (hLv _ _ _).mp hv
        obtain ⟨x3, x4, x5, x6, x7, e2⟩ := hv
        subst e2
        have e0 : eqOk (D.lst []) = true := nil_eq
        have e1 : deq (D.lst []) (D.lst []) = true := nil_deq
        show N _ _
        rw [hN]
        clear hN
        simp -implicitDefEqProofs only [MR.sNil, MR.sSeq, MR.sDrop, MR.sRet_e, MR.sRet_f, MR.sRetN, MR.sBreak, MR.sCont, MR.sIf, MR.sSet, MR.sOwn, MR.sAsg, MR.sPar, MR.sAug, MR.sFrz, MR.sApp, MR.sPut, MR.sExt, MR.aName, MR.aTup, MR.aNil, MR.aCons, MR.frz,
        MR.gVar, MR.gC, MR.gOp, MR.gB, MR.bK, MR.gTru, MR.gNotT, MR.gAndT, MR.gOrT, MR.gAndV, MR.gOrV, MR.gNotV, MR.gIf, MR.gChain, MR.gNil, MR.gCons, MR.gTup, MR.gLst, MR.gFz, MR.gOwn, MR.gAsL, MR.gNo, MR.gPart, MR.gSl, MR.gSlF, MR.gUn, MR.gIxL, MR.gFn, MR.gLenL, MR.gYes,
        MR.fAddI, MR.fSub, MR.fDiv, MR.fMod, MR.fPow, MR.fLe, MR.fGt, MR.fGe, MR.fIs, MR.fIsN, MR.fNeg, MR.fMin, MR.fMax, MR.fDivmod, MR.fSum, MR.fAll, MR.fRepr, MR.fIsi, MR.tyD, MR.dInt, MR.dBool, MR.dTup, MR.dStr, MR.dLst,
        MR.gDkT, MR.gDkS, MR.gDkNe, MR.gDkPop, MR.sDkApp, MR.sDkPut, MR.gScr, MR.sDeck, MR.gCall, MR.sel, MR.sFor, MR.sForR1, MR.sForR2, MR.sWhile, MR.sForE, MR.sAugP, MR.gRepL, MR.gCatL, MR.gComp, MR.gCompR, MR.startA, MR.wipeA, MR.sNever, MR.gNever, MR.tNev, MR.sAsg2, MR.fMulS_str, MR.fIntS_str, MR.sParO, MR.sForG, MR.gCompG, MR.iSeqG, MR.iR1G, MR.iR2G, MR.iZipG, MR.iEnumG, MR.iEnumLG, MR.iRevG,
        MR.fTru_bl, MR.fTru_non, MR.fTru_int, MR.fTru_str, MR.fTru_lst, MR.fTru_tup, MR.fAdd_int, MR.fAdd_str, MR.fAdd_tup, MR.fAdd_lst, MR.fMul_int, MR.fMul_tup, MR.fMul_lst, MR.fEq_int, MR.fEq_str, MR.fEq_bl, MR.fEq_tup_tup, MR.fEq_tup_lst, MR.fEq_tup_int, MR.fEq_tup_non, MR.fEq_tup_str, MR.fEq_tup_bl, MR.fEq_lst_tup, MR.fEq_lst_lst, MR.fEq_lst_int, MR.fEq_lst_non, MR.fEq_lst_str, MR.fEq_lst_bl, MR.fEq_int_tup, MR.fEq_int_lst, MR.fEq_int_non, MR.fEq_int_str, MR.fEq_int_bl, MR.fEq_non_tup, MR.fEq_non_lst, MR.fEq_non_int, MR.fEq_non_non, MR.fEq_non_str, MR.fEq_non_bl, MR.fEq_str_tup, MR.fEq_str_lst, MR.fEq_str_int, MR.fEq_str_non, MR.fEq_str_bl, MR.fEq_bl_tup, MR.fEq_bl_lst, MR.fEq_bl_int, MR.fEq_bl_non, MR.fEq_bl_str, MR.fNe_int, MR.fNe_str, MR.fNe_bl, MR.fNe_tup_tup, MR.fNe_tup_lst, MR.fNe_tup_int, MR.fNe_tup_non, MR.fNe_tup_str, MR.fNe_tup_bl, MR.fNe_lst_tup, MR.fNe_lst_lst, MR.fNe_lst_int, MR.fNe_lst_non, MR.fNe_lst_str, MR.fNe_lst_bl, MR.fNe_int_tup, MR.fNe_int_lst, MR.fNe_int_non, MR.fNe_int_str, MR.fNe_int_bl, MR.fNe_non_tup, MR.fNe_non_lst, MR.fNe_non_int, MR.fNe_non_non, MR.fNe_non_str, MR.fNe_non_bl, MR.fNe_str_tup, MR.fNe_str_lst, MR.fNe_str_int, MR.fNe_str_non, MR.fNe_str_bl, MR.fNe_bl_tup, MR.fNe_bl_lst, MR.fNe_bl_int, MR.fNe_bl_non, MR.fNe_bl_str, MR.fLt_int, MR.fIx_tup, MR.fSl_tup, MR.fLen_tup, MR.fTuple_tup, MR.fRev_tup, MR.fIx_lst, MR.fSl_lst, MR.fLen_lst, MR.fTuple_lst, MR.fRev_lst, MR.fIx_str, MR.fSl_str, MR.fLen_str, MR.fInt_int, MR.fInt_bl,
        List.map_cons, List.map_nil, List.cons_append, List.nil_append, List.append_nil, List.length_cons, List.length_nil, List.replicate_succ, List.replicate_zero, List.set_cons_zero, List.set_cons_succ, List.getElem?_cons_zero, List.getElem?_cons_succ, List.getD_cons_zero, List.getD_cons_succ, Nat.reduceAdd, Nat.reduceSub, Nat.zero_add, Option.some.injEq, reduceIte, Bool.not_true, Bool.not_false, true_and, and_true, true_implies, false_implies, implies_true, MR.sRaise, MR.sTryAs, MR.sTry, MR.gIsE, PySem.W.kitAny, PySem.Value.ref.injEq, MR.sStar, MR.aSeq, MR.seqD, MR.gStp, List.take_succ_cons, List.take_zero, List.drop_succ_cons, List.drop_zero, MR.sl, MR.aFor_nil, MR.aComp_nil, Int.zero_add, MR.map_int_inj, MR.nil_map_int, MR.cons_map_int, List.map_eq_nil_iff, MR.eqOk_row, MR.eqOk_rowL, MR.eqOk_nil, MR.nil_eq, MR.nil_deq, MR.deq_row, MR.deq_rowL, MR.deq_nilr, MR.deq_nill, MR.deq_nils, MR.rng_zero, MR.isE_map, List.length_map, List.length_append, List.length_reverse,
        Nat.reduceLeDiff, Nat.reduceLT, Int.reduceLE, Int.reduceLT, Int.reducePow, Int.reduceNeg, Int.toNat_zero, Int.reduceToNat, Bool.not_eq_eq_eq_not, Bool.not_eq_true', decide_eq_false_iff_not, decide_eq_true_eq, Bool.false_eq_true, ite_not, ite_false, ite_true, decide_true, decide_false, not_true_eq_false, not_false_eq_true, List.cons.injEq, MR.D.tup.injEq, MR.D.lst.injEq, MR.D.int.injEq, MR.D.str.injEq, MR.D.bl.injEq, MR.D.adr.injEq, MR.Ent.d.injEq, MR.Ent.own.injEq, Option.some.injEq, Prod.mk.injEq, MR.fl_repx, List.length_replicate, exists_eq, exists_eq', and_assoc, exists_and_left, exists_and_right, exists_eq_left, exists_eq_left', exists_eq_right, exists_eq_right', ne_eq, eq_self, and_self, reduceCtorEq, false_and, and_false, or_false, false_or, Int.reduceEq, Int.reduceSub, Int.reduceAdd, Int.reduceMul, Nat.reduceMul]
        refine comp_no (by omega) ?_ (fun j d acc P hd hP => ?_)
        · simp -implicitDefEqProofs only [MR.sNil, MR.sSeq, MR.sDrop, MR.sRet_e, MR.sRet_f, MR.sRetN, MR.sBreak, MR.sCont, MR.sIf, MR.sSet, MR.sOwn, MR.sAsg, MR.sPar, MR.sAug, MR.sFrz, MR.sApp, MR.sPut, MR.sExt, MR.aName, MR.aTup, MR.aNil, MR.aCons, MR.frz,
        MR.gVar, MR.gC, MR.gOp, MR.gB, MR.bK, MR.gTru, MR.gNotT, MR.gAndT, MR.gOrT, MR.gAndV, MR.gOrV, MR.gNotV, MR.gIf, MR.gChain, MR.gNil, MR.gCons, MR.gTup, MR.gLst, MR.gFz, MR.gOwn, MR.gAsL, MR.gNo, MR.gPart, MR.gSl, MR.gSlF, MR.gUn, MR.gIxL, MR.gFn, MR.gLenL, MR.gYes,
        MR.fAddI, MR.fSub, MR.fDiv, MR.fMod, MR.fPow, MR.fLe, MR.fGt, MR.fGe, MR.fIs, MR.fIsN, MR.fNeg, MR.fMin, MR.fMax, MR.fDivmod, MR.fSum, MR.fAll, MR.fRepr, MR.fIsi, MR.tyD, MR.dInt, MR.dBool, MR.dTup, MR.dStr, MR.dLst,
        MR.gDkT, MR.gDkS, MR.gDkNe, MR.gDkPop, MR.sDkApp, MR.sDkPut, MR.gScr, MR.sDeck, MR.gCall, MR.sel, MR.sFor, MR.sForR1, MR.sForR2, MR.sWhile, MR.sForE, MR.sAugP, MR.gRepL, MR.gCatL, MR.gComp, MR.gCompR, MR.startA, MR.wipeA, MR.sNever, MR.gNever, MR.tNev, MR.sAsg2, MR.fMulS_str, MR.fIntS_str, MR.sParO, MR.sForG, MR.gCompG, MR.iSeqG, MR.iR1G, MR.iR2G, MR.iZipG, MR.iEnumG, MR.iEnumLG, MR.iRevG,
        MR.fTru_bl, MR.fTru_non, MR.fTru_int, MR.fTru_str, MR.fTru_lst, MR.fTru_tup, MR.fAdd_int, MR.fAdd_str, MR.fAdd_tup, MR.fAdd_lst, MR.fMul_int, MR.fMul_tup, MR.fMul_lst, MR.fEq_int, MR.fEq_str, MR.fEq_bl, MR.fEq_tup_tup, MR.fEq_tup_lst, MR.fEq_tup_int, MR.fEq_tup_non, MR.fEq_tup_str, MR.fEq_tup_bl, MR.fEq_lst_tup, MR.fEq_lst_lst, MR.fEq_lst_int, MR.fEq_lst_non, MR.fEq_lst_str, MR.fEq_lst_bl, MR.fEq_int_tup, MR.fEq_int_lst, MR.fEq_int_non, MR.fEq_int_str, MR.fEq_int_bl, MR.fEq_non_tup, MR.fEq_non_lst, MR.fEq_non_int, MR.fEq_non_non, MR.fEq_non_str, MR.fEq_non_bl, MR.fEq_str_tup, MR.fEq_str_lst, MR.fEq_str_int, MR.fEq_str_non, MR.fEq_str_bl, MR.fEq_bl_tup, MR.fEq_bl_lst, MR.fEq_bl_int, MR.fEq_bl_non, MR.fEq_bl_str, MR.fNe_int, MR.fNe_str, MR.fNe_bl, MR.fNe_tup_tup, MR.fNe_tup_lst, MR.fNe_tup_int, MR.fNe_tup_non, MR.fNe_tup_str, MR.fNe_tup_bl, MR.fNe_lst_tup, MR.fNe_lst_lst, MR.fNe_lst_int, MR.fNe_lst_non, MR.fNe_lst_str, MR.fNe_lst_bl, MR.fNe_int_tup, MR.fNe_int_lst, MR.fNe_int_non, MR.fNe_int_str, MR.fNe_int_bl, MR.fNe_non_tup, MR.fNe_non_lst, MR.fNe_non_int, MR.fNe_non_non, MR.fNe_non_str, MR.fNe_non_bl, MR.fNe_str_tup, MR.fNe_str_lst, MR.fNe_str_int, MR.fNe_str_non, MR.fNe_str_bl, MR.fNe_bl_tup, MR.fNe_bl_lst, MR.fNe_bl_int, MR.fNe_bl_non, MR.fNe_bl_str, MR.fLt_int, MR.fIx_tup, MR.fSl_tup, MR.fLen_tup, MR.fTuple_tup, MR.fRev_tup, MR.fIx_lst, MR.fSl_lst, MR.fLen_lst, MR.fTuple_lst, MR.fRev_lst, MR.fIx_str, MR.fSl_str, MR.fLen_str, MR.fInt_int, MR.fInt_bl,
        List.map_cons, List.map_nil, List.cons_append, List.nil_append, List.append_nil, List.length_cons, List.length_nil, List.replicate_succ, List.replicate_zero, List.set_cons_zero, List.set_cons_succ, List.getElem?_cons_zero, List.getElem?_cons_succ, List.getD_cons_zero, List.getD_cons_succ, Nat.reduceAdd, Nat.reduceSub, Nat.zero_add, Option.some.injEq, reduceIte, Bool.not_true, Bool.not_false, true_and, and_true, true_implies, false_implies, implies_true, MR.sRaise, MR.sTryAs, MR.sTry, MR.gIsE, PySem.W.kitAny, PySem.Value.ref.injEq, MR.sStar, MR.aSeq, MR.seqD, MR.gStp, List.take_succ_cons, List.take_zero, List.drop_succ_cons, List.drop_zero, MR.sl, MR.aFor_nil, MR.aComp_nil, Int.zero_add, MR.map_int_inj, MR.nil_map_int, MR.cons_map_int, List.map_eq_nil_iff, MR.eqOk_row, MR.eqOk_rowL, MR.eqOk_nil, MR.nil_eq, MR.nil_deq, MR.deq_row, MR.deq_rowL, MR.deq_nilr, MR.deq_nill, MR.deq_nils, MR.rng_zero, MR.isE_map, List.length_map, List.length_append, List.length_reverse,
        Nat.reduceLeDiff, Nat.reduceLT, Int.reduceLE, Int.reduceLT, Int.reducePow, Int.reduceNeg, Int.toNat_zero, Int.reduceToNat, Bool.not_eq_eq_eq_not, Bool.not_eq_true', decide_eq_false_iff_not, decide_eq_true_eq, Bool.false_eq_true, ite_not, ite_false, ite_true, decide_true, decide_false, not_true_eq_false, not_false_eq_true, List.cons.injEq, MR.D.tup.injEq, MR.D.lst.injEq, MR.D.int.injEq, MR.D.str.injEq, MR.D.bl.injEq, MR.D.adr.injEq, MR.Ent.d.injEq, MR.Ent.own.injEq, Option.some.injEq, Prod.mk.injEq, MR.fl_repx, List.length_replicate, exists_eq, exists_eq', and_assoc, exists_and_left, exists_and_right, exists_eq_left, exists_eq_left', exists_eq_right, exists_eq_right', ne_eq, eq_self, and_self, reduceCtorEq, false_and, and_false, or_false, false_or, Int.reduceEq, Int.reduceSub, Int.reduceAdd, Int.reduceMul, Nat.reduceMul, e0, e1]
          exact q _
        · obtain ⟨xs, ys, b, rfl, hb, rx, ry, lx, ly⟩ := h1 d (List.mem_of_getElem? hd)
          have nl : ¬ wor b xs < wor b xs := by omega
          simp -implicitDefEqProofs only [MR.sNil, MR.sSeq, MR.sDrop, MR.sRet_e, MR.sRet_f, MR.sRetN, MR.sBreak, MR.sCont, MR.sIf, MR.sSet, MR.sOwn, MR.sAsg, MR.sPar, MR.sAug, MR.sFrz, MR.sApp, MR.sPut, MR.sExt, MR.aName, MR.aTup, MR.aNil, MR.aCons, MR.frz,
        MR.gVar, MR.gC, MR.gOp, MR.gB, MR.bK, MR.gTru, MR.gNotT, MR.gAndT, MR.gOrT, MR.gAndV, MR.gOrV, MR.gNotV, MR.gIf, MR.gChain, MR.gNil, MR.gCons, MR.gTup, MR.gLst, MR.gFz, MR.gOwn, MR.gAsL, MR.gNo, MR.gPart, MR.gSl, MR.gSlF, MR.gUn, MR.gIxL, MR.gFn, MR.gLenL, MR.gYes,
        MR.fAddI, MR.fSub, MR.fDiv, MR.fMod, MR.fPow, MR.fLe, MR.fGt, MR.fGe, MR.fIs, MR.fIsN, MR.fNeg, MR.fMin, MR.fMax, MR.fDivmod, MR.fSum, MR.fAll, MR.fRepr, MR.fIsi, MR.tyD, MR.dInt, MR.dBool, MR.dTup, MR.dStr, MR.dLst,
        MR.gDkT, MR.gDkS, MR.gDkNe, MR.gDkPop, MR.sDkApp, MR.sDkPut, MR.gScr, MR.sDeck, MR.gCall, MR.sel, MR.sFor, MR.sForR1, MR.sForR2, MR.sWhile, MR.sForE, MR.sAugP, MR.gRepL, MR.gCatL, MR.gComp, MR.gCompR, MR.startA, MR.wipeA, MR.sNever, MR.gNever, MR.tNev, MR.sAsg2, MR.fMulS_str, MR.fIntS_str, MR.sParO, MR.sForG, MR.gCompG, MR.iSeqG, MR.iR1G, MR.iR2G, MR.iZipG, MR.iEnumG, MR.iEnumLG, MR.iRevG,
        MR.fTru_bl, MR.fTru_non, MR.fTru_int, MR.fTru_str, MR.fTru_lst, MR.fTru_tup, MR.fAdd_int, MR.fAdd_str, MR.fAdd_tup, MR.fAdd_lst, MR.fMul_int, MR.fMul_tup, MR.fMul_lst, MR.fEq_int, MR.fEq_str, MR.fEq_bl, MR.fEq_tup_tup, MR.fEq_tup_lst, MR.fEq_tup_int, MR.fEq_tup_non, MR.fEq_tup_str, MR.fEq_tup_bl, MR.fEq_lst_tup, MR.fEq_lst_lst, MR.fEq_lst_int, MR.fEq_lst_non, MR.fEq_lst_str, MR.fEq_lst_bl, MR.fEq_int_tup, MR.fEq_int_lst, MR.fEq_int_non, MR.fEq_int_str, MR.fEq_int_bl, MR.fEq_non_tup, MR.fEq_non_lst, MR.fEq_non_int, MR.fEq_non_non, MR.fEq_non_str, MR.fEq_non_bl, MR.fEq_str_tup, MR.fEq_str_lst, MR.fEq_str_int, MR.fEq_str_non, MR.fEq_str_bl, MR.fEq_bl_tup, MR.fEq_bl_lst, MR.fEq_bl_int, MR.fEq_bl_non, MR.fEq_bl_str, MR.fNe_int, MR.fNe_str, MR.fNe_bl, MR.fNe_tup_tup, MR.fNe_tup_lst, MR.fNe_tup_int, MR.fNe_tup_non, MR.fNe_tup_str, MR.fNe_tup_bl, MR.fNe_lst_tup, MR.fNe_lst_lst, MR.fNe_lst_int, MR.fNe_lst_non, MR.fNe_lst_str, MR.fNe_lst_bl, MR.fNe_int_tup, MR.fNe_int_lst, MR.fNe_int_non, MR.fNe_int_str, MR.fNe_int_bl, MR.fNe_non_tup, MR.fNe_non_lst, MR.fNe_non_int, MR.fNe_non_non, MR.fNe_non_str, MR.fNe_non_bl, MR.fNe_str_tup, MR.fNe_str_lst, MR.fNe_str_int, MR.fNe_str_non, MR.fNe_str_bl, MR.fNe_bl_tup, MR.fNe_bl_lst, MR.fNe_bl_int, MR.fNe_bl_non, MR.fNe_bl_str, MR.fLt_int, MR.fIx_tup, MR.fSl_tup, MR.fLen_tup, MR.fTuple_tup, MR.fRev_tup, MR.fIx_lst, MR.fSl_lst, MR.fLen_lst, MR.fTuple_lst, MR.fRev_lst, MR.fIx_str, MR.fSl_str, MR.fLen_str, MR.fInt_int, MR.fInt_bl,
        List.map_cons, List.map_nil, List.cons_append, List.nil_append, List.append_nil, List.length_cons, List.length_nil, List.replicate_succ, List.replicate_zero, List.set_cons_zero, List.set_cons_succ, List.getElem?_cons_zero, List.getElem?_cons_succ, List.getD_cons_zero, List.getD_cons_succ, Nat.reduceAdd, Nat.reduceSub, Nat.zero_add, Option.some.injEq, reduceIte, Bool.not_true, Bool.not_false, true_and, and_true, true_implies, false_implies, implies_true, MR.sRaise, MR.sTryAs, MR.sTry, MR.gIsE, PySem.W.kitAny, PySem.Value.ref.injEq, MR.sStar, MR.aSeq, MR.seqD, MR.gStp, List.take_succ_cons, List.take_zero, List.drop_succ_cons, List.drop_zero, MR.sl, MR.aFor_nil, MR.aComp_nil, Int.zero_add, MR.map_int_inj, MR.nil_map_int, MR.cons_map_int, List.map_eq_nil_iff, MR.eqOk_row, MR.eqOk_rowL, MR.eqOk_nil, MR.nil_eq, MR.nil_deq, MR.deq_row, MR.deq_rowL, MR.deq_nilr, MR.deq_nill, MR.deq_nils, MR.rng_zero, MR.isE_map, List.length_map, List.length_append, List.length_reverse,
        Nat.reduceLeDiff, Nat.reduceLT, Int.reduceLE, Int.reduceLT, Int.reducePow, Int.reduceNeg, Int.toNat_zero, Int.reduceToNat, Bool.not_eq_eq_eq_not, Bool.not_eq_true', decide_eq_false_iff_not, decide_eq_true_eq, Bool.false_eq_true, ite_not, ite_false, ite_true, decide_true, decide_false, not_true_eq_false, not_false_eq_true, List.cons.injEq, MR.D.tup.injEq, MR.D.lst.injEq, MR.D.int.injEq, MR.D.str.injEq, MR.D.bl.injEq, MR.D.adr.injEq, MR.Ent.d.injEq, MR.Ent.own.injEq, Option.some.injEq, Prod.mk.injEq, MR.fl_repx, List.length_replicate, exists_eq, exists_eq', and_assoc, exists_and_left, exists_and_right, exists_eq_left, exists_eq_left', exists_eq_right, exists_eq_right', ne_eq, eq_self, and_self, reduceCtorEq, false_and, and_false, or_false, false_or, Int.reduceEq, Int.reduceSub, Int.reduceAdd, Int.reduceMul, Nat.reduceMul, aIsLess]
          refine ⟨b, hb.1, rx, rx, ?_⟩
          simp -implicitDefEqProofs only [MR.sNil, MR.sSeq, MR.sDrop, MR.sRet_e, MR.sRet_f, MR.sRetN, MR.sBreak, MR.sCont, MR.sIf, MR.sSet, MR.sOwn, MR.sAsg, MR.sPar, MR.sAug, MR.sFrz, MR.sApp, MR.sPut, MR.sExt, MR.aName, MR.aTup, MR.aNil, MR.aCons, MR.frz,
        MR.gVar, MR.gC, MR.gOp, MR.gB, MR.bK, MR.gTru, MR.gNotT, MR.gAndT, MR.gOrT, MR.gAndV, MR.gOrV, MR.gNotV, MR.gIf, MR.gChain, MR.gNil, MR.gCons, MR.gTup, MR.gLst, MR.gFz, MR.gOwn, MR.gAsL, MR.gNo, MR.gPart, MR.gSl, MR.gSlF, MR.gUn, MR.gIxL, MR.gFn, MR.gLenL, MR.gYes,
        MR.fAddI, MR.fSub, MR.fDiv, MR.fMod, MR.fPow, MR.fLe, MR.fGt, MR.fGe, MR.fIs, MR.fIsN, MR.fNeg, MR.fMin, MR.fMax, MR.fDivmod, MR.fSum, MR.fAll, MR.fRepr, MR.fIsi, MR.tyD, MR.dInt, MR.dBool, MR.dTup, MR.dStr, MR.dLst,
        MR.gDkT, MR.gDkS, MR.gDkNe, MR.gDkPop, MR.sDkApp, MR.sDkPut, MR.gScr, MR.sDeck, MR.gCall, MR.sel, MR.sFor, MR.sForR1, MR.sForR2, MR.sWhile, MR.sForE, MR.sAugP, MR.gRepL, MR.gCatL, MR.gComp, MR.gCompR, MR.startA, MR.wipeA, MR.sNever, MR.gNever, MR.tNev, MR.sAsg2, MR.fMulS_str, MR.fIntS_str, MR.sParO, MR.sForG, MR.gCompG, MR.iSeqG, MR.iR1G, MR.iR2G, MR.iZipG, MR.iEnumG, MR.iEnumLG, MR.iRevG,
        MR.fTru_bl, MR.fTru_non, MR.fTru_int, MR.fTru_str, MR.fTru_lst, MR.fTru_tup, MR.fAdd_int, MR.fAdd_str, MR.fAdd_tup, MR.fAdd_lst, MR.fMul_int, MR.fMul_tup, MR.fMul_lst, MR.fEq_int, MR.fEq_str, MR.fEq_bl, MR.fEq_tup_tup, MR.fEq_tup_lst, MR.fEq_tup_int, MR.fEq_tup_non, MR.fEq_tup_str, MR.fEq_tup_bl, MR.fEq_lst_tup, MR.fEq_lst_lst, MR.fEq_lst_int, MR.fEq_lst_non, MR.fEq_lst_str, MR.fEq_lst_bl, MR.fEq_int_tup, MR.fEq_int_lst, MR.fEq_int_non, MR.fEq_int_str, MR.fEq_int_bl, MR.fEq_non_tup, MR.fEq_non_lst, MR.fEq_non_int, MR.fEq_non_non, MR.fEq_non_str, MR.fEq_non_bl, MR.fEq_str_tup, MR.fEq_str_lst, MR.fEq_str_int, MR.fEq_str_non, MR.fEq_str_bl, MR.fEq_bl_tup, MR.fEq_bl_lst, MR.fEq_bl_int, MR.fEq_bl_non, MR.fEq_bl_str, MR.fNe_int, MR.fNe_str, MR.fNe_bl, MR.fNe_tup_tup, MR.fNe_tup_lst, MR.fNe_tup_int, MR.fNe_tup_non, MR.fNe_tup_str, MR.fNe_tup_bl, MR.fNe_lst_tup, MR.fNe_lst_lst, MR.fNe_lst_int, MR.fNe_lst_non, MR.fNe_lst_str, MR.fNe_lst_bl, MR.fNe_int_tup, MR.fNe_int_lst, MR.fNe_int_non, MR.fNe_int_str, MR.fNe_int_bl, MR.fNe_non_tup, MR.fNe_non_lst, MR.fNe_non_int, MR.fNe_non_non, MR.fNe_non_str, MR.fNe_non_bl, MR.fNe_str_tup, MR.fNe_str_lst, MR.fNe_str_int, MR.fNe_str_non, MR.fNe_str_bl, MR.fNe_bl_tup, MR.fNe_bl_lst, MR.fNe_bl_int, MR.fNe_bl_non, MR.fNe_bl_str, MR.fLt_int, MR.fIx_tup, MR.fSl_tup, MR.fLen_tup, MR.fTuple_tup, MR.fRev_tup, MR.fIx_lst, MR.fSl_lst, MR.fLen_lst, MR.fTuple_lst, MR.fRev_lst, MR.fIx_str, MR.fSl_str, MR.fLen_str, MR.fInt_int, MR.fInt_bl,
        List.map_cons, List.map_nil, List.cons_append, List.nil_append, List.append_nil, List.length_cons, List.length_nil, List.replicate_succ, List.replicate_zero, List.set_cons_zero, List.set_cons_succ, List.getElem?_cons_zero, List.getElem?_cons_succ, List.getD_cons_zero, List.getD_cons_succ, Nat.reduceAdd, Nat.reduceSub, Nat.zero_add, Option.some.injEq, reduceIte, Bool.not_true, Bool.not_false, true_and, and_true, true_implies, false_implies, implies_true, MR.sRaise, MR.sTryAs, MR.sTry, MR.gIsE, PySem.W.kitAny, PySem.Value.ref.injEq, MR.sStar, MR.aSeq, MR.seqD, MR.gStp, List.take_succ_cons, List.take_zero, List.drop_succ_cons, List.drop_zero, MR.sl, MR.aFor_nil, MR.aComp_nil, Int.zero_add, MR.map_int_inj, MR.nil_map_int, MR.cons_map_int, List.map_eq_nil_iff, MR.eqOk_row, MR.eqOk_rowL, MR.eqOk_nil, MR.nil_eq, MR.nil_deq, MR.deq_row, MR.deq_rowL, MR.deq_nilr, MR.deq_nill, MR.deq_nils, MR.rng_zero, MR.isE_map, List.length_map, List.length_append, List.length_reverse,
        Nat.reduceLeDiff, Nat.reduceLT, Int.reduceLE, Int.reduceLT, Int.reducePow, Int.reduceNeg, Int.toNat_zero, Int.reduceToNat, Bool.not_eq_eq_eq_not, Bool.not_eq_true', decide_eq_false_iff_not, decide_eq_true_eq, Bool.false_eq_true, ite_not, ite_false, ite_true, decide_true, decide_false, not_true_eq_false, not_false_eq_true, List.cons.injEq, MR.D.tup.injEq, MR.D.lst.injEq, MR.D.int.injEq, MR.D.str.injEq, MR.D.bl.injEq, MR.D.adr.injEq, MR.Ent.d.injEq, MR.Ent.own.injEq, Option.some.injEq, Prod.mk.injEq, MR.fl_repx, List.length_replicate, exists_eq, exists_eq', and_assoc, exists_and_left, exists_and_right, exists_eq_left, exists_eq_left', exists_eq_right, exists_eq_right', ne_eq, eq_self, and_self, reduceCtorEq, false_and, and_false, or_false, false_or, Int.reduceEq, Int.reduceSub, Int.reduceAdd, Int.reduceMul, Nat.reduceMul, nl]
          first | exact hP | exact ⟨rfl, hP⟩
  exact ok
end
abbrev R : PySem.W.OpenRow := PySem.W.OpenLaw.row PySem.Challenge.rw_manyroads_k09_sums_and_differences
def bs : List FB := ([excTB "TooGreat", exmFB "TooGreat" "TooGreat" true, kitFB "TooGreat" (fun K => .ref (He.ga K "NoBack")) false, kitFB "TooGreat" (fun K => .ref (He.ga K "NoDeed")) false, kitFB "TooGreat" (fun K => .ref (He.ga K "NoName")) false, kitFB "TooGreat" (fun K => .ref (He.ga K "NoQuotient")) false, kitFB "TooGreat" (fun K => .ref (He.ga K "NoRing")) false, kitFB "TooGreat" (fun K => .ref (He.ga K "NoRoad")) false, kitFB "TooGreat" (fun K => .ref (He.ga K "NoRow")) false, kitFB "TooGreat" (fun K => .ref (He.ga K "NoShare")) false, kitFB "TooGreat" (fun K => .ref (He.ga K "NoText")) false, kitFB "TooGreat" (fun K => .ref (He.ga K "NotSame")) false, kitFB "TooGreat" (fun K => .ref (He.ga K "Taken")) false, kitFB "TooGreat" (fun K => .ref (He.ga K "RoadError")) true, kitFB "TooGreat" (fun K => .type "ArithmeticError") true] : List FB)
abbrev hk : PySem.W.Hook := hookB 4 fa fn bs
def ob (s : PySem.W.SharedT) : Bool × He.AlD := obB 4 fa fn bs (HandSHeadRun.getT s)
theorem ob_eq (s : PySem.W.SharedT) : ob s = hk.obs s.abs := obB_eq (HandSHeadRun.getT_eq s)
def others : List PySem.Str := (["without_noughts", "limb_at", "is_less", "summed", "lessened", "_law_deck", "_law_draw", "_law_any_base", "_law_row", "_law_long_row", "_law_worth", "_law_row_of", "_law_power", "_law_near", "_law_is_refused", "_law_differs_right", "_law_right", "BASE", "RoadError", "NoText", "TooGreat", "NoQuotient", "NoRing", "NoDeed", "NotSame", "NoRoad", "NoShare", "NoName", "Taken", "NoRow"] : List PySem.Str) ++ (["NoBack"] : List PySem.Str)
theorem run (w : World) : HandSHeadRun.RunEq R (PySem.W.view R.prog [34]) hk ob 4000 others w := by
  intro os
  kernel_rfl
theorem facts {w : World} {K : PySem.W.Frag} {h : Heap} {mg : Str → Option Value} {f : Addr} (X : K.In h) (G : h.Ns mainGlobals mg) (hfa : mg ("law" : Str) = some (.ref f)) (c : He.SaysD fa fn K) (cb : bsAll bs K = true) :
    ∃ fd : FuncData, (∀ (s : Shared) (v : Value), BindsTo s fd ⟨[v], []⟩ [("_law_script", v)]) ∧ ∀ base : Heap, K.In base → base.Ns mainGlobals mg → FnG PR w K mg base CX0 6 f fd ["_law_script"] (toSp DWd K 1 aLaw) := by
  have t : T K mg := ⟨c.def_ 0 (d := d__law_deck) rfl,
    He.glo_ok X G (c.fact 0 (f := .glo "_law_deck") rfl),
    c.def_ 1 (d := d__law_draw) rfl,
    He.glo_ok X G (c.fact 1 (f := .glo "_law_draw") rfl),
    c.def_ 2 (d := d__law_any_base) rfl,
    He.glo_ok X G (c.fact 2 (f := .glo "_law_any_base") rfl),
    c.def_ 3 (d := d__law_row) rfl,
    He.glo_ok X G (c.fact 3 (f := .glo "_law_row") rfl),
    c.def_ 4 (d := d__law_long_row) rfl,
    He.glo_ok X G (c.fact 4 (f := .glo "_law_long_row") rfl),
    c.def_ 5 (d := d__law_worth) rfl,
    He.glo_ok X G (c.fact 5 (f := .glo "_law_worth") rfl),
    c.def_ 6 (d := d__law_row_of) rfl,
    He.glo_ok X G (c.fact 6 (f := .glo "_law_row_of") rfl),
    c.def_ 7 (d := d__law_power) rfl,
    He.glo_ok X G (c.fact 7 (f := .glo "_law_power") rfl),
    c.def_ 8 (d := d__law_near) rfl,
    He.glo_ok X G (c.fact 8 (f := .glo "_law_near") rfl),
    c.def_ 9 (d := d_is_less) rfl,
    He.glo_ok X G (c.fact 9 (f := .glo "is_less") rfl),
    c.def_ 10 (d := d_without_noughts) rfl,
    He.glo_ok X G (c.fact 10 (f := .glo "without_noughts") rfl),
    c.def_ 11 (d := d_limb_at) rfl,
    He.glo_ok X G (c.fact 11 (f := .glo "limb_at") rfl),
    c.def_ 12 (d := d_lessened) rfl,
    He.glo_ok X G (c.fact 12 (f := .glo "lessened") rfl),
    c.def_ 13 (d := d__law_is_refused) rfl,
    He.glo_ok X G (c.fact 13 (f := .glo "_law_is_refused") rfl),
    c.def_ 14 (d := d__law_differs_right) rfl,
    He.glo_ok X G (c.fact 14 (f := .glo "_law_differs_right") rfl),
    c.def_ 15 (d := d_summed) rfl,
    He.glo_ok X G (c.fact 15 (f := .glo "summed") rfl),
    c.def_ 16 (d := d__law_right) rfl,
    He.glo_ok X G (c.fact 16 (f := .glo "_law_right") rfl),
    c.def_ 17 (d := d_law) rfl,
    He.glo_ok X G (c.fact 17 (f := .glo "law") rfl),
    He.free_ok X G (c.fact 18 (f := .free "ArithmeticError") rfl),
    He.free_ok X G (c.fact 19 (f := .free "divmod") rfl),
    He.free_ok X G (c.fact 20 (f := .free "enumerate") rfl),
    He.free_ok X G (c.fact 21 (f := .free "int") rfl),
    He.free_ok X G (c.fact 22 (f := .free "isinstance") rfl),
    He.free_ok X G (c.fact 23 (f := .free "len") rfl),
    He.free_ok X G (c.fact 24 (f := .free "list") rfl),
    He.free_ok X G (c.fact 25 (f := .free "max") rfl),
    He.free_ok X G (c.fact 26 (f := .free "min") rfl),
    He.free_ok X G (c.fact 27 (f := .free "range") rfl),
    He.free_ok X G (c.fact 28 (f := .free "repr") rfl),
    He.free_ok X G (c.fact 29 (f := .free "sum") rfl),
    He.free_ok X G (c.fact 30 (f := .free "tuple") rfl),
    He.int_ok X G (c.fact 31 (f := .int "BASE" 10) rfl),
    He.glo_ok X G (c.fact 32 (f := .glo "RoadError") rfl),
    He.glo_ok X G (c.fact 33 (f := .glo "NoText") rfl),
    He.glo_ok X G (c.fact 34 (f := .glo "TooGreat") rfl),
    He.glo_ok X G (c.fact 35 (f := .glo "NoQuotient") rfl),
    He.glo_ok X G (c.fact 36 (f := .glo "NoRing") rfl),
    He.glo_ok X G (c.fact 37 (f := .glo "NoDeed") rfl),
    He.glo_ok X G (c.fact 38 (f := .glo "NotSame") rfl),
    He.glo_ok X G (c.fact 39 (f := .glo "NoRoad") rfl),
    He.glo_ok X G (c.fact 40 (f := .glo "NoShare") rfl),
    He.glo_ok X G (c.fact 41 (f := .glo "NoName") rfl),
    He.glo_ok X G (c.fact 42 (f := .glo "Taken") rfl),
    He.glo_ok X G (c.fact 43 (f := .glo "NoRow") rfl),
    He.glo_ok X G (c.fact 44 (f := .glo "NoBack") rfl),
    excT_ok (bs_at cb 0 (f := excTB "TooGreat") rfl),
    exm_ok2 (bs_at cb 1 (f := exmFB "TooGreat" "TooGreat" true) rfl),
    kit_ok (bs_at cb 2 (f := kitFB "TooGreat" (fun K => .ref (He.ga K "NoBack")) false) rfl),
    kit_ok (bs_at cb 3 (f := kitFB "TooGreat" (fun K => .ref (He.ga K "NoDeed")) false) rfl),
    kit_ok (bs_at cb 4 (f := kitFB "TooGreat" (fun K => .ref (He.ga K "NoName")) false) rfl),
    kit_ok (bs_at cb 5 (f := kitFB "TooGreat" (fun K => .ref (He.ga K "NoQuotient")) false) rfl),
    kit_ok (bs_at cb 6 (f := kitFB "TooGreat" (fun K => .ref (He.ga K "NoRing")) false) rfl),
    kit_ok (bs_at cb 7 (f := kitFB "TooGreat" (fun K => .ref (He.ga K "NoRoad")) false) rfl),
    kit_ok (bs_at cb 8 (f := kitFB "TooGreat" (fun K => .ref (He.ga K "NoRow")) false) rfl),
    kit_ok (bs_at cb 9 (f := kitFB "TooGreat" (fun K => .ref (He.ga K "NoShare")) false) rfl),
    kit_ok (bs_at cb 10 (f := kitFB "TooGreat" (fun K => .ref (He.ga K "NoText")) false) rfl),
    kit_ok (bs_at cb 11 (f := kitFB "TooGreat" (fun K => .ref (He.ga K "NotSame")) false) rfl),
    kit_ok (bs_at cb 12 (f := kitFB "TooGreat" (fun K => .ref (He.ga K "Taken")) false) rfl),
    kit_ok (bs_at cb 13 (f := kitFB "TooGreat" (fun K => .ref (He.ga K "RoadError")) true) rfl),
    kit_ok (bs_at cb 14 (f := kitFB "TooGreat" (fun K => .type "ArithmeticError") true) rfl)⟩
  have e := hfa.symm.trans t.g_law
  cases e
  obtain ⟨fd, F⟩ := t.f_law
  have b := FunD.bindsA (ps := ["_law_script"]) F fun _ _ _ _ _ _ us hl => match us, hl with | [_], _ => rfl
  refine ⟨fd, fun s v => b s [v] rfl, fun base _ _ => ?_⟩
  obtain ⟨fd2, F2, q⟩ := kn_law (w := w) (base := base) t
  obtain rfl : fd = fd2 := fund_same F F2
  exact q
end MR.Lk09
open PySem PySem.W PySem.Calls PyProof.Rows
theorem PySem.Challenge.cw_manyroads_k09_sums_and_differences_holds : PySem.Challenge.rw_manyroads_k09_sums_and_differences.Holds := by
  w_on; o_law
  refine HandSHeadRun.head_any (r := OpenLaw.row PySem.Challenge.rw_manyroads_k09_sums_and_differences) (q := view (OpenLaw.row PySem.Challenge.rw_manyroads_k09_sums_and_differences).prog [34]) (H := MR.Lk09.hk) (ob := MR.Lk09.ob) (M := 4000) (loose := MR.Lk09.others) (d := HandSHeadRun.topDef (OpenLaw.row PySem.Challenge.rw_manyroads_k09_sums_and_differences).prog 34) (kwd := []) MR.Lk09.ob_eq
    (by kernel_rfl) (fun s => by kernel_rfl) MR.Lk09.run (by kernel_rfl) (by kernel_rfl) (by kernel_rfl) (by rfl) (by first | assumption | decide +kernel) (by decide +kernel) ⟨rfl, rfl, rfl, rfl, rfl, by decide +kernel⟩ ?hw ?hc
  case hw => w_witness2
  case hc =>
    refine MR.walk_toE (l := PySem.Challenge.rw_manyroads_k09_sums_and_differences) (n := 63) (k := 6) (x := "_law_script") rfl (by decide) (by kernel_rfl) ⟨rfl, by decide, by decide⟩ ?F
    intro w mg fa h Y G hmg0
    obtain ⟨K, KX, c, cb⟩ := Y
    have hmg : mg ("law" : PySem.Str) = some (.ref fa) := by
      have e : (HandSHeadRun.topDef (OpenLaw.row PySem.Challenge.rw_manyroads_k09_sums_and_differences).prog 34).name = ("law" : PySem.Str) := by kernel_rfl
      rw [← e]
      exact hmg0
    obtain ⟨fd, hb, hF⟩ := MR.Lk09.facts (w := w) KX G hmg c cb
    exact ⟨K, fd, MR.toSp MR.DWd K 1 MR.aLaw, KX, hb, fun H a ns hl hS => MR.law_sp hl hS, hF⟩
