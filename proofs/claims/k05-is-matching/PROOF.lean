import PyProof.Rows.All
import Wide.All
import OpenK.AllK
import Wide.FinOn
import HandS.ForMost
import HandS.ForExc
import HandS.CallSlots
import HandS.Defaults
import HandS.TupAny
import HandS.TupMul
import HandS.Wide
import HandS.Style
import HandS.Deep
import HandS.Flow
import HandS.IsInst
import HandS.Text
import HandS.Replace
import HandS.SetFor
import HandS.StrMore
import HandS.SortInts
import PyProof.Rows.SortShellAny
import PyProof.CollectStr
import PyProof.ReprRoads
import HandS.Zip
import KE.KRevSl
import HandS.HeadEnd
import HandS.Head0
import HandS.Head1
import HandS.Head2
import HandS.HeadHook1
import HandS.HeadHook2
import HandS.HeadHook3
import HandS.HeadHook4
import PyProof.WalksMore
import PyProof.StrWalks
import PyProof.Walks
import KE.GoesEnumKw
import HandS.SetKeys
import HandS.Strs
import HandS.DictComp
import HandS.Star
import KE.GoesMore
import HandS.Dict
import HandS.Property
import HandS.HeadNt
import PyProof.ListStr
import PyProof.Rows.StrMul
import PyProof.StrLawsIn
import PyProof.EqAt
import KE.KUnpackStar
import HandS.Codes
import HandS.ExcInit
import HandS.ExcField
import HandS.TryMany
import PyProof.Rows.StrSplitJoin
import PyProof.Rows.StrSplitAre
import PyProof.ReprLen
import PySem.Challenge.RW_lastchoicefirst_k05_is_matching
set_option Elab.async false
set_option linter.all false
set_option maxRecDepth 100000
set_option maxHeartbeats 4000000
set_option autoImplicit false
/-! DlA0: new tuples, known as the objects that they are (no dict of their own). -/
namespace DL
open PySem PySem.Spec PyProof.Rows L2
/-- a tuple's object has no dict -/
def NoD (K : PySem.W.Frag) (H : Hp) (a : Addr) : Prop := (∃ o u, H a = some (.frz o u) ∧ o.dict = none) ∨ ∃ o, K.lookup a = some o ∧ o.dict = none
def SqN (K : PySem.W.Frag) (H : Hp) (a : Addr) (xs : List V) : Prop := SqT K H a xs ∧ NoD K H a
theorem SqN.of {K : PySem.W.Frag} {H : Hp} {a : Addr} {xs : List V} {o : Obj} (h : H a = some (.frz o (.tup xs))) (d : o.dict = none) : SqN K H a xs := ⟨.inl (.inr ⟨o, h⟩), .inl ⟨o, _, h, d⟩⟩
section
variable {X : Cx}
theorem SqN.dict {pins : List (Addr × Obj)} {σ : L2.St} {H : Hp} {s : Shared} {a : Addr} {xs : List V} (I : Inv X pins σ H s) (h : SqN X.K H a xs) : ∃ ob, s.heap.get? a = some ob ∧ ob.dict = none := by
  rcases h.2 with ⟨o, u, e, d⟩ | ⟨o, e, d⟩
  · exact ⟨o, (I.hok a _ e).1, d⟩
  · exact ⟨o, I.kIn _ _ e, d⟩
/-- a new tuple, laid as the object that it is -/
theorem new_frz {pins : List (Addr × Obj)} {σ : L2.St} {H : Hp} {s : Shared} {us : List Value} {xs : List V} {t' : Nat} (I : Inv X pins σ H s) (r : Vals xs us) (z : xs.length ≤ sizeLine) :
    Inv X pins σ (upd H s.heap.objs.size (.frz { cls := .type "tuple", data := .seq us.toArray } (.tup xs))) { s with heap := s.heap.push { cls := .type "tuple", data := .seq us.toArray }, toks := t' } :=
  I.laid (t' := t') (fun b u e => Heap.get?_push_of_some _ e) (Nat.le_refl _) ⟨Heap.get?_push_size _ rfl, z, us, r, ⟨_, Heap.get?_push_size _ rfl, rfl, _, rfl⟩⟩
/-- what is wanted of a new tuple of xs -/
abbrev NewN (H : Hp) (xs : List V) (Q : VK) : Prop := ∀ p, H p = none → ∀ o : Obj, o.dict = none → Q (.ref p) (upd H p (.frz o (.tup xs)))
def tTupN (t : TA) : TE := fun σ H Q => t σ H fun xs H1 => xs.length ≤ sizeLine ∧ NewN H1 xs Q
theorem pe_tupN {es : List Expr} {t : TA} {k : Nat} {pos : Pos} (h : PA X es t) : PE X (.Tuple es k pos) (tTupN t) := by
  refine ⟨fun pins s σ H Q I hq => ?_⟩
  refine wpAny_Tuple_spliced (thn (h.run pos pins s σ H _ I hq) fun us s1 ⟨xs, H1, I1, r, z, q⟩ => ⟨by rw [← r.length]; exact z, ?_⟩)
  exact ⟨.ref s1.heap.objs.size, _, new_frz (t' := s1.toks) I1 r z, rfl, q _ (I1.hok.fresh (Nat.le_refl _)) _ rfl⟩
/-- t + u -/
def rCatN (K : PySem.W.Frag) : R2 := fun x y H Q => ∃ a b xs ys, x = .ref a ∧ y = .ref b ∧ SqT K H a xs ∧ SqT K H b ys ∧ xs.length + ys.length ≤ sizeLine ∧
  (xs = [] → Q (.ref b) H) ∧ (xs ≠ [] → ys = [] → Q (.ref a) H) ∧ (xs ≠ [] → ys ≠ [] → NewN H (xs ++ ys) Q)
theorem op_catN : OpR X (binaryOp .Add) (rCatN X.K) := by
  intro pins s σ H x y v u Q I rx ry h
  obtain ⟨a, b, xs, ys, rfl, rfl, ha, hb, hz, q0, q1, q2⟩ := h
  by_cases hx : xs = []
  · subst hx
    exact op_catA pins s σ H _ _ v u Q I rx ry ⟨a, b, [], ys, rfl, rfl, ha, hb, hz, q0, fun h => absurd rfl h, fun h => absurd rfl h⟩
  · cases rx
    cases ry
    obtain ⟨its, r1, p1, _⟩ := I.tuple ha
    obtain ⟨its2, r2, p2, _⟩ := I.tuple hb
    refine HT.cat_tup p1 p2 (fun z => hx (r1.nil_iff.mp z)) (fun z => ⟨.ref a, H, I, rfl, q1 hx (r2.nil_iff.mp z)⟩) (fun z => ?_) (by rw [← r1.length, ← r2.length]; exact hz)
    exact ⟨.ref s.heap.objs.size, _, new_frz (t' := s.toks) I (r1.append r2) (by rw [List.length_append]; exact hz), rfl, q2 hx (fun w => z (r2.nil_iff.mpr w)) _ (I.hok.fresh (Nat.le_refl _)) _ rfl⟩
/-- t[lo:hi] -/
def rSlN (K : PySem.W.Frag) : V → Option Int → Option Int → Hp → VK → Prop := fun x lo hi H Q => ∃ a xs, x = .ref a ∧ SqT K H a xs ∧
  (HT.sIx xs.length 0 lo = 0 ∧ HT.sIx xs.length xs.length hi = xs.length → Q (.ref a) H) ∧ (¬ (HT.sIx xs.length 0 lo = 0 ∧ HT.sIx xs.length xs.length hi = xs.length) → NewN H (cutV xs lo hi) Q)
theorem sl_tupN : SlR X (rSlN X.K) := by
  intro pins s σ H x v vl vu lo hi sl Q I rx hs pl pu h
  obtain ⟨a, xs, rfl, hx, q1, q2⟩ := h
  cases rx
  obtain ⟨its, r, ht, hz⟩ := I.tuple hx
  have hlen : its.toArray.size = xs.length := by rw [List.size_toArray]; exact r.length.symm
  refine ⟨"tuple", _, PyProof.Rows.slot_tuple_getitem.lookup, ht.typeIs, ?_⟩
  by_cases hw : HT.sIx xs.length 0 lo = 0 ∧ HT.sIx xs.length xs.length hi = xs.length
  · exact getItem_tuple_whole ht hs pl pu (by rw [hlen]; exact hw) ⟨.ref a, H, I, rfl, q1 hw⟩
  · refine HT.getItem_tuple_cut ht hs pl pu (by rw [hlen]; exact hw) ?_ (by rw [hlen]; exact hz)
    rw [hlen]
    have rr := (r.drop (HT.sIx xs.length 0 lo)).take (HT.sIx xs.length xs.length hi - HT.sIx xs.length 0 lo)
    exact ⟨.ref s.heap.objs.size, _, new_frz (t' := s.toks) (xs := cutV xs lo hi) I rr (Nat.le_trans (cutV_length xs lo hi) hz), rfl, q2 hw _ (I.hok.fresh (Nat.le_refl _)) _ rfl⟩
/-- tuple(xs) -/
theorem call_tupleN : CallR X (.type "tuple") (fun xs H Q => ∃ p ys, xs = [.ref p] ∧ ((SqL X.K H p ys ∧ NewN H ys Q) ∨ (SqT X.K H p ys ∧ Q (.ref p) H))) := by
  intro pins s σ H xs us Q I r h
  obtain ⟨p, ys, rfl, h⟩ := h
  obtain ⟨u, rfl, rx⟩ := vals1 r
  cases rx
  rcases h with ⟨hq, q⟩ | ⟨hq, q⟩
  · obtain ⟨its, r', pl, hz⟩ := I.list hq
    have hlen := r'.length
    refine call_tuple_list pl.isList (fun h' kp => ?_) (by simp only [List.size_toArray] <;> omega)
    have I1 : Inv X pins σ H { s with heap := h' } := I.kept (t' := s.toks) kp
    exact ⟨.ref h'.objs.size, _, new_frz (t' := s.toks) I1 r' hz, rfl, q _ (I1.hok.fresh (Nat.le_refl _)) _ rfl⟩
  · obtain ⟨its, r', pl, hz⟩ := I.tuple hq
    exact call_tuple_same pl ⟨.ref p, H, I, rfl, q⟩
/-! ### t[::-1] -/
theorem adjust_rev (n : Nat) : Builtin.Slice.sliceAdjust none none (-1) (n : Int) = ((n : Int) - 1, -1) := rfl
theorem places_rev (n : Nat) : Builtin.Slice.slicePlaces ((n : Int) - 1) (-1) (-1) = n := by
  unfold Builtin.Slice.slicePlaces
  have h1 : ¬ ((-1 : Int) > 0) := by omega
  simp only [h1, if_false, Int.neg_neg, Int.ediv_one]
  split <;> omega
theorem pick_rev (xs : List Value) : ((List.range xs.length).filterMap fun (m : Nat) => xs.toArray[(((xs.length : Int) - 1) + (m : Int) * -1).toNat]?) = xs.reverse := by
  have e : (fun (m : Nat) => xs.toArray[(((xs.length : Int) - 1) + (m : Int) * -1).toNat]?) = fun m => if m < xs.length then xs[xs.length - 1 - m]? else xs.toArray[(((xs.length : Int) - 1) + (m : Int) * -1).toNat]? := by
    funext m
    split
    · rename_i h
      rw [show (((xs.length : Int) - 1) + (m : Int) * -1).toNat = xs.length - 1 - m by omega]
      simp
    · rfl
  refine List.ext_getElem? fun i => ?_
  have key : ∀ n, n ≤ xs.length → ((List.range n).filterMap fun (m : Nat) => xs.toArray[(((xs.length : Int) - 1) + (m : Int) * -1).toNat]?) = (List.range n).map fun m => xs.getD (xs.length - 1 - m) .none := by
    intro n
    induction n with
    | zero => intro _; rfl
    | succ n ih =>
      intro hn
      rw [List.range_succ, List.filterMap_append, List.map_append, ih (by omega)]
      congr 1
      have h2 : xs.length - 1 - n < xs.length := by omega
      have h3 : (((xs.length : Int) - 1) + (n : Int) * -1).toNat = xs.length - 1 - n := by omega
      simp only [List.filterMap_cons, List.filterMap_nil, List.map_cons, List.map_nil, h3]
      simp [List.getD, h2]
  rw [key _ (Nat.le_refl _), List.getElem?_map]
  by_cases hi : i < xs.length
  · rw [List.getElem?_range hi, List.getElem?_reverse hi]
    simp [List.getD, show xs.length - 1 - i < xs.length by omega]
  · rw [List.getElem?_eq_none (by simpa using hi), List.getElem?_eq_none (by simpa using hi)]
    rfl
theorem sliceApplied_rev {prog : Program} {w : World} {A : Around} {E : Value → Shared → Prop} {s : Shared} {sl : Addr} {n : Nat} {ti : Tok} {Q : Int × Int × Nat → Shared → Prop} (hs : s.heap.IsSliceOf sl .none .none (.int (-1) ti))
    (h : Q ((n : Int) - 1, -1, n) s) : wpAny (model prog w) A (Builtin.Slice.sliceApplied (.ref sl) (pure (n : Int))) Q E s := by
  obtain ⟨os, hos, hcs, hds⟩ := id hs
  unfold Builtin.Slice.sliceApplied Builtin.Slice.sliceFields
  refine wpAny_bind (wpAny_bind (wpAny_field hos hds (x := .none) rfl (wpAny_bind (wpAny_field hos hds (x := .none) rfl (wpAny_bind (wpAny_field hos hds (x := .int (-1) ti) rfl (wpAny_pure ?_)))))))
  refine wpAny_bind (slicePart_int ?_)
  show wpAny _ _ (if ((-1 : Int) == 0) = true then _ else _) _ _ s
  rw [if_neg (by decide)]
  refine wpAny_bind (slicePart_none (wpAny_bind (slicePart_none (wpAny_bind (wpAny_pure ?_)))))
  show wpAny _ _ (match Builtin.Slice.sliceAdjust none none (-1) (n : Int) with | (lo, hi) => pure (lo, (-1 : Int), Builtin.Slice.slicePlaces lo hi (-1))) _ _ s
  rw [adjust_rev]
  show wpAny _ _ (pure ((n : Int) - 1, (-1 : Int), Builtin.Slice.slicePlaces ((n : Int) - 1) (-1) (-1))) _ _ s
  rw [places_rev]
  exact wpAny_pure h
theorem getItem_tuple_rev {prog : Program} {w : World} {A : Around} {E : Value → Shared → Prop} {s : Shared} {t sl : Addr} {its : List Value} {ti : Tok} {Q : Value → Shared → Prop} (ht : IsTup s.heap t its.toArray) (hs : s.heap.IsSliceOf sl .none .none (.int (-1) ti))
    (h : Q (.ref s.heap.objs.size) { s with heap := s.heap.push { cls := .type "tuple", data := .seq its.reverse.toArray } })
    (hsz : its.length ≤ sizeLine) : wpAny (model prog w) A (getItem (.ref t) (.ref sl)) Q E s := by
  have hok : sizeOk (.seq its.reverse.toArray) := by
    show its.reverse.toArray.size ≤ sizeLine
    rw [List.size_toArray, List.length_reverse]
    exact hsz
  obtain ⟨os, hos, hcs, hds⟩ := id hs
  have hTs : s.TypeIs (.ref sl) "slice" := ⟨os, hos, hcs⟩
  unfold getItem
  try with_reducible refine wpAny_holding ?_
  first | refine wpAny_bind (wpAny_pure ?_) | skip
  refine wpAny_bind (wpAny_sequenceKey ht.typeIs (by decide) ?_)
  refine wpAny_bind (wpAny_callSpecial?_slot (name := Str.ofString "__getitem__") ht.typeIs PyProof.Rows.slot_tuple_getitem
    (wpAny_call_entry PyProof.Rows.slot_tuple_getitem ht.typeIs entry_tuple_getitem ?_ (args_tuple_getitem _ _)))
  show wpAny _ _ (Builtin.Tuple.tupleItemsOf (.ref t) >>= _) _ _ s
  refine wpAny_bind (tupleItemsOf_ ht ?_)
  refine wpAny_bind (wpAny_typeOf hTs ?_)
  rw [if_pos (by decide)]
  refine wpAny_bind (sliceApplied_rev hs ?_)
  have hsz2 : its.toArray.size = its.length := List.size_toArray
  have hno : ¬ ((((its.toArray.size : Int) - 1) == 0 && (-1 : Int) == 1 && its.toArray.size == its.toArray.size) = true) := by
    intro q
    rw [Bool.and_eq_true, Bool.and_eq_true] at q
    exact absurd q.1.2 (by decide)
  show wpAny _ _ (if ((((its.toArray.size : Int) - 1) == 0 && (-1 : Int) == 1 && its.toArray.size == its.toArray.size) = true) then _ else _) _ _ s
  rw [if_neg hno, hsz2, pick_rev]
  first
    | exact wpAny_bind (m := Builtin.Tuple.tupleExact _) (wpAny_newObj_type (wpAny_pure ⟨_, rfl, wpAny_pure h⟩) hok)
    | exact wpAny_bind (m := Builtin.Tuple.tupleExact _) (wpAny_newObj_type (wpAny_bind (wpAny_pure (wpAny_pure ⟨_, rfl, wpAny_pure h⟩))) hok)
    | exact wpAny_bind (wpAny_bind (m := Builtin.Tuple.tupleExact _) (wpAny_newObj_type (wpAny_pure (wpAny_pure ⟨_, rfl, wpAny_pure h⟩)) hok))
    | exact wpAny_bind (wpAny_bind (m := Builtin.Tuple.tupleExact _) (wpAny_newObj_type (wpAny_pure ⟨_, rfl, wpAny_pure h⟩) hok))
def tRevT (K : PySem.W.Frag) (te : TE) : TE := fun σ H Q => te σ H fun x H1 => ∃ a xs, x = .ref a ∧ SqT K H1 a xs ∧ NewN H1 xs.reverse Q
theorem pe_revT {e : Expr} {te : TE} {k : Nat} {p1 p2 p3 pos : Pos} (he : PE X e te) : PE X (.Subscript e (.Slice none none (some (.UnaryOp .USub (.Constant (.int 1) k p1) p2)) p3) pos) (tRevT X.K te) := by
  refine ⟨fun pins s σ H Q I h => ?_⟩
  refine Subscript_ (thn (he.run pins s σ H _ I h) fun v s1 ⟨x, H1, I1, r1, q1⟩ => ?_)
  obtain ⟨a, xs, rfl, hx, q⟩ := q1
  cases r1
  have hst : PO X (some (.UnaryOp .USub (.Constant (.int 1) k p1) p2)) (tPart (tUn (rU fun i => .int (-i)) (tC (.int 1)))) := po_some (pe_un un_neg pe_int)
  refine wpAny_Slice (thn (po_none.run pins s1 σ H1 (fun o H2 => o = none ∧ H2 = H1) I1 ⟨rfl, rfl⟩) fun vl s2 ⟨l, H2, I2, pl, el, e2⟩ => ?_)
  subst el e2
  refine thn (po_none.run pins s2 σ H2 (fun o H3 => o = none ∧ H3 = H2) I2 ⟨rfl, rfl⟩) fun vu s3 ⟨u, H3, I3, pu, eu, e3⟩ => ?_
  subst eu e3
  refine thn (hst.run pins s3 σ H3 (fun o H4 => o = some (-1) ∧ H4 = H3) I3 ⟨1, rfl, -1, rfl, rfl, rfl⟩) fun vs s4 ⟨o, H4, I4, ps, eo, e4⟩ => ?_
  subst eo e4
  have I5 : Inv X pins σ H4 { s4 with heap := s4.heap.push { cls := .type "slice", data := .fields #[vl, vu, vs] } } := I4.kept (t' := s4.toks) fun b ob q => Heap.get?_push_of_some _ q
  cases pl
  cases pu
  cases ps with
  | int i ti =>
  obtain ⟨its, r, ht, hz⟩ := I5.tuple hx
  show wpAny (model X.prog X.w) X.A (subscriptTail e (.Slice none none (some (.UnaryOp .USub (.Constant (.int 1) k p1) p2)) p3) (.ref a) (.ref s4.heap.objs.size)) (EP X pins σ Q) X.xe { s4 with heap := s4.heap.push { cls := .type "slice", data := .fields #[.none, .none, .int (-1) ti] } }
  refine tail_any (ops := [.ref a, .ref s4.heap.objs.size]) ht.typeIs (PyProof.Rows.slot_tuple_getitem.lookup) ?_ (by with_unfolding_all rfl)
  refine getItem_tuple_rev ht (Heap.IsSliceOf.new _ .none .none (.int (-1) ti)) ?_ (by rw [← r.length]; exact hz)
  exact ⟨.ref _, _, new_frz (t' := s4.toks) I5 r.reverse (by rw [List.length_reverse]; exact hz), rfl, q _ (I5.hok.fresh (Nat.le_refl _)) _ rfl⟩
theorem PE.or {e : Expr} {t1 t2 : TE} (h1 : PE X e t1) (h2 : PE X e t2) : PE X e (fun σ H Q => t1 σ H Q ∨ t2 σ H Q) :=
  ⟨fun pins s σ H Q I h => h.elim (h1.run pins s σ H Q I) (h2.run pins s σ H Q I)⟩
end
end DL

/-! DlA: data without addresses, what stands for them in the abstract heap, the state's invariant and its steps. -/
namespace DL
open PySem L2

/-- data. ptr k: the k-th cell of the run (a thing that changes) -/
inductive D where
  | non | bl (b : Bool) | int (i : Int) | str (s : Str)
  | tup (xs : List D) | kt (xs : List D) | lst (xs : List D) | slst (xs : List D)
  | dct (kvs : List (Key × D)) | dcu (kvs : List (List Key × D))
  | obj (c : Str) (fs : List (Str × D)) | xd (fs : List (Str × D))
  | ptr (k : Nat) | raw (v : V)
/-- what a cell holds -/
inductive C where
  | lst (xs : List D) | dct (kvs : List (Key × D)) | dcu (kvs : List (List Key × D)) | obj (c : Str) (fs : List (Str × D))
structure S where
  env : List (Option D)
  M : List (Option C)
inductive Out (α : Type) where
  | fail
  | ok (a : α) (s : S)
  | exc (c : Str) (fs : List (Str × D)) (s : S)
abbrev M (α : Type) := S → Out α
def Out.bind {α β : Type} (o : Out α) (f : α → S → Out β) : Out β := match o with
  | .fail => .fail
  | .ok a s => f a s
  | .exc c fs s => .exc c fs s
def C.dat : C → D
  | .lst xs => .lst xs | .dct kvs => .dct kvs | .dcu kvs => .dcu kvs | .obj c fs => .obj c fs
/-- a pointer's cell as data; other data as they are -/
def view (m : List (Option C)) : D → D
  | .ptr k => match m[k]? with
    | some (some c) => c.dat
    | _ => .ptr k
  | d => d

section
variable (K : PySem.W.Frag) (cl : Str → Addr) (H : Hp) (F : Addr → Prop) (α : List Addr)
mutual
inductive Rep : D → V → Prop
  | non : Rep .non .non
  | bl {b} : Rep (.bl b) (.bl b)
  | int {i} : Rep (.int i) (.int i)
  | str {s} : Rep (.str s) (.str s)
  | tup {a vs ds} : SqN K H a vs → RepL ds vs → Rep (.tup ds) (.ref a)
  | kt {a vs ds} : H a = some (.tup vs) → RepL ds vs → Rep (.kt ds) (.ref a)
  | lst {a vs ds} : H a = some (.lst vs) → F a → RepL ds vs → Rep (.lst ds) (.ref a)
  | slst {a vs ds} : Rd H a (.lst vs) → F a → RepL ds vs → Rep (.slst ds) (.ref a)
  | slstK {a vs ds} : (∀ H', SqL K H' a vs) → RepL ds vs → Rep (.slst ds) (.ref a)
  | dct {a kvs vs} : H a = some (.dK vs) → F a → RepK kvs vs → Rep (.dct kvs) (.ref a)
  | dcu {a kvs vs} : H a = some (.dT vs) → F a → RepU kvs vs → Rep (.dcu kvs) (.ref a)
  | obj {a dx c fs vs} : H a = some (.ins (cl c) dx vs) → F a → RepF fs vs → Rep (.obj c fs) (.ref a)
  | xd {a fs vs} : H a = some (.xd vs) → F a → RepF fs vs → Rep (.xd fs) (.ref a)
  | ptr {k a} : α[k]? = some a → Rep (.ptr k) (.ref a)
  | raw {v} : Rep (.raw v) v
inductive RepL : List D → List V → Prop
  | nil : RepL [] []
  | cons {d v ds vs} : Rep d v → RepL ds vs → RepL (d :: ds) (v :: vs)
inductive RepF : List (Str × D) → List (Str × V) → Prop
  | nil : RepF [] []
  | cons {f d v ds vs} : Rep d v → RepF ds vs → RepF ((f, d) :: ds) ((f, v) :: vs)
inductive RepK : List (Key × D) → List (Key × V) → Prop
  | nil : RepK [] []
  | cons {f d v ds vs} : Rep d v → RepK ds vs → RepK ((f, d) :: ds) ((f, v) :: vs)
inductive RepU : List (List Key × D) → List (List Key × V) → Prop
  | nil : RepU [] []
  | cons {f d v ds vs} : Rep d v → RepU ds vs → RepU ((f, d) :: ds) ((f, v) :: vs)
end
end

/-- from (H, F, α) to (H', F', α') all that is frozen stands -/
structure Ext (H : Hp) (F : Addr → Prop) (α : List Addr) (H' : Hp) (F' : Addr → Prop) (α' : List Addr) : Prop where
  keep : ∀ b, F b → H' b = H b
  fr : ∀ b, F b → F' b
  tups : ∀ b xs, H b = some (.tup xs) → H' b = some (.tup xs)
  frzs : ∀ b o u, H b = some (.frz o u) → H' b = some (.frz o u)
  al : ∀ (k : Nat) (a : Addr), α[k]? = some a → α'[k]? = some a
theorem Ext.refl {H : Hp} {F : Addr → Prop} {α : List Addr} : Ext H F α H F α := ⟨fun _ _ => rfl, fun _ h => h, fun _ _ h => h, fun _ _ _ h => h, fun _ _ h => h⟩
theorem Ext.trans {H H1 H2 : Hp} {F F1 F2 : Addr → Prop} {α α1 α2 : List Addr} (a : Ext H F α H1 F1 α1) (b : Ext H1 F1 α1 H2 F2 α2) : Ext H F α H2 F2 α2 :=
  ⟨fun x h => (b.keep x (a.fr x h)).trans (a.keep x h), fun x h => b.fr x (a.fr x h), fun x xs h => b.tups x xs (a.tups x xs h), fun x o u h => b.frzs x o u (a.frzs x o u h), fun k x h => b.al k x (a.al k x h)⟩

section
variable {K : PySem.W.Frag} {cl : Str → Addr} {H H' : Hp} {F F' : Addr → Prop} {α α' : List Addr}
theorem Ext.rd (e : Ext H F α H' F' α') {a : Addr} {u : HO} (h : Rd H a u) (hf : F a) : Rd H' a u := by
  rcases h with h | ⟨o, h⟩
  · exact .inl ((e.keep a hf).trans h)
  · exact .inr ⟨o, e.frzs a o u h⟩
theorem Ext.sqT (e : Ext H F α H' F' α') {a : Addr} {xs : List V} (h : SqT K H a xs) : SqT K H' a xs := by
  rcases h with (h | ⟨o, h⟩) | h
  · exact .inl (.inl (e.tups a xs h))
  · exact .inl (.inr ⟨o, e.frzs a o _ h⟩)
  · exact .inr h
theorem Ext.sqN (e : Ext H F α H' F' α') {a : Addr} {xs : List V} (h : SqN K H a xs) : SqN K H' a xs :=
  ⟨e.sqT h.1, h.2.elim (fun ⟨o, u, q, d⟩ => .inl ⟨o, u, e.frzs a o u q, d⟩) .inr⟩
mutual
theorem Rep.ext (e : Ext H F α H' F' α') {d : D} {v : V} : Rep K cl H F α d v → Rep K cl H' F' α' d v
  | .non => .non
  | .bl => .bl
  | .int => .int
  | .str => .str
  | .tup h r => .tup (e.sqN h) (RepL.ext e r)
  | .kt h r => .kt (e.tups _ _ h) (RepL.ext e r)
  | .lst h f r => .lst ((e.keep _ f).trans h) (e.fr _ f) (RepL.ext e r)
  | .slst h f r => .slst (e.rd h f) (e.fr _ f) (RepL.ext e r)
  | .slstK h r => .slstK h (RepL.ext e r)
  | .dct h f r => .dct ((e.keep _ f).trans h) (e.fr _ f) (RepK.ext e r)
  | .dcu h f r => .dcu ((e.keep _ f).trans h) (e.fr _ f) (RepU.ext e r)
  | .obj h f r => .obj ((e.keep _ f).trans h) (e.fr _ f) (RepF.ext e r)
  | .xd h f r => .xd ((e.keep _ f).trans h) (e.fr _ f) (RepF.ext e r)
  | .ptr h => .ptr (e.al _ _ h)
  | .raw => .raw
theorem RepL.ext (e : Ext H F α H' F' α') {d : List D} {v : List V} : RepL K cl H F α d v → RepL K cl H' F' α' d v
  | .nil => .nil
  | .cons h r => .cons (Rep.ext e h) (RepL.ext e r)
theorem RepF.ext (e : Ext H F α H' F' α') {d : List (Str × D)} {v : List (Str × V)} : RepF K cl H F α d v → RepF K cl H' F' α' d v
  | .nil => .nil
  | .cons h r => .cons (Rep.ext e h) (RepF.ext e r)
theorem RepK.ext (e : Ext H F α H' F' α') {d : List (Key × D)} {v : List (Key × V)} : RepK K cl H F α d v → RepK K cl H' F' α' d v
  | .nil => .nil
  | .cons h r => .cons (Rep.ext e h) (RepK.ext e r)
theorem RepU.ext (e : Ext H F α H' F' α') {d : List (List Key × D)} {v : List (List Key × V)} : RepU K cl H F α d v → RepU K cl H' F' α' d v
  | .nil => .nil
  | .cons h r => .cons (Rep.ext e h) (RepU.ext e r)
end
theorem RepL.length : ∀ {ds : List D} {vs : List V}, RepL K cl H F α ds vs → ds.length = vs.length
  | _, _, .nil => rfl
  | _, _, .cons _ r => congrArg Nat.succ r.length
theorem RepL.get : ∀ {ds : List D} {vs : List V} {i : Nat} {d : D}, RepL K cl H F α ds vs → ds[i]? = some d → ∃ v, vs[i]? = some v ∧ Rep K cl H F α d v
  | _, _, _, _, .nil, e => by simp at e
  | _, _, 0, _, .cons r _, e => by simp at e; subst e; exact ⟨_, rfl, r⟩
  | _, _, i + 1, d, .cons _ t, e => by
    obtain ⟨v, h1, h2⟩ := RepL.get (i := i) (d := d) t (by simpa using e)
    exact ⟨v, by simpa using h1, h2⟩
theorem RepL.getV : ∀ {ds : List D} {vs : List V} {i : Nat} {v : V}, RepL K cl H F α ds vs → vs[i]? = some v → ∃ d, ds[i]? = some d ∧ Rep K cl H F α d v
  | _, _, _, _, .nil, e => by simp at e
  | _, _, 0, _, .cons r _, e => by simp at e; subst e; exact ⟨_, rfl, r⟩
  | _, _, i + 1, d, .cons _ t, e => by
    obtain ⟨v, h1, h2⟩ := RepL.getV (i := i) (v := d) t (by simpa using e)
    exact ⟨v, by simpa using h1, h2⟩
theorem RepL.append : ∀ {ds es : List D} {vs ws : List V}, RepL K cl H F α ds vs → RepL K cl H F α es ws → RepL K cl H F α (ds ++ es) (vs ++ ws)
  | _, _, _, _, .nil, s => s
  | _, _, _, _, .cons r t, s => .cons r (RepL.append t s)
theorem RepL.set {d : D} {v : V} (r : Rep K cl H F α d v) : ∀ {ds : List D} {vs : List V} (i : Nat), RepL K cl H F α ds vs → RepL K cl H F α (ds.set i d) (vs.set i v)
  | _, _, _, .nil => .nil
  | _, _, 0, .cons _ t => .cons r t
  | _, _, i + 1, .cons q t => .cons q (RepL.set r i t)
theorem RepL.take : ∀ {ds : List D} {vs : List V} (n : Nat), RepL K cl H F α ds vs → RepL K cl H F α (ds.take n) (vs.take n)
  | _, _, 0, _ => .nil
  | _, _, _ + 1, .nil => .nil
  | _, _, n + 1, .cons r t => .cons r (RepL.take n t)
theorem RepL.drop : ∀ {ds : List D} {vs : List V} (n : Nat), RepL K cl H F α ds vs → RepL K cl H F α (ds.drop n) (vs.drop n)
  | _, _, 0, r => r
  | _, _, _ + 1, .nil => .nil
  | _, _, n + 1, .cons _ t => RepL.drop n t
theorem RepL.reverse {ds : List D} {vs : List V} (h : RepL K cl H F α ds vs) : RepL K cl H F α ds.reverse vs.reverse := by
  induction ds generalizing vs with
  | nil => cases h; exact .nil
  | cons d ds ih =>
    cases h with
    | cons r t =>
      rw [List.reverse_cons, List.reverse_cons]
      exact (ih t).append (.cons r .nil)
theorem RepL.eraseIdx : ∀ {ds : List D} {vs : List V} (i : Nat), RepL K cl H F α ds vs → RepL K cl H F α (ds.eraseIdx i) (vs.eraseIdx i)
  | _, _, _, .nil => .nil
  | _, _, 0, .cons _ t => t
  | _, _, i + 1, .cons r t => .cons r (RepL.eraseIdx i t)
theorem RepL.dropLast {ds : List D} {vs : List V} (h : RepL K cl H F α ds vs) : RepL K cl H F α ds.dropLast vs.dropLast := by
  rw [List.dropLast_eq_take, List.dropLast_eq_take, h.length]
  exact h.take _
theorem RepF.lookup : ∀ {fs : List (Str × D)} {vs : List (Str × V)} {f : Str}, RepF K cl H F α fs vs → (fs.lookup f = none ∧ vs.lookup f = none) ∨ ∃ d v, fs.lookup f = some d ∧ vs.lookup f = some v ∧ Rep K cl H F α d v
  | _, _, _, .nil => .inl ⟨rfl, rfl⟩
  | _, _, f, .cons (f := g) r t => by
    rw [List.lookup_cons, List.lookup_cons]
    cases h : f == g with
    | true => exact .inr ⟨_, _, rfl, rfl, r⟩
    | false => exact RepF.lookup t
theorem RepF.length : ∀ {ds : List (Str × D)} {vs : List (Str × V)}, RepF K cl H F α ds vs → ds.length = vs.length
  | _, _, .nil => rfl
  | _, _, .cons _ r => congrArg Nat.succ r.length
end

/-- what holds of a cell -/
def RepC (K : PySem.W.Frag) (cl : Str → Addr) (H : Hp) (F : Addr → Prop) (α : List Addr) (a : Addr) : C → Prop
  | .lst ds => ∃ vs, H a = some (.lst vs) ∧ RepL K cl H F α ds vs
  | .dct kvs => ∃ vs, H a = some (.dK vs) ∧ RepK K cl H F α kvs vs
  | .dcu kvs => ∃ vs, H a = some (.dT vs) ∧ RepU K cl H F α kvs vs
  | .obj c fs => ∃ dx vs, H a = some (.ins (cl c) dx vs) ∧ RepF K cl H F α fs vs

/-- where a run began: the heap, the cells that it was given, what was frozen then -/
structure Cz where
  H0 : Hp
  β : List Addr
  F0 : Addr → Prop

structure SIx (K : PySem.W.Frag) (cl : Str → Addr) (c : Cz) (H : Hp) (σ : L2.St) (s : S) (T : List (D × V)) (F : Addr → Prop) (α : List Addr) : Prop where
  env : ∀ (i : Nat) (d : D), s.env[i]? = some (some d) → ∃ v, σ[i]? = some (some v) ∧ Rep K cl H F α d v
  el : s.env.length = σ.length
  tmp : ∀ p ∈ T, Rep K cl H F α p.1 p.2
  len : α.length = s.M.length
  cel : ∀ (k : Nat) (x : C) (a : Addr), s.M[k]? = some (some x) → α[k]? = some a → RepC K cl H F α a x ∧ ¬ F a
  nd : α.Nodup
  dom : ∀ a ∈ α, ∃ o, H a = some o
  inα : ∀ a ∈ α, a ∈ c.β ∨ c.H0 a = none
  domF : ∀ b, F b → ∃ o, H b = some o
  inF : ∀ b, F b → b ∈ c.β ∨ c.F0 b ∨ c.H0 b = none
  pre : ∀ (k : Nat) (a : Addr), c.β[k]? = some a → α[k]? = some a
  keep : ∀ b o, c.H0 b = some o → b ∉ c.β → H b = some o
  tups : ∀ b xs, c.H0 b = some (.tup xs) → H b = some (.tup xs)
  frzs : ∀ b o u, c.H0 b = some (.frz o u) → H b = some (.frz o u)
def SI (K : PySem.W.Frag) (cl : Str → Addr) (c : Cz) (H : Hp) (σ : L2.St) (s : S) (T : List (D × V)) : Prop := ∃ F α, SIx K cl c H σ s T F α

section
variable {K : PySem.W.Frag} {cl : Str → Addr} {c : Cz} {H H' : Hp} {σ σ' : L2.St} {s : S} {T T' : List (D × V)} {F F' : Addr → Prop} {α α' : List Addr}
theorem SI.sub (h : SI K cl c H σ s T) (hs : ∀ p ∈ T', p ∈ T) : SI K cl c H σ s T' := by
  obtain ⟨F, α, h⟩ := h
  exact ⟨F, α, { h with tmp := fun p hp => h.tmp p (hs p hp) }⟩
theorem SI.pop {p : D × V} (h : SI K cl c H σ s (p :: T)) : SI K cl c H σ s T := h.sub fun _ hp => List.mem_cons_of_mem _ hp
theorem SI.pop2 {p q : D × V} (h : SI K cl c H σ s (p :: q :: T)) : SI K cl c H σ s T := h.pop.pop
theorem SIx.si (h : SIx K cl c H σ s T F α) : SI K cl c H σ s T := ⟨F, α, h⟩
theorem SIx.push {d : D} {v : V} (h : SIx K cl c H σ s T F α) (r : Rep K cl H F α d v) : SIx K cl c H σ s ((d, v) :: T) F α :=
  { h with tmp := fun p hp => (List.mem_cons.mp hp).elim (fun e => by subst e; exact r) (fun hp => h.tmp p hp) }
theorem SI.var {i : Nat} {d : D} (h : SI K cl c H σ s T) (e : s.env[i]? = some (some d)) : ∃ v, σ[i]? = some (some v) ∧ SI K cl c H σ s ((d, v) :: T) := by
  obtain ⟨F, α, h⟩ := h
  obtain ⟨v, h1, h2⟩ := h.env i d e
  exact ⟨v, h1, F, α, h.push h2⟩
/-- the frozen things, the tuples of what was there -/
theorem Ext.repC (e : Ext H F α H' F' α') {a : Addr} {x : C} (h : RepC K cl H F α a x) (ha : H' a = H a) : RepC K cl H' F' α' a x := by
  cases x with
  | lst ds => obtain ⟨vs, h1, h2⟩ := h; exact ⟨vs, ha.trans h1, RepL.ext e h2⟩
  | dct ds => obtain ⟨vs, h1, h2⟩ := h; exact ⟨vs, ha.trans h1, RepK.ext e h2⟩
  | dcu ds => obtain ⟨vs, h1, h2⟩ := h; exact ⟨vs, ha.trans h1, RepU.ext e h2⟩
  | obj c fs => obtain ⟨dx, vs, h1, h2⟩ := h; exact ⟨dx, vs, ha.trans h1, RepF.ext e h2⟩
/-- a new object at p, tracked, frozen if fz -/
theorem ext_new {p : Addr} {o : HO} (h : SIx K cl c H σ s T F α) (hp : H p = none) : Ext H F α (upd H p o) (fun b => F b ∨ b = p) α :=
  ⟨fun b hb => upd_ne (fun e => by
      obtain ⟨o', q⟩ := h.domF b hb
      rw [e, hp] at q; cases q), fun _ hb => .inl hb, fun b xs q => by rw [upd_ne (ne_of_none q hp)]; exact q, fun b u xs q => by rw [upd_ne (ne_of_none q hp)]; exact q, fun _ _ q => q⟩
theorem SIx.newF {p : Addr} {o : HO} (h : SIx K cl c H σ s T F α) (hp : H p = none) : SIx K cl c (upd H p o) σ s T (fun b => F b ∨ b = p) α := by
  have e := ext_new (o := o) h hp
  have hnew : ∀ b o', H b = some o' → upd H p o b = some o' := fun b o' q => by rw [upd_ne (ne_of_none q hp)]; exact q
  have npα : ∀ a ∈ α, a ≠ p := fun a ha q => by
    obtain ⟨o', z⟩ := h.dom a ha
    rw [q, hp] at z; cases z
  have c0 : c.H0 p = none ∨ p ∈ c.β := by
    cases q : c.H0 p with
    | none => exact .inl rfl
    | some u =>
      by_cases hb : p ∈ c.β
      · exact .inr hb
      · have := h.keep p u q hb
        rw [hp] at this; cases this
  refine ⟨fun i d q => ?_, ?_, fun q hq => (h.tmp q hq).ext e, h.len, fun k x a q1 q2 => ?_, h.nd, fun a ha => ?_, h.inα, fun b hb => ?_, fun b hb => ?_, h.pre, fun b u q1 q2 => hnew _ _ (h.keep b u q1 q2), fun b xs q => hnew _ _ (h.tups b xs q), fun b u xs q => hnew _ _ (h.frzs b u xs q)⟩
  · obtain ⟨v, h1, h2⟩ := h.env i d q
    exact ⟨v, h1, h2.ext e⟩
  · exact h.el
  · obtain ⟨h1, h2⟩ := h.cel k x a q1 q2
    have na := npα a (List.mem_of_getElem? q2)
    exact ⟨e.repC h1 (upd_ne na), fun z => z.elim h2 na⟩
  · obtain ⟨o', z⟩ := h.dom a ha
    exact ⟨o', hnew _ _ z⟩
  · rcases hb with hb | rfl
    · obtain ⟨o', z⟩ := h.domF b hb
      exact ⟨o', hnew _ _ z⟩
    · exact ⟨o, upd_same⟩
  · rcases hb with hb | rfl
    · exact h.inF b hb
    · rcases c0 with z | z
      · exact .inr (.inr z)
      · exact .inl z
/-- a new list of the temps' values, frozen -/
theorem SI.newLst {p : Addr} {ds : List D} {vs : List V} (h : SI K cl c H σ s T) (hp : H p = none) (hr : ∀ F α, SIx K cl c H σ s T F α → RepL K cl H F α ds vs) : SI K cl c (upd H p (.lst vs)) σ s ((.lst ds, .ref p) :: T) := by
  obtain ⟨F, α, h⟩ := h
  exact ⟨_, α, (h.newF hp).push (.lst upd_same (.inr rfl) ((hr F α h).ext (ext_new h hp)))⟩
theorem SI.newTup {p : Addr} {ds : List D} {vs : List V} {o : Obj} (hd : o.dict = none) (h : SI K cl c H σ s T) (hp : H p = none) (hr : ∀ F α, SIx K cl c H σ s T F α → RepL K cl H F α ds vs) : SI K cl c (upd H p (.frz o (.tup vs))) σ s ((.tup ds, .ref p) :: T) := by
  obtain ⟨F, α, h⟩ := h
  exact ⟨_, α, (h.newF hp).push (.tup (SqN.of upd_same hd) ((hr F α h).ext (ext_new h hp)))⟩
/-- a cell's object is changed -/
theorem ext_set {k : Nat} {a : Addr} {x : C} {o : HO} (h : SIx K cl c H σ s T F α) (hk : s.M[k]? = some (some x)) (ha : α[k]? = some a) : Ext H F α (upd H a o) F α := by
  obtain ⟨h1, h2⟩ := h.cel k x a hk ha
  have hx : ∀ u, H a = some u → (∀ xs, u ≠ .tup xs) ∧ ∀ o v, u ≠ .frz o v := by
    intro u q
    cases x with
    | lst ds => obtain ⟨vs, e, _⟩ := h1; rw [e] at q; cases q; exact ⟨fun _ z => (by cases z), fun _ _ z => (by cases z)⟩
    | dct ds => obtain ⟨vs, e, _⟩ := h1; rw [e] at q; cases q; exact ⟨fun _ z => (by cases z), fun _ _ z => (by cases z)⟩
    | dcu ds => obtain ⟨vs, e, _⟩ := h1; rw [e] at q; cases q; exact ⟨fun _ z => (by cases z), fun _ _ z => (by cases z)⟩
    | obj c fs => obtain ⟨dx, vs, e, _⟩ := h1; rw [e] at q; cases q; exact ⟨fun _ z => (by cases z), fun _ _ z => (by cases z)⟩
  refine ⟨fun b hb => upd_ne fun e => h2 (e ▸ hb), fun _ hb => hb, fun b xs q => ?_, fun b u xs q => ?_, fun _ _ q => q⟩
  · rw [upd_ne]; exact q
    intro e; subst e
    exact (hx _ q).1 _ rfl
  · rw [upd_ne]; exact q
    intro e; subst e
    exact (hx _ q).2 _ _ rfl
theorem SIx.setCell {k : Nat} {a : Addr} {x y : C} {o : HO} (h : SIx K cl c H σ s T F α) (hk : s.M[k]? = some (some x)) (ha : α[k]? = some a)
    (hy : Ext H F α (upd H a o) F α → RepC K cl (upd H a o) F α a y) : SIx K cl c (upd H a o) σ { s with M := s.M.set k (some y) } T F α := by
  have e := ext_set (o := o) h hk ha
  have hkl : k < s.M.length := (List.getElem?_eq_some_iff.mp hk).1
  obtain ⟨h1, h2⟩ := h.cel k x a hk ha
  have hx : ∀ u, H a = some u → (∀ xs, u ≠ .tup xs) ∧ ∀ o v, u ≠ .frz o v := by
    intro u q
    refine ⟨fun xs z => ?_, fun o' v z => ?_⟩
    · subst z
      cases x with
      | lst ds => obtain ⟨vs, e, _⟩ := h1; rw [e] at q; cases q
      | dct ds => obtain ⟨vs, e, _⟩ := h1; rw [e] at q; cases q
      | dcu ds => obtain ⟨vs, e, _⟩ := h1; rw [e] at q; cases q
      | obj c fs => obtain ⟨dx, vs, e, _⟩ := h1; rw [e] at q; cases q
    · subst z
      cases x with
      | lst ds => obtain ⟨vs, e, _⟩ := h1; rw [e] at q; cases q
      | dct ds => obtain ⟨vs, e, _⟩ := h1; rw [e] at q; cases q
      | dcu ds => obtain ⟨vs, e, _⟩ := h1; rw [e] at q; cases q
      | obj c fs => obtain ⟨dx, vs, e, _⟩ := h1; rw [e] at q; cases q
  have ain : a ∈ c.β ∨ c.H0 a = none := h.inα a (List.mem_of_getElem? ha)
  refine ⟨fun i d q => ?_, h.el, fun q hq => (h.tmp q hq).ext e, by show α.length = (s.M.set k (some y)).length; rw [List.length_set]; exact h.len, fun j z b q1 q2 => ?_, h.nd, fun b hb => ?_, h.inα, fun b hb => ?_, h.inF, h.pre, fun b u q1 q2 => ?_, fun b xs q => e.tups b xs (h.tups b xs q), fun b u xs q => e.frzs b u xs (h.frzs b u xs q)⟩
  · obtain ⟨v, h3, h4⟩ := h.env i d q
    exact ⟨v, h3, h4.ext e⟩
  · have q1' : (s.M.set k (some y))[j]? = some (some z) := q1
    by_cases hj : k = j
    · subst hj
      rw [List.getElem?_set_self hkl] at q1'
      cases q1'
      rw [ha] at q2; cases q2
      exact ⟨hy e, h2⟩
    · rw [List.getElem?_set_ne hj] at q1'
      obtain ⟨h3, h4⟩ := h.cel j z b q1' q2
      have nb : b ≠ a := fun w => by
        subst w
        exact hj ((List.getElem?_inj (by rw [h.len]; exact hkl) h.nd).mp (ha.trans q2.symm))
      exact ⟨e.repC h3 (upd_ne nb), h4⟩
  · by_cases hb' : b = a
    · subst hb'; exact ⟨o, upd_same⟩
    · rw [upd_ne hb']; exact h.dom b hb
  · by_cases hb' : b = a
    · subst hb'; exact ⟨o, upd_same⟩
    · rw [upd_ne hb']; exact h.domF b hb
  · have nb : b ≠ a := fun w => by
      subst w
      rcases ain with z | z
      · exact q2 z
      · rw [q1] at z; cases z
    rw [upd_ne nb]; exact h.keep b u q1 q2
/-- a new cell at p -/
theorem SIx.newCell {p : Addr} {x : C} {o : HO} (h : SIx K cl c H σ s T F α) (hp : H p = none)
    (hy : Ext H F α (upd H p o) F (α ++ [p]) → RepC K cl (upd H p o) F (α ++ [p]) p x) : SIx K cl c (upd H p o) σ { s with M := s.M ++ [some x] } ((.ptr s.M.length, .ref p) :: T) F (α ++ [p]) := by
  have hnew : ∀ b o', H b = some o' → upd H p o b = some o' := fun b o' q => by rw [upd_ne (ne_of_none q hp)]; exact q
  have npα : ∀ a ∈ α, a ≠ p := fun a ha q => by
    obtain ⟨o', z⟩ := h.dom a ha
    rw [q, hp] at z; cases z
  have nF : ¬ F p := fun z => by
    obtain ⟨o', q⟩ := h.domF p z
    rw [hp] at q; cases q
  have al : ∀ (k : Nat) (a : Addr), α[k]? = some a → (α ++ [p])[k]? = some a := fun k a q => by
    rw [List.getElem?_append_left (List.getElem?_eq_some_iff.mp q).1]; exact q
  have e : Ext H F α (upd H p o) F (α ++ [p]) := ⟨fun b hb => upd_ne fun w => nF (w ▸ hb), fun _ hb => hb, fun b xs q => hnew _ _ q, fun b u xs q => hnew _ _ q, al⟩
  have c0 : p ∈ c.β ∨ c.H0 p = none := by
    cases q : c.H0 p with
    | none => exact .inr rfl
    | some u =>
      by_cases hb : p ∈ c.β
      · exact .inl hb
      · have := h.keep p u q hb
        rw [hp] at this; cases this
  refine ⟨fun i d q => ?_, h.el, fun q hq => ?_, ?_, fun j z b q1 q2 => ?_, ?_, fun b hb => ?_, fun b hb => ?_, fun b hb => ?_, h.inF, fun k a q => al k a (h.pre k a q), fun b u q1 q2 => hnew _ _ (h.keep b u q1 q2), fun b xs q => hnew _ _ (h.tups b xs q), fun b u xs q => hnew _ _ (h.frzs b u xs q)⟩
  · obtain ⟨v, h3, h4⟩ := h.env i d q
    exact ⟨v, h3, h4.ext e⟩
  · rcases List.mem_cons.mp hq with z | hq
    · subst z
      refine .ptr ?_
      rw [← h.len]
      exact List.getElem?_concat_length
    · exact (h.tmp q hq).ext e
  · show (α ++ [p]).length = (s.M ++ [some x]).length
    rw [List.length_append, List.length_append, h.len]; rfl
  · have q1' : (s.M ++ [some x])[j]? = some (some z) := q1
    by_cases hj : j < s.M.length
    · rw [List.getElem?_append_left hj] at q1'
      rw [List.getElem?_append_left (by rw [h.len]; exact hj)] at q2
      obtain ⟨h3, h4⟩ := h.cel j z b q1' q2
      exact ⟨e.repC h3 (upd_ne (npα b (List.mem_of_getElem? q2))), h4⟩
    · have hj' : j = s.M.length := by
        have := (List.getElem?_eq_some_iff.mp q1').1
        rw [List.length_append] at this
        simp at this; omega
      subst hj'
      rw [List.getElem?_concat_length] at q1'
      cases q1'
      rw [← h.len, List.getElem?_concat_length] at q2
      cases q2
      exact ⟨hy e, nF⟩
  · rw [List.nodup_append]
    exact ⟨h.nd, by simp, fun a ha b hb => by rw [List.mem_singleton.mp hb]; exact npα a ha⟩
  · rcases List.mem_append.mp hb with hb | hb
    · obtain ⟨o', z⟩ := h.dom b hb
      exact ⟨o', hnew _ _ z⟩
    · rw [List.mem_singleton.mp hb]; exact ⟨o, upd_same⟩
  · rcases List.mem_append.mp hb with hb | hb
    · exact h.inα b hb
    · rw [List.mem_singleton.mp hb]; exact c0
  · obtain ⟨o', z⟩ := h.domF b hb
    exact ⟨o', hnew _ _ z⟩

/-- what a datum is as it is read: itself, or its cell -/
theorem SIx.view {d : D} {v : V} (h : SIx K cl c H σ s T F α) (r : Rep K cl H F α d v) : Rep K cl H F α (view s.M d) v ∨ ∃ k x a, d = .ptr k ∧ v = .ref a ∧ s.M[k]? = some (some x) ∧ α[k]? = some a ∧ view s.M d = x.dat ∧ RepC K cl H F α a x := by
  cases d with
  | ptr k =>
    cases r with
    | ptr e =>
      rename_i a
      cases q2 : s.M[k]? with
      | none =>
        have e2 : DL.view s.M (.ptr k) = .ptr k := by simp only [DL.view, q2]
        rw [e2]; exact .inl (.ptr e)
      | some o =>
        cases o with
        | none =>
          have e2 : DL.view s.M (.ptr k) = .ptr k := by simp only [DL.view, q2]
          rw [e2]; exact .inl (.ptr e)
        | some x =>
          have e2 : DL.view s.M (.ptr k) = x.dat := by simp only [DL.view, q2]
          exact .inr ⟨k, x, a, rfl, rfl, q2, e, e2, (h.cel k x a q2 e).1⟩
  | _ => exact .inl r
theorem SI.bind {i : Nat} {d : D} {v : V} (h : SI K cl c H σ s ((d, v) :: T)) (hi : i < s.env.length) : SI K cl c H (σ.set i (some v)) { s with env := s.env.set i (some d) } T := by
  obtain ⟨F, α, h⟩ := h
  have hi : i < σ.length := by rw [← h.el]; exact hi
  refine ⟨F, α, { h with el := by show (s.env.set i (some d)).length = (σ.set i (some v)).length; rw [List.length_set, List.length_set]; exact h.el, env := fun j e q => ?_, tmp := fun p hp => h.tmp p (List.mem_cons_of_mem _ hp) }⟩
  have q' : (s.env.set i (some d))[j]? = some (some e) := q
  by_cases hj : i = j
  · subst hj
    have hl : i < s.env.length := by
      have := (List.getElem?_eq_some_iff.mp q').1
      rwa [List.length_set] at this
    rw [List.getElem?_set_self hl] at q'
    cases q'
    exact ⟨v, List.getElem?_set_self hi, h.tmp (d, v) (List.mem_cons_self ..)⟩
  · rw [List.getElem?_set_ne hj] at q'
    rw [List.getElem?_set_ne hj]
    exact h.env j e q'
end
end DL

/-! DlB: expressions, tests, argument lists as functions of the state. -/
namespace DL
open PySem L2

/-- an exception's own dict, among the temps -/
def xt (fs : List (Str × D)) : Option Addr → List (D × V)
  | none => []
  | some a => [(.xd fs, .ref a)]
/-- what is wanted behind a run -/
def Want (K : PySem.W.Frag) (cl : Str → Addr) (W : WX) (c : Cz) (σ : L2.St) (T : List (D × V)) (o : Out D) (Q : VK) : Prop := match o with
  | .fail => False
  | .ok d s => ∀ v H, SI K cl c H σ s ((d, v) :: T) → Q v H
  | .exc n fs s => ∀ dx H, (dx = none → fs = []) → SI K cl c H σ s (xt fs dx ++ T) → W (.ref (cl n)) dx σ H
/-- of a test -/
def WantB (K : PySem.W.Frag) (cl : Str → Addr) (W : WX) (c : Cz) (σ : L2.St) (T : List (D × V)) (o : Out Bool) (Q : Bool → Hp → Prop) : Prop := match o with
  | .fail => False
  | .ok b s => ∀ H, SI K cl c H σ s T → Q b H
  | .exc n fs s => ∀ dx H, (dx = none → fs = []) → SI K cl c H σ s (xt fs dx ++ T) → W (.ref (cl n)) dx σ H
/-- the values of an argument list lie over T, the last one on top -/
def zipT : List D → List V → List (D × V) → List (D × V)
  | d :: ds, v :: vs, T => zipT ds vs ((d, v) :: T)
  | _, _, T => T
def WantA (K : PySem.W.Frag) (cl : Str → Addr) (W : WX) (c : Cz) (σ : L2.St) (T : List (D × V)) (o : Out (List D)) (Q : List V → Hp → Prop) : Prop := match o with
  | .fail => False
  | .ok ds s => ∀ vs H, ds.length = vs.length → SI K cl c H σ s (zipT ds vs T) → Q vs H
  | .exc n fs s => ∀ dx H, (dx = none → fs = []) → SI K cl c H σ s (xt fs dx ++ T) → W (.ref (cl n)) dx σ H

structure DE (X : Cx) (cl : Str → Addr) (W : WX) (e : Expr) (f : M D) : Prop where
  ex : ∃ te, PE X e te ∧ ∀ c σ s T H Q, SI X.K cl c H σ s T → Want X.K cl W c σ T (f s) Q → te σ H Q
structure DT (X : Cx) (cl : Str → Addr) (W : WX) (e : Expr) (f : M Bool) : Prop where
  ex : ∃ te, PT X e te ∧ ∀ c σ s T H Q, SI X.K cl c H σ s T → WantB X.K cl W c σ T (f s) Q → te σ H Q
structure DW (X : Cx) (cl : Str → Addr) (W : WX) (e : Expr) (f : M Bool) : Prop where
  ex : ∃ te, PW X e te ∧ ∀ c σ s T H Q, SI X.K cl c H σ s T → WantB X.K cl W c σ T (f s) Q → te σ H Q
structure DA (X : Cx) (cl : Str → Addr) (W : WX) (es : List Expr) (f : M (List D)) : Prop where
  ex : ∃ te, PA X es te ∧ ∀ c σ s T H Q, SI X.K cl c H σ s T → WantA X.K cl W c σ T (f s) Q → te σ H Q

section
variable {K : PySem.W.Frag} {cl : Str → Addr} {W : WX} {c : Cz} {σ : L2.St} {T : List (D × V)} {H : Hp}
theorem SI.app {s : S} {p : List (D × V)} (h : SI K cl c H σ s (p ++ T)) : SI K cl c H σ s T := h.sub fun q hq => List.mem_append_right _ hq
theorem SI.xt {s : S} {fs : List (Str × D)} {dx : Option Addr} {T' : List (D × V)} (h : SI K cl c H σ s (DL.xt fs dx ++ T)) (hs : ∀ p ∈ T', p ∈ T) : SI K cl c H σ s (DL.xt fs dx ++ T') :=
  h.sub fun q hq => by
    rcases List.mem_append.mp hq with z | z
    · exact List.mem_append_left _ z
    · exact List.mem_append_right _ (hs q z)
/-- one run, then another -/
theorem Want.bind {o : Out D} {k : D → S → Out D} {Q Q1 : VK} (h : Want K cl W c σ T (o.bind k) Q)
    (hk : ∀ d s, o = .ok d s → Want K cl W c σ T (k d s) Q → ∀ v H, SI K cl c H σ s ((d, v) :: T) → Q1 v H) : Want K cl W c σ T o Q1 := by
  cases o with
  | fail => exact h
  | ok d s => exact hk d s rfl h
  | exc n fs s => exact h
theorem Want.bindB {o : Out Bool} {k : Bool → S → Out D} {Q : VK} {Q1 : Bool → Hp → Prop} (h : Want K cl W c σ T (o.bind k) Q)
    (hk : ∀ d s, o = .ok d s → Want K cl W c σ T (k d s) Q → ∀ H, SI K cl c H σ s T → Q1 d H) : WantB K cl W c σ T o Q1 := by
  cases o with
  | fail => exact h
  | ok d s => exact hk d s rfl h
  | exc n fs s => exact h
theorem WantB.bind {o : Out Bool} {k : Bool → S → Out Bool} {Q Q1 : Bool → Hp → Prop} (h : WantB K cl W c σ T (o.bind k) Q)
    (hk : ∀ d s, o = .ok d s → WantB K cl W c σ T (k d s) Q → ∀ H, SI K cl c H σ s T → Q1 d H) : WantB K cl W c σ T o Q1 := by
  cases o with
  | fail => exact h
  | ok d s => exact hk d s rfl h
  | exc n fs s => exact h
theorem WantB.bindD {o : Out D} {k : D → S → Out Bool} {Q : Bool → Hp → Prop} {Q1 : VK} (h : WantB K cl W c σ T (o.bind k) Q)
    (hk : ∀ d s, o = .ok d s → WantB K cl W c σ T (k d s) Q → ∀ v H, SI K cl c H σ s ((d, v) :: T) → Q1 v H) : Want K cl W c σ T o Q1 := by
  cases o with
  | fail => exact h
  | ok d s => exact hk d s rfl h
  | exc n fs s => exact h
theorem Want.bindA {o : Out (List D)} {k : List D → S → Out D} {Q : VK} {Q1 : List V → Hp → Prop} (h : Want K cl W c σ T (o.bind k) Q)
    (hk : ∀ ds s, o = .ok ds s → Want K cl W c σ T (k ds s) Q → ∀ vs H, ds.length = vs.length → SI K cl c H σ s (zipT ds vs T) → Q1 vs H) : WantA K cl W c σ T o Q1 := by
  cases o with
  | fail => exact h
  | ok d s => exact hk d s rfl h
  | exc n fs s => exact h
/-- temps that lie below do no harm: a want over a deeper stack -/
theorem Want.deeper {o : Out D} {Q : VK} {T' : List (D × V)} (h : Want K cl W c σ T o Q) (hs : ∀ p ∈ T, p ∈ T') : Want K cl W c σ T' o Q := by
  cases o with
  | fail => exact h
  | ok d s => exact fun v H i => h v H (i.sub fun q hq => by
      rcases List.mem_cons.mp hq with z | z
      · exact z ▸ List.mem_cons_self ..
      · exact List.mem_cons_of_mem _ (hs q z))
  | exc n fs s => exact fun dx H e i => h dx H e (i.xt hs)
theorem WantB.deeper {o : Out Bool} {Q : Bool → Hp → Prop} {T' : List (D × V)} (h : WantB K cl W c σ T o Q) (hs : ∀ p ∈ T, p ∈ T') : WantB K cl W c σ T' o Q := by
  cases o with
  | fail => exact h
  | ok d s => exact fun H i => h H (i.sub hs)
  | exc n fs s => exact fun dx H e i => h dx H e (i.xt hs)
theorem zipT_sub : ∀ (ds : List D) (vs : List V) (T : List (D × V)), ∀ p ∈ T, p ∈ zipT ds vs T
  | [], _, T, p, h => h
  | _ :: _, [], T, p, h => h
  | d :: ds, v :: vs, T, p, h => zipT_sub ds vs _ p (List.mem_cons_of_mem _ h)
theorem zipT_mem : ∀ {ds : List D} {vs : List V} {T : List (D × V)} {i : Nat} {d : D} {v : V}, ds[i]? = some d → vs[i]? = some v → (d, v) ∈ zipT ds vs T
  | [], _, T, i, d, v, h, _ => by simp at h
  | _ :: _, [], T, i, d, v, _, h => by simp at h
  | d :: ds, v :: vs, T, 0, e, u, h1, h2 => by
    simp at h1 h2; subst h1 h2
    exact zipT_sub ds vs _ _ (List.mem_cons_self ..)
  | d :: ds, v :: vs, T, i + 1, e, u, h1, h2 => zipT_mem (ds := ds) (vs := vs) (i := i) (by simpa using h1) (by simpa using h2)
theorem WantA.deeper {o : Out (List D)} {Q : List V → Hp → Prop} {T' : List (D × V)} (h : WantA K cl W c σ T o Q) (hs : ∀ p ∈ T, p ∈ T') : WantA K cl W c σ T' o Q := by
  cases o with
  | fail => exact h
  | ok ds s =>
    refine fun vs H e i => h vs H e (i.sub fun q hq => ?_)
    have key : ∀ (ds : List D) (vs : List V) (T T' : List (D × V)), (∀ p ∈ T, p ∈ T') → ∀ q ∈ zipT ds vs T, q ∈ zipT ds vs T' := by
      intro ds
      induction ds with
      | nil => intro vs T T' hs q hq; exact hs q hq
      | cons d ds ih =>
        intro vs T T' hs q hq
        cases vs with
        | nil => exact hs q hq
        | cons v vs =>
          refine ih vs _ _ (fun p hp => ?_) q hq
          rcases List.mem_cons.mp hp with z | z
          · exact z ▸ List.mem_cons_self ..
          · exact List.mem_cons_of_mem _ (hs p z)
    exact key ds vs T T' hs q hq
  | exc n fs s => exact fun dx H e i => h dx H e (i.xt hs)
theorem SIx.repL {s : S} {F : Addr → Prop} {α : List Addr} : ∀ {ds : List D} {vs : List V}, ds.length = vs.length → (∀ (i : Nat) (d : D) (v : V), ds[i]? = some d → vs[i]? = some v → Rep K cl H F α d v) → RepL K cl H F α ds vs
  | [], [], _, _ => .nil
  | d :: ds, v :: vs, hl, h => .cons (h 0 d v rfl rfl) (SIx.repL (s := s) (by simpa using hl) fun i d v h1 h2 => h (i + 1) d v (by simpa using h1) (by simpa using h2))
  | [], _ :: _, hl, _ => by simp at hl
  | _ :: _, [], hl, _ => by simp at hl
theorem SIx.args {s : S} {F : Addr → Prop} {α : List Addr} {ds : List D} {vs : List V} (h : SIx K cl c H σ s (zipT ds vs T) F α) (hl : ds.length = vs.length) : RepL K cl H F α ds vs :=
  SIx.repL (s := s) hl fun _ _ _ h1 h2 => h.tmp (_, _) (zipT_mem h1 h2)
end

/-! ### names, constants -/
def eVar (i : Nat) : M D := fun s => match s.env[i]? with
  | some (some d) => .ok d s
  | _ => .fail
def eC (d : D) : M D := fun s => .ok d s
section
variable {X : Cx} {cl : Str → Addr} {W : WX}
theorem de_var {i : Nat} {x : Str} {pos : Pos} (hN : X.N[i]? = some x) (hv : Vis X.env.scope x) (hd : (x == ("__debug__" : Str)) = false := by decide) (hcd : (x == ("__classdict__" : Str)) = false := by decide) : DE X cl W (.Name x pos) (eVar i) := by
  refine ⟨_, pe_var hN hv hd hcd, fun c σ s T H Q I w => ?_⟩
  unfold eVar at w
  split at w
  · rename_i d e
    obtain ⟨v, h1, h2⟩ := I.var e
    exact ⟨v, h1, w v H h2⟩
  · exact w.elim
/-- a datum without objects, its value -/
def flatD : D → Option V
  | .non => some .non | .bl b => some (.bl b) | .int i => some (.int i) | .str s => some (.str s) | .raw v => some v
  | _ => none
theorem flat_rep {K : PySem.W.Frag} {H : Hp} {F : Addr → Prop} {α : List Addr} {d : D} {v : V} (h : flatD d = some v) : Rep K cl H F α d v := by
  cases d <;> simp [flatD] at h <;> subst h
  · exact .non
  · exact .bl
  · exact .int
  · exact .str
  · exact .raw
theorem SI.flat {K : PySem.W.Frag} {c : Cz} {H : Hp} {σ : L2.St} {s : S} {T : List (D × V)} {d : D} {v : V} (h : flatD d = some v) (I : SI K cl c H σ s T) : SI K cl c H σ s ((d, v) :: T) := by
  obtain ⟨F, α, I⟩ := I
  exact ⟨F, α, I.push (flat_rep h)⟩
theorem de_of {e : Expr} {d : D} {v : V} (h : PE X e (tC v)) (hd : flatD d = some v) : DE X cl W e (eC d) := ⟨_, h, fun _ _ _ _ H _ I w => w v H (I.flat hd)⟩
theorem de_int {i j pos} : DE X cl W (.Constant (.int i) j pos) (eC (.int i)) := de_of pe_int rfl
theorem de_bl {b j pos} : DE X cl W (.Constant (.bool b) j pos) (eC (.bl b)) := de_of pe_bl rfl
theorem de_non {j pos} : DE X cl W (.Constant .none j pos) (eC .non) := de_of pe_non rfl
theorem de_str {x j pos} : DE X cl W (.Constant (.str x) j pos) (eC (.str x)) := de_of pe_str rfl
/-- a module's constant -/
theorem de_glob {x : Str} {d : D} {v : V} {u : Value} {pos : Pos} (hg : Gl X x) (hm : X.mg x = some u) (r : RelV v u) (hd : ∀ H F α, Rep X.K cl H F α d v) (hdb : (x == ("__debug__" : Str)) = false := by decide) : DE X cl W (.Name x pos) (eC d) :=
  ⟨_, pe_glob hg hm r hdb, fun _ _ _ _ H _ ⟨F, α, I⟩ w => w v H ⟨F, α, I.push (hd H F α)⟩⟩

/-! ### operators on two values that make no object -/
/-- g d e = a flat datum; the rule gives its value -/
structure OpF (X : Cx) (cl : Str → Addr) (op : Value → Value → Sem Value) (g : D → D → Option D) : Prop where
  ex : ∃ r : R2, OpR X op r ∧ ∀ H F α d e x y z Q, Rep X.K cl H F α d x → Rep X.K cl H F α e y → g d e = some z → (∀ v, flatD z = some v → Q v H) → r x y H Q
def oOf (o : Option D) (s : S) : Out D := match o with
  | some d => .ok d s
  | none => .fail
def eOp (g : D → D → Option D) (fa fb : M D) : M D := fun s => (fa s).bind fun x s => (fb s).bind fun y s => oOf (g (view s.M x) (view s.M y)) s
theorem isFlat_of {d : D} {v : V} (h : flatD d = some v) : True := trivial
end
end DL

/-! DlC: reading what data stand for; operators. -/
namespace DL
open PySem L2

mutual
/-- plain data, as the library has them -/
def pd : D → Option PyData
  | .non => some .none
  | .bl b => some (.bool b)
  | .int i => some (.int i)
  | .str s => some (.str s)
  | .tup xs => (pdL xs).map .tuple
  | .kt xs => (pdL xs).map .tuple
  | .lst xs => (pdL xs).map .list
  | _ => none
def pdL : List D → Option (List PyData)
  | [] => some []
  | x :: xs => match pd x with
    | none => none
    | some p => (pdL xs).map (p :: ·)
end
/-- a tuple's items -/
def tpD : D → Option (List D)
  | .tup xs => some xs
  | .kt xs => some xs
  | _ => none
/-- a sequence's items -/
def seqD : D → Option (List D)
  | .tup xs => some xs
  | .kt xs => some xs
  | .lst xs => some xs
  | .slst xs => some xs
  | _ => none

section
variable {K : PySem.W.Frag} {cl : Str → Addr} {c : Cz} {H H' : Hp} {σ σ' : L2.St} {s : S} {T T' : List (D × V)} {F F' : Addr → Prop} {α α' : List Addr}
mutual
theorem Rep.dp : ∀ {d : D} {v : V} {p : PyData}, Rep K cl H F α d v → pd d = some p → Dp K H v p
  | _, _, _, .non, e => by simp [pd] at e; subst e; exact .non
  | _, _, _, .bl, e => by simp [pd] at e; subst e; exact .bl _
  | _, _, _, .int, e => by simp [pd] at e; subst e; exact .int _
  | _, _, _, .str, e => by simp [pd] at e; subst e; exact .str _
  | _, _, _, .tup h r, e => by
    simp only [pd, Option.map_eq_some_iff] at e
    obtain ⟨ps, e1, rfl⟩ := e
    exact .tup h.1 (RepL.dp r e1)
  | _, _, _, .kt h r, e => by
    simp only [pd, Option.map_eq_some_iff] at e
    obtain ⟨ps, e1, rfl⟩ := e
    exact .tup (SqT.of h) (RepL.dp r e1)
  | _, _, _, .lst h _ r, e => by
    simp only [pd, Option.map_eq_some_iff] at e
    obtain ⟨ps, e1, rfl⟩ := e
    exact .lst (SqL.of h) (RepL.dp r e1)
  | _, _, _, .slst _ _ _, e => by simp [pd] at e
  | _, _, _, .slstK _ _, e => by simp [pd] at e
  | _, _, _, .dct _ _ _, e => by simp [pd] at e
  | _, _, _, .dcu _ _ _, e => by simp [pd] at e
  | _, _, _, .obj _ _ _, e => by simp [pd] at e
  | _, _, _, .xd _ _ _, e => by simp [pd] at e
  | _, _, _, .ptr _, e => by simp [pd] at e
  | _, _, _, .raw, e => by simp [pd] at e
theorem RepL.dp : ∀ {d : List D} {v : List V} {p : List PyData}, RepL K cl H F α d v → pdL d = some p → DpAll K H v p
  | _, _, _, .nil, e => by simp [pdL] at e; subst e; exact .nil
  | _, _, _, .cons (d := d) h r, e => by
    simp only [pdL] at e
    cases q : pd d with
    | none => rw [q] at e; simp at e
    | some p =>
      rw [q] at e
      simp only [Option.map_eq_some_iff] at e
      obtain ⟨ps, e1, rfl⟩ := e
      exact .cons (Rep.dp h q) (RepL.dp r e1)
end
theorem Rep.seq : ∀ {d : D} {v : V} {ds : List D}, Rep K cl H F α d v → seqD d = some ds → ∃ a vs, v = .ref a ∧ (SqL K H a vs ∨ SqT K H a vs) ∧ RepL K cl H F α ds vs
  | _, _, _, .non, e => by simp [seqD] at e
  | _, _, _, .bl, e => by simp [seqD] at e
  | _, _, _, .int, e => by simp [seqD] at e
  | _, _, _, .str, e => by simp [seqD] at e
  | _, _, _, .tup h r, e => by simp [seqD] at e; subst e; exact ⟨_, _, rfl, .inr h.1, r⟩
  | _, _, _, .kt h r, e => by simp [seqD] at e; subst e; exact ⟨_, _, rfl, .inr (SqT.of h), r⟩
  | _, _, _, .lst h _ r, e => by simp [seqD] at e; subst e; exact ⟨_, _, rfl, .inl (SqL.of h), r⟩
  | _, _, _, .slst h _ r, e => by simp [seqD] at e; subst e; exact ⟨_, _, rfl, .inl (.inl h), r⟩
  | _, _, _, .slstK h r, e => by simp [seqD] at e; subst e; exact ⟨_, _, rfl, .inl (h H), r⟩
  | _, _, _, .dct _ _ _, e => by simp [seqD] at e
  | _, _, _, .dcu _ _ _, e => by simp [seqD] at e
  | _, _, _, .obj _ _ _, e => by simp [seqD] at e
  | _, _, _, .xd _ _ _, e => by simp [seqD] at e
  | _, _, _, .ptr _, e => by simp [seqD] at e
  | _, _, _, .raw, e => by simp [seqD] at e
/-- the kinds of a view -/
theorem SIx.vInt {d : D} {v : V} {i : Int} (h : SIx K cl c H σ s T F α) (r : Rep K cl H F α d v) (e : DL.view s.M d = .int i) : v = .int i := by
  rcases h.view r with r | ⟨k, x, a, _, _, _, _, e2, _⟩
  · rw [e] at r; cases r; rfl
  · rw [e] at e2; cases x <;> cases e2
theorem SIx.vBl {d : D} {v : V} {i : Bool} (h : SIx K cl c H σ s T F α) (r : Rep K cl H F α d v) (e : DL.view s.M d = .bl i) : v = .bl i := by
  rcases h.view r with r | ⟨k, x, a, _, _, _, _, e2, _⟩
  · rw [e] at r; cases r; rfl
  · rw [e] at e2; cases x <;> cases e2
theorem SIx.vStr {d : D} {v : V} {i : Str} (h : SIx K cl c H σ s T F α) (r : Rep K cl H F α d v) (e : DL.view s.M d = .str i) : v = .str i := by
  rcases h.view r with r | ⟨k, x, a, _, _, _, _, e2, _⟩
  · rw [e] at r; cases r; rfl
  · rw [e] at e2; cases x <;> cases e2
theorem SIx.vNon {d : D} {v : V} (h : SIx K cl c H σ s T F α) (r : Rep K cl H F α d v) (e : DL.view s.M d = .non) : v = .non := by
  rcases h.view r with r | ⟨k, x, a, _, _, _, _, e2, _⟩
  · rw [e] at r; cases r; rfl
  · rw [e] at e2; cases x <;> cases e2
theorem SIx.vLst {d : D} {v : V} {ds : List D} (h : SIx K cl c H σ s T F α) (r : Rep K cl H F α d v) (e : DL.view s.M d = .lst ds) : ∃ a vs, v = .ref a ∧ H a = some (.lst vs) ∧ RepL K cl H F α ds vs := by
  rcases h.view r with r | ⟨k, x, a, _, rfl, _, _, e2, rc⟩
  · rw [e] at r; cases r; rename_i h1 h2 h3; exact ⟨_, _, rfl, h1, h3⟩
  · rw [e] at e2
    cases x <;> cases e2
    obtain ⟨vs, h1, h2⟩ := rc
    exact ⟨a, vs, rfl, h1, h2⟩
theorem SIx.vTupN {d : D} {v : V} {ds : List D} (h : SIx K cl c H σ s T F α) (r : Rep K cl H F α d v) (e : DL.view s.M d = .tup ds) : ∃ a vs, v = .ref a ∧ SqN K H a vs ∧ RepL K cl H F α ds vs := by
  rcases h.view r with r | ⟨k, x, a, _, rfl, _, _, e2, rc⟩
  · rw [e] at r; cases r; rename_i h1 h2; exact ⟨_, _, rfl, h1, h2⟩
  · rw [e] at e2
    cases x <;> cases e2
theorem SIx.vTup {d : D} {v : V} {ds : List D} (h : SIx K cl c H σ s T F α) (r : Rep K cl H F α d v) (e : DL.view s.M d = .tup ds) : ∃ a vs, v = .ref a ∧ SqT K H a vs ∧ RepL K cl H F α ds vs :=
  let ⟨a, vs, h1, h2, h3⟩ := h.vTupN r e
  ⟨a, vs, h1, h2.1, h3⟩
theorem SIx.vTp {d : D} {v : V} {ds : List D} (h : SIx K cl c H σ s T F α) (r : Rep K cl H F α d v) (e : tpD (DL.view s.M d) = some ds) : ∃ a vs, v = .ref a ∧ SqT K H a vs ∧ RepL K cl H F α ds vs := by
  rcases h.view r with r | ⟨k, x, a, _, rfl, _, _, e2, rc⟩
  · revert r e
    generalize DL.view s.M d = u
    intro e r
    cases r <;> simp [tpD] at e
    · subst e; rename_i h1 h2; exact ⟨_, _, rfl, h1.1, h2⟩
    · subst e; rename_i h1 h2; exact ⟨_, _, rfl, SqT.of h1, h2⟩
  · rw [e2] at e
    cases x <;> simp [C.dat, tpD] at e
theorem SIx.vSeq {d : D} {v : V} {ds : List D} (h : SIx K cl c H σ s T F α) (r : Rep K cl H F α d v) (e : seqD (DL.view s.M d) = some ds) : ∃ a vs, v = .ref a ∧ (SqL K H a vs ∨ SqT K H a vs) ∧ RepL K cl H F α ds vs := by
  rcases h.view r with r | ⟨k, x, a, _, rfl, _, _, e2, rc⟩
  · exact Rep.seq r e
  · rw [e2] at e
    cases x <;> simp [C.dat, seqD] at e <;> subst e
    obtain ⟨vs, h1, h2⟩ := rc
    exact ⟨a, vs, rfl, .inl (SqL.of h1), h2⟩
theorem SIx.vDp {d : D} {v : V} {p : PyData} (h : SIx K cl c H σ s T F α) (r : Rep K cl H F α d v) (e : pd (DL.view s.M d) = some p) : Dp K H v p := by
  rcases h.view r with r | ⟨k, x, a, _, rfl, _, _, e2, rc⟩
  · exact r.dp e
  · rw [e2] at e
    cases x with
    | lst ds =>
      simp only [C.dat, pd, Option.map_eq_some_iff] at e
      obtain ⟨ps, e1, rfl⟩ := e
      obtain ⟨vs, h1, h2⟩ := rc
      exact .lst (SqL.of h1) (RepL.dp h2 e1)
    | dct _ => simp [C.dat, pd] at e
    | dcu _ => simp [C.dat, pd] at e
    | obj _ _ => simp [C.dat, pd] at e
end

theorem SI.drop2 {K : PySem.W.Frag} {cl : Str → Addr} {c : Cz} {H : Hp} {σ : L2.St} {s : S} {T : List (D × V)} {p q : D × V} (h : SI K cl c H σ s (p :: q :: T)) : SI K cl c H σ s (p :: T) := h.sub fun _ hq => (List.mem_cons.mp hq).elim (fun z => z ▸ List.mem_cons_self ..) fun z => List.mem_cons_of_mem _ (List.mem_cons_of_mem _ z)
/-! ### operators -/
structure OpD (X : Cx) (cl : Str → Addr) (op : Value → Value → Sem Value) (g : D → D → Option D) : Prop where
  ex : ∃ r : R2, OpR X op r ∧ ∀ c σ s T H d x e y z Q, SI X.K cl c H σ s ((e, y) :: (d, x) :: T) → g (DL.view s.M d) (DL.view s.M e) = some z → (∀ v H', SI X.K cl c H' σ s ((z, v) :: (e, y) :: (d, x) :: T) → Q v H') → r x y H Q
def orD (g h : D → D → Option D) : D → D → Option D := fun a b => match g a b with
  | some z => some z
  | none => h a b
section
variable {X : Cx} {cl : Str → Addr} {W : WX} {op : Value → Value → Sem Value} {g h : D → D → Option D}
theorem OpD.or (a : OpD X cl op g) (b : OpD X cl op h) : OpD X cl op (orD g h) := by
  obtain ⟨r, hr, q⟩ := a
  obtain ⟨r', hr', q'⟩ := b
  refine ⟨_, hr.or hr', fun c σ s T H d x e y z Q I hz k => ?_⟩
  unfold orD at hz
  split at hz
  · rename_i z' e1
    cases hz
    exact .inl (q c σ s T H d x e y z Q I e1 k)
  · exact .inr (q' c σ s T H d x e y z Q I hz k)
/-- of two flat data a flat one -/
theorem OpD.flat {r : R2} (hr : OpR X op r) (hq : ∀ H F α d e x y z Q, Rep X.K cl H F α d x → Rep X.K cl H F α e y → g d e = some z → (∀ v, flatD z = some v → Q v H) → r x y H Q)
    (hd : ∀ d e z, g d e = some z → (∀ y : DL.C, d ≠ y.dat) ∧ ∀ y : DL.C, e ≠ y.dat) (hf : ∀ d e z, g d e = some z → ∃ v, flatD z = some v) : OpD X cl op g := by
  refine ⟨r, hr, fun c σ s T H d x e y z Q ⟨F, α, I⟩ hz k => ?_⟩
  obtain ⟨n1, n2⟩ := hd _ _ _ hz
  have r1 : Rep X.K cl H F α (DL.view s.M d) x := (I.view (I.tmp (d, x) (List.mem_cons_of_mem _ (List.mem_cons_self ..)))).elim id fun ⟨_, C, _, _, _, _, _, e2, _⟩ => (n1 C e2).elim
  have r2 : Rep X.K cl H F α (DL.view s.M e) y := (I.view (I.tmp (e, y) (List.mem_cons_self ..))).elim id fun ⟨_, C, _, _, _, _, _, e2, _⟩ => (n2 C e2).elim
  exact hq H F α _ _ x y z Q r1 r2 hz fun v hv => k v H (SI.flat hv ⟨F, α, I⟩)
/-- two ints -/
def gI (f : Int → Int → Option D) : D → D → Option D
  | .int i, .int j => f i j
  | _, _ => none
theorem gI_some {f : Int → Int → Option D} {d e z : D} (h : gI f d e = some z) : ∃ i j, d = .int i ∧ e = .int j ∧ f i j = some z := by
  cases d <;> first | (cases e <;> first | exact ⟨_, _, rfl, rfl, h⟩ | (simp [gI] at h)) | (simp [gI] at h)
theorem OpD.int {r : R2} {f : Int → Int → Option D} (hr : OpR X op r) (hq : ∀ i j z v H Q, f i j = some z → flatD z = some v → Q v H → r (.int i) (.int j) H Q) (hf : ∀ i j z, f i j = some z → ∃ v, flatD z = some v) : OpD X cl op (gI f) := by
  refine OpD.flat hr (fun H F α d e x y z Q r1 r2 hz k => ?_) (fun d e z hz => ?_) (fun d e z hz => ?_)
  · obtain ⟨i, j, rfl, rfl, hz⟩ := gI_some hz
    cases r1; cases r2
    obtain ⟨v, hv⟩ := hf i j z hz
    exact hq i j z v H Q hz hv (k v hv)
  · obtain ⟨i, j, rfl, rfl, hz⟩ := gI_some hz
    exact ⟨fun y q => (by cases y <;> cases q), fun y q => (by cases y <;> cases q)⟩
  · obtain ⟨i, j, rfl, rfl, hz⟩ := gI_some hz
    exact hf i j z hz
def gIf (c : Int → Int → Bool) (g : Int → Int → Int) (i j : Int) : Option D := match c i j with
  | true => some (.int (g i j))
  | false => none
theorem gIf_some {c : Int → Int → Bool} {g : Int → Int → Int} {i j : Int} {z : D} (h : gIf c g i j = some z) : c i j = true ∧ z = .int (g i j) := by
  unfold gIf at h
  cases q : c i j with
  | true => rw [q] at h; cases h; exact ⟨rfl, rfl⟩
  | false => rw [q] at h; cases h
theorem OpD.intIf {P : Int → Int → Prop} {c : Int → Int → Bool} {f : Int → Int → Int} (hr : OpR X op (rI P fun i j => .int (f i j))) (hc : ∀ i j, c i j = true → P i j) : OpD X cl op (gI (gIf c f)) :=
  OpD.int hr (fun i j z v H Q e q k => by
    obtain ⟨h1, rfl⟩ := gIf_some e
    cases q
    exact ⟨i, j, rfl, rfl, hc i j h1, k⟩) fun i j z e => by
    obtain ⟨h1, rfl⟩ := gIf_some e
    exact ⟨_, rfl⟩
def dAddI : D → D → Option D := gI fun i j => some (.int (i + j))
def dSubI : D → D → Option D := gI fun i j => some (.int (i - j))
def small64 (i : Int) : Bool := decide (-(2 ^ 64) < i) && decide (i < 2 ^ 64)
def dMulI : D → D → Option D := gI (gIf (fun i j => small64 i || small64 j) fun i j => i * j)
def dDivI : D → D → Option D := gI (gIf (fun _ j => decide (0 < j) && decide (j < 1073741824)) fun i j => i / j)
def dModI : D → D → Option D := gI (gIf (fun _ j => decide (0 < j)) fun i j => i % j)
def dPowI : D → D → Option D := gI (gIf (fun i j => decide (0 ≤ j) && decide (j ≤ 1000000) && decide (i.natAbs < 2 ^ 64)) fun i j => i ^ j.toNat)
theorem od_addI : OpD X cl (binaryOp .Add) dAddI := OpD.int op_add (fun i j z v H Q e f q => by cases e; cases f; exact ⟨i, j, rfl, rfl, q⟩) (fun i j z e => by cases e; exact ⟨_, rfl⟩)
theorem od_subI : OpD X cl (binaryOp .Sub) dSubI := OpD.int op_sub (fun i j z v H Q e f q => by cases e; cases f; exact ⟨i, j, rfl, rfl, q⟩) (fun i j z e => by cases e; exact ⟨_, rfl⟩)
theorem od_mulI : OpD X cl (binaryOp .Mult) dMulI := OpD.intIf op_mul fun i j h => by
  simpa [small64, Bool.or_eq_true, Bool.and_eq_true, CMul] using h
theorem od_divI : OpD X cl (binaryOp .FloorDiv) dDivI := OpD.intIf op_fdiv fun i j h => by simpa [CDiv, Bool.and_eq_true] using h
theorem od_modI : OpD X cl (binaryOp .Mod) dModI := OpD.intIf op_mod fun i j h => by simpa using h
theorem od_powI : OpD X cl (binaryOp .Pow) dPowI := OpD.intIf op_pow fun i j h => by simpa [CPow, Bool.and_eq_true, and_assoc] using h
def gCmp (p : Int → Int → Bool) : D → D → Option D := gI fun i j => some (.bl (p i j))
def dLtI := gCmp fun i j => decide (i < j)
def dLeI := gCmp fun i j => decide (i ≤ j)
def dGtI := gCmp fun i j => decide (j < i)
def dGeI := gCmp fun i j => decide (j ≤ i)
theorem od_ltI : OpD X cl (compareOp .Lt) dLtI := OpD.int op_lt (fun i j z v H Q e f q => by cases e; cases f; exact ⟨i, j, rfl, rfl, q⟩) (fun i j z e => by cases e; exact ⟨_, rfl⟩)
theorem od_leI : OpD X cl (compareOp .LtE) dLeI := OpD.int op_le (fun i j z v H Q e f q => by cases e; cases f; exact ⟨i, j, rfl, rfl, q⟩) (fun i j z e => by cases e; exact ⟨_, rfl⟩)
theorem od_gtI : OpD X cl (compareOp .Gt) dGtI := OpD.int op_gt (fun i j z v H Q e f q => by cases e; cases f; exact ⟨i, j, rfl, rfl, q⟩) (fun i j z e => by cases e; exact ⟨_, rfl⟩)
theorem od_geI : OpD X cl (compareOp .GtE) dGeI := OpD.int op_ge (fun i j z v H Q e f q => by cases e; cases f; exact ⟨i, j, rfl, rfl, q⟩) (fun i j z e => by cases e; exact ⟨_, rfl⟩)
/-- two texts -/
def dAddS : D → D → Option D
  | .str a, .str b => if a.length + b.length ≤ 1000000 then some (.str (a ++ b)) else none
  | _, _ => none
theorem line1m {n : Nat} (h : n ≤ 1000000) : n ≤ sizeLine := by rw [sizeLine_eq]; omega
theorem od_addS : OpD X cl (binaryOp .Add) dAddS := by
  have key : ∀ d e z, dAddS d e = some z → ∃ a b, d = .str a ∧ e = .str b ∧ a.length + b.length ≤ 1000000 ∧ z = .str (a ++ b) := fun d e z h => by
    cases d <;> first | (cases e <;> first | (simp only [dAddS] at h; split at h; (· rename_i hc; cases h; exact ⟨_, _, rfl, rfl, hc, rfl⟩); (· cases h)) | (simp [dAddS] at h)) | (simp [dAddS] at h)
  refine OpD.flat op_add_str (fun H F α d e x y z Q r1 r2 hz k => ?_) (fun d e z hz => ?_) (fun d e z hz => ?_)
  · obtain ⟨a, b, rfl, rfl, hl, rfl⟩ := key _ _ _ hz
    cases r1; cases r2
    exact ⟨a, b, rfl, rfl, line1m hl, k _ rfl⟩
  · obtain ⟨a, b, rfl, rfl, hl, rfl⟩ := key _ _ _ hz
    exact ⟨fun y q => (by cases y <;> cases q), fun y q => (by cases y <;> cases q)⟩
  · obtain ⟨a, b, rfl, rfl, hl, rfl⟩ := key _ _ _ hz
    exact ⟨_, rfl⟩
theorem RepL.nil_iff {K : PySem.W.Frag} {H : Hp} {F : Addr → Prop} {α : List Addr} {ds : List D} {vs : List V} (r : RepL K cl H F α ds vs) : vs = [] ↔ ds = [] := by
  cases r <;> simp
/-- two tuples -/
def dAddT : D → D → Option D
  | .tup a, .tup b => if a.length + b.length ≤ 1000000 then some (.tup (a ++ b)) else none
  | _, _ => none
theorem od_addT : OpD X cl (binaryOp .Add) dAddT := by
  refine ⟨_, op_catN, fun c σ s T H d x e y z Q ⟨F, α, I⟩ hz k => ?_⟩
  have r1 := I.tmp (d, x) (List.mem_cons_of_mem _ (List.mem_cons_self ..))
  have r2 := I.tmp (e, y) (List.mem_cons_self ..)
  unfold dAddT at hz
  split at hz
  · rename_i a b e1 e2
    split at hz
    · rename_i hl
      cases hz
      obtain ⟨p, vs, e3, h1, q1⟩ := I.vTupN r1 e1
      obtain ⟨p', ws, e4, h2, q2⟩ := I.vTupN r2 e2
      have e3 : x = .ref p := e3
      have e4 : y = .ref p' := e4
      subst e3 e4
      refine ⟨p, p', vs, ws, rfl, rfl, h1.1, h2.1, by rw [← q1.length, ← q2.length]; exact line1m hl, fun hx => ?_, fun hx hy => ?_, fun hx hy q hq ob hd => ?_⟩
      · have := q1.nil_iff.mp hx; subst this
        exact k _ _ ((I.push (d := .tup ([] ++ b)) (.tup h2 (by rw [List.nil_append]; exact q2))).si)
      · have := q2.nil_iff.mp hy; subst this
        exact k _ _ ((I.push (d := .tup (a ++ [])) (.tup h1 (by rw [List.append_nil]; exact q1))).si)
      · have e := ext_new (o := .frz ob (.tup (vs ++ ws))) I hq
        exact k _ _ (((I.newF hq).push (.tup (SqN.of upd_same hd) ((q1.append q2).ext e))).si)
    · cases hz
  · cases hz
/-- two lists -/
def dAddL : D → D → Option D
  | .lst a, .lst b => if a.length + b.length ≤ 1000000 then some (.lst (a ++ b)) else none
  | _, _ => none
theorem od_addL : OpD X cl (binaryOp .Add) dAddL := by
  refine ⟨_, op_cat, fun c σ s T H d x e y z Q ⟨F, α, I⟩ hz k => ?_⟩
  have r1 := I.tmp (d, x) (List.mem_cons_of_mem _ (List.mem_cons_self ..))
  have r2 := I.tmp (e, y) (List.mem_cons_self ..)
  unfold dAddL at hz
  split at hz
  · rename_i a b e1 e2
    split at hz
    · rename_i hl
      cases hz
      obtain ⟨p, vs, e3, h1, q1⟩ := I.vLst r1 e1
      obtain ⟨p', ws, e4, h2, q2⟩ := I.vLst r2 e2
      have e3 : x = .ref p := e3
      have e4 : y = .ref p' := e4
      subst e3 e4
      refine ⟨p, p', vs, ws, rfl, rfl, h1, h2, by rw [← q1.length, ← q2.length]; exact line1m hl, fun q hq => ?_⟩
      have e := ext_new (o := .lst (vs ++ ws)) I hq
      exact k _ _ (((I.newF hq).push (.lst upd_same (.inr rfl) ((q1.append q2).ext e))).si)
    · cases hz
  · cases hz
def dAdd : D → D → Option D := orD dAddI (orD dAddS (orD dAddT dAddL))
theorem od_add : OpD X cl (binaryOp .Add) dAdd := od_addI.or (od_addS.or (od_addT.or od_addL))
theorem de_op {o : Operator} {a b : Expr} {fa fb : M D} {pos : Pos} (ho : OpD X cl (binaryOp o) g) (ha : DE X cl W a fa) (hb : DE X cl W b fb) : DE X cl W (.BinOp a o b pos) (eOp g fa fb) := by
  obtain ⟨ta, pa, qa⟩ := ha
  obtain ⟨tb, pb, qb⟩ := hb
  obtain ⟨r, hr, q⟩ := ho
  refine ⟨_, pe_op hr pa pb, fun c σ s T H Q I w => ?_⟩
  refine qa c σ s T H _ I (w.bind fun d s1 _ w1 v H1 I1 => ?_)
  refine qb c σ s1 _ H1 _ I1 ((w1.deeper fun p hp => List.mem_cons_of_mem _ hp).bind fun e s2 _ w2 u H2 I2 => ?_)
  unfold oOf at w2
  split at w2
  · rename_i z hz
    exact q c σ s2 T H2 d v e u z Q I2 hz fun v' H' I' => w2 v' H' I'.drop2
  · exact w2.elim
theorem de_cmp {o : CmpOp} {a b : Expr} {fa fb : M D} {pos : Pos} (ho : OpD X cl (compareOp o) g) (ha : DE X cl W a fa) (hb : DE X cl W b fb) (hm : behindInMarks o b = false) : DE X cl W (.Compare a [o] [b] pos) (eOp g fa fb) := by
  obtain ⟨ta, pa, qa⟩ := ha
  obtain ⟨tb, pb, qb⟩ := hb
  obtain ⟨r, hr, q⟩ := ho
  refine ⟨_, pe_cmpR hr pa pb hm, fun c σ s T H Q I w => ?_⟩
  refine qa c σ s T H _ I (w.bind fun d s1 _ w1 v H1 I1 => ?_)
  refine qb c σ s1 _ H1 _ I1 ((w1.deeper fun p hp => List.mem_cons_of_mem _ hp).bind fun e s2 _ w2 u H2 I2 => ?_)
  unfold oOf at w2
  split at w2
  · rename_i z hz
    exact q c σ s2 T H2 d v e u z Q I2 hz fun v' H' I' => w2 v' H' I'.drop2
  · exact w2.elim
end
end DL

/-! DlD: comparisons, tests, displays, argument lists. -/
namespace DL
open PySem L2

section
variable {X : Cx} {cl : Str → Addr} {W : WX}
/-! ### == and its kin -/
def eqF : D → D → Option Bool
  | .int i, .int j => some (decide (i = j))
  | .str i, .str j => some (decide (i = j))
  | .bl i, .bl j => some (decide (i = j))
  | .non, .non => some true
  | .non, .int _ => some false | .int _, .non => some false
  | .non, .str _ => some false | .str _, .non => some false
  | .non, .bl _ => some false | .bl _, .non => some false
  | .int _, .str _ => some false | .str _, .int _ => some false
  | .bl _, .str _ => some false | .str _, .bl _ => some false
  | _, _ => none
def dEqF (d e : D) : Option D := (eqF d e).map .bl
def dNeF (d e : D) : Option D := (eqF d e).map fun b => .bl (!b)
theorem eqF_some {d e : D} {b : Bool} (h : eqF d e = some b) : ∃ x y, flatD d = some x ∧ flatD e = some y ∧ scal x y = true ∧ b = decide (x = y) := by
  cases d <;> first | (cases e <;> first | (simp only [eqF] at h; cases h; exact ⟨_, _, rfl, rfl, rfl, by simp⟩) | (simp [eqF] at h)) | (simp [eqF] at h)
theorem flat_view {s : S} {K : PySem.W.Frag} {c : Cz} {H : Hp} {σ : L2.St} {T : List (D × V)} {F : Addr → Prop} {α : List Addr} {d : D} {v x : V} (I : SIx K cl c H σ s T F α) (r : Rep K cl H F α d v) (hx : flatD (view s.M d) = some x) (hr : ∀ u, view s.M d ≠ .raw u) : v = x := by
  rcases I.view r with r | ⟨k, y, a, _, _, _, _, e2, _⟩
  · revert r hx hr
    generalize view s.M d = z
    intro hx hr r
    cases z <;> simp [flatD] at hx <;> subst hx
    · cases r; rfl
    · cases r; rfl
    · cases r; rfl
    · cases r; rfl
    · exact absurd rfl (hr _)
  · rw [e2] at hx
    cases y <;> cases hx
theorem eqF_raw {d e : D} {b : Bool} (h : eqF d e = some b) : (∀ u, d ≠ .raw u) ∧ ∀ u, e ≠ .raw u := by
  refine ⟨fun u q => ?_, fun u q => ?_⟩
  · subst q; cases e <;> simp [eqF] at h
  · subst q; cases d <;> simp [eqF] at h
theorem od_eqF : OpD X cl (compareOp .Eq) dEqF := by
  refine ⟨_, op_eq, fun c σ s T H d x e y z Q ⟨F, α, I⟩ hz k => ?_⟩
  unfold dEqF at hz
  cases q : eqF (view s.M d) (view s.M e) with
  | none => rw [q] at hz; cases hz
  | some b =>
    rw [q] at hz; cases hz
    obtain ⟨u, w, h1, h2, h3, rfl⟩ := eqF_some q
    obtain ⟨n1, n2⟩ := eqF_raw q
    have e1 := flat_view I (I.tmp (d, x) (List.mem_cons_of_mem _ (List.mem_cons_self ..))) h1 n1
    have e2 := flat_view I (I.tmp (e, y) (List.mem_cons_self ..)) h2 n2
    have e1 : x = u := e1
    have e2 : y = w := e2
    subst e1 e2
    exact ⟨h3, k _ H (SI.flat rfl ⟨F, α, I⟩)⟩
theorem od_neF : OpD X cl (compareOp .NotEq) dNeF := by
  refine ⟨_, op_ne, fun c σ s T H d x e y z Q ⟨F, α, I⟩ hz k => ?_⟩
  unfold dNeF at hz
  cases q : eqF (view s.M d) (view s.M e) with
  | none => rw [q] at hz; cases hz
  | some b =>
    rw [q] at hz; cases hz
    obtain ⟨u, w, h1, h2, h3, rfl⟩ := eqF_some q
    obtain ⟨n1, n2⟩ := eqF_raw q
    have e1 := flat_view I (I.tmp (d, x) (List.mem_cons_of_mem _ (List.mem_cons_self ..))) h1 n1
    have e2 := flat_view I (I.tmp (e, y) (List.mem_cons_self ..)) h2 n2
    have e1 : x = u := e1
    have e2 : y = w := e2
    subst e1 e2
    exact ⟨h3, k _ H (SI.flat rfl ⟨F, α, I⟩)⟩
def eqP (d e : D) : Option Bool := match pd d, pd e with
  | some p, some q => if SeqAt.shaped p && SeqAt.shaped q then some (PyData.eqv p q) else none
  | _, _ => none
theorem eqP_some {d e : D} {b : Bool} (h : eqP d e = some b) : ∃ p q, pd d = some p ∧ pd e = some q ∧ SeqAt.shaped p = true ∧ SeqAt.shaped q = true ∧ b = PyData.eqv p q := by
  unfold eqP at h
  split at h
  · rename_i p q e1 e2
    cases hc : (SeqAt.shaped p && SeqAt.shaped q) with
    | true =>
      rw [hc] at h; cases h
      obtain ⟨h1, h2⟩ := Bool.and_eq_true_iff.mp hc
      exact ⟨p, q, e1, e2, h1, h2, rfl⟩
    | false => rw [hc] at h; cases h
  · cases h
def dEqP (d e : D) : Option D := (eqP d e).map .bl
def dNeP (d e : D) : Option D := (eqP d e).map fun b => .bl (!b)
theorem od_eqP (hu : X.A.units + 64 < cLine) : OpD X cl (compareOp .Eq) dEqP := by
  refine ⟨_, op_eqD hu, fun c σ s T H d x e y z Q ⟨F, α, I⟩ hz k => ?_⟩
  unfold dEqP at hz
  cases q : eqP (view s.M d) (view s.M e) with
  | none => rw [q] at hz; cases hz
  | some b =>
    rw [q] at hz; cases hz
    obtain ⟨p, r, h1, h2, h3, h4, rfl⟩ := eqP_some q
    exact ⟨p, r, I.vDp (I.tmp (d, x) (List.mem_cons_of_mem _ (List.mem_cons_self ..))) h1, I.vDp (I.tmp (e, y) (List.mem_cons_self ..)) h2, h3, h4, k _ H (SI.flat rfl ⟨F, α, I⟩)⟩
theorem od_neP (hu : X.A.units + 64 < cLine) : OpD X cl (compareOp .NotEq) dNeP := by
  refine ⟨_, op_neD hu, fun c σ s T H d x e y z Q ⟨F, α, I⟩ hz k => ?_⟩
  unfold dNeP at hz
  cases q : eqP (view s.M d) (view s.M e) with
  | none => rw [q] at hz; cases hz
  | some b =>
    rw [q] at hz; cases hz
    obtain ⟨p, r, h1, h2, h3, h4, rfl⟩ := eqP_some q
    exact ⟨p, r, I.vDp (I.tmp (d, x) (List.mem_cons_of_mem _ (List.mem_cons_self ..))) h1, I.vDp (I.tmp (e, y) (List.mem_cons_self ..)) h2, h3, h4, k _ H (SI.flat rfl ⟨F, α, I⟩)⟩
def dEq : D → D → Option D := orD dEqF dEqP
def dNe : D → D → Option D := orD dNeF dNeP
theorem od_eq (hu : X.A.units + 64 < cLine) : OpD X cl (compareOp .Eq) dEq := od_eqF.or (od_eqP hu)
theorem od_ne (hu : X.A.units + 64 < cLine) : OpD X cl (compareOp .NotEq) dNe := od_neF.or (od_neP hu)
/-! ### is -/
def isNon : D → Option Bool
  | .non => some true
  | .raw _ => none
  | _ => some false
theorem isNon_rep {K : PySem.W.Frag} {H : Hp} {F : Addr → Prop} {α : List Addr} {d : D} {v : V} {b : Bool} (r : Rep K cl H F α d v) (h : isNon d = some b) : b = decide (v = .non) := by
  cases r <;> simp [isNon] at h <;> subst h <;> simp
def dIsN (d e : D) : Option D := match e with
  | .non => (isNon d).map .bl
  | _ => none
def dNotN (d e : D) : Option D := match e with
  | .non => (isNon d).map fun b => .bl (!b)
  | _ => none
theorem isNon_view {s : S} {K : PySem.W.Frag} {c : Cz} {H : Hp} {σ : L2.St} {T : List (D × V)} {F : Addr → Prop} {α : List Addr} {d : D} {v : V} {b : Bool} (I : SIx K cl c H σ s T F α) (r : Rep K cl H F α d v) (h : isNon (view s.M d) = some b) : b = decide (v = .non) := by
  rcases I.view r with r | ⟨k, y, a, _, rfl, _, _, e2, _⟩
  · exact isNon_rep r h
  · rw [e2] at h
    cases y <;> cases h <;> simp
theorem od_isN : OpD X cl (compareOp .Is) dIsN := by
  refine ⟨_, op_isN, fun c σ s T H d x e y z Q ⟨F, α, I⟩ hz k => ?_⟩
  unfold dIsN at hz
  split at hz
  · rename_i e1
    have e2 := I.vNon (I.tmp (e, y) (List.mem_cons_self ..)) e1
    have e2 : y = .non := e2
    subst e2
    cases q : isNon (view s.M d) with
    | none => rw [q] at hz; cases hz
    | some b =>
      rw [q] at hz; cases hz
      have e3 := isNon_view I (I.tmp (d, x) (List.mem_cons_of_mem _ (List.mem_cons_self ..))) q
      exact ⟨rfl, by rw [← e3]; exact k _ H (SI.flat rfl ⟨F, α, I⟩)⟩
  · cases hz
theorem od_notN : OpD X cl (compareOp .IsNot) dNotN := by
  refine ⟨_, op_notN, fun c σ s T H d x e y z Q ⟨F, α, I⟩ hz k => ?_⟩
  unfold dNotN at hz
  split at hz
  · rename_i e1
    have e2 := I.vNon (I.tmp (e, y) (List.mem_cons_self ..)) e1
    have e2 : y = .non := e2
    subst e2
    cases q : isNon (view s.M d) with
    | none => rw [q] at hz; cases hz
    | some b =>
      rw [q] at hz; cases hz
      have e3 := isNon_view I (I.tmp (d, x) (List.mem_cons_of_mem _ (List.mem_cons_self ..))) q
      exact ⟨rfl, by rw [← e3]; exact k _ H (SI.flat rfl ⟨F, α, I⟩)⟩
  · cases hz
def dIsB (d e : D) : Option D := match d, e with
  | .bl a, .bl b => some (.bl (decide (a = b)))
  | _, _ => none
def dNotB (d e : D) : Option D := match d, e with
  | .bl a, .bl b => some (.bl (!decide (a = b)))
  | _, _ => none
theorem od_isB : OpD X cl (compareOp .Is) dIsB := by
  refine ⟨_, op_isBl, fun c σ s T H d x e y z Q ⟨F, α, I⟩ hz k => ?_⟩
  unfold dIsB at hz
  split at hz
  · rename_i a b e1 e2
    cases hz
    exact ⟨a, b, I.vBl (I.tmp (d, x) (List.mem_cons_of_mem _ (List.mem_cons_self ..))) e1, I.vBl (I.tmp (e, y) (List.mem_cons_self ..)) e2, k _ H (SI.flat rfl ⟨F, α, I⟩)⟩
  · cases hz
theorem od_notB : OpD X cl (compareOp .IsNot) dNotB := by
  refine ⟨_, op_notBl, fun c σ s T H d x e y z Q ⟨F, α, I⟩ hz k => ?_⟩
  unfold dNotB at hz
  split at hz
  · rename_i a b e1 e2
    cases hz
    exact ⟨a, b, I.vBl (I.tmp (d, x) (List.mem_cons_of_mem _ (List.mem_cons_self ..))) e1, I.vBl (I.tmp (e, y) (List.mem_cons_self ..)) e2, k _ H (SI.flat rfl ⟨F, α, I⟩)⟩
  · cases hz
def dIs : D → D → Option D := orD dIsN dIsB
def dNot : D → D → Option D := orD dNotN dNotB
theorem od_is : OpD X cl (compareOp .Is) dIs := od_isN.or od_isB
theorem od_not : OpD X cl (compareOp .IsNot) dNot := od_notN.or od_notB
/-! ### in -/
def flatO : D → Option V
  | .non => some .non | .bl b => some (.bl b) | .int i => some (.int i) | .str s => some (.str s)
  | _ => none
def flatsO : List D → Option (List V)
  | [] => some []
  | d :: ds => match flatO d, flatsO ds with
    | some v, some vs => some (v :: vs)
    | _, _ => none
theorem flatO_rep {K : PySem.W.Frag} {H : Hp} {F : Addr → Prop} {α : List Addr} {d : D} {v w : V} (r : Rep K cl H F α d v) (h : flatO d = some w) : v = w ∧ flatV w = true := by
  cases r <;> simp [flatO] at h <;> subst h <;> exact ⟨rfl, rfl⟩
theorem flatsO_rep {K : PySem.W.Frag} {H : Hp} {F : Addr → Prop} {α : List Addr} : ∀ {ds : List D} {vs ws : List V}, RepL K cl H F α ds vs → flatsO ds = some ws → vs = ws ∧ ws.all flatV = true
  | _, _, _, .nil, h => by simp [flatsO] at h; subst h; exact ⟨rfl, rfl⟩
  | _, _, _, .cons (d := d) (ds := ds) r t, h => by
    simp only [flatsO] at h
    cases q1 : flatO d with
    | none => rw [q1] at h; simp at h
    | some v =>
      cases q2 : flatsO ds with
      | none => rw [q1, q2] at h; simp at h
      | some vs =>
        rw [q1, q2] at h
        simp at h; subst h
        obtain ⟨h1, h2⟩ := flatO_rep r q1
        obtain ⟨h3, h4⟩ := flatsO_rep t q2
        exact ⟨by rw [h1, h3], by rw [List.all_cons, h2, h4]; rfl⟩
theorem flatO_view {s : S} {K : PySem.W.Frag} {c : Cz} {H : Hp} {σ : L2.St} {T : List (D × V)} {F : Addr → Prop} {α : List Addr} {d : D} {v w : V} (I : SIx K cl c H σ s T F α) (r : Rep K cl H F α d v) (h : flatO (view s.M d) = some w) : v = w ∧ flatV w = true := by
  rcases I.view r with r | ⟨k, y, a, _, _, _, _, e2, _⟩
  · exact flatO_rep r h
  · rw [e2] at h
    cases y <;> cases h
def inSeq (d e : D) : Option Bool := match flatO d, seqD e with
  | some v, some ds => (flatsO ds).map (inV v)
  | _, _ => none
theorem inSeq_some {d e : D} {b : Bool} (h : inSeq d e = some b) : ∃ v ds vs, flatO d = some v ∧ seqD e = some ds ∧ flatsO ds = some vs ∧ b = inV v vs := by
  unfold inSeq at h
  split at h
  · rename_i v ds e1 e2
    cases q : flatsO ds with
    | none => rw [q] at h; cases h
    | some vs => rw [q] at h; cases h; exact ⟨v, ds, vs, e1, e2, q, rfl⟩
  · cases h
def dInQ (d e : D) : Option D := (inSeq d e).map .bl
def dNotInQ (d e : D) : Option D := (inSeq d e).map fun b => .bl (!b)
theorem od_inQ : OpD X cl (compareOp .In) dInQ := by
  refine ⟨_, op_in_seq, fun c σ s T H d x e y z Q ⟨F, α, I⟩ hz k => ?_⟩
  unfold dInQ at hz
  cases q : inSeq (view s.M d) (view s.M e) with
  | none => rw [q] at hz; cases hz
  | some b =>
    rw [q] at hz; cases hz
    obtain ⟨v, ds, vs, h1, h2, h3, rfl⟩ := inSeq_some q
    obtain ⟨e1, f1⟩ := flatO_view I (I.tmp (d, x) (List.mem_cons_of_mem _ (List.mem_cons_self ..))) h1
    obtain ⟨p, ws, e2, h4, rl⟩ := I.vSeq (I.tmp (e, y) (List.mem_cons_self ..)) h2
    obtain ⟨e3, f2⟩ := flatsO_rep rl h3
    have e1 : x = v := e1
    have e2 : y = .ref p := e2
    subst e1 e2 e3
    exact ⟨p, ws, rfl, h4, f1, f2, k _ H (SI.flat rfl ⟨F, α, I⟩)⟩
theorem od_notInQ : OpD X cl (compareOp .NotIn) dNotInQ := by
  refine ⟨_, op_notIn_seq, fun c σ s T H d x e y z Q ⟨F, α, I⟩ hz k => ?_⟩
  unfold dNotInQ at hz
  cases q : inSeq (view s.M d) (view s.M e) with
  | none => rw [q] at hz; cases hz
  | some b =>
    rw [q] at hz; cases hz
    obtain ⟨v, ds, vs, h1, h2, h3, rfl⟩ := inSeq_some q
    obtain ⟨e1, f1⟩ := flatO_view I (I.tmp (d, x) (List.mem_cons_of_mem _ (List.mem_cons_self ..))) h1
    obtain ⟨p, ws, e2, h4, rl⟩ := I.vSeq (I.tmp (e, y) (List.mem_cons_self ..)) h2
    obtain ⟨e3, f2⟩ := flatsO_rep rl h3
    have e1 : x = v := e1
    have e2 : y = .ref p := e2
    subst e1 e2 e3
    exact ⟨p, ws, rfl, h4, f1, f2, k _ H (SI.flat rfl ⟨F, α, I⟩)⟩
def found (i j : Str) : Bool := !(Builtin.Str.occurrences j i 0 j.length 1).isEmpty
def dInS (d e : D) : Option D := match d, e with
  | .str i, .str j => some (.bl (found i j))
  | _, _ => none
def dNotInS (d e : D) : Option D := match d, e with
  | .str i, .str j => some (.bl (!found i j))
  | _, _ => none
theorem od_inS : OpD X cl (compareOp .In) dInS := by
  refine ⟨_, op_in_str, fun c σ s T H d x e y z Q ⟨F, α, I⟩ hz k => ?_⟩
  unfold dInS at hz
  split at hz
  · rename_i a b e1 e2
    cases hz
    exact ⟨a, b, I.vStr (I.tmp (d, x) (List.mem_cons_of_mem _ (List.mem_cons_self ..))) e1, I.vStr (I.tmp (e, y) (List.mem_cons_self ..)) e2, k _ H (SI.flat rfl ⟨F, α, I⟩)⟩
  · cases hz
theorem od_notInS : OpD X cl (compareOp .NotIn) dNotInS := by
  refine ⟨_, L2.op_notin_str, fun c σ s T H d x e y z Q ⟨F, α, I⟩ hz k => ?_⟩
  unfold dNotInS at hz
  split at hz
  · rename_i a b e1 e2
    cases hz
    exact ⟨a, b, I.vStr (I.tmp (d, x) (List.mem_cons_of_mem _ (List.mem_cons_self ..))) e1, I.vStr (I.tmp (e, y) (List.mem_cons_self ..)) e2, k _ H (SI.flat rfl ⟨F, α, I⟩)⟩
  · cases hz
def dIn : D → D → Option D := orD dInS dInQ
def dNotIn : D → D → Option D := orD dNotInS dNotInQ
theorem od_in : OpD X cl (compareOp .In) dIn := od_inS.or od_inQ
theorem od_notIn : OpD X cl (compareOp .NotIn) dNotIn := od_notInS.or od_notInQ

/-! ### tests -/
def bOf (d : D) (s : S) : Out Bool := match d with
  | .bl b => .ok b s
  | _ => .fail
def tOf (f : M D) : M Bool := fun s => (f s).bind bOf
theorem bOf_ok {d : D} {s : S} {K : PySem.W.Frag} {c : Cz} {σ : L2.St} {T : List (D × V)} {Q : Bool → Hp → Prop} (h : WantB K cl W c σ T (bOf d s) Q) : ∃ b, d = .bl b ∧ ∀ H, SI K cl c H σ s T → Q b H := by
  cases d <;> first | exact h.elim | exact ⟨_, rfl, h⟩
theorem dt_val {e : Expr} {f : M D} (h : DE X cl W e f) (he : ∀ whole, isTrue e X.env whole = (do let v ← whole; standAt e.pos; holding [v] (truthy v)) := by intro _; rfl) : DT X cl W e (tOf f) := by
  obtain ⟨te, pe, q⟩ := h
  refine ⟨_, pt_val pe he, fun c σ s T H Q I w => ?_⟩
  refine q c σ s T H _ I (w.bindD fun d s1 _ w1 v H1 I1 => ?_)
  obtain ⟨b, rfl, k⟩ := bOf_ok w1
  obtain ⟨F, α, J⟩ := id I1
  have r : v = .bl b := by
    have := J.tmp (.bl b, v) (List.mem_cons_self ..)
    cases this; rfl
  exact ⟨b, r, k H1 I1.pop⟩
theorem dt_cmp {o : CmpOp} {a b : Expr} {fa fb : M D} {pos : Pos} {g : D → D → Option D} (ho : OpD X cl (compareOp o) g) (ha : DE X cl W a fa) (hb : DE X cl W b fb) (hm : behindInMarks o b = false) : DT X cl W (.Compare a [o] [b] pos) (tOf (eOp g fa fb)) := by
  obtain ⟨ta, pa, qa⟩ := ha
  obtain ⟨tb, pb, qb⟩ := hb
  obtain ⟨r, hr, q⟩ := ho
  refine ⟨_, pt_cmpR hr pa pb hm, fun c σ s T H Q I w => ?_⟩
  have key : Want X.K cl W c σ T (eOp g fa fb s) (fun x H' => ∃ k, x = .bl k ∧ Q k H') := w.bindD fun d s1 _ w1 v H1 I1 => by
    obtain ⟨b, rfl, k⟩ := bOf_ok w1
    obtain ⟨F, α, J⟩ := id I1
    have r : v = .bl b := by
      have := J.tmp (.bl b, v) (List.mem_cons_self ..)
      cases this; rfl
    exact ⟨b, r, k H1 I1.pop⟩
  refine qa c σ s T H _ I (key.bind fun d s1 _ w1 v H1 I1 => ?_)
  refine qb c σ s1 _ H1 _ I1 ((w1.deeper fun p hp => List.mem_cons_of_mem _ hp).bind fun e s2 _ w2 u H2 I2 => ?_)
  unfold oOf at w2
  split at w2
  · rename_i z hz
    exact q c σ s2 T H2 d v e u z _ I2 hz fun v' H' I' => w2 v' H' I'.drop2
  · exact w2.elim
def tAndM (f g : M Bool) : M Bool := fun s => (f s).bind fun b s => if b = true then g s else .ok false s
def tOrM (f g : M Bool) : M Bool := fun s => (f s).bind fun b s => if b = true then .ok true s else g s
def tNotM (f : M Bool) : M Bool := fun s => (f s).bind fun b s => .ok (!b) s
theorem dw_and1 {a : Expr} {f : M Bool} {pos : Pos} (h : DT X cl W a f) : DW X cl W (.BoolOp .And [a] pos) f := by
  obtain ⟨te, pe, q⟩ := h
  exact ⟨_, pw_and1 pe, q⟩
theorem dw_or1 {a : Expr} {f : M Bool} {pos : Pos} (h : DT X cl W a f) : DW X cl W (.BoolOp .Or [a] pos) f := by
  obtain ⟨te, pe, q⟩ := h
  exact ⟨_, pw_or1 pe, q⟩
theorem dw_and {a b : Expr} {rest : List Expr} {f g : M Bool} {pos : Pos} (h : DT X cl W a f) (h2 : DW X cl W (.BoolOp .And (b :: rest) pos) g) : DW X cl W (.BoolOp .And (a :: b :: rest) pos) (tAndM f g) := by
  obtain ⟨te, pe, q⟩ := h
  obtain ⟨te2, pe2, q2⟩ := h2
  refine ⟨_, pw_and pe pe2, fun c σ s T H Q I w => ?_⟩
  refine q c σ s T H _ I (w.bind fun d s1 _ w1 H1 I1 => ?_)
  cases d with
  | true => exact iteT (q2 c σ s1 T H1 Q I1 w1)
  | false => exact iteF (w1 H1 I1)
theorem dw_or {a b : Expr} {rest : List Expr} {f g : M Bool} {pos : Pos} (h : DT X cl W a f) (h2 : DW X cl W (.BoolOp .Or (b :: rest) pos) g) : DW X cl W (.BoolOp .Or (a :: b :: rest) pos) (tOrM f g) := by
  obtain ⟨te, pe, q⟩ := h
  obtain ⟨te2, pe2, q2⟩ := h2
  refine ⟨_, pw_or pe pe2, fun c σ s T H Q I w => ?_⟩
  refine q c σ s T H _ I (w.bind fun d s1 _ w1 H1 I1 => ?_)
  cases d with
  | false => exact iteF (q2 c σ s1 T H1 Q I1 w1)
  | true => exact iteT (w1 H1 I1)
theorem DW.dt {e : Expr} {f : M Bool} (h : DW X cl W e f) : DT X cl W e f := by
  obtain ⟨te, pe, q⟩ := h
  exact ⟨_, pe.pt, q⟩
theorem dt_not {a : Expr} {f : M Bool} {pos : Pos} (h : DT X cl W a f) : DT X cl W (.UnaryOp .Not a pos) (tNotM f) := by
  obtain ⟨te, pe, q⟩ := h
  refine ⟨_, pt_not pe, fun c σ s T H Q I w => ?_⟩
  exact q c σ s T H _ I (w.bind fun d s1 _ w1 H1 I1 => w1 H1 I1)
/-! ### as values -/
def eAnd (f g : M D) : M D := fun s => (f s).bind fun d s => match d with
  | .bl true => g s
  | .bl false => .ok (.bl false) s
  | _ => .fail
def eOr (f g : M D) : M D := fun s => (f s).bind fun d s => match d with
  | .bl true => .ok (.bl true) s
  | .bl false => g s
  | _ => .fail
def eNot (f : M D) : M D := fun s => (f s).bind fun d s => match d with
  | .bl b => .ok (.bl (!b)) s
  | _ => .fail
def eIf (t : M Bool) (f g : M D) : M D := fun s => (t s).bind fun b s => if b = true then f s else g s
theorem rep_bl {K : PySem.W.Frag} {c : Cz} {H : Hp} {σ : L2.St} {s : S} {T : List (D × V)} {b : Bool} {v : V} (I : SI K cl c H σ s ((.bl b, v) :: T)) : v = .bl b := by
  obtain ⟨F, α, J⟩ := I
  have := J.tmp (.bl b, v) (List.mem_cons_self ..)
  cases this; rfl
theorem de_one {o : BoolOp} {a : Expr} {f : M D} {pos : Pos} (h : DE X cl W a f) : DE X cl W (.BoolOp o [a] pos) f := by
  obtain ⟨te, pe, q⟩ := h
  exact ⟨_, pe_one pe, q⟩
theorem de_and {a b : Expr} {rest : List Expr} {f g : M D} {pos : Pos} (h : DE X cl W a f) (h2 : DE X cl W (.BoolOp .And (b :: rest) pos) g) : DE X cl W (.BoolOp .And (a :: b :: rest) pos) (eAnd f g) := by
  obtain ⟨te, pe, q⟩ := h
  obtain ⟨te2, pe2, q2⟩ := h2
  refine ⟨_, pe_and pe pe2, fun c σ s T H Q I w => ?_⟩
  refine q c σ s T H _ I (w.bind fun d s1 _ w1 v H1 I1 => ?_)
  split at w1
  · exact ⟨true, rep_bl I1, iteT (q2 c σ s1 T H1 Q I1.pop w1)⟩
  · exact ⟨false, rep_bl I1, iteF (w1 _ H1 (SI.flat rfl I1.pop))⟩
  · exact w1.elim
theorem de_or {a b : Expr} {rest : List Expr} {f g : M D} {pos : Pos} (h : DE X cl W a f) (h2 : DE X cl W (.BoolOp .Or (b :: rest) pos) g) : DE X cl W (.BoolOp .Or (a :: b :: rest) pos) (eOr f g) := by
  obtain ⟨te, pe, q⟩ := h
  obtain ⟨te2, pe2, q2⟩ := h2
  refine ⟨_, pe_or pe pe2, fun c σ s T H Q I w => ?_⟩
  refine q c σ s T H _ I (w.bind fun d s1 _ w1 v H1 I1 => ?_)
  split at w1
  · exact ⟨true, rep_bl I1, iteT (w1 _ H1 (SI.flat rfl I1.pop))⟩
  · exact ⟨false, rep_bl I1, iteF (q2 c σ s1 T H1 Q I1.pop w1)⟩
  · exact w1.elim
theorem de_not {a : Expr} {f : M D} {pos : Pos} (h : DE X cl W a f) : DE X cl W (.UnaryOp .Not a pos) (eNot f) := by
  obtain ⟨te, pe, q⟩ := h
  refine ⟨_, pe_not pe, fun c σ s T H Q I w => ?_⟩
  refine q c σ s T H _ I (w.bind fun d s1 _ w1 v H1 I1 => ?_)
  split at w1
  · exact ⟨_, rep_bl I1, w1 _ H1 (SI.flat rfl I1.pop)⟩
  · exact w1.elim
theorem de_if {t a b : Expr} {ft : M Bool} {fa fb : M D} {pos : Pos} (ht : DT X cl W t ft) (ha : DE X cl W a fa) (hb : DE X cl W b fb) : DE X cl W (.IfExp t a b pos) (eIf ft fa fb) := by
  obtain ⟨tt, pt, qt⟩ := ht
  obtain ⟨ta, pa, qa⟩ := ha
  obtain ⟨tb, pb, qb⟩ := hb
  refine ⟨_, pe_ifExp pt pa pb, fun c σ s T H Q I w => ?_⟩
  refine qt c σ s T H _ I (w.bindB fun d s1 _ w1 H1 I1 => ?_)
  cases d with
  | true => exact iteT (qa c σ s1 T H1 Q I1 w1)
  | false => exact iteF (qb c σ s1 T H1 Q I1 w1)
def eNeg (f : M D) : M D := fun s => (f s).bind fun d s => match d with
  | .int i => .ok (.int (-i)) s
  | _ => .fail
theorem rep_int {K : PySem.W.Frag} {c : Cz} {H : Hp} {σ : L2.St} {s : S} {T : List (D × V)} {b : Int} {v : V} (I : SI K cl c H σ s ((.int b, v) :: T)) : v = .int b := by
  obtain ⟨F, α, J⟩ := I
  have := J.tmp (.int b, v) (List.mem_cons_self ..)
  cases this; rfl
theorem rep_str {K : PySem.W.Frag} {c : Cz} {H : Hp} {σ : L2.St} {s : S} {T : List (D × V)} {b : Str} {v : V} (I : SI K cl c H σ s ((.str b, v) :: T)) : v = .str b := by
  obtain ⟨F, α, J⟩ := I
  have := J.tmp (.str b, v) (List.mem_cons_self ..)
  cases this; rfl
theorem de_neg {a : Expr} {f : M D} {pos : Pos} (h : DE X cl W a f) : DE X cl W (.UnaryOp .USub a pos) (eNeg f) := by
  obtain ⟨te, pe, q⟩ := h
  refine ⟨_, pe_un un_neg pe, fun c σ s T H Q I w => ?_⟩
  refine q c σ s T H _ I (w.bind fun d s1 _ w1 v H1 I1 => ?_)
  split at w1
  · exact ⟨_, rep_int I1, w1 _ H1 (SI.flat rfl I1.pop)⟩
  · exact w1.elim
/-! ### argument lists, displays -/
def aNil : M (List D) := fun s => .ok [] s
def aCons (f : M D) (g : M (List D)) : M (List D) := fun s => (f s).bind fun d s => (g s).bind fun ds s => .ok (d :: ds) s
theorem da_nil : DA X cl W [] aNil := ⟨_, pa_nil, fun c σ s T H Q I w => w [] H rfl I⟩
theorem WantA.bind {K : PySem.W.Frag} {c : Cz} {σ : L2.St} {T : List (D × V)} {o : Out D} {k : D → S → Out (List D)} {Q : List V → Hp → Prop} {Q1 : VK} (h : WantA K cl W c σ T (o.bind k) Q)
    (hk : ∀ d s, o = .ok d s → WantA K cl W c σ T (k d s) Q → ∀ v H, SI K cl c H σ s ((d, v) :: T) → Q1 v H) : Want K cl W c σ T o Q1 := by
  cases o with
  | fail => exact h
  | ok d s => exact hk d s rfl h
  | exc n fs s => exact h
theorem WantA.bindA {K : PySem.W.Frag} {c : Cz} {σ : L2.St} {T : List (D × V)} {o : Out (List D)} {k : List D → S → Out (List D)} {Q : List V → Hp → Prop} {Q1 : List V → Hp → Prop} (h : WantA K cl W c σ T (o.bind k) Q)
    (hk : ∀ d s, o = .ok d s → WantA K cl W c σ T (k d s) Q → ∀ vs H, d.length = vs.length → SI K cl c H σ s (zipT d vs T) → Q1 vs H) : WantA K cl W c σ T o Q1 := by
  cases o with
  | fail => exact h
  | ok d s => exact hk d s rfl h
  | exc n fs s => exact h
theorem WantA.same {K : PySem.W.Frag} {c : Cz} {σ : L2.St} {T : List (D × V)} {o : Out (List D)} {Q Q1 : List V → Hp → Prop} (h : WantA K cl W c σ T o Q) (hk : ∀ vs H, Q vs H → Q1 vs H) : WantA K cl W c σ T o Q1 := by
  cases o with
  | fail => exact h
  | ok d s => exact fun vs H e I => hk vs H (h vs H e I)
  | exc n fs s => exact h
theorem da_cons {e : Expr} {es : List Expr} {f : M D} {g : M (List D)} (h : DE X cl W e f) (hr : DA X cl W es g) (hs : starEach (e :: es) X.env = (false, eval e X.env) :: starEach es X.env := by rfl) : DA X cl W (e :: es) (aCons f g) := by
  obtain ⟨te, pe, q⟩ := h
  obtain ⟨ta, pa, qa⟩ := hr
  refine ⟨_, pa_cons pe pa hs, fun c σ s T H Q I w => ?_⟩
  refine q c σ s T H _ I (w.bind fun d s1 _ w1 v H1 I1 => ?_)
  refine qa c σ s1 _ H1 _ I1 (WantA.bindA (k := fun ds s => .ok ds s) (Q := fun vs H' => Q (v :: vs) H') ?_ fun ds s2 _ w2 vs H2 hl I2 => w2 vs H2 hl I2)
  -- the want of the rest over (d, v) :: T
  cases hg : g s1 with
  | fail => rw [hg] at w1; exact w1
  | exc n fs s2 => rw [hg] at w1; exact fun dx H e i => w1 dx H e (i.xt fun p hp => List.mem_cons_of_mem _ hp)
  | ok ds s2 =>
    rw [hg] at w1
    exact fun vs H2 hl I2 => w1 (v :: vs) H2 (by rw [List.length_cons, List.length_cons, hl]) I2
def eTup (f : M (List D)) : M D := fun s => (f s).bind fun ds s => if ds.length ≤ 1000000 then .ok (.tup ds) s else .fail
def eLst (f : M (List D)) : M D := fun s => (f s).bind fun ds s => if ds.length ≤ 1000000 then .ok (.lst ds) s else .fail
theorem SI.unzip {K : PySem.W.Frag} {c : Cz} {H : Hp} {σ : L2.St} {s : S} {T : List (D × V)} {ds : List D} {vs : List V} {p : D × V} (I : SI K cl c H σ s (p :: zipT ds vs T)) : SI K cl c H σ s (p :: T) := I.sub fun q hq => (List.mem_cons.mp hq).elim (fun z => z ▸ List.mem_cons_self ..) fun z => List.mem_cons_of_mem _ (zipT_sub ds vs T q z)
theorem de_tup {es : List Expr} {f : M (List D)} {k : Nat} {pos : Pos} (h : DA X cl W es f) : DE X cl W (.Tuple es k pos) (eTup f) := by
  obtain ⟨te, pe, q⟩ := h
  refine ⟨_, pe_tupN pe, fun c σ s T H Q I w => ?_⟩
  refine q c σ s T H _ I (w.bindA fun ds s1 _ w1 vs H1 hl I1 => ?_)
  split at w1
  · rename_i hz
    exact ⟨by rw [← hl]; exact line1m hz, fun p hp o hd => w1 _ _ (SI.unzip (I1.newTup hd hp fun F α J => J.args hl))⟩
  · exact w1.elim
theorem de_lst {es : List Expr} {f : M (List D)} {pos : Pos} (h : DA X cl W es f) : DE X cl W (.List es pos) (eLst f) := by
  obtain ⟨te, pe, q⟩ := h
  refine ⟨_, pe_lst pe, fun c σ s T H Q I w => ?_⟩
  refine q c σ s T H _ I (w.bindA fun ds s1 _ w1 vs H1 hl I1 => ?_)
  split at w1
  · rename_i hz
    exact ⟨by rw [← hl]; exact line1m hz, fun p hp => w1 _ _ (SI.unzip (I1.newLst hp fun F α J => J.args hl))⟩
  · exact w1.elim
/-- a list display that is to change: a new cell -/
def eLstC (f : M (List D)) : M D := fun s => (f s).bind fun ds s => if ds.length ≤ 1000000 then .ok (.ptr s.M.length) { s with M := s.M ++ [some (.lst ds)] } else .fail
theorem SI.newCellL {K : PySem.W.Frag} {c : Cz} {H : Hp} {σ : L2.St} {s : S} {T : List (D × V)} {p : Addr} {ds : List D} {vs : List V} (h : SI K cl c H σ s T) (hp : H p = none) (hr : ∀ F α, SIx K cl c H σ s T F α → RepL K cl H F α ds vs) :
    SI K cl c (upd H p (.lst vs)) σ { s with M := s.M ++ [some (.lst ds)] } ((.ptr s.M.length, .ref p) :: T) := by
  obtain ⟨F, α, h⟩ := h
  exact ⟨F, _, h.newCell hp fun e => ⟨vs, upd_same, (hr F α h).ext e⟩⟩
theorem de_lstC {es : List Expr} {f : M (List D)} {pos : Pos} (h : DA X cl W es f) : DE X cl W (.List es pos) (eLstC f) := by
  obtain ⟨te, pe, q⟩ := h
  refine ⟨_, pe_lst pe, fun c σ s T H Q I w => ?_⟩
  refine q c σ s T H _ I (w.bindA fun ds s1 _ w1 vs H1 hl I1 => ?_)
  split at w1
  · rename_i hz
    exact ⟨by rw [← hl]; exact line1m hz, fun p hp => w1 _ _ (SI.unzip (I1.newCellL hp fun F α J => J.args hl))⟩
  · exact w1.elim
end
end DL

/-! DlE: what a def promises over data; its call. -/
namespace DL
open PySem L2

mutual
/-- no pointer within -/
def np : D → Bool
  | .tup xs => npL xs | .kt xs => npL xs | .lst xs => npL xs | .slst xs => npL xs
  | .dct kvs => npK kvs | .dcu kvs => npU kvs
  | .obj _ fs => npF fs | .xd fs => npF fs
  | .ptr _ => false
  | _ => true
def npL : List D → Bool
  | [] => true
  | d :: ds => np d && npL ds
def npF : List (Str × D) → Bool
  | [] => true
  | (_, d) :: ds => np d && npF ds
def npK : List (Key × D) → Bool
  | [] => true
  | (_, d) :: ds => np d && npK ds
def npU : List (List Key × D) → Bool
  | [] => true
  | (_, d) :: ds => np d && npU ds
end
mutual
/-- nothing within that could change -/
def nm : D → Bool
  | .tup xs => nmL xs | .kt xs => nmL xs
  | .non => true | .bl _ => true | .int _ => true | .str _ => true | .raw _ => true
  | _ => false
def nmL : List D → Bool
  | [] => true
  | d :: ds => nm d && nmL ds
end
def nmF : List (Str × D) → Bool
  | [] => true
  | (_, d) :: ds => nm d && nmF ds
def C.np : C → Bool
  | .lst xs => npL xs | .dct kvs => npK kvs | .dcu kvs => npU kvs | .obj _ fs => npF fs
def C.nm : C → Bool
  | .lst xs => nmL xs
  | .dct kvs => nmL (kvs.map (·.2)) | .dcu kvs => nmL (kvs.map (·.2)) | .obj _ fs => nmL (fs.map (·.2))

section
variable {K : PySem.W.Frag} {cl : Str → Addr} {H H' : Hp} {F F' : Addr → Prop} {α α' : List Addr}
mutual
theorem Rep.np (hF : ∀ b, F b → F' b) : ∀ {d : D} {v : V}, Rep K cl H F α d v → DL.np d = true → Rep K cl H F' α' d v
  | _, _, .non, _ => .non
  | _, _, .bl, _ => .bl
  | _, _, .int, _ => .int
  | _, _, .str, _ => .str
  | _, _, .tup h r, e => .tup h (RepL.np hF r (by simpa [DL.np] using e))
  | _, _, .kt h r, e => .kt h (RepL.np hF r (by simpa [DL.np] using e))
  | _, _, .lst h f r, e => .lst h (hF _ f) (RepL.np hF r (by simpa [DL.np] using e))
  | _, _, .slst h f r, e => .slst h (hF _ f) (RepL.np hF r (by simpa [DL.np] using e))
  | _, _, .slstK h r, e => .slstK h (RepL.np hF r (by simpa [DL.np] using e))
  | _, _, .dct h f r, e => .dct h (hF _ f) (RepK.np hF r (by simpa [DL.np] using e))
  | _, _, .dcu h f r, e => .dcu h (hF _ f) (RepU.np hF r (by simpa [DL.np] using e))
  | _, _, .obj h f r, e => .obj h (hF _ f) (RepF.np hF r (by simpa [DL.np] using e))
  | _, _, .xd h f r, e => .xd h (hF _ f) (RepF.np hF r (by simpa [DL.np] using e))
  | _, _, .ptr _, e => by simp [DL.np] at e
  | _, _, .raw, _ => .raw
theorem RepL.np (hF : ∀ b, F b → F' b) : ∀ {d : List D} {v : List V}, RepL K cl H F α d v → npL d = true → RepL K cl H F' α' d v
  | _, _, .nil, _ => .nil
  | _, _, .cons h r, e => .cons (Rep.np hF h (by simp [npL] at e; exact e.1)) (RepL.np hF r (by simp [npL] at e; exact e.2))
theorem RepF.np (hF : ∀ b, F b → F' b) : ∀ {d : List (Str × D)} {v : List (Str × V)}, RepF K cl H F α d v → npF d = true → RepF K cl H F' α' d v
  | _, _, .nil, _ => .nil
  | _, _, .cons h r, e => .cons (Rep.np hF h (by simp [npF] at e; exact e.1)) (RepF.np hF r (by simp [npF] at e; exact e.2))
theorem RepK.np (hF : ∀ b, F b → F' b) : ∀ {d : List (Key × D)} {v : List (Key × V)}, RepK K cl H F α d v → npK d = true → RepK K cl H F' α' d v
  | _, _, .nil, _ => .nil
  | _, _, .cons h r, e => .cons (Rep.np hF h (by simp [npK] at e; exact e.1)) (RepK.np hF r (by simp [npK] at e; exact e.2))
theorem RepU.np (hF : ∀ b, F b → F' b) : ∀ {d : List (List Key × D)} {v : List (List Key × V)}, RepU K cl H F α d v → npU d = true → RepU K cl H F' α' d v
  | _, _, .nil, _ => .nil
  | _, _, .cons h r, e => .cons (Rep.np hF h (by simp [npU] at e; exact e.1)) (RepU.np hF r (by simp [npU] at e; exact e.2))
end
mutual
theorem Rep.nm : ∀ {d : D} {v : V}, Rep K cl H F α d v → DL.nm d = true → Rep K cl H F' α' d v
  | _, _, .non, _ => .non
  | _, _, .bl, _ => .bl
  | _, _, .int, _ => .int
  | _, _, .str, _ => .str
  | _, _, .tup h r, e => .tup h (RepL.nm r (by simpa [DL.nm] using e))
  | _, _, .kt h r, e => .kt h (RepL.nm r (by simpa [DL.nm] using e))
  | _, _, .lst h f r, e => by simp [DL.nm] at e
  | _, _, .slst h f r, e => by simp [DL.nm] at e
  | _, _, .slstK h r, e => by simp [DL.nm] at e
  | _, _, .dct h f r, e => by simp [DL.nm] at e
  | _, _, .dcu h f r, e => by simp [DL.nm] at e
  | _, _, .obj h f r, e => by simp [DL.nm] at e
  | _, _, .xd h f r, e => by simp [DL.nm] at e
  | _, _, .ptr _, e => by simp [DL.nm] at e
  | _, _, .raw, _ => .raw
theorem RepL.nm : ∀ {d : List D} {v : List V}, RepL K cl H F α d v → nmL d = true → RepL K cl H F' α' d v
  | _, _, .nil, _ => .nil
  | _, _, .cons h r, e => .cons (Rep.nm h (by simp [nmL] at e; exact e.1)) (RepL.nm r (by simp [nmL] at e; exact e.2))
end
theorem RepF.nm : ∀ {d : List (Str × D)} {v : List (Str × V)}, RepF K cl H F α d v → nmL (d.map (·.2)) = true → RepF K cl H F' α' d v
  | _, _, .nil, _ => .nil
  | _, _, .cons h r, e => .cons (Rep.nm h (by simp [nmL] at e; exact e.1)) (RepF.nm r (by simp [nmL] at e ⊢; exact e.2))
theorem RepK.nm : ∀ {d : List (Key × D)} {v : List (Key × V)}, RepK K cl H F α d v → nmL (d.map (·.2)) = true → RepK K cl H F' α' d v
  | _, _, .nil, _ => .nil
  | _, _, .cons h r, e => .cons (Rep.nm h (by simp [nmL] at e; exact e.1)) (RepK.nm r (by simp [nmL] at e ⊢; exact e.2))
theorem RepU.nm : ∀ {d : List (List Key × D)} {v : List (List Key × V)}, RepU K cl H F α d v → nmL (d.map (·.2)) = true → RepU K cl H F' α' d v
  | _, _, .nil, _ => .nil
  | _, _, .cons h r, e => .cons (Rep.nm h (by simp [nmL] at e; exact e.1)) (RepU.nm r (by simp [nmL] at e ⊢; exact e.2))
theorem RepC.np (hF : ∀ b, F b → F' b) {a : Addr} {x : C} (h : RepC K cl H F α a x) (e : x.np = true) : RepC K cl H F' α' a x := by
  cases x with
  | lst ds => obtain ⟨vs, h1, h2⟩ := h; exact ⟨vs, h1, h2.np hF e⟩
  | dct ds => obtain ⟨vs, h1, h2⟩ := h; exact ⟨vs, h1, h2.np hF e⟩
  | dcu ds => obtain ⟨vs, h1, h2⟩ := h; exact ⟨vs, h1, h2.np hF e⟩
  | obj c fs => obtain ⟨dx, vs, h1, h2⟩ := h; exact ⟨dx, vs, h1, h2.np hF e⟩
theorem RepC.nm {a : Addr} {x : C} (h : RepC K cl H F α a x) (e : x.nm = true) : RepC K cl H F' α' a x := by
  cases x with
  | lst ds => obtain ⟨vs, h1, h2⟩ := h; exact ⟨vs, h1, h2.nm e⟩
  | dct ds => obtain ⟨vs, h1, h2⟩ := h; exact ⟨vs, h1, h2.nm e⟩
  | dcu ds => obtain ⟨vs, h1, h2⟩ := h; exact ⟨vs, h1, h2.nm e⟩
  | obj c fs => obtain ⟨dx, vs, h1, h2⟩ := h; exact ⟨dx, vs, h1, h2.nm e⟩
/-- a cell that is frozen is plain data -/
theorem RepC.rep {a : Addr} {x : C} (h : RepC K cl H F α a x) (f : F a) : Rep K cl H F α x.dat (.ref a) := by
  cases x with
  | lst ds => obtain ⟨vs, h1, h2⟩ := h; exact .lst h1 f h2
  | dct ds => obtain ⟨vs, h1, h2⟩ := h; exact .dct h1 f h2
  | dcu ds => obtain ⟨vs, h1, h2⟩ := h; exact .dcu h1 f h2
  | obj c fs => obtain ⟨dx, vs, h1, h2⟩ := h; exact .obj h1 f h2
end

/-- a def's meaning: the cells that it is given (by its inout parameters, in their order), its arguments -/
abbrev Sem := List C → List D → Out D
/-- what a def promises -/
def dsp (K : PySem.W.Frag) (cl : Str → Addr) (sem : Sem) : Sp := fun vs H Q E => ∃ (F : Addr → Prop) (β : List Addr) (m : List C) (ds : List D), ds.length = vs.length ∧
  SIx K cl ⟨H, β, F⟩ H [] ⟨[], m.map some⟩ (zipT ds vs []) F β ∧ Want K cl (fun cls dx _ H' => E cls dx H') ⟨H, β, F⟩ [] [] (match sem m ds with
    | .fail => .fail
    | .ok d s => .ok d ⟨[], s.M⟩
    | .exc n fs s => .exc n fs ⟨[], s.M⟩) Q
structure FnG (P : Program) (w : World) (K : PySem.W.Frag) (mg : Str → Option Value) (base : Heap) (cl : Str → Addr) (k : Nat) (f : Addr) (fd : FuncData) (ps : List Str) (sem : Sem) : Prop where
  run : ∀ (A : Around) (outer : List Env) (s : Shared) (H : Hp) (args : Args) (us : List Value) (vs : List V) (Q : VK) (E : XK), Room k A → A.guards = some [] → Env0 P w K mg base A outer s H → BindsTo s fd args (ps.zip us) → Vals vs us →
    vs.length = ps.length → dsp K cl sem vs H Q E → codeAny (model P w) A (.call (.ref f) args) (CR (L2.CX P w) outer P w H s Q E) s
theorem FnG.mono {P : Program} {w : World} {K : PySem.W.Frag} {mg : Str → Option Value} {base : Heap} {cl : Str → Addr} {j k : Nat} {f : Addr} {fd : FuncData} {ps : List Str} {sem : Sem} (F : FnG P w K mg base cl j f fd ps sem) (h : j ≤ k) :
    FnG P w K mg base cl k f fd ps sem := ⟨fun A outer s H args us vs Q E hr => F.run A outer s H args us vs Q E (hr.mono h)⟩

/-! ### a call: what the callee is given, what comes back -/
/-- per argument: the inout ones' cells (their places, contents), the arguments as the callee has them, whether one is lent -/
structure Prep where
  ks : List Nat
  m : List C
  ds : List D
  ls : List Nat
def prep (M : List (Option C)) : List Bool → List D → Nat → Option Prep
  | [], [], _ => some ⟨[], [], [], []⟩
  | true :: io, .ptr k :: ds, j => match M[k]? with
    | some (some x) => if x.np then (prep M io ds (j + 1)).map fun p => ⟨k :: p.ks, x :: p.m, .ptr j :: p.ds, p.ls⟩ else none
    | _ => none
  | false :: io, .ptr k :: ds, j => match M[k]? with
    | some (some x) => if x.np then (prep M io ds j).map fun p => ⟨p.ks, p.m, x.dat :: p.ds, k :: p.ls⟩ else none
    | _ => none
  | false :: io, d :: ds, j => if np d then (prep M io ds j).map fun p => ⟨p.ks, p.m, d :: p.ds, p.ls⟩ else none
  | _, _, _ => none
/-- the callee's cells put back -/
def putC (M : List (Option C)) : List Nat → List (Option C) → List (Option C)
  | k :: ks, c :: cs => putC (M.set k c) ks cs
  | _, _ => M
def cNm : List (Option C) → Bool
  | [] => true
  | some c :: cs => c.nm && cNm cs
  | none :: cs => cNm cs
def cNp : List (Option C) → Bool
  | [] => true
  | some c :: cs => c.np && cNp cs
  | none :: cs => cNp cs
def callS (io : List Bool) (sem : Sem) (ds : List D) (s : S) : Out D := match prep s.M io ds 0 with
  | none => .fail
  | some p => if p.ks.Nodup ∧ (∀ k ∈ p.ls, k ∉ p.ks) then
      match sem p.m p.ds with
      | .fail => .fail
      | .ok d s' => if np d && cNp (s'.M.take p.ks.length) && (p.ls.isEmpty || (nm d && cNm (s'.M.take p.ks.length))) then .ok d { s with M := putC s.M p.ks s'.M } else .fail
      | .exc n fs s' => if npF fs && cNp (s'.M.take p.ks.length) && p.ls.isEmpty then .exc n fs { s with M := putC s.M p.ks s'.M } else .fail
    else .fail
end DL

/-! DlF: a call keeps the state's invariant. -/
namespace DL
open PySem L2
section
variable {K : PySem.W.Frag} {cl : Str → Addr} {c : Cz} {H : Hp} {σ : L2.St} {s : S} {T : List (D × V)} {F F' : Addr → Prop} {α : List Addr}

theorem prep_true {M : List (Option C)} {io : List Bool} {k : Nat} {ds : List D} {j : Nat} {p : Prep} (h : prep M (true :: io) (.ptr k :: ds) j = some p) :
    ∃ x q, M[k]? = some (some x) ∧ x.np = true ∧ prep M io ds (j + 1) = some q ∧ p = ⟨k :: q.ks, x :: q.m, .ptr j :: q.ds, q.ls⟩ := by
  simp only [prep] at h
  cases e : M[k]? with
  | none => rw [e] at h; cases h
  | some o =>
    cases o with
    | none => rw [e] at h; cases h
    | some x =>
      rw [e] at h
      dsimp only at h
      cases hx : x.np with
      | false => rw [hx] at h; cases h
      | true =>
        rw [hx] at h
        obtain ⟨q, h1, h2⟩ := Option.map_eq_some_iff.mp h
        exact ⟨x, q, rfl, hx, h1, h2.symm⟩
theorem prep_ptr {M : List (Option C)} {io : List Bool} {k : Nat} {ds : List D} {j : Nat} {p : Prep} (h : prep M (false :: io) (.ptr k :: ds) j = some p) :
    ∃ x q, M[k]? = some (some x) ∧ x.np = true ∧ prep M io ds j = some q ∧ p = ⟨q.ks, q.m, x.dat :: q.ds, k :: q.ls⟩ := by
  simp only [prep] at h
  cases e : M[k]? with
  | none => rw [e] at h; cases h
  | some o =>
    cases o with
    | none => rw [e] at h; cases h
    | some x =>
      rw [e] at h
      dsimp only at h
      cases hx : x.np with
      | false => rw [hx] at h; cases h
      | true =>
        rw [hx] at h
        obtain ⟨q, h1, h2⟩ := Option.map_eq_some_iff.mp h
        exact ⟨x, q, rfl, hx, h1, h2.symm⟩
theorem prep_val {M : List (Option C)} {io : List Bool} {d : D} {ds : List D} {j : Nat} {p : Prep} (hd : ∀ k, d ≠ .ptr k) (h : prep M (false :: io) (d :: ds) j = some p) :
    ∃ q, np d = true ∧ prep M io ds j = some q ∧ p = ⟨q.ks, q.m, d :: q.ds, q.ls⟩ := by
  have h' : (if np d then (prep M io ds j).map fun p => (⟨p.ks, p.m, d :: p.ds, p.ls⟩ : Prep) else none) = some p := by
    cases d <;> first | exact h | exact absurd rfl (hd _)
  cases hx : np d with
  | false => rw [hx] at h'; cases h'
  | true =>
    rw [hx] at h'
    obtain ⟨q, h1, h2⟩ := Option.map_eq_some_iff.mp h'
    exact ⟨q, rfl, h1, h2.symm⟩
theorem prep_bad {M : List (Option C)} {io : List Bool} {d : D} {ds : List D} {j : Nat} {p : Prep} (hd : ∀ k, d ≠ .ptr k) (h : prep M (true :: io) (d :: ds) j = some p) : False := by
  cases d <;> first | exact absurd rfl (hd _) | (simp [prep] at h)
theorem ptr_or (d : D) : (∃ k, d = .ptr k) ∨ ∀ k, d ≠ .ptr k := by
  cases d <;> first | exact .inl ⟨_, rfl⟩ | exact .inr fun k q => (by cases q)
theorem prep_rep (I : SIx K cl c H σ s T F α) : ∀ {io : List Bool} {ds : List D} {vs : List V} {j : Nat} {p : Prep}, prep s.M io ds j = some p → RepL K cl H F α ds vs → ∀ {β : List Addr} {F' : Addr → Prop}, (∀ b, F b → F' b) →
    (∀ (i k : Nat) (a : Addr), p.ks[i]? = some k → α[k]? = some a → β[j + i]? = some a) → (∀ (k : Nat) (a : Addr), k ∈ p.ls → α[k]? = some a → F' a) → RepL K cl H F' β p.ds vs := by
  intro io
  induction io with
  | nil =>
    intro ds vs j p h r β F' hF hβ hl
    cases ds with
    | nil => simp [prep] at h; subst h; cases r; exact .nil
    | cons d ds => simp [prep] at h
  | cons b io ih =>
    intro ds vs j p h r β F' hF hβ hl
    cases ds with
    | nil => cases b <;> simp [prep] at h
    | cons d ds =>
      cases r with
      | cons r t =>
        rename_i v vs
        rcases ptr_or d with ⟨k, rfl⟩ | hd
        · cases r with
          | ptr ha =>
            rename_i a
            cases b with
            | true =>
              obtain ⟨x, q, h1, h2, h3, rfl⟩ := prep_true h
              refine .cons (.ptr ?_) (ih h3 t hF (fun i k' a' e1 e2 => ?_) fun k' a' e1 e2 => hl k' a' e1 e2)
              · have := hβ 0 k a rfl ha
                simpa using this
              · have := hβ (i + 1) k' a' (by simpa using e1) e2
                rw [show j + 1 + i = j + (i + 1) by omega]; exact this
            | false =>
              obtain ⟨x, q, h1, h2, h3, rfl⟩ := prep_ptr h
              obtain ⟨rc, _⟩ := I.cel k x a h1 ha
              refine .cons ?_ (ih h3 t hF (fun i k' a' e1 e2 => hβ i k' a' e1 e2) fun k' a' e1 e2 => hl k' a' (List.mem_cons_of_mem _ e1) e2)
              exact (rc.np hF h2).rep (hl k a (List.mem_cons_self ..) ha)
        · cases b with
          | true => exact (prep_bad hd h).elim
          | false =>
            obtain ⟨q, h2, h3, rfl⟩ := prep_val hd h
            exact .cons (r.np hF h2) (ih h3 t hF (fun i k' a' e1 e2 => hβ i k' a' e1 e2) fun k' a' e1 e2 => hl k' a' e1 e2)
theorem prep_cells : ∀ {M : List (Option C)} {io : List Bool} {ds : List D} {j : Nat} {p : Prep}, prep M io ds j = some p →
    p.m.length = p.ks.length ∧ (∀ (i : Nat) (x : C), p.m[i]? = some x → ∃ k, p.ks[i]? = some k ∧ M[k]? = some (some x) ∧ x.np = true) ∧ ∀ k ∈ p.ls, ∃ x, M[k]? = some (some x) := by
  intro M io
  induction io with
  | nil =>
    intro ds j p h
    cases ds with
    | nil => simp [prep] at h; subst h; exact ⟨rfl, fun i x e => by simp at e, fun k hk => by simp at hk⟩
    | cons d ds => simp [prep] at h
  | cons b io ih =>
    intro ds j p h
    cases ds with
    | nil => cases b <;> simp [prep] at h
    | cons d ds =>
      rcases ptr_or d with ⟨k, rfl⟩ | hd
      · cases b with
        | true =>
          obtain ⟨x, q, h1, h2, h3, rfl⟩ := prep_true h
          obtain ⟨a1, a2, a3⟩ := ih h3
          refine ⟨by simp [a1], fun i y e => ?_, a3⟩
          cases i with
          | zero => simp at e; subst e; exact ⟨k, rfl, h1, h2⟩
          | succ i => exact a2 i y (by simpa using e)
        | false =>
          obtain ⟨x, q, h1, h2, h3, rfl⟩ := prep_ptr h
          obtain ⟨a1, a2, a3⟩ := ih h3
          refine ⟨a1, a2, fun k' hk => ?_⟩
          rcases List.mem_cons.mp hk with rfl | hk
          · exact ⟨x, h1⟩
          · exact a3 k' hk
      · cases b with
        | true => exact (prep_bad hd h).elim
        | false =>
          obtain ⟨q, h2, h3, rfl⟩ := prep_val hd h
          obtain ⟨a1, a2, a3⟩ := ih h3
          exact ⟨a1, a2, a3⟩
/-- the addresses of the cells at ks -/
def adrs (α : List Addr) (ks : List Nat) : List Addr := ks.map fun k => (α[k]?).getD 0
theorem adrs_get {ks : List Nat} {i k : Nat} {a : Addr} (h : ks[i]? = some k) (ha : α[k]? = some a) : (adrs α ks)[i]? = some a := by
  unfold adrs
  rw [List.getElem?_map, h]
  simp [ha]
theorem adrs_of {ks : List Nat} (hk : ∀ k ∈ ks, k < α.length) {a : Addr} (h : a ∈ adrs α ks) : ∃ k, k ∈ ks ∧ α[k]? = some a := by
  unfold adrs at h
  obtain ⟨k, h1, h2⟩ := List.mem_map.mp h
  refine ⟨k, h1, ?_⟩
  obtain ⟨b, hb⟩ : ∃ b, α[k]? = some b := ⟨α[k]'(hk k h1), List.getElem?_eq_getElem _⟩
  rw [hb] at h2
  simp at h2
  rw [hb, h2]
theorem adrs_nodup (hn : α.Nodup) : ∀ {ks : List Nat}, ks.Nodup → (∀ k ∈ ks, k < α.length) → (adrs α ks).Nodup
  | [], _, _ => List.nodup_nil
  | k :: ks, h, hk => by
    have h1 := List.nodup_cons.mp h
    unfold adrs
    rw [List.map_cons, List.nodup_cons]
    refine ⟨fun hm => ?_, adrs_nodup hn h1.2 fun k hk' => hk k (List.mem_cons_of_mem _ hk')⟩
    obtain ⟨k', h2, h3⟩ := adrs_of (fun k hk' => hk k (List.mem_cons_of_mem _ hk')) hm
    have hkl := hk k (List.mem_cons_self ..)
    have e : α[k]? = some ((α[k]?).getD 0) := by rw [List.getElem?_eq_getElem hkl]; rfl
    exact h1.1 (((List.getElem?_inj hkl hn).mp (e.trans h3.symm)) ▸ h2)
/-- what putC leaves -/
theorem putC_len : ∀ (ks : List Nat) (cs M : List (Option C)), (putC M ks cs).length = M.length
  | [], cs, M => by cases cs <;> rfl
  | k :: ks, [], M => rfl
  | k :: ks, x :: cs, M => by
    show (putC (M.set k x) ks cs).length = _
    rw [putC_len ks cs, List.length_set]
theorem putC_out : ∀ {ks : List Nat} {cs M : List (Option C)} {j : Nat}, j ∉ ks → (putC M ks cs)[j]? = M[j]?
  | [], cs, M, j, _ => by cases cs <;> rfl
  | k :: ks, [], M, j, _ => rfl
  | k :: ks, x :: cs, M, j, h => by
    show (putC (M.set k x) ks cs)[j]? = _
    rw [putC_out (ks := ks) fun q => h (List.mem_cons_of_mem _ q), List.getElem?_set_ne]
    intro e; exact h (e ▸ List.mem_cons_self ..)
theorem putC_in : ∀ {ks : List Nat} {cs M : List (Option C)} {j : Nat} {x : C}, ks.Nodup → j ∈ ks → (putC M ks cs)[j]? = some (some x) → (∃ i : Nat, ks[i]? = some j ∧ cs[i]? = some (some x)) ∨ (M[j]? = some (some x) ∧ ∃ i : Nat, ks[i]? = some j ∧ cs.length ≤ i)
  | [], cs, M, j, x, _, h, _ => by simp at h
  | k :: ks, [], M, j, x, hn, h, e => by
    obtain ⟨i, hi⟩ := List.getElem?_of_mem h
    exact .inr ⟨e, i, hi, Nat.zero_le _⟩
  | k :: ks, y :: cs, M, j, x, hn, h, e => by
    have hn' := List.nodup_cons.mp hn
    have e' : (putC (M.set k y) ks cs)[j]? = some (some x) := e
    by_cases hj : j = k
    · subst hj
      rw [putC_out hn'.1] at e'
      by_cases hl : j < M.length
      · rw [List.getElem?_set_self hl] at e'
        exact .inl ⟨0, rfl, by simpa using e'⟩
      · rw [List.getElem?_eq_none (by rw [List.length_set]; omega)] at e'
        cases e'
    · have hj' : j ∈ ks := (List.mem_cons.mp h).resolve_left hj
      rcases putC_in hn'.2 hj' e' with ⟨i, h1, h2⟩ | ⟨h1, i, h2, h3⟩
      · exact .inl ⟨i + 1, by simpa using h1, by simpa using h2⟩
      · rw [List.getElem?_set_ne (fun q => hj q.symm)] at h1
        exact .inr ⟨h1, i + 1, by simpa using h2, by simpa using h3⟩
theorem cNp_get : ∀ {cs : List (Option C)} {i : Nat} {x : C}, cNp cs = true → cs[i]? = some (some x) → x.np = true
  | [], i, x, _, e => by simp at e
  | y :: cs, 0, x, h, e => by
    simp at e; subst e
    simp only [cNp, Bool.and_eq_true] at h; exact h.1
  | none :: cs, i + 1, x, h, e => cNp_get (cs := cs) (by simpa [cNp] using h) (by simpa using e)
  | some y :: cs, i + 1, x, h, e => cNp_get (cs := cs) (by simp only [cNp, Bool.and_eq_true] at h; exact h.2) (by simpa using e)
theorem cNm_get : ∀ {cs : List (Option C)} {i : Nat} {x : C}, cNm cs = true → cs[i]? = some (some x) → x.nm = true
  | [], i, x, _, e => by simp at e
  | y :: cs, 0, x, h, e => by
    simp at e; subst e
    simp only [cNm, Bool.and_eq_true] at h; exact h.1
  | none :: cs, i + 1, x, h, e => cNm_get (cs := cs) (by simpa [cNm] using h) (by simpa using e)
  | some y :: cs, i + 1, x, h, e => cNm_get (cs := cs) (by simp only [cNm, Bool.and_eq_true] at h; exact h.2) (by simpa using e)

/-- behind the callee's run: the caller's state again (no one lent: what the callee froze is frozen; else nothing more is) -/
theorem backX {p : Prep} {H' : Hp} {s' : S} {T' : List (D × V)} {Fp G : Addr → Prop} {γ : List Addr} (I : SIx K cl c H σ s T F α) (hks : p.ks.Nodup) (hkl : ∀ k ∈ p.ks, k < α.length) (hlive : ∀ k ∈ p.ks, ∃ x, s.M[k]? = some (some x))
    (hFp : ∀ b, Fp b ↔ F b ∨ ∃ k, k ∈ p.ls ∧ α[k]? = some b) (J : SIx K cl ⟨H, adrs α p.ks, Fp⟩ H' [] ⟨[], s'.M⟩ T' G γ) (hlen : p.ks.length ≤ s'.M.length) (hnp : cNp (s'.M.take p.ks.length) = true)
    (hb : p.ls = [] ∨ (cNm (s'.M.take p.ks.length) = true ∧ ∀ q ∈ T', nm q.1 = true)) (hT : ∀ q ∈ T', np q.1 = true) :
    ∃ F2 : Addr → Prop, (∀ b, F b → F2 b) ∧ (p.ls = [] → ∀ b, G b → F2 b) ∧ (∀ b, F2 b → F b ∨ (p.ls = [] ∧ G b)) ∧ SIx K cl c H' σ { s with M := putC s.M p.ks s'.M } (T' ++ T) F2 α := by
  have hβ : ∀ a ∈ adrs α p.ks, a ∈ α := fun a ha => by
    obtain ⟨k, _, e⟩ := adrs_of hkl ha
    exact List.mem_of_getElem? e
  -- what is frozen behind the call
  obtain ⟨F2, hF2, hG, hF2G⟩ : ∃ F2 : Addr → Prop, (∀ b, F b → F2 b) ∧ (p.ls = [] → ∀ b, G b → F2 b) ∧ ∀ b, F2 b → F b ∨ (p.ls = [] ∧ G b) :=
    ⟨fun b => F b ∨ (p.ls = [] ∧ G b), fun b h => .inl h, fun e b h => .inr ⟨e, h⟩, fun b h => h⟩
  have nfα : ∀ b, F b → b ∉ adrs α p.ks := fun b hb hm => by
    obtain ⟨k, h1, h2⟩ := adrs_of hkl hm
    obtain ⟨x, hx⟩ := hlive k h1
    exact (I.cel k x b hx h2).2 hb
  have keep : ∀ b o, H b = some o → b ∉ adrs α p.ks → H' b = some o := J.keep
  have E : Ext H F α H' F2 α := ⟨fun b hb => by
      obtain ⟨o, e⟩ := I.domF b hb
      rw [e]; exact keep b o e (nfα b hb), hF2, J.tups, J.frzs, fun _ _ e => e⟩
  have c0 : ∀ b, H b = none → b ∈ c.β ∨ c.H0 b = none := fun b hb => by
    cases q : c.H0 b with
    | none => exact .inr rfl
    | some u =>
      by_cases hm : b ∈ c.β
      · exact .inl hm
      · have := I.keep b u q hm
        rw [hb] at this; cases this
  refine ⟨F2, hF2, hG, hF2G, fun i d e => ?_, I.el, fun q hq => ?_, by show α.length = (putC s.M p.ks s'.M).length; rw [putC_len]; exact I.len, fun j x a e1 e2 => ?_, I.nd, fun a ha => ?_, I.inα, fun b hb => ?_, fun b hb => ?_, I.pre, fun b o e1 e2 => ?_, fun b xs e => J.tups b xs (I.tups b xs e), fun b o u e => J.frzs b o u (I.frzs b o u e)⟩
  · obtain ⟨v, h1, h2⟩ := I.env i d e
    exact ⟨v, h1, h2.ext E⟩
  · rcases List.mem_append.mp hq with hq | hq
    · have r := J.tmp q hq
      rcases hb with e | ⟨_, e⟩
      · exact r.np (hG e) (hT q hq)
      · exact r.nm (e q hq)
    · exact (I.tmp q hq).ext E
  · have e1 : (putC s.M p.ks s'.M)[j]? = some (some x) := e1
    by_cases hj : j ∈ p.ks
    · rcases putC_in hks hj e1 with ⟨i, h1, h2⟩ | ⟨_, i, h1, h2⟩
      · have hi : i < p.ks.length := (List.getElem?_eq_some_iff.mp h1).1
        have hβi : (adrs α p.ks)[i]? = some a := adrs_get h1 e2
        obtain ⟨rc, nG⟩ := J.cel i x a h2 (J.pre i a hβi)
        have e3 : (s'.M.take p.ks.length)[i]? = some (some x) := by rw [List.getElem?_take_of_lt hi]; exact h2
        have hx : x.np = true := cNp_get hnp e3
        have nF : ¬ F a := fun hf => nfα a hf (List.mem_of_getElem? hβi)
        refine ⟨?_, fun hf => (hF2G a hf).elim nF fun q => nG q.2⟩
        rcases hb with e | ⟨e, _⟩
        · exact rc.np (hG e) hx
        · exact rc.nm (cNm_get e e3)
      · have hi : i < p.ks.length := (List.getElem?_eq_some_iff.mp h1).1
        omega
    · rw [putC_out hj] at e1
      obtain ⟨rc, nF⟩ := I.cel j x a e1 e2
      have na : a ∉ adrs α p.ks := fun hm => by
        obtain ⟨k, h1, h2⟩ := adrs_of hkl hm
        have := (List.getElem?_inj (hkl k h1) I.nd).mp (h2.trans e2.symm)
        exact hj (this ▸ h1)
      obtain ⟨o, ho⟩ := I.dom a (List.mem_of_getElem? e2)
      refine ⟨E.repC rc ((keep a o ho na).trans ho.symm), fun hf => (hF2G a hf).elim nF fun q => ?_⟩
      rcases J.inF a q.2 with z | z | z
      · exact na z
      · rcases (hFp a).mp z with z | ⟨k, h1, _⟩
        · exact nF z
        · rw [q.1] at h1; simp at h1
      · have z : H a = none := z
        rw [ho] at z; cases z
  · by_cases hm : a ∈ adrs α p.ks
    · obtain ⟨i, hi⟩ := List.getElem?_of_mem hm
      exact J.dom a (List.mem_of_getElem? (J.pre i a hi))
    · obtain ⟨o, ho⟩ := I.dom a ha
      exact ⟨o, keep a o ho hm⟩
  · rcases hF2G b hb with hb | ⟨_, hb⟩
    · obtain ⟨o, ho⟩ := I.domF b hb
      exact ⟨o, keep b o ho (nfα b hb)⟩
    · exact J.domF b hb
  · rcases hF2G b hb with hb | ⟨e, hb⟩
    · exact I.inF b hb
    · rcases J.inF b hb with z | z | z
      · rcases I.inα b (hβ b z) with w | w
        · exact .inl w
        · exact .inr (.inr w)
      · rcases (hFp b).mp z with z | ⟨k, h1, _⟩
        · exact I.inF b z
        · rw [e] at h1; simp at h1
      · rcases c0 b z with w | w
        · exact .inl w
        · exact .inr (.inr w)
  · have h1 := I.keep b o e1 e2
    refine keep b o h1 fun hm => ?_
    rcases I.inα b (hβ b hm) with w | w
    · exact e2 w
    · rw [w] at e1; cases e1
theorem back {p : Prep} {H' : Hp} {s' : S} {T' : List (D × V)} {Fp : Addr → Prop} (I : SIx K cl c H σ s T F α) (hks : p.ks.Nodup) (hkl : ∀ k ∈ p.ks, k < α.length) (hlive : ∀ k ∈ p.ks, ∃ x, s.M[k]? = some (some x))
    (hFp : ∀ b, Fp b ↔ F b ∨ ∃ k, k ∈ p.ls ∧ α[k]? = some b) (J : SI K cl ⟨H, adrs α p.ks, Fp⟩ H' [] ⟨[], s'.M⟩ T') (hlen : p.ks.length ≤ s'.M.length) (hnp : cNp (s'.M.take p.ks.length) = true)
    (hb : p.ls = [] ∨ (cNm (s'.M.take p.ks.length) = true ∧ ∀ q ∈ T', nm q.1 = true)) (hT : ∀ q ∈ T', np q.1 = true) :
    SI K cl c H' σ { s with M := putC s.M p.ks s'.M } (T' ++ T) := by
  obtain ⟨G, γ, J⟩ := J
  obtain ⟨F2, _, _, _, J2⟩ := backX I hks hkl hlive hFp J hlen hnp hb hT
  exact ⟨F2, α, J2⟩
/-- what is known at a call -/
theorem call_pre {p : Prep} {io : List Bool} {ds : List D} {vs : List V} (I : SIx K cl c H σ s (zipT ds vs T) F α) (hl : ds.length = vs.length) (hp : prep s.M io ds 0 = some p) (hks : p.ks.Nodup) (hls : ∀ k ∈ p.ls, k ∉ p.ks) :
    ∃ Fp : Addr → Prop, (∀ b, Fp b ↔ F b ∨ ∃ k, k ∈ p.ls ∧ α[k]? = some b) ∧ (∀ k ∈ p.ks, k < α.length) ∧ (∀ k ∈ p.ks, ∃ x, s.M[k]? = some (some x)) ∧ p.m.length = p.ks.length ∧ p.ds.length = vs.length ∧
      SIx K cl ⟨H, adrs α p.ks, Fp⟩ H [] ⟨[], p.m.map some⟩ (zipT p.ds vs []) Fp (adrs α p.ks) ∧ SIx K cl c H σ s T F α := by
  obtain ⟨pl, pc, pb⟩ := prep_cells hp
  have hlive : ∀ k ∈ p.ks, ∃ x, s.M[k]? = some (some x) := fun k hk => by
    obtain ⟨i, hi⟩ := List.getElem?_of_mem hk
    have hi' : i < p.m.length := by rw [pl]; exact (List.getElem?_eq_some_iff.mp hi).1
    obtain ⟨k', h1, h2, _⟩ := pc i p.m[i] (List.getElem?_eq_getElem hi')
    rw [hi] at h1; cases h1
    exact ⟨_, h2⟩
  have hkl : ∀ k ∈ p.ks, k < α.length := fun k hk => by
    obtain ⟨x, hx⟩ := hlive k hk
    rw [I.len]; exact (List.getElem?_eq_some_iff.mp hx).1
  obtain ⟨Fp, hFp⟩ : ∃ Fp : Addr → Prop, ∀ b, Fp b ↔ F b ∨ ∃ k, k ∈ p.ls ∧ α[k]? = some b := ⟨fun b => F b ∨ ∃ k, k ∈ p.ls ∧ α[k]? = some b, fun b => Iff.rfl⟩
  have hF : ∀ b, F b → Fp b := fun b h => (hFp b).mpr (.inl h)
  have hβin : ∀ a ∈ adrs α p.ks, ∃ k, k ∈ p.ks ∧ α[k]? = some a := fun a ha => adrs_of hkl ha
  have nFp : ∀ a ∈ adrs α p.ks, ¬ Fp a := fun a ha hf => by
    obtain ⟨k, h1, h2⟩ := hβin a ha
    rcases (hFp a).mp hf with hf | ⟨k', h3, h4⟩
    · obtain ⟨x, hx⟩ := hlive k h1
      exact (I.cel k x a hx h2).2 hf
    · have := (List.getElem?_inj (hkl k h1) I.nd).mp (h2.trans h4.symm)
      exact hls k' h3 (this ▸ h1)
  have domFp : ∀ b, Fp b → ∃ o, H b = some o := fun b hb => by
    rcases (hFp b).mp hb with hb | ⟨k, h1, h2⟩
    · exact I.domF b hb
    · exact I.dom b (List.mem_of_getElem? h2)
  have rl : RepL K cl H Fp (adrs α p.ks) p.ds vs := prep_rep I hp (I.args hl) hF (fun i k a e1 e2 => by rw [Nat.zero_add]; exact adrs_get e1 e2) fun k a h1 h2 => (hFp a).mpr (.inr ⟨k, h1, h2⟩)
  have tm : ∀ (ds : List D) (vs : List V), RepL K cl H Fp (adrs α p.ks) ds vs → ∀ T0 : List (D × V), (∀ q ∈ T0, Rep K cl H Fp (adrs α p.ks) q.1 q.2) → ∀ q ∈ zipT ds vs T0, Rep K cl H Fp (adrs α p.ks) q.1 q.2 := by
    intro ds
    induction ds with
    | nil => intro vs r T0 h0 q hq; cases r; exact h0 q hq
    | cons d ds ih =>
      intro vs r T0 h0 q hq
      cases r with
      | cons r t => exact ih _ t _ (fun q hq => (List.mem_cons.mp hq).elim (fun e => by subst e; exact r) (h0 q)) q hq
  have J0 : SIx K cl ⟨H, adrs α p.ks, Fp⟩ H [] ⟨[], p.m.map some⟩ (zipT p.ds vs []) Fp (adrs α p.ks) := by
    refine ⟨fun i d e => by simp at e, rfl, tm p.ds vs rl [] fun q hq => by simp at hq, by show (adrs α p.ks).length = (p.m.map some).length; unfold adrs; rw [List.length_map, List.length_map, pl], fun j x a e1 e2 => ?_, adrs_nodup I.nd hks hkl, fun a ha => ?_, fun a ha => .inl ha, domFp, fun b hb => .inr (.inl hb), fun _ _ e => e, fun b o e _ => e, fun _ _ e => e, fun _ _ _ e => e⟩
    · have e1 : (p.m.map some)[j]? = some (some x) := e1
      rw [List.getElem?_map] at e1
      obtain ⟨y, h1, h2⟩ := Option.map_eq_some_iff.mp e1
      cases h2
      obtain ⟨k, h3, h4, h5⟩ := pc j x h1
      obtain ⟨a', ha'⟩ : ∃ a', α[k]? = some a' := ⟨_, List.getElem?_eq_getElem (hkl k (List.mem_of_getElem? h3))⟩
      have e3 := adrs_get h3 ha'
      rw [e2] at e3; cases e3
      exact ⟨(I.cel k x a h4 ha').1.np hF h5, nFp a (List.mem_of_getElem? e2)⟩
    · obtain ⟨k, _, h2⟩ := hβin a ha
      exact I.dom a (List.mem_of_getElem? h2)
  have hdl : p.ds.length = vs.length := rl.length
  have IT : SIx K cl c H σ s T F α := { I with tmp := fun q hq => I.tmp q (zipT_sub ds vs T q hq) }
  exact ⟨Fp, hFp, hkl, hlive, pl, hdl, J0, IT⟩
/-- the callee's promise, asked at the caller's arguments -/
theorem call_dsp {W : WX} {io : List Bool} {sem : Sem} {ds : List D} {vs : List V} {Q : VK} (I : SIx K cl c H σ s (zipT ds vs T) F α) (hl : ds.length = vs.length) (w : Want K cl W c σ T (callS io sem ds s) Q)
    (hM : ∀ m ds' d s', sem m ds' = .ok d s' → s'.M.length = m.length) (hM2 : ∀ m ds' n fs s', sem m ds' = .exc n fs s' → s'.M.length = m.length) :
    dsp K cl sem vs H Q (fun cls dx H' => W cls dx σ H') := by
  unfold callS at w
  cases hp : prep s.M io ds 0 with
  | none => rw [hp] at w; exact w.elim
  | some p =>
    rw [hp] at w
    dsimp only at w
    by_cases hc : p.ks.Nodup ∧ ∀ k ∈ p.ls, k ∉ p.ks
    · rw [if_pos hc] at w
      obtain ⟨hks, hls⟩ := hc
      obtain ⟨Fp, hFp, hkl, hlive, pl, hdl, J0, IT⟩ := call_pre I hl hp hks hls
      refine ⟨Fp, adrs α p.ks, p.m, p.ds, hdl, J0, ?_⟩
      cases hs : sem p.m p.ds with
      | fail => rw [hs] at w; exact w.elim
      | ok d s' =>
        rw [hs] at w
        dsimp only at w ⊢
        have hlen : p.ks.length ≤ s'.M.length := by rw [hM _ _ _ _ hs, pl]; exact Nat.le_refl _
        cases hcond : (np d && cNp (s'.M.take p.ks.length) && (p.ls.isEmpty || (nm d && cNm (s'.M.take p.ks.length)))) with
        | false => rw [hcond] at w; exact w.elim
        | true =>
          rw [hcond] at w
          simp only [Bool.and_eq_true, Bool.or_eq_true] at hcond
          obtain ⟨⟨h1, h2⟩, h3⟩ := hcond
          intro v H' J
          refine w v H' (back (T' := [(d, v)]) IT hks hkl hlive hFp J hlen h2 ?_ fun q hq => ?_)
          · rcases h3 with h3 | ⟨h3, h4⟩
            · exact .inl (List.isEmpty_iff.mp h3)
            · refine .inr ⟨h4, fun q hq => ?_⟩
              rw [List.mem_singleton.mp hq]; exact h3
          · rw [List.mem_singleton.mp hq]; exact h1
      | exc n fs s' =>
        rw [hs] at w
        dsimp only at w ⊢
        have hlen : p.ks.length ≤ s'.M.length := by rw [hM2 _ _ _ _ _ hs, pl]; exact Nat.le_refl _
        cases hcond : (npF fs && cNp (s'.M.take p.ks.length) && p.ls.isEmpty) with
        | false => rw [hcond] at w; exact w.elim
        | true =>
          rw [hcond] at w
          simp only [Bool.and_eq_true] at hcond
          obtain ⟨⟨h1, h2⟩, h3⟩ := hcond
          intro dx H' hdx J
          refine w dx H' hdx (back (T' := xt fs dx) IT hks hkl hlive hFp (by rw [List.append_nil] at J; exact J) hlen h2 (.inl (List.isEmpty_iff.mp h3)) fun q hq => ?_)
          cases dx with
          | none => simp [xt] at hq
          | some a =>
            rw [List.mem_singleton.mp hq]
            show np (.xd fs) = true
            simp only [np]; exact h1
    · rw [if_neg hc] at w; exact w.elim
end
end DL

/-! DlG: calls of the program's own defs; the statements; a def by its body. -/
namespace DL
open PySem L2
open PySem.Spec PyProof.Rows

/-- what a body's rules lean on -/
structure Cok (X : Cx) (W : WX) (k : Nat) : Prop where
  tk : Takes X W
  po : PassesOwn (model X.prog X.w) X.A X.env X.xe
  nd : X.N.Nodup
  calm : X.calm = true
  room : Room k X.A
  gd : X.A.guards = some []
theorem Cok.u64 {X : Cx} {W : WX} {k : Nat} (c : Cok X W k) : X.A.units + 64 < cLine := c.room.units
theorem Cok.blk {X : Cx} {W : WX} {k : Nat} (c : Cok X W k) (s : Shared) (H : Hp) (scope : Scope) (cenv : Env) (fp : List Addr) : Cok (X.blk s H scope cenv fp) (fun _ _ _ _ => False) k :=
  ⟨takes0, PassesOwn.never, c.nd, c.calm, c.room, c.gd⟩

/-- the cells given come back, as many -/
def LenOk (sem : Sem) : Prop := (∀ m ds d s, sem m ds = .ok d s → s.M.length = m.length) ∧ ∀ m ds n fs s, sem m ds = .exc n fs s → s.M.length = m.length
theorem prep_len : ∀ {M : List (Option C)} {io : List Bool} {ds : List D} {j : Nat} {p : Prep}, prep M io ds j = some p → ds.length = io.length := by
  intro M io
  induction io with
  | nil =>
    intro ds j p h
    cases ds with
    | nil => rfl
    | cons d ds => simp [prep] at h
  | cons b io ih =>
    intro ds j p h
    cases ds with
    | nil => cases b <;> simp [prep] at h
    | cons d ds =>
      rcases ptr_or d with ⟨k, rfl⟩ | hd
      · cases b with
        | true => obtain ⟨x, q, _, _, h3, _⟩ := prep_true h; simp [ih h3]
        | false => obtain ⟨x, q, _, _, h3, _⟩ := prep_ptr h; simp [ih h3]
      · cases b with
        | true => exact (prep_bad hd h).elim
        | false => obtain ⟨q, _, h3, _⟩ := prep_val hd h; simp [ih h3]
theorem callS_len {K : PySem.W.Frag} {cl : Str → Addr} {W : WX} {c : Cz} {σ : L2.St} {T : List (D × V)} {io : List Bool} {sem : Sem} {ds : List D} {s : S} {Q : VK} (w : Want K cl W c σ T (callS io sem ds s) Q) : ds.length = io.length := by
  unfold callS at w
  cases hp : prep s.M io ds 0 with
  | none => rw [hp] at w; exact w.elim
  | some p => exact prep_len hp
def eCall (io : List Bool) (sem : Sem) (f : M (List D)) : M D := fun s => (f s).bind fun ds s => callS io sem ds s

section
variable {X : Cx} {cl : Str → Addr} {W : WX} {k : Nat}
/-- the callee runs -/
theorem run_G {fa : Addr} {fd : FuncData} {ps : List Str} {sem : Sem} {dvs : List Value} {pins : List (Addr × Obj)} {σ : L2.St} {H : Hp} {s : Shared} {Q : VK} {us : List Value} {vs : List V} (F : FnG X.prog X.w X.K X.mg X.base cl k fa fd ps sem) (hc : Cok X W k) (hb : Binds X.K fd ps []) (I : Inv X pins σ H s) (r : Vals vs us) (hl : vs.length = ps.length)
    (h : dsp X.K cl sem vs H Q (fun cls dx H' => W cls dx σ H')) : wpAny (model X.prog X.w) X.A (call (.ref fa) us) (EP X pins σ Q) X.xe s := by
  have b := hb s us I.kIn (by rw [List.append_nil, ← r.length]; exact hl)
  rw [List.append_nil] at b
  refine wpAny_call (codeAny_mono (F.run X.A X.stack s H ⟨us, []⟩ us vs Q _ hc.room hc.gd I.env0 b r hl h) fun res s' hq => ?_)
  cases res with
  | error e => exact passAt hc.tk σ pins H s e s' I hq
  | ok fl =>
    cases fl with
    | ret u => exact I.after hq
    | next => exact False.elim hq
    | brk => exact False.elim hq
    | cont => exact False.elim hq
/-- f(e, ..) -/
theorem de_call {x : Str} {fa : Addr} {fd : FuncData} {ps : List Str} {sem : Sem} {io : List Bool} {e : Expr} {es : List Expr} {f : M (List D)} {p pos : Pos} (F : FnG X.prog X.w X.K X.mg X.base cl k fa fd ps sem) (hn : LenOk sem) (hio : io.length = ps.length) (hc : Cok X W k)
    (hm : X.mg x = some (.ref fa)) (hk : PySem.W.keepIn X.K (.ref fa) = true) (hb : Binds X.K fd ps []) (ha : DA X cl W (e :: es) f) (hg : Gl X x := by rfl)
    (hdb : (x == ("__debug__" : Str)) = false := by decide) (he : starEach (e :: es) X.env = (false, eval e X.env) :: starEach es X.env := by rfl) (hpl : (backTo pos (starEach es X.env)).any (·.1) = false := by rfl) :
    DE X cl W (.Call (.Name x p) (e :: es) [] pos) (eCall io sem f) := by
  obtain ⟨ta, pa, qa⟩ := ha
  refine ⟨fun σ H Q => ta σ H fun vs H1 => vs.length = ps.length ∧ dsp X.K cl sem vs H1 Q (fun cls dx H' => W cls dx σ H'), ⟨fun pins s σ H Q I h => ?_⟩, fun c σ s T H Q I w => ?_⟩
  · refine wpAny_Call_Name_kw (ld_glob I hg hm ?_ hdb)
    refine PySem.W.callWith_K (h₀ := X.base) I.ok.mod.kin hk (thn (pa.run pos pins s σ H _ I h) fun us s1 ⟨vs, H1, I1, r, hl, q⟩ => ⟨I1.kIn, ?_⟩) he hpl
    exact run_G (dvs := []) F hc hb I1 r hl q
  · refine qa c σ s T H _ I (w.bindA fun ds s1 _ w1 vs H1 hl I1 => ?_)
    obtain ⟨G, α, J⟩ := I1
    exact ⟨by rw [← hl, callS_len w1, hio], call_dsp J hl w1 hn.1 hn.2⟩
/-- f() -/
theorem de_call0 {x : Str} {fa : Addr} {fd : FuncData} {sem : Sem} {p pos : Pos} (F : FnG X.prog X.w X.K X.mg X.base cl k fa fd [] sem) (hn : LenOk sem) (hc : Cok X W k)
    (hm : X.mg x = some (.ref fa)) (hk : PySem.W.keepIn X.K (.ref fa) = true) (hb : Binds X.K fd [] []) (hg : Gl X x := by rfl) (hdb : (x == ("__debug__" : Str)) = false := by decide) :
    DE X cl W (.Call (.Name x p) [] [] pos) (eCall [] sem aNil) := by
  refine ⟨fun σ H Q => dsp X.K cl sem [] H Q (fun cls dx H' => W cls dx σ H'), ⟨fun pins s σ H Q I h => ?_⟩, fun c σ s T H Q I w => ?_⟩
  · refine wpAny_Call_Name_kw (ld_glob I hg hm ?_ hdb)
    exact PySem.W.callWith_K0 I.kIn hk (run_G (dvs := []) (us := []) F hc hb I .nil rfl h)
  · obtain ⟨G, α, J⟩ := I
    exact call_dsp (io := []) (ds := []) (vs := []) J rfl (show Want X.K cl W c σ T (callS [] sem [] s) Q from w) hn.1 hn.2

/-! ### statements -/
inductive Fl where
  | nx | ret (d : D) | brk | ct
def WantS (K : PySem.W.Frag) (cl : Str → Addr) (W : WX) (c : Cz) (T : List (D × V)) (o : Out Fl) (E : Ends) : Prop := match o with
  | .fail => False
  | .ok .nx s => ∀ σ H, SI K cl c H σ s T → E.nx σ H
  | .ok .brk s => ∀ σ H, SI K cl c H σ s T → E.bk σ H
  | .ok .ct s => ∀ σ H, SI K cl c H σ s T → E.ct σ H
  | .ok (.ret d) s => ∀ v σ H, SI K cl c H σ s ((d, v) :: T) → E.rt v H
  | .exc n fs s => ∀ dx σ H, (dx = none → fs = []) → SI K cl c H σ s (xt fs dx ++ T) → W (.ref (cl n)) dx σ H
structure DS (X : Cx) (cl : Str → Addr) (W : WX) (st : Stmt) (f : M Fl) : Prop where
  ex : ∃ ts, PS X st ts ∧ ∀ c σ s T H E, SI X.K cl c H σ s T → WantS X.K cl W c T (f s) E → ts E σ H
structure DSs (X : Cx) (cl : Str → Addr) (W : WX) (st : List Stmt) (f : M Fl) : Prop where
  ex : ∃ ts, PSs X st ts ∧ ∀ c σ s T H E, SI X.K cl c H σ s T → WantS X.K cl W c T (f s) E → ts E σ H
theorem WantS.bind {K : PySem.W.Frag} {c : Cz} {σ : L2.St} {T : List (D × V)} {o : Out D} {k : D → S → Out Fl} {E : Ends} {Q1 : VK} (h : WantS K cl W c T (o.bind k) E)
    (hk : ∀ d s, o = .ok d s → WantS K cl W c T (k d s) E → ∀ v H, SI K cl c H σ s ((d, v) :: T) → Q1 v H) : Want K cl W c σ T o Q1 := by
  cases o with
  | fail => exact h
  | ok d s => exact hk d s rfl h
  | exc n fs s => exact fun dx H e I => h dx σ H e I
theorem WantS.bindB {K : PySem.W.Frag} {c : Cz} {σ : L2.St} {T : List (D × V)} {o : Out Bool} {k : Bool → S → Out Fl} {E : Ends} {Q1 : Bool → Hp → Prop} (h : WantS K cl W c T (o.bind k) E)
    (hk : ∀ d s, o = .ok d s → WantS K cl W c T (k d s) E → ∀ H, SI K cl c H σ s T → Q1 d H) : WantB K cl W c σ T o Q1 := by
  cases o with
  | fail => exact h
  | ok d s => exact hk d s rfl h
  | exc n fs s => exact fun dx H e I => h dx σ H e I
theorem WantS.bindA {K : PySem.W.Frag} {c : Cz} {σ : L2.St} {T : List (D × V)} {o : Out (List D)} {k : List D → S → Out Fl} {E : Ends} {Q1 : List V → Hp → Prop} (h : WantS K cl W c T (o.bind k) E)
    (hk : ∀ d s, o = .ok d s → WantS K cl W c T (k d s) E → ∀ vs H, d.length = vs.length → SI K cl c H σ s (zipT d vs T) → Q1 vs H) : WantA K cl W c σ T o Q1 := by
  cases o with
  | fail => exact h
  | ok d s => exact hk d s rfl h
  | exc n fs s => exact fun dx H e I => h dx σ H e I
def sNx : M Fl := fun s => .ok .nx s
def sSeq (f g : M Fl) : M Fl := fun s => (f s).bind fun r s => match r with
  | .nx => g s
  | r => .ok r s
theorem dss_nil : DSs X cl W [] sNx := ⟨_, pss_nil, fun c σ s T H E I w => w σ H I⟩
theorem dss_one {st : Stmt} {f : M Fl} (h : DS X cl W st f) : DSs X cl W [st] f := by
  obtain ⟨t, p, q⟩ := h
  exact ⟨_, pss_one p, q⟩
theorem dss_cons {st : Stmt} {rest : List Stmt} {f g : M Fl} (h : DS X cl W st f) (h2 : DSs X cl W rest g) : DSs X cl W (st :: rest) (sSeq f g) := by
  obtain ⟨t, p, q⟩ := h
  obtain ⟨t2, p2, q2⟩ := h2
  refine ⟨_, pss_cons p p2, fun c σ s T H E I w => ?_⟩
  refine q c σ s T H _ I ?_
  unfold sSeq at w
  cases hf : f s with
  | fail => rw [hf] at w; exact w
  | exc n fs s1 => rw [hf] at w; exact w
  | ok r s1 =>
    rw [hf] at w
    cases r with
    | nx => exact fun σ1 H1 I1 => q2 c σ1 s1 T H1 E I1 w
    | ret d => exact w
    | brk => exact w
    | ct => exact w
theorem ds_pass {pos : Pos} : DS X cl W (.Pass pos) sNx := ⟨_, ps_pass, fun c σ s T H E I w => w σ H I⟩
def sBrk : M Fl := fun s => .ok .brk s
def sCt : M Fl := fun s => .ok .ct s
theorem ds_break {pos : Pos} : DS X cl W (.Break pos) sBrk := ⟨_, ps_break, fun c σ s T H E I w => w σ H I⟩
theorem ds_cont {pos : Pos} : DS X cl W (.Continue pos) sCt := ⟨_, ps_continue, fun c σ s T H E I w => w σ H I⟩
def sExpr (f : M D) : M Fl := fun s => (f s).bind fun _ s => .ok .nx s
theorem ds_expr {e : Expr} {f : M D} {pos : Pos} (h : DE X cl W e f) (hs : swapsWith e none pos.line X.env = pure false := by rfl) : DS X cl W (.Expr e pos) (sExpr f) := by
  obtain ⟨t, p, q⟩ := h
  refine ⟨_, ps_expr p hs, fun c σ s T H E I w => ?_⟩
  exact q c σ s T H _ I (w.bind fun d s1 _ w1 v H1 I1 => w1 σ H1 I1.pop)
def sRet (f : M D) : M Fl := fun s => (f s).bind fun d s => .ok (.ret d) s
theorem ds_ret {e : Expr} {f : M D} {pos : Pos} (h : DE X cl W e f) : DS X cl W (.Return (some e) pos) (sRet f) := by
  obtain ⟨t, p, q⟩ := h
  refine ⟨_, ps_ret p, fun c σ s T H E I w => ?_⟩
  exact q c σ s T H _ I (w.bind fun d s1 _ w1 v H1 I1 => w1 v σ H1 I1)
def sIf (t : M Bool) (f g : M Fl) : M Fl := fun s => (t s).bind fun b s => if b = true then f s else g s
theorem ds_if {t : Expr} {a b : List Stmt} {ft : M Bool} {f g : M Fl} {pos : Pos} (ht : DT X cl W t ft) (ha : DSs X cl W a f) (hb : DSs X cl W b g) : DS X cl W (.If t a b pos) (sIf ft f g) := by
  obtain ⟨tt, pt, qt⟩ := ht
  obtain ⟨ta, pa, qa⟩ := ha
  obtain ⟨tb, pb, qb⟩ := hb
  refine ⟨_, ps_if pt pa pb, fun c σ s T H E I w => ?_⟩
  refine qt c σ s T H _ I (w.bindB fun d s1 _ w1 H1 I1 => ?_)
  cases d with
  | true => exact iteT (qa c σ s1 T H1 E I1 w1)
  | false => exact iteF (qb c σ s1 T H1 E I1 w1)
/-- a name is bound -/
def setV (i : Nat) (d : D) (s : S) : Out Fl := if i < s.env.length then .ok .nx { s with env := s.env.set i (some d) } else .fail
def sSet (i : Nat) (f : M D) : M Fl := fun s => (f s).bind fun d s => setV i d s
theorem setV_ok {K : PySem.W.Frag} {c : Cz} {σ : L2.St} {T : List (D × V)} {i : Nat} {d : D} {v : V} {s : S} {H : Hp} {E : Ends} (w : WantS K cl W c T (setV i d s) E) (I : SI K cl c H σ s ((d, v) :: T)) : E.nx (σ.set i (some v)) H := by
  unfold setV at w
  by_cases hi : i < s.env.length
  · rw [if_pos hi] at w; exact w _ _ (I.bind hi)
  · rw [if_neg hi] at w; exact w.elim
theorem ds_set {i : Nat} {x : Str} {e : Expr} {f : M D} {pos pos' : Pos} (hN : X.N.Nodup) (hi : X.N[i]? = some x) (hx : Loc X.env.scope x) (h : DE X cl W e f) (hs : swapsWith e (some (.Name x pos')) pos.line X.env = pure false := by rfl)
    (hf : X.fn x = true ∨ X.env.scope.names.lookup x = some .local := by first | exact .inl rfl | exact .inr rfl | assumption) : DS X cl W (.Assign [.Name x pos'] e pos) (sSet i f) := by
  obtain ⟨t, p, q⟩ := h
  refine ⟨_, ps_set hN hi hx p hs hf, fun c σ s T H E I w => ?_⟩
  exact q c σ s T H _ I (w.bind fun d s1 _ w1 v H1 I1 => setV_ok w1 I1)

/-! ### a def by its body -/
/-- how a body's run ends: the cells given, what is handed back (a pointer to a cell of the body's own: its content, from now on frozen) -/
def outD (n : Nat) (s : S) (d : D) : Option D := match d with
  | .ptr k => if n ≤ k then (match s.M[k]? with
    | some (some x) => if x.np then some x.dat else none
    | _ => none) else none
  | d => if np d then some d else none
def okM (n : Nat) (s : S) : Bool := decide (n ≤ s.M.length) && cNp (s.M.take n)
theorem okM_len {n : Nat} {s : S} (h : okM n s = true) : (s.M.take n).length = n := by
  simp only [okM, Bool.and_eq_true, decide_eq_true_eq] at h
  rw [List.length_take]; omega
def fin (n : Nat) (o : Out Fl) : Out D := match o with
  | .fail => .fail
  | .ok .nx s => if okM n s then .ok .non ⟨[], s.M.take n⟩ else .fail
  | .ok (.ret d) s => match outD n s d with
    | some d => if okM n s then .ok d ⟨[], s.M.take n⟩ else .fail
    | none => .fail
  | .ok _ _ => .fail
  | .exc c fs s => if npF fs && okM n s then .exc c fs ⟨[], s.M.take n⟩ else .fail
def run (N : Nat) (f : M Fl) : Sem := fun m ds => fin m.length (f ⟨ds.map some ++ List.replicate (N - ds.length) none, m.map some⟩)
theorem run_len (N : Nat) (f : M Fl) : LenOk (run N f) := by
  have key : ∀ (n : Nat) (o : Out Fl), (∀ d s, fin n o = .ok d s → s.M.length = n) ∧ ∀ c fs s, fin n o = .exc c fs s → s.M.length = n := by
    intro n o
    cases o with
    | fail => exact ⟨fun d s h => (by cases h), fun c fs s h => (by cases h)⟩
    | exc c fs s =>
      refine ⟨fun d s h => ?_, fun c' fs' s' h => ?_⟩
      · simp only [fin] at h; split at h <;> cases h
      · simp only [fin] at h
        split at h
        · rename_i hc
          cases h
          exact okM_len (Bool.and_eq_true_iff.mp hc).2
        · cases h
    | ok r s =>
      refine ⟨fun d s' h => ?_, fun c fs s' h => ?_⟩
      · cases r with
        | nx =>
          simp only [fin] at h
          split at h
          · rename_i hc
            cases h
            exact okM_len hc
          · cases h
        | brk => cases h
        | ct => cases h
        | ret d =>
          simp only [fin] at h
          split at h
          · split at h
            · rename_i hc
              cases h
              exact okM_len hc
            · cases h
          · cases h
      · cases r with
        | nx => simp only [fin] at h; split at h <;> cases h
        | brk => cases h
        | ct => cases h
        | ret d =>
          simp only [fin] at h
          split at h
          · split at h <;> cases h
          · cases h
  exact ⟨fun m ds d s h => (key _ _).1 d s h, fun m ds n fs s h => (key _ _).2 n fs s h⟩
end
section
variable {K : PySem.W.Frag} {cl : Str → Addr} {c : Cz} {H : Hp} {σ : L2.St} {s : S} {T T' : List (D × V)} {F : Addr → Prop} {α : List Addr}
/-- the cells behind the first n are frozen, the frame is left -/
theorem SIx.leave (I : SIx K cl c H σ s T F α) {n : Nat} (hn : n ≤ s.M.length) (hβ : c.β.length ≤ n) (hT : ∀ F', (∀ b, F b → F' b) → (∀ (k : Nat) (x : C) (a : Addr), n ≤ k → s.M[k]? = some (some x) → α[k]? = some a → F' a) → ∀ q ∈ T', Rep K cl H F' α q.1 q.2 ∧ np q.1 = true) (hc : cNp (s.M.take n) = true) :
    SI K cl c H [] ⟨[], s.M.take n⟩ T' := by
  obtain ⟨F', hF'⟩ : ∃ F' : Addr → Prop, ∀ b, F' b ↔ F b ∨ ∃ (k : Nat) (x : C), n ≤ k ∧ s.M[k]? = some (some x) ∧ α[k]? = some b := ⟨fun b => F b ∨ ∃ (k : Nat) (x : C), n ≤ k ∧ s.M[k]? = some (some x) ∧ α[k]? = some b, fun b => Iff.rfl⟩
  have hF : ∀ b, F b → F' b := fun b h => (hF' b).mpr (.inl h)
  have ht := hT F' hF fun k x a h1 h2 h3 => (hF' a).mpr (.inr ⟨k, x, h1, h2, h3⟩)
  have hl : n ≤ α.length := by rw [I.len]; exact hn
  have tk : ∀ (j : Nat) (a : Addr), (α.take n)[j]? = some a → α[j]? = some a ∧ j < n := fun j a e => by
    have hj : j < (α.take n).length := (List.getElem?_eq_some_iff.mp e).1
    rw [List.length_take] at hj
    have hj' : j < n := by omega
    rw [List.getElem?_take_of_lt hj'] at e
    exact ⟨e, hj'⟩
  refine ⟨F', α.take n, fun i d e => by simp at e, rfl, fun q hq => (ht q hq).1.np (fun b h => h) (ht q hq).2, by show (α.take n).length = (s.M.take n).length; rw [List.length_take, List.length_take, I.len], fun j x a e1 e2 => ?_, I.nd.sublist (List.take_sublist _ _), fun a ha => I.dom a (List.mem_of_mem_take ha), fun a ha => I.inα a (List.mem_of_mem_take ha), fun b hb => ?_, fun b hb => ?_, fun j a e => ?_, I.keep, I.tups, I.frzs⟩
  · have e1 : (s.M.take n)[j]? = some (some x) := e1
    obtain ⟨e3, hj⟩ := tk j a e2
    have hx := cNp_get hc e1
    rw [List.getElem?_take_of_lt hj] at e1
    obtain ⟨rc, nF⟩ := I.cel j x a e1 e3
    refine ⟨rc.np hF hx, fun hf => ?_⟩
    rcases (hF' a).mp hf with hf | ⟨k, y, h1, h2, h3⟩
    · exact nF hf
    · have := (List.getElem?_inj (by omega) I.nd).mp (e3.trans h3.symm)
      omega
  · rcases (hF' b).mp hb with hb | ⟨k, y, h1, h2, h3⟩
    · exact I.domF b hb
    · exact I.dom b (List.mem_of_getElem? h3)
  · rcases (hF' b).mp hb with hb | ⟨k, y, h1, h2, h3⟩
    · exact I.inF b hb
    · rcases I.inα b (List.mem_of_getElem? h3) with z | z
      · exact .inl z
      · exact .inr (.inr z)
  · have hj : j < n := Nat.lt_of_lt_of_le (List.getElem?_eq_some_iff.mp e).1 hβ
    rw [List.getElem?_take_of_lt hj]
    exact I.pre j a e
end
end DL

/-! DlH: a def keeps its promise, by its body. -/
namespace DL
open PySem L2
open PySem.Spec PyProof.Rows

section
variable {K : PySem.W.Frag} {cl : Str → Addr} {H : Hp}
theorem zipT_rev {F : Addr → Prop} {α : List Addr} : ∀ {ds : List D} {vs : List V} {T : List (D × V)}, ds.length = vs.length → (∀ q ∈ zipT ds vs T, Rep K cl H F α q.1 q.2) → RepL K cl H F α ds vs
  | ds, vs, T, hl, h => SIx.repL (s := ⟨[], []⟩) hl fun i d v h1 h2 => h (d, v) (zipT_mem h1 h2)
/-- the state at a def's entry -/
theorem start_SI {F : Addr → Prop} {β : List Addr} {m : List C} {ds : List D} {vs : List V} {N : List Str} (hl : ds.length = vs.length) (J : SIx K cl ⟨H, β, F⟩ H [] ⟨[], m.map some⟩ (zipT ds vs []) F β) :
    SI K cl ⟨H, β, F⟩ H (start N vs) ⟨ds.map some ++ List.replicate (N.length - ds.length) none, m.map some⟩ [] := by
  have rl := zipT_rev hl J.tmp
  refine ⟨F, β, { J with env := fun i d e => ?_, el := ?_, tmp := fun q hq => by simp at hq }⟩
  · have e : (ds.map some ++ List.replicate (N.length - ds.length) none)[i]? = some (some d) := e
    have hi : i < ds.length := by
      by_cases hi : i < ds.length
      · exact hi
      · rw [List.getElem?_append_right (by simpa using hi), List.getElem?_replicate] at e
        split at e <;> cases e
    rw [List.getElem?_append_left (by simpa using hi), List.getElem?_map] at e
    obtain ⟨d', h1, h2⟩ := Option.map_eq_some_iff.mp e
    cases h2
    obtain ⟨v, h3, h4⟩ := rl.get h1
    refine ⟨v, ?_, h4⟩
    unfold L2.start
    rw [List.getElem?_append_left (by rw [List.length_map, ← hl]; exact hi), List.getElem?_map, h3]
    rfl
  · show (ds.map some ++ List.replicate (N.length - ds.length) none).length = (start N vs).length
    unfold L2.start
    rw [List.length_append, List.length_append, List.length_map, List.length_map, List.length_replicate, List.length_replicate, hl]
theorem okM_iff {n : Nat} {s : S} (h : okM n s = true) : n ≤ s.M.length ∧ cNp (s.M.take n) = true := by
  simpa only [okM, Bool.and_eq_true, decide_eq_true_eq] using h
/-- what the caller wants, as the body's end wants it -/
theorem body_want {W : XK} {F : Addr → Prop} {β : List Addr} {n : Nat} {o : Out Fl} {Q : VK} (hβ : β.length = n) (w : Want K cl (fun cls dx _ H' => W cls dx H') ⟨H, β, F⟩ [] [] (match fin n o with
    | .fail => .fail
    | .ok d s => .ok d ⟨[], s.M⟩
    | .exc n fs s => .exc n fs ⟨[], s.M⟩) Q) : WantS K cl (fun cls dx _ H' => W cls dx H') ⟨H, β, F⟩ [] o { nx := fun _ H' => Q .non H', rt := Q } := by
  cases o with
  | fail => exact w
  | exc c fs s =>
    simp only [fin] at w
    cases hc : (npF fs && okM n s) with
    | false => rw [hc] at w; exact w.elim
    | true =>
      rw [hc] at w
      obtain ⟨h1, h2⟩ := Bool.and_eq_true_iff.mp hc
      obtain ⟨h3, h4⟩ := okM_iff h2
      intro dx σ H' hdx I
      obtain ⟨G, α, J⟩ := I
      refine w dx H' hdx (SIx.leave J h3 (by rw [hβ]; exact Nat.le_refl _) (fun F' hF _ q hq => ?_) h4)
      rw [List.append_nil] at hq
      have hq' := J.tmp q (List.mem_append_left _ hq)
      cases dx with
      | none => simp [xt] at hq
      | some a =>
        have e : q = (.xd fs, .ref a) := List.mem_singleton.mp hq
        subst e
        have hn : np (.xd fs) = true := by simp only [np]; exact h1
        exact ⟨hq'.np hF hn, hn⟩
  | ok r s =>
    cases r with
    | brk => exact w.elim
    | ct => exact w.elim
    | nx =>
      simp only [fin] at w
      cases hc : okM n s with
      | false => rw [hc] at w; exact w.elim
      | true =>
        rw [hc] at w
        obtain ⟨h3, h4⟩ := okM_iff hc
        intro σ H' I
        obtain ⟨G, α, J⟩ := I
        refine w .non H' (SIx.leave J h3 (by rw [hβ]; exact Nat.le_refl _) (fun F' hF _ q hq => ?_) h4)
        rw [List.mem_singleton.mp hq]
        exact ⟨.non, rfl⟩
    | ret d =>
      simp only [fin] at w
      cases ho : outD n s d with
      | none => rw [ho] at w; exact w.elim
      | some d' =>
        rw [ho] at w
        dsimp only at w
        cases hc : okM n s with
        | false => rw [hc] at w; exact w.elim
        | true =>
          rw [hc] at w
          obtain ⟨h3, h4⟩ := okM_iff hc
          intro v σ H' I
          obtain ⟨G, α, J⟩ := I
          refine w v H' (SIx.leave J h3 (by rw [hβ]; exact Nat.le_refl _) (fun F' hF hcell q hq => ?_) h4)
          rw [List.mem_singleton.mp hq]
          have r := J.tmp (d, v) (List.mem_cons_self ..)
          rcases ptr_or d with ⟨k, rfl⟩ | hd
          · cases r with
            | ptr ha =>
              rename_i a
              simp only [outD] at ho
              by_cases hk : n ≤ k
              · rw [if_pos hk] at ho
                cases e : s.M[k]? with
                | none => rw [e] at ho; cases ho
                | some z =>
                  cases z with
                  | none => rw [e] at ho; cases ho
                  | some x =>
                    rw [e] at ho
                    dsimp only at ho
                    cases hx : x.np with
                    | false => rw [hx] at ho; cases ho
                    | true =>
                      rw [hx] at ho
                      cases ho
                      obtain ⟨rc, _⟩ := J.cel k x a e ha
                      refine ⟨(rc.np hF hx).rep (hcell k x a hk e ha), ?_⟩
                      cases x <;> exact hx
              · rw [if_neg hk] at ho; cases ho
          · have ho' : (if np d then some d else none) = some d' := by
              cases d <;> first | exact ho | exact absurd rfl (hd _)
            cases hn : np d with
            | false => rw [hn] at ho'; cases ho'
            | true =>
              rw [hn] at ho'
              cases ho'
              exact ⟨r.np hF hn, hn⟩
end
section
variable {P : Program} {w : World} {K : PySem.W.Frag} {mg : Str → Option Value} {base : Heap} {cl : Str → Addr}
theorem guards_deeper {A : Around} {env : Env} (h : A.guards = some []) : (A.deeper env).guards = some [] := h
/-- THE RULE -/
theorem fn_G {k : Nat} {f : Addr} {x qual : Str} {params : Arguments} {body : List Stmt} {scope : Scope} {dvs : List V} {kws : List (Str × V)} {fd : FuncData} {N ps : List Str} {g : M Fl} (F : FunD K x qual params body scope dvs kws f fd) (S : FnScope N ps scope)
    (hbody : ∀ (cdv : Value) (A : Around) (outer : List Env) (s : Shared) (H : Hp) (E : XK), Cok (cxOf (L2.CX P w) P w K mg base N qual scope f cdv A outer s H E) (fun cls dx _ H' => E cls dx H') k →
      DSs (cxOf (L2.CX P w) P w K mg base N qual scope f cdv A outer s H E) cl (fun cls dx _ H' => E cls dx H') body g) : FnG P w K mg base cl (k + 1) f fd ps (run N.length g) := by
  obtain ⟨oc, od, dV, kV, doc, pm, an, cdv, ct, osl, rfl, lk, hcd, _, _⟩ := F.ex
  refine ⟨fun A outer s H args us vs Q E hr hgd e0 hb r hl hsp => ?_⟩
  have KX : K.In s.heap := e0.mod.kin.keeps fun b o e => (e0.bs b o e).1
  have lim : s.heap.NoLimit := e0.mod.nolimit.keeps fun b o e => (e0.bs b o e).1
  have hkind : ∀ y ∈ ps.zip us, scope.names.lookup y.1 = some .local ∨ (scope.names.lookup y.1 = some .cell ∧ ((cellsFrom (s.heap.objs.size + 1) scope.names []).lookup y.1).isSome = true) := fun ⟨n, v⟩ hy =>
    (S.par n (List.of_mem_zip hy).1).elim .inl fun q => .inr ⟨q, PySem.W.cellsFrom_some _ _ _ (.inl q)⟩
  refine codeAny_call_function hr.depth (KX _ _ lk) rfl S.co S.gen rfl (PySem.W.codeRec_of KX hcd) (hb _ _ _ _ ?_)
  refine wpAny_newFunctionEnv_cells S.kind hkind fun env he s1 z => ?_
  subst he
  refine ⟨lim.keeps z.toInCall.keep, codeAny_func ?_⟩
  have cok : Cok (cxOf (L2.CX P w) P w K mg base N qual scope f cdv A outer s H E) (fun cls dx _ H' => E cls dx H') k :=
    ⟨takes_of rfl rfl rfl rfl, passes_of (X := cxOf (L2.CX P w) P w K mg base N qual scope f cdv A outer s H E) (K := fun e s'' => L2.CX P w outer H s E e s'') rfl, S.nd, rfl, hr.deeper _, guards_deeper hgd⟩
  obtain ⟨ts, pt, hq⟩ := hbody cdv A outer s H E cok
  have I : Inv (cxOf (L2.CX P w) P w K mg base N qual scope f cdv A outer s H E) [] (start N vs) H s1 := inv_start S hr.hd e0 hl r z
  obtain ⟨G, β, m, ds, hdl, J, wn⟩ := hsp
  have hβ : β.length = m.length := by
    have := J.len
    rw [this]; show (m.map some).length = m.length
    rw [List.length_map]
  have start_want := body_want hβ wn
  have main := hq ⟨H, β, G⟩ (start N vs) _ [] H { nx := fun _ H' => Q .non H', rt := Q } (start_SI hdl J) start_want
  refine wpAny_mono (pt.run [] s1 (start N vs) H _ I main) (fun fl s' hs => ?_) fun e s' hs => hs
  have ends : ∀ {σ' : L2.St} {H' : Hp} {v : V} {u : Value}, Inv (cxOf (L2.CX P w) P w K mg base N qual scope f cdv A outer s H E) [] σ' H' s' → RelV v u → Q v H' → CE outer P w H s Q u s' :=
    fun {σ' H' v u} J rv q => ⟨v, H', J.os, J.bare, J.base, J.hok, rv, q⟩
  cases fl with
  | ret u =>
    obtain ⟨v, σ', H', J, rv, q⟩ := hs
    exact ends J rv q
  | next =>
    obtain ⟨σ', H', J, q⟩ := hs
    exact ends (v := V.non) (u := Value.none) J rfl q
  | brk => exact hs.elim fun _ h => h.elim fun _ h => h.2.elim
  | cont => exact hs.elim fun _ h => h.elim fun _ h => h.2.elim
end
end DL

/-! DlI: what is walked; for, while, comprehensions. -/
namespace DL
open PySem L2
open PySem.Spec PyProof.Rows

section
variable {K : PySem.W.Frag} {cl : Str → Addr} {c : Cz} {H H' : Hp} {σ σ' : L2.St} {s s' : S} {T T' : List (D × V)} {F : Addr → Prop} {α : List Addr}
/-- a run within the run -/
theorem SIx.nest (I : SIx K cl c H σ s T F α) : SIx K cl ⟨H, α, F⟩ H σ s T F α :=
  { I with inα := fun a ha => .inl ha, inF := fun b hb => .inr (.inl hb), pre := fun _ _ e => e, keep := fun b o e _ => e, tups := fun _ _ e => e, frzs := fun _ _ _ e => e }
theorem SIx.unnest {F' : Addr → Prop} {α' : List Addr} (I : SIx K cl c H σ s T F α) (J : SIx K cl ⟨H, α, F⟩ H' σ' s' T' F' α') : SIx K cl c H' σ' s' T' F' α' := by
  have c0 : ∀ b, H b = none → b ∈ c.β ∨ c.H0 b = none := fun b hb => by
    cases q : c.H0 b with
    | none => exact .inr rfl
    | some u =>
      by_cases hm : b ∈ c.β
      · exact .inl hm
      · have := I.keep b u q hm
        rw [hb] at this; cases this
  refine { J with inα := fun a ha => ?_, inF := fun b hb => ?_, pre := fun k a e => J.pre k a (I.pre k a e), keep := fun b o e hb => J.keep b o (I.keep b o e hb) fun hm => ?_, tups := fun b xs e => J.tups b xs (I.tups b xs e), frzs := fun b o u e => J.frzs b o u (I.frzs b o u e) }
  · rcases J.inα a ha with z | z
    · exact I.inα a z
    · exact c0 a z
  · rcases J.inF b hb with z | z | z
    · rcases I.inα b z with w | w
      · exact .inl w
      · exact .inr (.inr w)
    · exact I.inF b z
    · rcases c0 b z with w | w
      · exact .inl w
      · exact .inr (.inr w)
  · rcases I.inα b hm with z | z
    · exact hb z
    · rw [z] at e; cases e
/-- the frame's names, kept aside -/
def pairs : List (Option D) → List (Option V) → List (D × V)
  | some d :: ds, some v :: vs => (d, v) :: pairs ds vs
  | _ :: ds, _ :: vs => pairs ds vs
  | _, _ => []
theorem pairs_mem : ∀ {ds : List (Option D)} {vs : List (Option V)} {i : Nat} {d : D} {v : V}, ds[i]? = some (some d) → vs[i]? = some (some v) → (d, v) ∈ pairs ds vs
  | [], _, i, d, v, h, _ => by simp at h
  | _ :: _, [], i, d, v, _, h => by simp at h
  | e :: ds, u :: vs, 0, d, v, h1, h2 => by
    simp at h1 h2; subst h1 h2
    exact List.mem_cons_self ..
  | none :: ds, u :: vs, i + 1, d, v, h1, h2 => by cases u <;> exact pairs_mem (ds := ds) (vs := vs) (by simpa using h1) (by simpa using h2)
  | some e :: ds, none :: vs, i + 1, d, v, h1, h2 => pairs_mem (ds := ds) (vs := vs) (by simpa using h1) (by simpa using h2)
  | some e :: ds, some u :: vs, i + 1, d, v, h1, h2 => List.mem_cons_of_mem _ (pairs_mem (ds := ds) (vs := vs) (by simpa using h1) (by simpa using h2))
theorem pairs_of : ∀ {ds : List (Option D)} {vs : List (Option V)} {q : D × V}, q ∈ pairs ds vs → ∃ i : Nat, ds[i]? = some (some q.1) ∧ vs[i]? = some (some q.2)
  | [], vs, q, h => by cases vs <;> simp [pairs] at h
  | e :: ds, [], q, h => by cases e <;> simp [pairs] at h
  | none :: ds, u :: vs, q, h => by
    have h' : q ∈ pairs ds vs := by cases u <;> exact h
    obtain ⟨i, h1, h2⟩ := pairs_of h'
    exact ⟨i + 1, by simpa using h1, by simpa using h2⟩
  | some e :: ds, none :: vs, q, h => by
    obtain ⟨i, h1, h2⟩ := pairs_of (ds := ds) (vs := vs) h
    exact ⟨i + 1, by simpa using h1, by simpa using h2⟩
  | some e :: ds, some u :: vs, q, h => by
    rcases List.mem_cons.mp h with rfl | h
    · exact ⟨0, rfl, rfl⟩
    · obtain ⟨i, h1, h2⟩ := pairs_of (ds := ds) (vs := vs) h
      exact ⟨i + 1, by simpa using h1, by simpa using h2⟩
theorem SIx.temps (I : SIx K cl c H σ s T F α) (h : ∀ q ∈ T', Rep K cl H F α q.1 q.2) : SIx K cl c H σ s T' F α := { I with tmp := h }
theorem SIx.save (I : SIx K cl c H σ s T F α) : SIx K cl c H σ s (pairs s.env σ ++ T) F α := by
  refine I.temps fun q hq => ?_
  rcases List.mem_append.mp hq with hq | hq
  · obtain ⟨i, h1, h2⟩ := pairs_of hq
    obtain ⟨v, h3, h4⟩ := I.env i q.1 h1
    rw [h2] at h3; cases h3
    exact h4
  · exact I.tmp q hq
/-- .. and taken up again: any frame whose names stand among the temps -/
theorem SIx.load {σ0 : L2.St} {env : List (Option D)} (I : SIx K cl c H σ s T F α) (hl : env.length = σ0.length) (h : ∀ (i : Nat) (d : D), env[i]? = some (some d) → ∃ v, σ0[i]? = some (some v) ∧ (d, v) ∈ T) : SIx K cl c H σ0 { s with env := env } T F α := by
  have he : ∀ (i : Nat) (d : D), env[i]? = some (some d) → ∃ v, σ0[i]? = some (some v) ∧ Rep K cl H F α d v := fun i d e => by
    obtain ⟨v, h1, h2⟩ := h i d e
    exact ⟨v, h1, I.tmp (d, v) h2⟩
  exact { I with env := he, el := hl }
end

/-! ### what is walked -/
/-- the iterator J hands out the items of the datum d, read through the cells; P: what it leans on -/
def Drv (K : PySem.W.Frag) (cl : Str → Addr) (J : It) (P : List (D × V)) (its : D → Option (List D)) (d : D) : Prop :=
  ∀ c H σ s T i ds, SI K cl c H σ s (P ++ T) → its (view s.M d) = some ds →
    (∀ e, ds[i]? = some e → J.go i H ∧ ∀ x H', J.yld i H x H' → SI K cl c H' σ s ((e, x) :: (P ++ T))) ∧ (ds.length ≤ i → J.stop i H)
def WantI (K : PySem.W.Frag) (cl : Str → Addr) (W : WX) (its : D → Option (List D)) (c : Cz) (σ : L2.St) (T : List (D × V)) (o : Out D) (R : It → Hp → Prop) : Prop := match o with
  | .fail => False
  | .ok d s => ∀ H J P, SI K cl c H σ s (P ++ T) → Drv K cl J P its d → R J H
  | .exc n fs s => ∀ dx H, (dx = none → fs = []) → SI K cl c H σ s (xt fs dx ++ T) → W (.ref (cl n)) dx σ H
/-- the iterable: f evaluates it; ok says that what came is walked by this rule -/
structure DI (X : Cx) (cl : Str → Addr) (W : WX) (tg iter : Expr) (f : M D) (its : D → Option (List D)) : Prop where
  ex : ∃ wi, PI X tg iter wi ∧ ∀ c σ s T H R, SI X.K cl c H σ s T → WantI X.K cl W its c σ T (f s) R → (∀ d s', f s = .ok d s' → (its (view s'.M d)).isSome = true) → wi σ H R
theorem PI.or {X : Cx} {tg iter : Expr} {w1 w2 : TI} (h1 : PI X tg iter w1) (h2 : PI X tg iter w2) : PI X tg iter (fun σ H R => w1 σ H R ∨ w2 σ H R) :=
  ⟨fun pins s σ H R I h => h.elim (h1.run pins s σ H R I) (h2.run pins s σ H R I)⟩
/-- a sequence's items, a text's signs -/
def itSeq : D → Option (List D)
  | .str z => some (z.cps.toList.map fun c => .str ⟨#[c]⟩)
  | d => seqD d
section
variable {X : Cx} {cl : Str → Addr} {W : WX} {tg : Expr}
theorem WantI.of {K : PySem.W.Frag} {its : D → Option (List D)} {c : Cz} {σ : L2.St} {T : List (D × V)} {o : Out D} {R : It → Hp → Prop} {Q : VK} (w : WantI K cl W its c σ T o R) (hk : ∀ d s, o = .ok d s → (∀ H J P, SI K cl c H σ s (P ++ T) → Drv K cl J P its d → R J H) → ∀ v H, SI K cl c H σ s ((d, v) :: T) → Q v H) : Want K cl W c σ T o Q := by
  cases o with
  | fail => exact w
  | ok d s => exact hk d s rfl w
  | exc n fs s => exact w
theorem view_tup {M : List (Option C)} {d : D} {xs : List D} (h : view M d = .tup xs) : d = .tup xs := by
  cases d with
  | ptr k =>
    exfalso
    cases e : M[k]? with
    | none => simp only [view, e] at h; cases h
    | some o =>
      cases o with
      | none => simp only [view, e] at h; cases h
      | some x => simp only [view, e] at h; cases x <;> cases h
  | _ => exact h
theorem view_tp {M : List (Option C)} {d : D} (h : tpD d = none) : tpD (view M d) = none := by
  cases d with
  | ptr k =>
    cases e : M[k]? with
    | none => simp only [view, e]; rfl
    | some o =>
      cases o with
      | none => simp only [view, e]; rfl
      | some x => simp only [view, e]; cases x <;> rfl
  | _ => exact h
theorem tp_view {M : List (Option C)} {d : D} {xs : List D} (h : tpD d = some xs) : tpD (view M d) = some xs := by
  cases d with
  | ptr k => cases h
  | _ => exact h
theorem view_str {M : List (Option C)} {d : D} {z : Str} (h : view M d = .str z) : d = .str z := by
  cases d with
  | ptr k =>
    exfalso
    cases e : M[k]? with
    | none => simp only [view, e] at h; cases h
    | some o =>
      cases o with
      | none => simp only [view, e] at h; cases h
      | some x => simp only [view, e] at h; cases x <;> cases h
  | _ => exact h
theorem Rep.seqL {K : PySem.W.Frag} {H : Hp} {F : Addr → Prop} {α : List Addr} {d : D} {v : V} {ds : List D} (r : Rep K cl H F α d v) (hd : tpD d = none) (e : seqD d = some ds) : ∃ a vs, v = .ref a ∧ SqL K H a vs ∧ RepL K cl H F α ds vs := by
  obtain ⟨a, vs, h1, h2, h3⟩ := r.seq e
  rcases h2 with h2 | h2
  · exact ⟨a, vs, h1, h2, h3⟩
  · cases r with
    | tup _ _ => cases hd
    | kt _ _ => cases hd
    | lst h _ r => simp [seqD] at e; subst e; exact ⟨_, _, rfl, SqL.of h, r⟩
    | slst h _ r => simp [seqD] at e; subst e; exact ⟨_, _, rfl, .inl h, r⟩
    | slstK h r => simp [seqD] at e; subst e; exact ⟨_, _, rfl, h H, r⟩
    | _ => simp [seqD] at e
theorem SIx.vSeqL {K : PySem.W.Frag} {c : Cz} {H : Hp} {σ : L2.St} {s : S} {T : List (D × V)} {F : Addr → Prop} {α : List Addr} {d : D} {v : V} {ds : List D} (h : SIx K cl c H σ s T F α) (r : Rep K cl H F α d v) (hd : tpD d = none) (e : seqD (DL.view s.M d) = some ds) : ∃ a vs, v = .ref a ∧ SqL K H a vs ∧ RepL K cl H F α ds vs := by
  rcases h.view r with r | ⟨k, x, a, _, rfl, _, _, e2, rc⟩
  · exact r.seqL (view_tp hd) e
  · rw [e2] at e
    cases x <;> simp [C.dat, seqD] at e <;> subst e
    obtain ⟨vs, h1, h2⟩ := rc
    exact ⟨a, vs, rfl, SqL.of h1, h2⟩
theorem itSeq_seq {d : D} {ds : List D} (hs : ∀ z, d ≠ .str z) (h : itSeq d = some ds) : seqD d = some ds := by
  cases d <;> first | exact h | exact absurd rfl (hs _)
theorem drv_list {K : PySem.W.Frag} {a : Addr} {d : D} (h1 : tpD d = none) (h2 : ∀ z, d ≠ .str z) : Drv K cl (Itl K a) [(d, .ref a)] itSeq d := by
  intro c H σ s T i ds I e
  obtain ⟨F, α, J⟩ := id I
  have e' := itSeq_seq (fun z q => h2 z (view_str q)) e
  obtain ⟨b, vs, ev, hl, r⟩ := J.vSeqL (J.tmp (d, .ref a) (List.mem_append_left _ (List.mem_cons_self ..))) h1 e'
  cases ev
  refine ⟨fun g hg => ?_, fun hl' => ⟨vs, hl, by rw [← r.length]; exact hl'⟩⟩
  obtain ⟨x, h3, r3⟩ := r.get hg
  refine ⟨⟨vs, x, hl, h3⟩, fun y H'' hy => ?_⟩
  obtain ⟨rfl, hy⟩ := hy
  have := hy vs hl
  rw [h3] at this; cases this
  exact ⟨F, α, J.push r3⟩
theorem drv_tup {K : PySem.W.Frag} {a : Addr} {d : D} {xs : List D} (hd : tpD d = some xs) : Drv K cl (Itt K a) [(d, .ref a)] itSeq d := by
  intro c H σ s T i ds I e
  obtain ⟨F, α, J⟩ := id I
  have e' : ds = xs := by
    have q := tp_view (M := s.M) hd
    revert e q
    generalize view s.M d = u
    intro e q
    cases u <;> simp [tpD] at q
    · subst q; exact (Option.some.inj (show some _ = some ds from e)).symm
    · subst q; exact (Option.some.inj (show some _ = some ds from e)).symm
  subst e'
  obtain ⟨b, vs, ev, hl, r⟩ := J.vTp (J.tmp (d, .ref a) (List.mem_append_left _ (List.mem_cons_self ..))) (tp_view hd)
  cases ev
  refine ⟨fun g hg => ?_, fun hl' => ⟨vs, hl, by rw [← r.length]; exact hl'⟩⟩
  obtain ⟨x, h3, r3⟩ := r.get hg
  refine ⟨⟨vs, x, hl, h3⟩, fun y H'' hy => ?_⟩
  obtain ⟨rfl, hy⟩ := hy
  have := hy vs hl
  rw [h3] at this; cases this
  exact ⟨F, α, J.push r3⟩
theorem drv_str {K : PySem.W.Frag} {z : Str} {P : List (D × V)} : Drv K cl (Its z) P itSeq (.str z) := by
  intro c H σ s T i ds I e
  have e' : ds = z.cps.toList.map fun c => D.str ⟨#[c]⟩ := (Option.some.inj (show some _ = some ds from e)).symm
  subst e'
  refine ⟨fun g hg => ?_, fun hl => by rw [List.length_map, Array.length_toList] at hl; exact hl⟩
  rw [List.getElem?_map] at hg
  obtain ⟨cp, h1, rfl⟩ := Option.map_eq_some_iff.mp hg
  have h1' : z.cps[i]? = some cp := by rw [← Array.getElem?_toList]; exact h1
  refine ⟨(Array.getElem?_eq_some_iff.mp h1').1, fun x H'' hy => ?_⟩
  obtain ⟨rfl, cp', h2, rfl⟩ := hy
  rw [h1'] at h2; cases h2
  exact SI.flat rfl I
/-- over a list, a tuple, a text -/
theorem di_seq {iter : Expr} {f : M D} (h : DE X cl W iter f) : DI X cl W tg iter f itSeq := by
  obtain ⟨te, pe, q⟩ := h
  refine ⟨_, PI.or (pi_list pe) (PI.or (pi_tup pe) (pi_str pe)), fun c σ s T H R I w hs => ?_⟩
  cases hf : f s with
  | fail => rw [hf] at w; exact w.elim
  | exc n fs s1 => exact .inl (q c σ s T H _ I (by rw [hf] at w ⊢; exact w))
  | ok d s1 =>
    obtain ⟨ds, hds⟩ := Option.isSome_iff_exists.mp (hs d s1 hf)
    rw [hf] at w
    have w : ∀ H J P, SI X.K cl c H σ s1 (P ++ T) → Drv X.K cl J P itSeq d → R J H := w
    by_cases h2 : ∃ z, d = .str z
    · obtain ⟨z, rfl⟩ := h2
      refine .inr (.inr (q c σ s T H _ I ?_))
      rw [hf]
      intro v H1 I1
      have ev := rep_str I1
      subst ev
      exact ⟨z, rfl, w H1 _ [(.str z, .str z)] I1 drv_str⟩
    · cases h1 : tpD d with
      | some xs =>
        refine .inr (.inl (q c σ s T H _ I ?_))
        rw [hf]
        intro v H1 I1
        obtain ⟨F, α, J1⟩ := id I1
        obtain ⟨a, vs, ev, h2, rl⟩ := J1.vTp (J1.tmp (d, v) (List.mem_cons_self ..)) (tp_view h1)
        have ev : v = .ref a := ev
        subst ev
        exact ⟨a, rfl, ⟨vs, h2⟩, w H1 _ [(d, .ref a)] I1 (drv_tup h1)⟩
      | none =>
        have h2' : ∀ z, d ≠ .str z := fun z e => h2 ⟨z, e⟩
        refine .inl (q c σ s T H _ I ?_)
        rw [hf]
        intro v H1 I1
        obtain ⟨F, α, J1⟩ := id I1
        obtain ⟨a, vs, ev, h3, rl⟩ := J1.vSeqL (J1.tmp (d, v) (List.mem_cons_self ..)) h1 (itSeq_seq (fun z e => h2' z (view_str e)) hds)
        have ev : v = .ref a := ev
        subst ev
        exact ⟨a, rfl, ⟨vs, h3⟩, w H1 _ [(d, .ref a)] I1 (drv_list h1 h2')⟩
/-- over range(n), range(a, b) -/
def itRng : D → Option (List D)
  | .tup [.int a, .int b] => some ((List.range (b - a).toNat).map fun i => .int (a + (i : Nat)))
  | _ => none
def rngOk (i : Int) : Bool := decide (-(2 ^ 62) ≤ i) && decide (i < 2 ^ 62)
def eRng1 (f : M (List D)) : M D := fun s => (f s).bind fun ds s => match ds with
  | [.int n] => if rngOk n then .ok (.tup [.int 0, .int n]) s else .fail
  | _ => .fail
def eRng2 (f : M (List D)) : M D := fun s => (f s).bind fun ds s => match ds with
  | [.int a, .int b] => if rngOk a && rngOk b then .ok (.tup [.int a, .int b]) s else .fail
  | _ => .fail
theorem drv_rng {K : PySem.W.Frag} {a b : Int} {n : Nat} (hn : n = (b - a).toNat) : Drv K cl (Itr a n) [] itRng (.tup [.int a, .int b]) := by
  intro c H σ s T i ds I e
  have e' : ds = (List.range (b - a).toNat).map fun i => D.int (a + (i : Nat)) := (Option.some.inj (show some _ = some ds from e)).symm
  subst e' hn
  refine ⟨fun g hg => ?_, fun hl => by rw [List.length_map, List.length_range] at hl; exact hl⟩
  rw [List.getElem?_map] at hg
  obtain ⟨j, h1, rfl⟩ := Option.map_eq_some_iff.mp hg
  obtain ⟨h2, h3⟩ := List.getElem?_eq_some_iff.mp h1
  rw [List.getElem_range] at h3
  subst h3
  refine ⟨by rw [List.length_range] at h2; exact h2, fun x H'' hy => ?_⟩
  obtain ⟨rfl, rfl⟩ := hy
  exact SI.flat rfl I
theorem WantI.bindA {K : PySem.W.Frag} {its : D → Option (List D)} {c : Cz} {σ : L2.St} {T : List (D × V)} {o : Out (List D)} {k : List D → S → Out D} {R : It → Hp → Prop} {Q : List V → Hp → Prop} (h : WantI K cl W its c σ T (o.bind k) R)
    (hk : ∀ ds s, o = .ok ds s → WantI K cl W its c σ T (k ds s) R → ∀ vs H, ds.length = vs.length → SI K cl c H σ s (zipT ds vs T) → Q vs H) : WantA K cl W c σ T o Q := by
  cases o with
  | fail => exact h
  | ok d s => exact hk d s rfl h
  | exc n fs s => exact h
theorem di_rng1 {a : Expr} {f : M (List D)} {p pos : Pos} (h : DA X cl W [a] f) (hm : X.mg "range" = none) (hg : Gl X "range" := by rfl) (hs : starEach [a] X.env = [(false, eval a X.env)] := by rfl) : DI X cl W tg (.Call (.Name "range" p) [a] [] pos) (eRng1 f) itRng := by
  obtain ⟨te, pe, q⟩ := h
  refine ⟨_, pi_range1 hg hm pe hs, fun c σ s T H R I w hsm => ?_⟩
  refine q c σ s T H _ I (w.bindA fun ds s1 hfs w1 vs H1 hl I1 => ?_)
  split at w1
  · rename_i n
    cases hc : rngOk n with
    | false => rw [hc] at w1; exact w1.elim
    | true =>
      rw [hc] at w1
      simp only [rngOk, Bool.and_eq_true, decide_eq_true_eq] at hc
      have w1 : ∀ H J P, SI X.K cl c H σ s1 (P ++ T) → Drv X.K cl J P itRng (.tup [.int 0, .int n]) → R J H := w1
      cases vs with
      | nil => simp at hl
      | cons v vs =>
        cases vs with
        | cons _ _ => simp at hl
        | nil =>
          have ev := rep_int (show SI X.K cl c H1 σ s1 ((.int n, v) :: T) from I1)
          subst ev
          exact ⟨n, rfl, hc.1, hc.2, w1 H1 _ [] (SI.pop (p := (.int n, .int n)) I1) (drv_rng (by simp))⟩
  · exact w1.elim
theorem di_rng2 {a b : Expr} {f : M (List D)} {p pos : Pos} (h : DA X cl W [a, b] f) (hm : X.mg "range" = none) (hg : Gl X "range" := by rfl) (hs : starEach [a, b] X.env = [(false, eval a X.env), (false, eval b X.env)] := by rfl) (hs2 : starEach [b] X.env = [(false, eval b X.env)] := by rfl) : DI X cl W tg (.Call (.Name "range" p) [a, b] [] pos) (eRng2 f) itRng := by
  obtain ⟨te, pe, q⟩ := h
  refine ⟨_, pi_range2 hg hm pe hs hs2, fun c σ s T H R I w hsm => ?_⟩
  refine q c σ s T H _ I (w.bindA fun ds s1 hfs w1 vs H1 hl I1 => ?_)
  split at w1
  · rename_i a b
    cases hc : (rngOk a && rngOk b) with
    | false => rw [hc] at w1; exact w1.elim
    | true =>
      rw [hc] at w1
      simp only [rngOk, Bool.and_eq_true, decide_eq_true_eq] at hc
      have w1 : ∀ H J P, SI X.K cl c H σ s1 (P ++ T) → Drv X.K cl J P itRng (.tup [.int a, .int b]) → R J H := w1
      match vs, hl with
      | [u, v], _ =>
        have I2 : SI X.K cl c H1 σ s1 ((.int b, v) :: (.int a, u) :: T) := I1
        have e1 := rep_int I2
        have e2 := rep_int I2.pop
        subst e1 e2
        exact ⟨a, b, rfl, ⟨hc.1.1, hc.1.2, hc.2.1, hc.2.2⟩, w1 H1 _ [] I2.pop.pop (drv_rng rfl)⟩
  · exact w1.elim
end
end DL

/-! DlJ: targets; for, while; comprehensions. -/
namespace DL
open PySem L2
open PySem.Spec PyProof.Rows

/-! ### targets -/
structure DG (X : Cx) (cl : Str → Addr) (tg : Expr) (is : List Nat) (g : D → S → Option S) : Prop where
  ex : ∃ t, PG X tg t ∧ ∀ c σ s T H d v Q s', SI X.K cl c H σ s ((d, v) :: T) → g d s = some s' → (∀ σ', (∀ vs : List Nat, (∀ i ∈ is, i ∈ vs) → wipe σ' vs = wipe σ vs) → SI X.K cl c H σ' s' T → Q σ' H) → t v σ H Q
structure DGs (X : Cx) (cl : Str → Addr) (tgs : List Expr) (n : Nat) (is : List Nat) (g : List D → S → Option S) : Prop where
  len : ∀ ds s s', g ds s = some s' → ds.length = n
  ex : ∃ t, PGs X tgs t ∧ ∀ c σ s T H ds vs Q s', (∃ F α, SIx X.K cl c H σ s T F α ∧ RepL X.K cl H F α ds vs) → g ds s = some s' → (∀ σ', (∀ vs : List Nat, (∀ i ∈ is, i ∈ vs) → wipe σ' vs = wipe σ vs) → SI X.K cl c H σ' s' T → Q σ' H) → t vs σ H Q
def gVar (i : Nat) (d : D) (s : S) : Option S := if i < s.env.length then some { s with env := s.env.set i (some d) } else none
def gNone : List D → S → Option S
  | [], s => some s
  | _, _ => none
def gMore (g : D → S → Option S) (h : List D → S → Option S) : List D → S → Option S
  | d :: ds, s => (g d s).bind (h ds)
  | [], _ => none
def gTupD (g : List D → S → Option S) : D → S → Option S
  | .tup ds, s => g ds s
  | .kt ds, s => g ds s
  | _, _ => none
theorem wipe_set {σ : L2.St} {i : Nat} {v : Option V} : ∀ {vs : List Nat}, i ∈ vs → wipe (σ.set i v) vs = wipe σ vs
  | [], h => by simp at h
  | j :: vs, h => by
    show (wipe (σ.set i v) vs).set j none = (wipe σ vs).set j none
    by_cases hv : i ∈ vs
    · rw [wipe_set hv]
    · have hj : i = j := (List.mem_cons.mp h).resolve_right hv
      subst hj
      have key : ∀ (ws : List Nat), i ∉ ws → wipe (σ.set i v) ws = (wipe σ ws).set i v := by
        intro ws
        induction ws with
        | nil => intro _; rfl
        | cons w ws ih =>
          intro hw
          show (wipe (σ.set i v) ws).set w none = ((wipe σ ws).set w none).set i v
          rw [ih fun q => hw (List.mem_cons_of_mem _ q), List.set_comm]
          exact fun q => hw (q ▸ List.mem_cons_self ..)
      rw [key vs hv, List.set_set]
section
variable {X : Cx} {cl : Str → Addr} {W : WX}
theorem dg_name {i : Nat} {x : Str} {pos : Pos} (hN : X.N.Nodup) (hi : X.N[i]? = some x) (hx : Loc X.env.scope x) (hf : X.fn x = true ∨ X.env.scope.names.lookup x = some .local := by first | exact .inl rfl | exact .inr rfl | assumption) : DG X cl (.Name x pos) [i] (gVar i) := by
  refine ⟨_, pg_name hN hi hx hf, fun c σ s T H d v Q s' I h k => ?_⟩
  unfold gVar at h
  by_cases hl : i < s.env.length
  · rw [if_pos hl] at h
    cases h
    exact k _ (fun vs hv => wipe_set (hv i (List.mem_cons_self ..))) (I.bind hl)
  · rw [if_neg hl] at h; cases h
theorem dgs_nil : DGs X cl [] 0 [] gNone := by
  refine ⟨fun ds s s' h => ?_, _, pgs_nil, fun c σ s T H ds vs Q s' ⟨F, α, I, r⟩ h k => ?_⟩
  · cases ds with
    | nil => rfl
    | cons _ _ => cases h
  cases r with
  | nil => cases h; exact ⟨rfl, k σ (fun _ _ => rfl) ⟨F, α, I⟩⟩
  | cons _ _ => cases h
theorem dgs_cons {e : Expr} {es : List Expr} {n : Nat} {is js : List Nat} {g : D → S → Option S} {h : List D → S → Option S} (h1 : DG X cl e is g) (h2 : DGs X cl es n js h) (hs : (assignEach (e :: es) X.env).map (·.2) = assign e X.env :: (assignEach es X.env).map (·.2) := by rfl) : DGs X cl (e :: es) (n + 1) (is ++ js) (gMore g h) := by
  obtain ⟨t, p, q⟩ := h1
  obtain ⟨hlen, t2, p2, q2⟩ := h2
  refine ⟨fun ds s s' hg => ?_, _, pgs_cons p p2 hs, fun c σ s T H ds vs Q s' ⟨F, α, I, r⟩ hg k => ?_⟩
  · cases ds with
    | nil => cases hg
    | cons d ds =>
      obtain ⟨s1, e1, e2⟩ := Option.bind_eq_some_iff.mp (show (g d s).bind (h ds) = some s' from hg)
      rw [List.length_cons, hlen _ _ _ e2]
  cases ds with
  | nil => cases hg
  | cons d ds =>
    cases vs with
    | nil => cases r
    | cons v vs =>
    cases r with
    | cons r1 r2 =>
    have hg' : (g d s).bind (h ds) = some s' := hg
    obtain ⟨s1, e1, e2⟩ := Option.bind_eq_some_iff.mp hg'
    refine ⟨v, vs, rfl, ?_⟩
    -- the rest's values are kept among the temps
    have I1 : SI X.K cl c H σ s ((d, v) :: zipT ds vs T) := by
      refine ⟨F, α, SIx.push ?_ r1⟩
      refine I.temps ?_
      have key : ∀ (ds : List D) (vs : List V), RepL X.K cl H F α ds vs → ∀ T : List (D × V), (∀ q ∈ T, Rep X.K cl H F α q.1 q.2) → ∀ q ∈ zipT ds vs T, Rep X.K cl H F α q.1 q.2 := by
        intro ds
        induction ds with
        | nil => intro vs r T h q hq; cases r; exact h q hq
        | cons d ds ih =>
          intro vs r T h q hq
          cases r with
          | cons r t => exact ih _ t _ (fun q hq => (List.mem_cons.mp hq).elim (fun e => by subst e; exact r) (h q)) q hq
      exact key ds vs r2 T I.tmp
    refine q c σ s _ H d v _ s1 I1 e1 fun σ1 hw I2 => ?_
    obtain ⟨F2, α2, J2⟩ := I2
    refine q2 c σ1 s1 T H ds vs Q s' ⟨F2, α2, J2.temps fun q hq => J2.tmp q (zipT_sub _ _ _ q hq), J2.args r2.length⟩ e2 fun σ2 hw2 I3 => ?_
    exact k σ2 (fun vs hv => (hw2 vs fun i hi => hv i (List.mem_append_right _ hi)).trans (hw vs fun i hi => hv i (List.mem_append_left _ hi))) I3
theorem dg_tup {es : List Expr} {k n : Nat} {pos : Pos} {is : List Nat} {g : List D → S → Option S} (hc : X.calm = true) (h : DGs X cl es n is g) (hn : (assignEach es X.env).length = n := by rfl) (hst : (assignEach es X.env).findIdx? (·.1) = none := by rfl) : DG X cl (.Tuple es k pos) is (gTupD g) := by
  obtain ⟨hlen, t, p, q⟩ := h
  refine ⟨_, pg_tup hc p hn hst, fun c σ s T H d v Q s' I hg kk => ?_⟩
  cases d with
  | tup ds =>
    obtain ⟨F, α, J⟩ := id I
    obtain ⟨a, vs, ev, h1, rl⟩ := J.vTup (J.tmp (.tup ds, v) (List.mem_cons_self ..)) rfl
    have ev : v = .ref a := ev
    have hg : g ds s = some s' := hg
    exact ⟨a, vs, ev, h1, by rw [← rl.length]; exact hlen _ _ _ hg, q c σ s T H ds vs Q s' ⟨F, α, J.temps fun q hq => J.tmp q (List.mem_cons_of_mem _ hq), rl⟩ hg kk⟩
  | kt ds =>
    obtain ⟨F, α, J⟩ := id I
    obtain ⟨a, vs, ev, h1, rl⟩ := J.vTp (J.tmp (.kt ds, v) (List.mem_cons_self ..)) (ds := ds) rfl
    have ev : v = .ref a := ev
    have hg : g ds s = some s' := hg
    exact ⟨a, vs, ev, h1, by rw [← rl.length]; exact hlen _ _ _ hg, q c σ s T H ds vs Q s' ⟨F, α, J.temps fun q hq => J.tmp q (List.mem_cons_of_mem _ hq), rl⟩ hg kk⟩
  | _ => cases hg

/-! ### for -/
/-- the walked cell is as it was -/
noncomputable def chkP (d : D) (M0 M1 : List (Option C)) : Bool := match d with
  | .ptr k => @decide (M1[k]? = M0[k]?) (Classical.propDecidable _)
  | _ => true
theorem chkP_view {d : D} {M0 M1 : List (Option C)} (h : chkP d M0 M1 = true) : view M1 d = view M0 d := by
  cases d with
  | ptr k =>
    have e : M1[k]? = M0[k]? := @of_decide_eq_true _ (Classical.propDecidable _) h
    unfold view
    dsimp only
    rw [e]
  | _ => rfl
noncomputable def forL (d : D) (M0 : List (Option C)) (g : D → S → Option S) (body els : M Fl) : List D → S → Out Fl
  | [], s => els s
  | x :: r, s => match g x s with
    | none => .fail
    | some s1 => match body s1 with
      | .fail => .fail
      | .exc n fs s2 => .exc n fs s2
      | .ok (.ret e) s2 => .ok (.ret e) s2
      | .ok .brk s2 => .ok .nx s2
      | .ok .nx s2 => if chkP d M0 s2.M = true then forL d M0 g body els r s2 else .fail
      | .ok .ct s2 => if chkP d M0 s2.M = true then forL d M0 g body els r s2 else .fail
noncomputable def sFor (f : M D) (its : D → Option (List D)) (g : D → S → Option S) (body els : M Fl) : M Fl := fun s => (f s).bind fun d s => match its (view s.M d) with
  | none => .fail
  | some ds => forL d s.M g body els ds s
theorem WantS.deeper {K : PySem.W.Frag} {c : Cz} {T T' : List (D × V)} {o : Out Fl} {E : Ends} (h : WantS K cl W c T o E) (hs : ∀ p ∈ T, p ∈ T') : WantS K cl W c T' o E := by
  cases o with
  | fail => exact h
  | exc n fs s => exact fun dx σ H e i => h dx σ H e (i.xt hs)
  | ok r s =>
    cases r with
    | nx => exact fun σ H i => h σ H (i.sub hs)
    | brk => exact fun σ H i => h σ H (i.sub hs)
    | ct => exact fun σ H i => h σ H (i.sub hs)
    | ret d => exact fun v σ H i => h v σ H (i.sub fun q hq => (List.mem_cons.mp hq).elim (fun e => e ▸ List.mem_cons_self ..) fun z => List.mem_cons_of_mem _ (hs q z))
/-- the loop's heart, for both rules -/
theorem for_core {tg : Expr} {is : List Nat} {g : D → S → Option S} {body els : M Fl} {its : D → Option (List D)} {t : TG} {tb te : TS} {K : PySem.W.Frag} {c : Cz} {T : List (D × V)} {E : Ends}
    (qg : ∀ c σ s T H d v Q s', SI K cl c H σ s ((d, v) :: T) → g d s = some s' → (∀ σ', (∀ vs : List Nat, (∀ i ∈ is, i ∈ vs) → wipe σ' vs = wipe σ vs) → SI K cl c H σ' s' T → Q σ' H) → t v σ H Q)
    (qb : ∀ c σ s T H E, SI K cl c H σ s T → WantS K cl W c T (body s) E → tb E σ H) (qe : ∀ c σ s T H E, SI K cl c H σ s T → WantS K cl W c T (els s) E → te E σ H)
    {d : D} {ds : List D} {s : S} {σ : L2.St} {H : Hp} {J : It} {P : List (D × V)} (I : SI K cl c H σ s (P ++ T)) (dr : Drv K cl J P its d) (e : its (view s.M d) = some ds) (w : WantS K cl W c T (forL d s.M g body els ds s) E) :
    ∃ Wm : Nat → Nat → L2.St → Hp → Prop, (∃ m, Wm 0 m σ H) ∧ ∀ i m σ H, Wm i m σ H →
      (J.stop i H ∧ te E σ H) ∨ (J.go i H ∧ ∃ N : L2.St → Hp → Prop, (∀ σ' H', N σ' H' → ∃ m', m' < m ∧ Wm (i + 1) m' σ' H') ∧ ∀ x H', J.yld i H x H' → t x σ H' fun σ2 H2 => tb { E with nx := N, ct := N, bk := E.nx } σ2 H2) := by
  obtain ⟨M0, hM0⟩ : ∃ M0, M0 = s.M := ⟨_, rfl⟩
  rw [← hM0] at w e
  have e0 : view s.M d = view M0 d := by rw [hM0]
  refine ⟨fun i m σ H => m = ds.length - i ∧ i ≤ ds.length ∧ ∃ s, SI K cl c H σ s (P ++ T) ∧ view s.M d = view M0 d ∧ WantS K cl W c T (forL d M0 g body els (ds.drop i) s) E, ⟨_, rfl, Nat.zero_le _, s, I, e0, w⟩, ?_⟩
  rintro i m σ H ⟨rfl, hi, s, I, ev, w⟩
  have e1 : its (view s.M d) = some ds := by rw [ev]; exact e
  have d1 := dr c H σ s T i ds I e1
  by_cases hlt : i < ds.length
  · obtain ⟨hgo, hy⟩ := d1.1 _ (List.getElem?_eq_getElem hlt)
    refine .inr ⟨hgo, fun σ' H' => i + 1 ≤ ds.length ∧ ∃ s, SI K cl c H' σ' s (P ++ T) ∧ view s.M d = view M0 d ∧ WantS K cl W c T (forL d M0 g body els (ds.drop (i + 1)) s) E, fun σ' H' h => ⟨ds.length - (i + 1), by omega, rfl, h.1, h.2⟩, fun x H' hx => ?_⟩
    have I1 := hy x H' hx
    rw [List.drop_eq_getElem_cons hlt] at w
    unfold forL at w
    cases hg : g ds[i] s with
    | none => rw [hg] at w; exact w.elim
    | some s1 =>
      rw [hg] at w
      dsimp only at w
      refine qg c σ s (P ++ T) H' _ x _ s1 I1 hg fun σ2 _ I2 => ?_
      refine qb c σ2 s1 (P ++ T) H' _ I2 ?_
      cases hb : body s1 with
      | fail => rw [hb] at w; exact w
      | exc n fs s2 => rw [hb] at w; exact w.deeper fun p hp => List.mem_append_right _ hp
      | ok r s2 =>
        rw [hb] at w
        cases r with
        | ret e => exact WantS.deeper (o := .ok (.ret e) s2) w fun p hp => List.mem_append_right _ hp
        | brk => exact fun σ3 H3 I3 => w σ3 H3 I3.app
        | nx =>
          dsimp only at w
          by_cases hc : chkP d M0 s2.M = true
          · rw [if_pos hc] at w
            exact fun σ3 H3 I3 => ⟨hlt, s2, I3, chkP_view hc, w⟩
          · rw [if_neg hc] at w; exact w.elim
        | ct =>
          dsimp only at w
          by_cases hc : chkP d M0 s2.M = true
          · rw [if_pos hc] at w
            exact fun σ3 H3 I3 => ⟨hlt, s2, I3, chkP_view hc, w⟩
          · rw [if_neg hc] at w; exact w.elim
  · have hi' : i = ds.length := by omega
    subst hi'
    rw [List.drop_length] at w
    exact .inl ⟨d1.2 (Nat.le_refl _), qe c σ s T H E I.app w⟩
theorem WantS.toI {K : PySem.W.Frag} {its : D → Option (List D)} {c : Cz} {σ : L2.St} {T : List (D × V)} {o : Out D} {k : D → S → Out Fl} {E : Ends} {R : It → Hp → Prop} (h : WantS K cl W c T (o.bind k) E)
    (hk : ∀ d s, o = .ok d s → WantS K cl W c T (k d s) E → ∀ H J P, SI K cl c H σ s (P ++ T) → Drv K cl J P its d → R J H) : WantI K cl W its c σ T o R := by
  cases o with
  | fail => exact h
  | ok d s => exact hk d s rfl h
  | exc n fs s => exact fun dx H e I => h dx σ H e I
theorem ds_for {tg iter : Expr} {body : List Stmt} {pos : Pos} {f : M D} {its : D → Option (List D)} {is : List Nat} {g : D → S → Option S} {fb : M Fl} {k : Nat} (hk : Cok X W k) (hi : DI X cl W tg iter f its) (hg : DG X cl tg is g) (hb : DSs X cl W body fb)
    (hs : ∀ x, foldedSetIterable iter X.env x = pure x := by intro _; rfl) : DS X cl W (.For tg iter body [] pos) (sFor f its g fb sNx) := by
  obtain ⟨wi, pi, qi⟩ := hi
  obtain ⟨t, pg, qg⟩ := hg
  obtain ⟨tb, pb, qb⟩ := hb
  refine ⟨_, ps_for hk.po hk.calm pi pg pb hs, fun c σ s T H E I w => ?_⟩
  refine qi c σ s T H _ I (WantS.toI w fun d s1 hf w1 H1 J P I1 dr => ?_) fun d s1 hf => ?_
  · cases e : its (view s1.M d) with
    | none => rw [e] at w1; exact w1.elim
    | some ds =>
      rw [e] at w1
      exact for_core (tg := tg) (te := fun E σ H => E.nx σ H) qg qb (fun c σ s T H E I w => (show WantS X.K cl W c T (.ok .nx s) E from w) σ H I) I1 dr e w1
  · have w' : WantS X.K cl W c T ((f s).bind fun d s => match its (view s.M d) with
      | none => .fail
      | some ds => forL d s.M g fb sNx ds s) E := w
    rw [hf] at w'
    cases e : its (view s1.M d) with
    | none =>
      have w' : WantS X.K cl W c T (match its (view s1.M d) with
        | none => .fail
        | some ds => forL d s1.M g fb sNx ds s1) E := w'
      rw [e] at w'; exact w'.elim
    | some ds => rfl
theorem ds_forE {tg iter : Expr} {body orelse : List Stmt} {pos : Pos} {f : M D} {its : D → Option (List D)} {is : List Nat} {g : D → S → Option S} {fb fe : M Fl} {k : Nat} (hk : Cok X W k) (hi : DI X cl W tg iter f its) (hg : DG X cl tg is g) (hb : DSs X cl W body fb) (he : DSs X cl W orelse fe)
    (hs : ∀ x, foldedSetIterable iter X.env x = pure x := by intro _; rfl) : DS X cl W (.For tg iter body orelse pos) (sFor f its g fb fe) := by
  obtain ⟨wi, pi, qi⟩ := hi
  obtain ⟨t, pg, qg⟩ := hg
  obtain ⟨tb, pb, qb⟩ := hb
  obtain ⟨te, pe, qe⟩ := he
  refine ⟨_, ps_forE hk.po hk.calm pi pg pb pe hs, fun c σ s T H E I w => ?_⟩
  refine qi c σ s T H _ I (WantS.toI w fun d s1 hf w1 H1 J P I1 dr => ?_) fun d s1 hf => ?_
  · cases e : its (view s1.M d) with
    | none => rw [e] at w1; exact w1.elim
    | some ds =>
      rw [e] at w1
      exact for_core (tg := tg) qg qb qe I1 dr e w1
  · have w' : WantS X.K cl W c T ((f s).bind fun d s => match its (view s.M d) with
      | none => .fail
      | some ds => forL d s.M g fb fe ds s) E := w
    rw [hf] at w'
    cases e : its (view s1.M d) with
    | none =>
      have w' : WantS X.K cl W c T (match its (view s1.M d) with
        | none => .fail
        | some ds => forL d s1.M g fb fe ds s1) E := w'
      rw [e] at w'; exact w'.elim
    | some ds => rfl
/-! ### while -/
def whileL (t : M Bool) (body : M Fl) : Nat → S → Out Fl
  | 0, _ => .fail
  | n + 1, s => (t s).bind fun b s => if b = true then (match body s with
    | .fail => .fail
    | .exc n fs s2 => .exc n fs s2
    | .ok (.ret e) s2 => .ok (.ret e) s2
    | .ok .brk s2 => .ok .nx s2
    | .ok .nx s2 => whileL t body n s2
    | .ok .ct s2 => whileL t body n s2) else .ok .nx s
theorem ds_while {t : Expr} {body : List Stmt} {pos : Pos} {ft : M Bool} {fb : M Fl} {k : Nat} (n : Nat) (hk : Cok X W k) (ht : DT X cl W t ft) (hb : DSs X cl W body fb) : DS X cl W (.While t body [] pos) (whileL ft fb n) := by
  obtain ⟨tt, pt, qt⟩ := ht
  obtain ⟨tb, pb, qb⟩ := hb
  refine ⟨_, ps_while hk.po pt pb, fun c σ s T H E I w => ?_⟩
  refine ⟨fun m σ H => ∃ s, SI X.K cl c H σ s T ∧ WantS X.K cl W c T (whileL ft fb m s) E, ⟨n, s, I, w⟩, ?_⟩
  rintro m σ H ⟨s, I, w⟩
  cases m with
  | zero => exact w.elim
  | succ m =>
    unfold whileL at w
    refine qt c σ s T H _ I (w.bindB fun b s1 _ w1 H1 I1 => ?_)
    cases b with
    | false => exact iteF (w1 σ H1 I1)
    | true =>
      refine iteT ⟨fun σ' H' => ∃ s, SI X.K cl c H' σ' s T ∧ WantS X.K cl W c T (whileL ft fb m s) E, fun σ' H' h => ⟨m, Nat.lt_succ_self _, h⟩, ?_⟩
      refine qb c σ s1 T H1 _ I1 ?_
      rw [if_pos rfl] at w1
      cases hb : fb s1 with
      | fail => rw [hb] at w1; exact w1
      | exc n fs s2 => rw [hb] at w1; exact w1
      | ok r s2 =>
        rw [hb] at w1
        cases r with
        | ret e => exact w1
        | brk => exact fun σ3 H3 I3 => w1 σ3 H3 I3
        | nx => exact fun σ3 H3 I3 => ⟨s2, I3, w1⟩
        | ct => exact fun σ3 H3 I3 => ⟨s2, I3, w1⟩
end
end DL

/-! DlK: list comprehensions. -/
namespace DL
open PySem L2
open PySem.Spec PyProof.Rows

/-! ### the reading that a meaning has -/
def uE (K : PySem.W.Frag) (cl : Str → Addr) (W : WX) (f : M D) : TE := fun σ H Q => ∃ c s T, SI K cl c H σ s T ∧ Want K cl W c σ T (f s) Q
def uT (K : PySem.W.Frag) (cl : Str → Addr) (W : WX) (f : M Bool) : TT := fun σ H Q => ∃ c s T, SI K cl c H σ s T ∧ WantB K cl W c σ T (f s) Q
def uG (K : PySem.W.Frag) (cl : Str → Addr) (is : List Nat) (g : D → S → Option S) : TG := fun v σ H Q => ∃ c s T d s', SI K cl c H σ s ((d, v) :: T) ∧ g d s = some s' ∧ ∀ σ', (∀ vs : List Nat, (∀ i ∈ is, i ∈ vs) → wipe σ' vs = wipe σ vs) → SI K cl c H σ' s' T → Q σ' H
section
variable {X : Cx} {cl : Str → Addr} {W : WX}
theorem DE.pe {e : Expr} {f : M D} (h : DE X cl W e f) : PE X e (uE X.K cl W f) := by
  obtain ⟨te, p, q⟩ := h
  exact ⟨fun pins s σ H Q I ⟨c, s0, T, J, w⟩ => p.run pins s σ H Q I (q c σ s0 T H Q J w)⟩
theorem DT.pt {e : Expr} {f : M Bool} (h : DT X cl W e f) : PT X e (uT X.K cl W f) := by
  obtain ⟨te, p, q⟩ := h
  exact ⟨fun pins s σ H Q I ⟨c, s0, T, J, w⟩ => p.run pins s σ H Q I (q c σ s0 T H Q J w)⟩
theorem DG.pg {e : Expr} {is : List Nat} {g : D → S → Option S} (h : DG X cl e is g) : PG X e (uG X.K cl is g) := by
  obtain ⟨t, p, q⟩ := h
  exact ⟨fun pins s σ H v u Q I r ⟨c, s0, T, d, s', J, hg, k⟩ => p.run pins s σ H v u Q I r (q c σ s0 T H d v Q s' J hg k)⟩
structure DTs (X : Cx) (cl : Str → Addr) (W : WX) (ifs : List Expr) (f : M Bool) : Prop where
  pts : PTs X ifs (uT X.K cl W f)
def tYesM : M Bool := fun s => .ok true s
theorem dts_nil : DTs X cl W [] tYesM := ⟨⟨fun pins s σ H Q I ⟨c, s0, T, J, w⟩ => pts_nil.run pins s σ H Q I ((show WantB X.K cl W c σ T (.ok true s0) Q from w) H J)⟩⟩
theorem dts_one {e : Expr} {f : M Bool} (h : DT X cl W e f) : DTs X cl W [e] f := ⟨pts_one h.pt⟩
end

section
variable {K : PySem.W.Frag} {cl : Str → Addr} {c : Cz} {H H' : Hp} {σ σ' : L2.St} {s s' : S} {T T' : List (D × V)} {F F' : Addr → Prop} {α α' : List Addr}
/-- an address beside the state: tracked, no cell, not frozen -/
structure Side (c : Cz) (H : Hp) (F : Addr → Prop) (α : List Addr) (a : Addr) (vs : List V) : Prop where
  at_ : H a = some (.lst vs)
  nα : a ∉ α
  nF : ¬ F a
  old : a ∈ c.β ∨ c.H0 a = none
theorem SIx.c0 (I : SIx K cl c H σ s T F α) {b : Addr} (hb : H b = none) : b ∈ c.β ∨ c.H0 b = none := by
  cases q : c.H0 b with
  | none => exact .inr rfl
  | some u =>
    by_cases hm : b ∈ c.β
    · exact .inl hm
    · have := I.keep b u q hm
      rw [hb] at this; cases this
/-- the heap changes at an address that the state does not know -/
theorem SIx.beside {a : Addr} {o : HO} (I : SIx K cl c H σ s T F α) (nα : a ∉ α) (nF : ¬ F a) (old : a ∈ c.β ∨ c.H0 a = none) (hn : H a = none ∨ ∃ vs, H a = some (.lst vs)) : SIx K cl c (upd H a o) σ s T F α := by
  have nt : ∀ u, H a = some u → (∀ xs, u ≠ .tup xs) ∧ ∀ o v, u ≠ .frz o v := fun u q => by
    rcases hn with e | ⟨vs, e⟩
    · rw [e] at q; cases q
    · rw [e] at q; cases q; exact ⟨fun _ z => (by cases z), fun _ _ z => (by cases z)⟩
  have E : Ext H F α (upd H a o) F α := ⟨fun b hb => upd_ne fun e => nF (e ▸ hb), fun _ h => h, fun b xs q => by
      rw [upd_ne]; exact q
      intro e; subst e; exact (nt _ q).1 _ rfl, fun b u xs q => by
      rw [upd_ne]; exact q
      intro e; subst e; exact (nt _ q).2 _ _ rfl, fun _ _ e => e⟩
  refine ⟨fun i d e => ?_, I.el, fun q hq => (I.tmp q hq).ext E, I.len, fun k x b e1 e2 => ?_, I.nd, fun b hb => ?_, I.inα, fun b hb => ?_, I.inF, I.pre, fun b u e1 e2 => ?_, fun b xs e => E.tups b xs (I.tups b xs e), fun b u xs e => E.frzs b u xs (I.frzs b u xs e)⟩
  · obtain ⟨v, h1, h2⟩ := I.env i d e
    exact ⟨v, h1, h2.ext E⟩
  · obtain ⟨h1, h2⟩ := I.cel k x b e1 e2
    exact ⟨E.repC h1 (upd_ne fun e => nα (e ▸ List.mem_of_getElem? e2)), h2⟩
  · obtain ⟨u, e⟩ := I.dom b hb
    exact ⟨u, (upd_ne fun q : b = a => nα (q ▸ hb)).trans e⟩
  · obtain ⟨u, e⟩ := I.domF b hb
    exact ⟨u, (upd_ne fun q : b = a => nF (q ▸ hb)).trans e⟩
  · rw [upd_ne]
    · exact I.keep b u e1 e2
    · intro e; subst e
      rcases old with z | z
      · exact e2 z
      · rw [z] at e1; cases e1
/-- behind a run within -/
theorem Side.after {a : Addr} {vs : List V} (S : Side c H F α a vs) (J : SIx K cl ⟨H, α, F⟩ H' σ' s' T' F' α') : Side c H' F' α' a vs :=
  ⟨J.keep a _ S.at_ S.nα, fun h => (J.inα a h).elim S.nα fun z : H a = none => (by rw [S.at_] at z; cases z), fun h => (J.inF a h).elim S.nα fun z => z.elim S.nF fun z : H a = none => (by rw [S.at_] at z; cases z), S.old⟩
/-- it becomes a frozen list | a cell -/
theorem SIx.adoptF {a : Addr} {vs : List V} {ds : List D} (I : SIx K cl c H σ s T F α) (S : Side c H F α a vs) (r : RepL K cl H F α ds vs) : SI K cl c H σ s ((.lst ds, .ref a) :: T) := by
  have E : Ext H F α H (fun b => F b ∨ b = a) α := ⟨fun _ _ => rfl, fun _ h => .inl h, fun _ _ h => h, fun _ _ _ h => h, fun _ _ h => h⟩
  refine ⟨fun b => F b ∨ b = a, α, SIx.push ⟨fun i d e => ?_, I.el, fun q hq => (I.tmp q hq).ext E, I.len, fun k x b e1 e2 => ?_, I.nd, I.dom, I.inα, fun b hb => ?_, fun b hb => ?_, I.pre, I.keep, I.tups, I.frzs⟩ (.lst S.at_ (.inr rfl) (r.ext E))⟩
  · obtain ⟨v, h1, h2⟩ := I.env i d e
    exact ⟨v, h1, h2.ext E⟩
  · obtain ⟨h1, h2⟩ := I.cel k x b e1 e2
    exact ⟨E.repC h1 rfl, fun z => z.elim h2 fun e => S.nα (e ▸ List.mem_of_getElem? e2)⟩
  · rcases hb with hb | rfl
    · exact I.domF b hb
    · exact ⟨_, S.at_⟩
  · rcases hb with hb | rfl
    · exact I.inF b hb
    · rcases S.old with z | z
      · exact .inl z
      · exact .inr (.inr z)
theorem SIx.adoptC {a : Addr} {vs : List V} {ds : List D} (I : SIx K cl c H σ s T F α) (S : Side c H F α a vs) (r : RepL K cl H F α ds vs) : SI K cl c H σ { s with M := s.M ++ [some (.lst ds)] } ((.ptr s.M.length, .ref a) :: T) := by
  have al : ∀ (k : Nat) (b : Addr), α[k]? = some b → (α ++ [a])[k]? = some b := fun k b q => by
    rw [List.getElem?_append_left (List.getElem?_eq_some_iff.mp q).1]; exact q
  have E : Ext H F α H F (α ++ [a]) := ⟨fun _ _ => rfl, fun _ h => h, fun _ _ h => h, fun _ _ _ h => h, al⟩
  refine ⟨F, α ++ [a], fun i d e => ?_, I.el, fun q hq => ?_, ?_, fun k x b e1 e2 => ?_, ?_, fun b hb => ?_, fun b hb => ?_, I.domF, I.inF, fun k b e => al k b (I.pre k b e), I.keep, I.tups, I.frzs⟩
  · obtain ⟨v, h1, h2⟩ := I.env i d e
    exact ⟨v, h1, h2.ext E⟩
  · rcases List.mem_cons.mp hq with z | hq
    · subst z
      refine .ptr ?_
      rw [← I.len]
      exact List.getElem?_concat_length
    · exact (I.tmp q hq).ext E
  · show (α ++ [a]).length = (s.M ++ [some (C.lst ds)]).length
    rw [List.length_append, List.length_append, I.len]; rfl
  · have e1 : (s.M ++ [some (C.lst ds)])[k]? = some (some x) := e1
    by_cases hk : k < s.M.length
    · rw [List.getElem?_append_left hk] at e1
      rw [List.getElem?_append_left (by rw [I.len]; exact hk)] at e2
      obtain ⟨h1, h2⟩ := I.cel k x b e1 e2
      exact ⟨E.repC h1 rfl, h2⟩
    · have hk' : k = s.M.length := by
        have := (List.getElem?_eq_some_iff.mp e1).1
        rw [List.length_append] at this
        simp at this; omega
      subst hk'
      rw [List.getElem?_concat_length] at e1
      cases e1
      rw [← I.len, List.getElem?_concat_length] at e2
      cases e2
      exact ⟨⟨vs, S.at_, r.ext E⟩, S.nF⟩
  · rw [List.nodup_append]
    exact ⟨I.nd, by simp, fun x hx y hy e => S.nα (by rw [← List.mem_singleton.mp hy, ← e]; exact hx)⟩
  · rcases List.mem_append.mp hb with hb | hb
    · exact I.dom b hb
    · rw [List.mem_singleton.mp hb]; exact ⟨_, S.at_⟩
  · rcases List.mem_append.mp hb with hb | hb
    · exact I.inα b hb
    · rw [List.mem_singleton.mp hb]; exact S.old
end

/-! ### the comprehension -/
def wipeE (env : List (Option D)) : List Nat → List (Option D)
  | [] => env
  | v :: vs => (wipeE env vs).set v none
theorem wipeE_len (env : List (Option D)) : ∀ vs : List Nat, (wipeE env vs).length = env.length
  | [] => rfl
  | v :: vs => by show ((wipeE env vs).set v none).length = _; rw [List.length_set, wipeE_len env vs]
theorem wipeE_some {env : List (Option D)} {i : Nat} {d : D} : ∀ {vs : List Nat}, (wipeE env vs)[i]? = some (some d) → env[i]? = some (some d) ∧ i ∉ vs
  | [], h => ⟨h, by simp⟩
  | v :: vs, h => by
    have h : ((wipeE env vs).set v none)[i]? = some (some d) := h
    by_cases hi : v = i
    · subst hi
      by_cases hl : v < (wipeE env vs).length
      · rw [List.getElem?_set_self hl] at h; cases h
      · rw [List.getElem?_eq_none (by rw [List.length_set]; omega)] at h; cases h
    · rw [List.getElem?_set_ne hi] at h
      obtain ⟨h1, h2⟩ := wipeE_some h
      exact ⟨h1, by simp only [List.mem_cons, not_or]; exact ⟨fun e => hi e.symm, h2⟩⟩
theorem wipe_at {σ : L2.St} {i : Nat} : ∀ {vs : List Nat}, i ∉ vs → (wipe σ vs)[i]? = σ[i]?
  | [], _ => rfl
  | v :: vs, h => by
    show ((wipe σ vs).set v none)[i]? = σ[i]?
    rw [List.getElem?_set_ne (fun e : v = i => h (e ▸ List.mem_cons_self ..)), wipe_at fun q => h (List.mem_cons_of_mem _ q)]
theorem wipe_wipe (σ : L2.St) (vs : List Nat) : wipe (wipe σ vs) vs = wipe σ vs := by
  refine List.ext_getElem? fun i => ?_
  by_cases hi : i ∈ vs
  · have key : ∀ (ws : List Nat) (τ : L2.St), i ∈ ws → (wipe τ ws)[i]? = if i < τ.length then some none else none := by
      intro ws
      induction ws with
      | nil => intro τ h; simp at h
      | cons w ws ih =>
        intro τ h
        show ((wipe τ ws).set w none)[i]? = _
        by_cases hw : w = i
        · subst hw
          by_cases hl : w < τ.length
          · rw [List.getElem?_set_self (by rw [wipe_length]; exact hl), if_pos hl]
          · rw [List.getElem?_eq_none (by rw [List.length_set, wipe_length]; omega), if_neg hl]
        · rw [List.getElem?_set_ne hw]
          exact ih τ ((List.mem_cons.mp h).resolve_left fun e => hw e.symm)
    rw [key vs _ hi, key vs _ hi, wipe_length]
  · rw [wipe_at hi]
noncomputable def lcL (d : D) (M0 : List (Option C)) (env0 : List (Option D)) (g : D → S → Option S) (tt : M Bool) (fe : M D) : List D → List D → List (Option C) → Out (List D)
  | [], acc, M => .ok acc ⟨env0, M⟩
  | x :: r, acc, M => match g x ⟨env0, M⟩ with
    | none => .fail
    | some s1 => match tt s1 with
      | .ok true s2 => (match fe s2 with
        | .ok e s3 => if chkP d M0 s3.M = true ∧ acc.length < 1000000 then lcL d M0 env0 g tt fe r (acc ++ [e]) s3.M else .fail
        | _ => .fail)
      | .ok false s2 => if chkP d M0 s2.M = true then lcL d M0 env0 g tt fe r acc s2.M else .fail
      | _ => .fail
noncomputable def eLc (f : M D) (its : D → Option (List D)) (g : D → S → Option S) (tt : M Bool) (fe : M D) (vs : List Nat) : M D := fun s => (f s).bind fun d s1 => match its (view s1.M d) with
  | none => .fail
  | some ds => (lcL d s1.M (wipeE s1.env vs) g tt fe ds [] s1.M).bind fun acc s2 => .ok (.lst acc) { s1 with M := s2.M }
/-- .. to a new cell -/
noncomputable def eLcC (f : M D) (its : D → Option (List D)) (g : D → S → Option S) (tt : M Bool) (fe : M D) (vs : List Nat) : M D := fun s => (f s).bind fun d s1 => match its (view s1.M d) with
  | none => .fail
  | some ds => (lcL d s1.M (wipeE s1.env vs) g tt fe ds [] s1.M).bind fun acc s2 => .ok (.ptr s2.M.length) { s1 with M := s2.M ++ [some (.lst acc)] }
theorem zipT_snoc : ∀ {ds : List D} {vs : List V} {T : List (D × V)} {e : D} {y : V} {q : D × V}, ds.length = vs.length → q ∈ zipT (ds ++ [e]) (vs ++ [y]) T → q = (e, y) ∨ q ∈ zipT ds vs T
  | [], [], T, e, y, q, _, h => by
    rcases List.mem_cons.mp (show q ∈ (e, y) :: T from h) with h | h
    · exact .inl h
    · exact .inr h
  | d :: ds, v :: vs, T, e, y, q, hl, h => zipT_snoc (ds := ds) (vs := vs) (T := (d, v) :: T) (by simpa using hl) h
  | [], _ :: _, _, _, _, _, hl, _ => by simp at hl
  | _ :: _, [], _, _, _, _, hl, _ => by simp at hl
/-- the comprehension's heart: R is what is wanted of the new list's address and the heap, from the list of data made and the cells -/
theorem lc_heart {K : PySem.W.Frag} {cl : Str → Addr} {c : Cz} {σ : L2.St} {T : List (D × V)} {is vs : List Nat} {g : D → S → Option S} {tt : M Bool} {fe : M D} {its : D → Option (List D)} {R : V → Hp → Prop} (his : ∀ i ∈ is, i ∈ vs)
    {d : D} {ds : List D} {s : S} {H : Hp} {J : It} {P : List (D × V)} {Dn : Addr} (I : SI K cl c H σ s (P ++ T)) (dr : Drv K cl J P its d) (e : its (view s.M d) = some ds) (hD : H Dn = none)
    (hne : lcL d s.M (wipeE s.env vs) g tt fe ds [] s.M ≠ .fail)
    (w : ∀ acc s2, lcL d s.M (wipeE s.env vs) g tt fe ds [] s.M = .ok acc s2 → ∀ (H' : Hp) (F : Addr → Prop) (α : List Addr) (vl : List V), SIx K cl c H' σ { s with M := s2.M } T F α → Side c H' F α Dn vl → RepL K cl H' F α acc vl → R (.ref Dn) H') :
    ∃ Wm : Nat → Nat → Hp → Prop, (∃ m, Wm 0 m (upd H Dn (.lst []))) ∧ ∀ i m H, Wm i m H →
      (J.stop i H ∧ R (.ref Dn) H) ∨ (J.go i H ∧ ∃ Nx : Hp → Prop, (∀ H', Nx H' → ∃ m', m' < m ∧ Wm (i + 1) m' H') ∧ ∀ x H', J.yld i H x H' → uG K cl is g x (wipe σ vs) H' fun σ2 H2 => wipe σ2 vs = wipe σ vs ∧ uT K cl (fun _ _ _ _ => False) tt σ2 H2 fun b H3 =>
        if b = true then uE K cl (fun _ _ _ _ => False) fe σ2 H3 fun y H4 => ∃ acc, H4 Dn = some (.lst acc) ∧ acc.length < sizeLine ∧ Nx (upd H4 Dn (.lst (acc ++ [y]))) else Nx H3) := by
  obtain ⟨M0, hM0⟩ : ∃ M0, M0 = s.M := ⟨_, rfl⟩
  obtain ⟨res, hres⟩ : ∃ res, res = lcL d s.M (wipeE s.env vs) g tt fe ds [] s.M := ⟨_, rfl⟩
  rw [← hres] at hne w
  rw [← hM0] at hres e
  have e0 : view s.M d = view M0 d := by rw [hM0]
  -- the frame's names among the temps
  obtain ⟨L, hL⟩ : ∃ L, L = pairs s.env σ := ⟨_, rfl⟩
  obtain ⟨F0, α0, I0⟩ := I
  have hel := I0.el
  have lookL : ∀ (i : Nat) (d : D), s.env[i]? = some (some d) → ∃ v, σ[i]? = some (some v) ∧ (d, v) ∈ L := fun i d h => by
    obtain ⟨v, h1, _⟩ := I0.env i d h
    exact ⟨v, h1, by rw [hL]; exact pairs_mem h h1⟩
  have lookW : ∀ (i : Nat) (d : D), (wipeE s.env vs)[i]? = some (some d) → ∃ v, (wipe σ vs)[i]? = some (some v) ∧ (d, v) ∈ L := fun i d h => by
    obtain ⟨h1, h2⟩ := wipeE_some h
    obtain ⟨v, h3, h4⟩ := lookL i d h1
    exact ⟨v, by rw [wipe_at h2]; exact h3, h4⟩
  have lenW : (wipeE s.env vs).length = (wipe σ vs).length := by rw [wipeE_len, wipe_length]; exact hel
  let Inv' : Nat → Hp → Prop := fun i H => ∃ (M : List (Option C)) (aD : List D) (aV : List V) (F : Addr → Prop) (α : List Addr), SIx K cl c H (wipe σ vs) ⟨wipeE s.env vs, M⟩ (P ++ zipT aD aV (L ++ T)) F α ∧ aD.length = aV.length ∧ Side c H F α Dn aV ∧
    view M d = view M0 d ∧ lcL d M0 (wipeE s.env vs) g tt fe (ds.drop i) aD M = res
  have hstart : Inv' 0 (upd H Dn (.lst [])) := by
    have old := I0.c0 hD
    have nα : Dn ∉ α0 := fun h => by
      obtain ⟨o, q⟩ := I0.dom Dn h
      rw [hD] at q; cases q
    have nF : ¬ F0 Dn := fun h => by
      obtain ⟨o, q⟩ := I0.domF Dn h
      rw [hD] at q; cases q
    have I1 : SIx K cl c (upd H Dn (.lst [])) σ s (pairs s.env σ ++ (P ++ T)) F0 α0 := (I0.save).beside nα nF old (.inl hD)
    have I2 : SIx K cl c (upd H Dn (.lst [])) σ s (P ++ (L ++ T)) F0 α0 := I1.temps fun q hq => I1.tmp q (by
      rw [← hL]
      rcases List.mem_append.mp hq with h | h
      · exact List.mem_append_right _ (List.mem_append_left _ h)
      · rcases List.mem_append.mp h with h | h
        · exact List.mem_append_left _ h
        · exact List.mem_append_right _ (List.mem_append_right _ h))
    have I3 := I2.load lenW fun i d h => by
      obtain ⟨v, h1, h2⟩ := lookW i d h
      exact ⟨v, h1, List.mem_append_right _ (List.mem_append_left _ h2)⟩
    exact ⟨s.M, [], [], F0, α0, I3, rfl, ⟨upd_same, nα, nF, old⟩, e0, by rw [hres, ← hM0]; rfl⟩
  refine ⟨fun i m H => m = ds.length - i ∧ i ≤ ds.length ∧ Inv' i H, ⟨_, rfl, Nat.zero_le _, hstart⟩, ?_⟩
  rintro i m H ⟨rfl, hi, M, aD, aV, F, α, I, hal, SD, ev, hw⟩
  have e1 : its (view M d) = some ds := by rw [ev]; exact e
  by_cases hlt : i < ds.length
  · -- a turn: within the run that begins here
    have In := I.nest
    have d1 := dr ⟨H, α, F⟩ H (wipe σ vs) ⟨wipeE s.env vs, M⟩ (zipT aD aV (L ++ T)) i ds ⟨F, α, In⟩ e1
    obtain ⟨hgo, hy⟩ := d1.1 _ (List.getElem?_eq_getElem hlt)
    refine .inr ⟨hgo, fun H' => i + 1 ≤ ds.length ∧ Inv' (i + 1) H', fun H' h => ⟨ds.length - (i + 1), by omega, rfl, h.1, h.2⟩, fun x H' hx => ?_⟩
    have I1 := hy x H' hx
    rw [List.drop_eq_getElem_cons hlt] at hw
    unfold lcL at hw
    cases hg : g ds[i] ⟨wipeE s.env vs, M⟩ with
    | none => rw [hg] at hw; exact absurd hw.symm hne
    | some s1 =>
      rw [hg] at hw
      dsimp only at hw
      refine ⟨⟨H, α, F⟩, ⟨wipeE s.env vs, M⟩, _, ds[i], s1, I1, hg, fun σ2 hσ2 I2 => ⟨(hσ2 vs his).trans (wipe_wipe σ vs), ?_⟩⟩
      refine ⟨⟨H, α, F⟩, s1, _, I2, ?_⟩
      cases ht : tt s1 with
      | fail => rw [ht] at hw; exact absurd hw.symm hne
      | exc n fs s2 => rw [ht] at hw; exact absurd hw.symm hne
      | ok b s2 =>
        rw [ht] at hw
        intro H3 I3
        cases b with
        | false =>
          dsimp only at hw
          by_cases hc : chkP d M0 s2.M = true
          · rw [if_pos hc] at hw
            refine iteF ⟨hlt, ?_⟩
            obtain ⟨F', α', J3⟩ := I3
            have J4 := (I.unnest J3).load lenW fun i d h => by
              obtain ⟨v, h1, h2⟩ := lookW i d h
              exact ⟨v, h1, List.mem_append_right _ (zipT_sub _ _ _ _ (List.mem_append_left _ h2))⟩
            exact ⟨s2.M, aD, aV, F', α', J4, hal, SD.after J3, chkP_view hc, hw⟩
          · rw [if_neg hc] at hw; exact absurd hw.symm hne
        | true =>
          dsimp only at hw
          refine iteT ⟨⟨H, α, F⟩, s2, _, I3, ?_⟩
          cases hf : fe s2 with
          | fail => rw [hf] at hw; exact absurd hw.symm hne
          | exc n fs s3 => rw [hf] at hw; exact absurd hw.symm hne
          | ok y s3 =>
            rw [hf] at hw
            dsimp only at hw
            by_cases hc : chkP d M0 s3.M = true ∧ aD.length < 1000000
            · rw [if_pos hc] at hw
              intro v H4 I4
              obtain ⟨F', α', J4⟩ := I4
              have SD' := SD.after J4
              refine ⟨aV, SD'.at_, by rw [← hal]; exact Nat.lt_of_lt_of_le hc.2 (line1m (Nat.le_refl _)), hlt, ?_⟩
              have K4 := (I.unnest J4).beside (o := .lst (aV ++ [v])) SD'.nα SD'.nF SD'.old (.inr ⟨_, SD'.at_⟩)
              have K5 := K4.load lenW fun i d h => by
                obtain ⟨u, h1, h2⟩ := lookW i d h
                exact ⟨u, h1, List.mem_cons_of_mem _ (List.mem_append_right _ (zipT_sub _ _ _ _ (List.mem_append_left _ h2)))⟩
              refine ⟨s3.M, aD ++ [y], aV ++ [v], F', α', K5.temps fun q hq => K5.tmp q ?_, by rw [List.length_append, List.length_append, hal]; rfl, ⟨upd_same, SD'.nα, SD'.nF, SD'.old⟩, chkP_view hc.1, hw⟩
              rcases List.mem_append.mp hq with h | h
              · exact List.mem_cons_of_mem _ (List.mem_append_left _ h)
              · rcases zipT_snoc hal h with h | h
                · exact h ▸ List.mem_cons_self ..
                · exact List.mem_cons_of_mem _ (List.mem_append_right _ h)
            · rw [if_neg hc] at hw; exact absurd hw.symm hne
  · have hi' : i = ds.length := by omega
    subst hi'
    have d1 := dr c H (wipe σ vs) ⟨wipeE s.env vs, M⟩ (zipT aD aV (L ++ T)) ds.length ds ⟨F, α, I⟩ e1
    refine .inl ⟨d1.2 (Nat.le_refl _), ?_⟩
    rw [List.drop_length] at hw
    have I5 := I.load (σ0 := σ) (env := s.env) hel fun i d h => by
      obtain ⟨v, h1, h2⟩ := lookL i d h
      exact ⟨v, h1, List.mem_append_right _ (zipT_sub _ _ _ _ (List.mem_append_left _ h2))⟩
    have rl : RepL K cl H F α aD aV := SIx.repL (s := s) hal fun j d v h1 h2 => I.tmp (d, v) (List.mem_append_right _ (zipT_mem h1 h2))
    exact w aD ⟨wipeE s.env vs, M⟩ hw.symm H F α aV (I5.temps fun q hq => I5.tmp q (List.mem_append_right _ (zipT_sub _ _ _ _ (List.mem_append_right _ hq)))) SD rl
section
variable {X : Cx} {cl : Str → Addr} {W : WX}
theorem Want.toI {K : PySem.W.Frag} {its : D → Option (List D)} {c : Cz} {σ : L2.St} {T : List (D × V)} {o : Out D} {k : D → S → Out D} {Q : VK} {R : It → Hp → Prop} (h : Want K cl W c σ T (o.bind k) Q)
    (hk : ∀ d s, o = .ok d s → Want K cl W c σ T (k d s) Q → ∀ H J P, SI K cl c H σ s (P ++ T) → Drv K cl J P its d → R J H) : WantI K cl W its c σ T o R := by
  cases o with
  | fail => exact h
  | ok d s => exact hk d s rfl h
  | exc n fs s => exact h
theorem lcL_noexc : ∀ {d : D} {M0 : List (Option C)} {env0 : List (Option D)} {g : D → S → Option S} {tt : M Bool} {fe : M D} {ds acc : List D} {M : List (Option C)} {n : Str} {fs : List (Str × D)} {s : S}, lcL d M0 env0 g tt fe ds acc M ≠ .exc n fs s := by
  intro d M0 env0 g tt fe ds
  induction ds with
  | nil => intro acc M n fs s h; cases h
  | cons x r ih =>
    intro acc M n fs s h
    unfold lcL at h
    split at h
    · cases h
    · split at h
      · split at h
        · split at h
          · exact ih h
          · cases h
        · cases h
      · split at h
        · exact ih h
        · cases h
      · cases h
/-- a comprehension's parts, in the block's own context -/
structure Blk (X : Cx) (cl : Str → Addr) (scope : Scope) (tg : Expr) (ifs : List Expr) (elt : Expr) (is : List Nat) (g : D → S → Option S) (tt : M Bool) (fe : M D) : Prop where
  g_ : ∀ (s : Shared) (H : Hp) (C : Addr) (cc : List (Str × Addr)) (fp : List Addr), DG (X.blk s H scope (compEnvC scope cc C X.env) fp) cl tg is g
  t_ : ∀ (s : Shared) (H : Hp) (C : Addr) (cc : List (Str × Addr)) (fp : List Addr), DTs (X.blk s H scope (compEnvC scope cc C X.env) fp) cl (fun _ _ _ _ => False) ifs tt
  e_ : ∀ (s : Shared) (H : Hp) (C : Addr) (cc : List (Str × Addr)) (fp : List Addr), DE (X.blk s H scope (compEnvC scope cc C X.env) fp) cl (fun _ _ _ _ => False) elt fe
theorem de_lc {elt tg iter : Expr} {ifs : List Expr} {scope : Scope} {own : List (Str × Nat)} {pos : Pos} {f : M D} {its : D → Option (List D)} {is : List Nat} {g : D → S → Option S} {tt : M Bool} {fe : M D} {k : Nat} (hk : Cok X W k) (hi : DI X cl W tg iter f its) (ok : BlkOk X.N X.env.scope scope own)
    (hb : Blk X cl scope tg ifs elt is g tt fe) (his : ∀ i ∈ is, i ∈ own.map (·.2) := by decide) (hs : ∀ x, foldedSetIterable iter X.env x = pure x := by intro _; rfl) :
    DE X cl W (.ListComp elt [⟨tg, iter, ifs, 0⟩] scope pos) (eLc f its g tt fe (own.map (·.2))) := by
  obtain ⟨wi, pi, qi⟩ := hi
  refine ⟨_, pe_lc (g := uG X.K cl is g) (tt := uT X.K cl (fun _ _ _ _ => False) tt) (te := uE X.K cl (fun _ _ _ _ => False) fe) hk.calm hk.nd pi ok (fun s H C cc fp => (hb.g_ s H C cc fp).pg) (fun s H C cc fp => (hb.t_ s H C cc fp).pts) (fun s H C cc fp => (hb.e_ s H C cc fp).pe) hs, fun c σ s T H Q I w => ?_⟩
  have w' : Want X.K cl W c σ T ((f s).bind fun d s1 => match its (view s1.M d) with
    | none => .fail
    | some ds => (lcL d s1.M (wipeE s1.env (own.map (·.2))) g tt fe ds [] s1.M).bind fun acc s2 => .ok (.lst acc) { s1 with M := s2.M }) Q := w
  refine qi c σ s T H _ I (Want.toI w' fun d s1 hf w1 H1 J P I1 dr Dn hD => ?_) fun d s1 hf => ?_
  · cases e : its (view s1.M d) with
    | none => rw [e] at w1; exact w1.elim
    | some ds =>
      rw [e] at w1
      dsimp only at w1
      refine lc_heart his I1 dr e hD (fun h => by rw [h] at w1; exact w1.elim) fun acc s2 h H' F α vl I' SD r => ?_
      rw [h] at w1
      exact w1 _ H' (I'.adoptF SD r)
  · rw [hf] at w'
    cases e : its (view s1.M d) with
    | none =>
      have w' : Want X.K cl W c σ T (match its (view s1.M d) with
        | none => .fail
        | some ds => (lcL d s1.M (wipeE s1.env (own.map (·.2))) g tt fe ds [] s1.M).bind fun acc s2 => .ok (.lst acc) { s1 with M := s2.M }) Q := w'
      rw [e] at w'; exact w'.elim
    | some ds => rfl
/-- name = [..] on one line -/
theorem ds_setLc {i : Nat} {y : Str} {py : Pos} {elt tg iter : Expr} {ifs : List Expr} {scope : Scope} {own : List (Str × Nat)} {pos spos : Pos} {f : M D} {its : D → Option (List D)} {is : List Nat} {g : D → S → Option S} {tt : M Bool} {fe : M D} {k : Nat} (hk : Cok X W k) (hy : X.N[i]? = some y) (hyl : X.env.scope.names.lookup y = some .local)
    (hsw : swapsWith (.ListComp elt [⟨tg, iter, ifs, 0⟩] scope pos) (some (.Name y py)) spos.line X.env = pure true) (hi : DI X cl W tg iter f its) (ok : BlkOk X.N X.env.scope scope own)
    (hb : Blk X cl scope tg ifs elt is g tt fe) (his : ∀ i ∈ is, i ∈ own.map (·.2) := by decide) (hs : ∀ x, foldedSetIterable iter X.env x = pure x := by intro _; rfl) :
    DS X cl W (.Assign [.Name y py] (.ListComp elt [⟨tg, iter, ifs, 0⟩] scope pos) spos) (sSet i (eLc f its g tt fe (own.map (·.2)))) := by
  obtain ⟨wi, pi, qi⟩ := hi
  refine ⟨_, ps_setLc (g := uG X.K cl is g) (tt := uT X.K cl (fun _ _ _ _ => False) tt) (te := uE X.K cl (fun _ _ _ _ => False) fe) hk.calm hk.nd hy hyl hsw pi ok (fun s H C cc fp => (hb.g_ s H C cc fp).pg) (fun s H C cc fp => (hb.t_ s H C cc fp).pts) (fun s H C cc fp => (hb.e_ s H C cc fp).pe) hs, fun c σ s T H E I w => ?_⟩
  have key : Want X.K cl W c σ T (eLc f its g tt fe (own.map (·.2)) s) (fun v H' => E.nx (σ.set i (some v)) H') :=
    WantS.bind (k := fun d s => setV i d s) w fun d s1 _ w1 v H1 I1 => setV_ok w1 I1
  have w' : Want X.K cl W c σ T ((f s).bind fun d s1 => match its (view s1.M d) with
    | none => .fail
    | some ds => (lcL d s1.M (wipeE s1.env (own.map (·.2))) g tt fe ds [] s1.M).bind fun acc s2 => .ok (.lst acc) { s1 with M := s2.M }) (fun v H' => E.nx (σ.set i (some v)) H') := key
  refine qi c σ s T H _ I (Want.toI w' fun d s1 hf w1 H1 J P I1 dr Dn hD => ?_) fun d s1 hf => ?_
  · cases e : its (view s1.M d) with
    | none => rw [e] at w1; exact w1.elim
    | some ds =>
      rw [e] at w1
      dsimp only at w1
      refine lc_heart (R := fun x H1 => gName i x σ H1 E.nx) his I1 dr e hD (fun h => by rw [h] at w1; exact w1.elim) fun acc s2 h H' F α vl I' SD r => ?_
      rw [h] at w1
      exact w1 _ H' (I'.adoptF SD r)
  · rw [hf] at w'
    cases e : its (view s1.M d) with
    | none =>
      have w' : Want X.K cl W c σ T (match its (view s1.M d) with
        | none => .fail
        | some ds => (lcL d s1.M (wipeE s1.env (own.map (·.2))) g tt fe ds [] s1.M).bind fun acc s2 => .ok (.lst acc) { s1 with M := s2.M }) _ := w'
      rw [e] at w'; exact w'.elim
    | some ds => rfl
end
end DL

/-! DlL: built-in functions and types called; methods; subscripts. -/
namespace DL
open PySem L2
open PySem.Spec PyProof.Rows

theorem SIx.t1i {K : PySem.W.Frag} {cl : Str → Addr} {c : Cz} {H : Hp} {σ : L2.St} {s : S} {T : List (D × V)} {F : Addr → Prop} {α : List Addr} {d : D} {v : V} {i : Int} (J : SIx K cl c H σ s ((d, v) :: T) F α) (h : DL.view s.M d = .int i) : v = .int i := J.vInt (J.tmp (d, v) (List.mem_cons_self ..)) h
theorem SIx.t1b {K : PySem.W.Frag} {cl : Str → Addr} {c : Cz} {H : Hp} {σ : L2.St} {s : S} {T : List (D × V)} {F : Addr → Prop} {α : List Addr} {d : D} {v : V} {i : Bool} (J : SIx K cl c H σ s ((d, v) :: T) F α) (h : DL.view s.M d = .bl i) : v = .bl i := J.vBl (J.tmp (d, v) (List.mem_cons_self ..)) h
theorem SIx.t1s {K : PySem.W.Frag} {cl : Str → Addr} {c : Cz} {H : Hp} {σ : L2.St} {s : S} {T : List (D × V)} {F : Addr → Prop} {α : List Addr} {d : D} {v : V} {i : Str} (J : SIx K cl c H σ s ((d, v) :: T) F α) (h : DL.view s.M d = .str i) : v = .str i := J.vStr (J.tmp (d, v) (List.mem_cons_self ..)) h
theorem SIx.t2i {K : PySem.W.Frag} {cl : Str → Addr} {c : Cz} {H : Hp} {σ : L2.St} {s : S} {T : List (D × V)} {F : Addr → Prop} {α : List Addr} {e d : D} {u v : V} {i : Int} (J : SIx K cl c H σ s ((e, u) :: (d, v) :: T) F α) (h : DL.view s.M d = .int i) : v = .int i := J.vInt (J.tmp (d, v) (List.mem_cons_of_mem _ (List.mem_cons_self ..))) h
theorem SIx.t2s {K : PySem.W.Frag} {cl : Str → Addr} {c : Cz} {H : Hp} {σ : L2.St} {s : S} {T : List (D × V)} {F : Addr → Prop} {α : List Addr} {e d : D} {u v : V} {i : Str} (J : SIx K cl c H σ s ((e, u) :: (d, v) :: T) F α) (h : DL.view s.M d = .str i) : v = .str i := J.vStr (J.tmp (d, v) (List.mem_cons_of_mem _ (List.mem_cons_self ..))) h

structure CD (X : Cx) (cl : Str → Addr) (f : Value) (g : List D → Option D) : Prop where
  ex : ∃ r, CallR X f r ∧ ∀ c σ s T H ds vs z Q, ds.length = vs.length → SI X.K cl c H σ s (zipT ds vs T) → g (ds.map (view s.M)) = some z → (∀ v H', SI X.K cl c H' σ s ((z, v) :: zipT ds vs T) → Q v H') → r vs H Q
/-- .. that makes a list, to be a cell -/
structure CDC (X : Cx) (cl : Str → Addr) (f : Value) (g : List D → Option (List D)) : Prop where
  ex : ∃ r, CallR X f r ∧ ∀ c σ s T H ds vs z Q, ds.length = vs.length → SI X.K cl c H σ s (zipT ds vs T) → g (ds.map (view s.M)) = some z → (∀ v H', SI X.K cl c H' σ { s with M := s.M ++ [some (.lst z)] } ((.ptr s.M.length, v) :: zipT ds vs T) → Q v H') → r vs H Q
def eCB (g : List D → Option D) (f : M (List D)) : M D := fun s => (f s).bind fun ds s => oOf (g (ds.map (view s.M))) s
def eCBC (g : List D → Option (List D)) (f : M (List D)) : M D := fun s => (f s).bind fun ds s => match g (ds.map (view s.M)) with
  | some xs => .ok (.ptr s.M.length) { s with M := s.M ++ [some (.lst xs)] }
  | none => .fail
def orC (g h : List D → Option D) : List D → Option D := fun a => match g a with
  | some z => some z
  | none => h a
section
variable {X : Cx} {cl : Str → Addr} {W : WX} {f : Value} {g h : List D → Option D}
theorem CD.or (a : CD X cl f g) (b : CD X cl f h) : CD X cl f (orC g h) := by
  obtain ⟨r, hr, q⟩ := a
  obtain ⟨r', hr', q'⟩ := b
  refine ⟨_, hr.or hr', fun c σ s T H ds vs z Q hl I hz k => ?_⟩
  unfold orC at hz
  split at hz
  · rename_i z' e1
    cases hz
    exact .inl (q c σ s T H ds vs z Q hl I e1 k)
  · exact .inr (q' c σ s T H ds vs z Q hl I hz k)
theorem de_callB {x : Str} {id : String} {e : Expr} {es : List Expr} {fa : M (List D)} {p pos : Pos} (hc : CD X cl (.builtin id) g) (hm : X.mg x = none) (ha : DA X cl W (e :: es) fa) (hv : bootBuiltins x = some (.builtin id) := by decide +kernel) (hg : Gl X x := by rfl) (hn : x ≠ "__name__" := by decide) (hdb : (x == ("__debug__" : Str)) = false := by decide)
    (he : starEach (e :: es) X.env = (false, eval e X.env) :: starEach es X.env := by rfl) (hpl : (backTo pos (starEach es X.env)).any (·.1) = false := by rfl) : DE X cl W (.Call (.Name x p) (e :: es) [] pos) (eCB g fa) := by
  obtain ⟨ta, pa, qa⟩ := ha
  obtain ⟨r, hr, q⟩ := hc
  refine ⟨_, pe_callB hr hg hm hv pa hn hdb he hpl, fun c σ s T H Q I w => ?_⟩
  refine qa c σ s T H _ I (w.bindA fun ds s1 hfs w1 vs H1 hl I1 => ?_)
  unfold oOf at w1
  split at w1
  · rename_i z hz
    exact q c σ s1 T H1 ds vs z Q hl I1 hz fun v H' I' => w1 v H' I'.unzip
  · exact w1.elim
theorem de_callT {x : Str} {ty : String} {e : Expr} {es : List Expr} {fa : M (List D)} {p pos : Pos} (hc : CD X cl (.type ty) g) (hm : X.mg x = none) (ha : DA X cl W (e :: es) fa) (hv : bootBuiltins x = some (.type ty) := by decide +kernel) (hg : Gl X x := by rfl) (hn : x ≠ "__name__" := by decide) (hdb : (x == ("__debug__" : Str)) = false := by decide)
    (he : starEach (e :: es) X.env = (false, eval e X.env) :: starEach es X.env := by rfl) (hpl : (backTo pos (starEach es X.env)).any (·.1) = false := by rfl) : DE X cl W (.Call (.Name x p) (e :: es) [] pos) (eCB g fa) := by
  obtain ⟨ta, pa, qa⟩ := ha
  obtain ⟨r, hr, q⟩ := hc
  refine ⟨_, pe_callTy hr hg hm hv pa hn hdb he hpl, fun c σ s T H Q I w => ?_⟩
  refine qa c σ s T H _ I (w.bindA fun ds s1 hfs w1 vs H1 hl I1 => ?_)
  unfold oOf at w1
  split at w1
  · rename_i z hz
    exact q c σ s1 T H1 ds vs z Q hl I1 hz fun v H' I' => w1 v H' I'.unzip
  · exact w1.elim
theorem de_callTC {gl : List D → Option (List D)} {x : Str} {ty : String} {e : Expr} {es : List Expr} {fa : M (List D)} {p pos : Pos} (hc : CDC X cl (.type ty) gl) (hm : X.mg x = none) (ha : DA X cl W (e :: es) fa) (hv : bootBuiltins x = some (.type ty) := by decide +kernel) (hg : Gl X x := by rfl) (hn : x ≠ "__name__" := by decide) (hdb : (x == ("__debug__" : Str)) = false := by decide)
    (he : starEach (e :: es) X.env = (false, eval e X.env) :: starEach es X.env := by rfl) (hpl : (backTo pos (starEach es X.env)).any (·.1) = false := by rfl) : DE X cl W (.Call (.Name x p) (e :: es) [] pos) (eCBC gl fa) := by
  obtain ⟨ta, pa, qa⟩ := ha
  obtain ⟨r, hr, q⟩ := hc
  refine ⟨_, pe_callTy hr hg hm hv pa hn hdb he hpl, fun c σ s T H Q I w => ?_⟩
  refine qa c σ s T H _ I (w.bindA fun ds s1 hfs w1 vs H1 hl I1 => ?_)
  split at w1
  · rename_i z hz
    exact q c σ s1 T H1 ds vs z Q hl I1 hz fun v H' I' => w1 v H' I'.unzip
  · exact w1.elim
/-! one argument -/
theorem one_arg {ds : List D} {vs : List V} {d : D} {M : List (Option C)} (hl : ds.length = vs.length) (e : ds.map (view M) = [d]) : ∃ e v, ds = [e] ∧ vs = [v] ∧ view M e = d := by
  match ds, vs, hl with
  | [e'], [v], _ => exact ⟨e', v, rfl, rfl, by simpa using e⟩
  | [], _, _ => simp at e
  | _ :: _ :: _, _, _ => simp at e
theorem two_arg {ds : List D} {vs : List V} {d d2 : D} {M : List (Option C)} (hl : ds.length = vs.length) (e : ds.map (view M) = [d, d2]) : ∃ e v e2 v2, ds = [e, e2] ∧ vs = [v, v2] ∧ view M e = d ∧ view M e2 = d2 := by
  match ds, vs, hl with
  | [e1, e2], [v, v2], _ => 
    simp at e
    exact ⟨e1, v, e2, v2, rfl, rfl, e.1, e.2⟩
  | [], _, _ => simp at e
  | [_], _, _ => simp at e
  | _ :: _ :: _ :: _, _, _ => simp at e
def g1 (g : D → Option D) : List D → Option D
  | [d] => g d
  | _ => none
def g2 (g : D → D → Option D) : List D → Option D
  | [d, e] => g d e
  | _ => none
theorem CD.one {g : D → Option D} {r : List V → Hp → VK → Prop} (hr : CallR X f r) (q : ∀ c σ s T H F α d v z Q, SIx X.K cl c H σ s ((d, v) :: T) F α → g (view s.M d) = some z → (∀ v' H', SI X.K cl c H' σ s ((z, v') :: (d, v) :: T) → Q v' H') → r [v] H Q) : CD X cl f (g1 g) := by
  refine ⟨r, hr, fun c σ s T H ds vs z Q hl I hz k => ?_⟩
  match ds, vs, hl with
  | [e], [v], _ =>
    obtain ⟨F, α, J⟩ := id I
    exact q c σ s T H F α e v z Q J hz k
  | [], [], _ => cases hz
  | _ :: _ :: _, _, _ => cases hz
theorem CD.two {g : D → D → Option D} {r : List V → Hp → VK → Prop} (hr : CallR X f r) (q : ∀ c σ s T H F α d v e u z Q, SIx X.K cl c H σ s ((e, u) :: (d, v) :: T) F α → g (view s.M d) (view s.M e) = some z → (∀ v' H', SI X.K cl c H' σ s ((z, v') :: (e, u) :: (d, v) :: T) → Q v' H') → r [v, u] H Q) : CD X cl f (g2 g) := by
  refine ⟨r, hr, fun c σ s T H ds vs z Q hl I hz k => ?_⟩
  match ds, vs, hl with
  | [d, e], [v, u], _ =>
    obtain ⟨F, α, J⟩ := id I
    exact q c σ s T H F α d v e u z Q J hz k
  | [], [], _ => cases hz
  | [_], [_], _ => cases hz
  | _ :: _ :: _ :: _, _, _ => cases hz
/-- len -/
def dLen : D → Option D
  | .str z => if z.length ≤ 1000000 then some (.int z.length) else none
  | d => (seqD d).map fun xs => .int xs.length
theorem cd_len : CD X cl (.builtin "len") (g1 dLen) := by
  refine CD.one (call_len_seq.or call_len_str) fun c σ s T H F α d v z Q J hz k => ?_
  have r := J.tmp (d, v) (List.mem_cons_self ..)
  by_cases h : ∃ y, view s.M d = .str y
  · obtain ⟨y, e⟩ := h
    rw [e] at hz
    simp only [dLen] at hz
    split at hz
    · rename_i hl
      cases hz
      have ev : v = .str y := J.vStr r e
      subst ev
      exact .inr ⟨y, rfl, line1m hl, k _ H (SI.flat rfl ⟨F, α, J⟩)⟩
    · cases hz
  · have hz' : (seqD (view s.M d)).map (fun xs => D.int xs.length) = some z := by
      revert hz h
      generalize view s.M d = u
      intro hz h
      cases u <;> first | exact hz | exact absurd ⟨_, rfl⟩ h
    obtain ⟨xs, h1, rfl⟩ := Option.map_eq_some_iff.mp hz'
    obtain ⟨a, vs, ev, h2, rl⟩ := J.vSeq r h1
    have ev : v = .ref a := ev
    subst ev
    exact .inl ⟨a, vs, rfl, h2, by rw [← rl.length]; exact k _ H (SI.flat rfl ⟨F, α, J⟩)⟩
/-- abs, int -/
def dAbs : D → Option D
  | .int i => some (.int (if i < 0 then -i else i))
  | _ => none
theorem cd_abs : CD X cl (.builtin "abs") (g1 dAbs) := by
  refine CD.one call_abs fun c σ s T H F α d v z Q J hz k => ?_
  cases e : view s.M d with
  | int i =>
    rw [e] at hz
    cases hz
    exact ⟨i, by rw [J.t1i e], k _ H (SI.flat rfl ⟨F, α, J⟩)⟩
  | _ => rw [e] at hz; cases hz
def dInt : D → Option D
  | .int i => some (.int i)
  | .bl b => some (.int (if b then 1 else 0))
  | _ => none
theorem cd_int : CD X cl (.type "int") (g1 dInt) := by
  refine CD.one call_int1 fun c σ s T H F α d v z Q J hz k => ?_
  cases e : view s.M d with
  | int i =>
    rw [e] at hz
    cases hz
    exact .inl ⟨i, by rw [J.t1i e], k _ H (SI.flat rfl ⟨F, α, J⟩)⟩
  | bl i =>
    rw [e] at hz
    cases hz
    exact .inr ⟨i, by rw [J.t1b e], k _ H (SI.flat rfl ⟨F, α, J⟩)⟩
  | _ => rw [e] at hz; cases hz
def dMax2 : D → D → Option D
  | .int i, .int j => some (.int (if j > i then j else i))
  | _, _ => none
def dMin2 : D → D → Option D
  | .int i, .int j => some (.int (if j < i then j else i))
  | _, _ => none
theorem int2 {g : D → D → Option D} {gi : Int → Int → Int} {d e z : D} (hg : ∀ d e z, g d e = some z → ∃ i j, d = .int i ∧ e = .int j ∧ z = .int (gi i j)) (h : g d e = some z) : ∃ i j, d = .int i ∧ e = .int j ∧ z = .int (gi i j) := hg d e z h
theorem cd_max2 (hc : X.calm = true) : CD X cl (.builtin "max") (g2 dMax2) := by
  refine CD.two (call_max2 hc) fun c σ s T H F α d v e u z Q J hz k => ?_
  have key : ∀ d e z, dMax2 d e = some z → ∃ i j, d = .int i ∧ e = .int j ∧ z = .int (if j > i then j else i) := fun d e z h => by
    cases d <;> first | (cases e <;> first | (cases h; exact ⟨_, _, rfl, rfl, rfl⟩) | (simp [dMax2] at h)) | (simp [dMax2] at h)
  obtain ⟨i, j, e1, e2, rfl⟩ := key _ _ _ hz
  exact ⟨i, j, by rw [J.t2i e1, J.t1i e2], k _ H (SI.flat rfl ⟨F, α, J⟩)⟩
theorem cd_min2 (hc : X.calm = true) : CD X cl (.builtin "min") (g2 dMin2) := by
  refine CD.two (call_min2 hc) fun c σ s T H F α d v e u z Q J hz k => ?_
  have key : ∀ d e z, dMin2 d e = some z → ∃ i j, d = .int i ∧ e = .int j ∧ z = .int (if j < i then j else i) := fun d e z h => by
    cases d <;> first | (cases e <;> first | (cases h; exact ⟨_, _, rfl, rfl, rfl⟩) | (simp [dMin2] at h)) | (simp [dMin2] at h)
  obtain ⟨i, j, e1, e2, rfl⟩ := key _ _ _ hz
  exact ⟨i, j, by rw [J.t2i e1, J.t1i e2], k _ H (SI.flat rfl ⟨F, α, J⟩)⟩
/-- list(xs), tuple(xs) -/
def dList : D → Option D := fun d => (seqD d).map .lst
theorem SIx.lstNew {K : PySem.W.Frag} {c : Cz} {H : Hp} {σ : L2.St} {s : S} {T : List (D × V)} {F : Addr → Prop} {α : List Addr} {p : Addr} {ds : List D} {vs : List V} (J : SIx K cl c H σ s T F α) (hp : H p = none) (r : RepL K cl H F α ds vs) : SI K cl c (upd H p (.lst vs)) σ s ((.lst ds, .ref p) :: T) :=
  ⟨_, α, (J.newF hp).push (.lst upd_same (.inr rfl) (r.ext (ext_new J hp)))⟩
theorem SIx.tupNew {K : PySem.W.Frag} {c : Cz} {H : Hp} {σ : L2.St} {s : S} {T : List (D × V)} {F : Addr → Prop} {α : List Addr} {p : Addr} {ds : List D} {vs : List V} {o : Obj} (J : SIx K cl c H σ s T F α) (hp : H p = none) (hd : o.dict = none) (r : RepL K cl H F α ds vs) : SI K cl c (upd H p (.frz o (.tup vs))) σ s ((.tup ds, .ref p) :: T) :=
  ⟨_, α, (J.newF hp).push (.tup (SqN.of upd_same hd) (r.ext (ext_new J hp)))⟩
theorem SIx.ktNew {K : PySem.W.Frag} {c : Cz} {H : Hp} {σ : L2.St} {s : S} {T : List (D × V)} {F : Addr → Prop} {α : List Addr} {p : Addr} {ds : List D} {vs : List V} (J : SIx K cl c H σ s T F α) (hp : H p = none) (r : RepL K cl H F α ds vs) : SI K cl c (upd H p (.tup vs)) σ s ((.kt ds, .ref p) :: T) :=
  ⟨_, α, (J.newF hp).push (.kt upd_same (r.ext (ext_new J hp)))⟩
theorem SIx.cellNew {K : PySem.W.Frag} {c : Cz} {H : Hp} {σ : L2.St} {s : S} {T : List (D × V)} {F : Addr → Prop} {α : List Addr} {p : Addr} {ds : List D} {vs : List V} (J : SIx K cl c H σ s T F α) (hp : H p = none) (r : RepL K cl H F α ds vs) : SI K cl c (upd H p (.lst vs)) σ { s with M := s.M ++ [some (.lst ds)] } ((.ptr s.M.length, .ref p) :: T) :=
  ⟨F, _, J.newCell hp fun e => ⟨vs, upd_same, r.ext e⟩⟩
theorem cd_list : CD X cl (.type "list") (g1 dList) := by
  refine CD.one call_list_of fun c σ s T H F α d v z Q J hz k => ?_
  obtain ⟨xs, h1, rfl⟩ := Option.map_eq_some_iff.mp hz
  obtain ⟨a, vs, ev, h2, rl⟩ := J.vSeq (J.tmp (d, v) (List.mem_cons_self ..)) h1
  have ev : v = .ref a := ev
  subst ev
  exact ⟨a, vs, rfl, h2, fun l hl => k _ _ (J.lstNew hl rl)⟩
def gL1 (g : D → Option (List D)) : List D → Option (List D)
  | [d] => g d
  | _ => none
theorem cdc_list : CDC X cl (.type "list") (gL1 seqD) := by
  refine ⟨_, call_list_of, fun c σ s T H ds vs z Q hl I hz k => ?_⟩
  match ds, vs, hl with
  | [d], [v], _ =>
    obtain ⟨F, α, J⟩ := id I
    have h1 : seqD (view s.M d) = some z := hz
    obtain ⟨a, vs, ev, h2, rl⟩ := J.vSeq (J.tmp (d, v) (List.mem_cons_self ..)) h1
    have ev : v = .ref a := ev
    subst ev
    exact ⟨a, vs, rfl, h2, fun l hl => k _ _ (J.cellNew hl rl)⟩
  | [], [], _ => cases hz
  | _ :: _ :: _, _, _ => cases hz
def dTuple : D → Option D
  | .tup xs => some (.tup xs)
  | .lst xs => some (.tup xs)
  | .slst xs => some (.tup xs)
  | _ => none
theorem cd_tuple : CD X cl (.type "tuple") (g1 dTuple) := by
  refine CD.one call_tupleN fun c σ s T H F α d v z Q J hz k => ?_
  have r := J.tmp (d, v) (List.mem_cons_self ..)
  cases e : view s.M d with
  | tup xs =>
    rw [e] at hz
    cases hz
    obtain ⟨a, vs, ev, h2, rl⟩ := J.vTupN r e
    have ev : v = .ref a := ev
    subst ev
    exact ⟨a, vs, rfl, .inr ⟨h2.1, k _ _ ⟨F, α, J.push (.tup h2 rl)⟩⟩⟩
  | lst xs =>
    rw [e] at hz
    cases hz
    obtain ⟨a, vs, ev, h2, rl⟩ := J.vLst r e
    have ev : v = .ref a := ev
    subst ev
    exact ⟨a, vs, rfl, .inl ⟨SqL.of h2, fun l hl o hd => k _ _ (J.tupNew hl hd rl)⟩⟩
  | slst xs =>
    rw [e] at hz
    cases hz
    have hn : tpD d = none := by
      cases d <;> first | rfl | (cases e)
    obtain ⟨a, vs, ev, h2, rl⟩ := J.vSeqL r hn (show seqD (view s.M d) = some xs by rw [e]; rfl)
    have ev : v = .ref a := ev
    subst ev
    exact ⟨a, vs, rfl, .inl ⟨h2, fun l hl o hd => k _ _ (J.tupNew hl hd rl)⟩⟩
  | _ => rw [e] at hz; cases hz
/-- all, any of bools -/
def blsD : List D → Option (List Bool)
  | [] => some []
  | .bl b :: ds => (blsD ds).map (b :: ·)
  | _ => none
theorem blsD_rep {K : PySem.W.Frag} {H : Hp} {F : Addr → Prop} {α : List Addr} : ∀ {ds : List D} {vs : List V} {bs : List Bool}, RepL K cl H F α ds vs → blsD ds = some bs → vs = bs.map V.bl
  | _, _, _, .nil, h => by simp [blsD] at h; subst h; rfl
  | _, _, _, .cons (d := d) (ds := ds) r t, h => by
    cases d <;> first | (simp [blsD] at h; done) | skip
    simp only [blsD] at h
    obtain ⟨bs, h1, rfl⟩ := Option.map_eq_some_iff.mp h
    cases r
    rw [blsD_rep t h1]; rfl
def dAll : D → Option D
  | .lst ds => (blsD ds).map fun bs => .bl (bs.all id)
  | _ => none
def dAny : D → Option D
  | .lst ds => (blsD ds).map fun bs => .bl (bs.any id)
  | _ => none
theorem cd_all (hc : X.calm = true) : CD X cl (.builtin "all") (g1 dAll) := by
  refine CD.one (cr_all hc) fun c σ s T H F α d v z Q J hz k => ?_
  cases e : view s.M d with
  | lst ds =>
    rw [e] at hz
    obtain ⟨bs, h1, rfl⟩ := Option.map_eq_some_iff.mp (show (blsD ds).map (fun bs => D.bl (bs.all id)) = some z from hz)
    obtain ⟨a, vs, ev, h2, rl⟩ := J.vLst (J.tmp (d, v) (List.mem_cons_self ..)) e
    have ev : v = .ref a := ev
    subst ev
    have h3 := blsD_rep rl h1
    subst h3
    exact ⟨a, bs, rfl, SqL.of h2, k _ H (SI.flat rfl ⟨F, α, J⟩)⟩
  | _ => rw [e] at hz; cases hz
theorem cd_any (hc : X.calm = true) : CD X cl (.builtin "any") (g1 dAny) := by
  refine CD.one (cr_any hc) fun c σ s T H F α d v z Q J hz k => ?_
  cases e : view s.M d with
  | lst ds =>
    rw [e] at hz
    obtain ⟨bs, h1, rfl⟩ := Option.map_eq_some_iff.mp (show (blsD ds).map (fun bs => D.bl (bs.any id)) = some z from hz)
    obtain ⟨a, vs, ev, h2, rl⟩ := J.vLst (J.tmp (d, v) (List.mem_cons_self ..)) e
    have ev : v = .ref a := ev
    subst ev
    have h3 := blsD_rep rl h1
    subst h3
    exact ⟨a, bs, rfl, SqL.of h2, k _ H (SI.flat rfl ⟨F, α, J⟩)⟩
  | _ => rw [e] at hz; cases hz
/-! ### isinstance -/
inductive Ty where
  | non | bl | int | str | tup | lst | dct
  deriving DecidableEq
def Ty.nm : Ty → String
  | .non => "NoneType" | .bl => "bool" | .int => "int" | .str => "str" | .tup => "tuple" | .lst => "list" | .dct => "dict"
def tyD : D → Option Ty
  | .non => some .non | .bl _ => some .bl | .int _ => some .int | .str _ => some .str | .tup _ => some .tup | .kt _ => some .tup | .lst _ => some .lst | .slst _ => some .lst
  | .dct _ => some .dct | .dcu _ => some .dct
  | _ => none
def isiT (t : Ty) (c : String) : Option Bool :=
  if c = "str" then some (t == .str) else if c = "tuple" then some (t == .tup) else if c = "list" then some (t == .lst) else if c = "int" then some (t == .int || t == .bl) else if c = "bool" then some (t == .bl) else if c = "dict" then some (t == .dct) else none
theorem isiT_ok {t : Ty} {c : String} {b : Bool} (h : isiT t c = some b) : kitB t.nm c = some b := by
  unfold isiT at h
  split at h
  · rename_i e; subst e; cases h; cases t <;> decide +kernel
  · split at h
    · rename_i e; subst e; cases h; cases t <;> decide +kernel
    · split at h
      · rename_i e; subst e; cases h; cases t <;> decide +kernel
      · split at h
        · rename_i e; subst e; cases h; cases t <;> decide +kernel
        · split at h
          · rename_i e; subst e; cases h; cases t <;> decide +kernel
          · split at h
            · rename_i e; subst e; cases h; cases t <;> decide +kernel
            · cases h
theorem sqT_ty {K : PySem.W.Frag} {H : Hp} {a : Addr} {xs : List V} (h : SqT K H a xs) : TyX K H (.ref a) (.type "tuple") := by
  rcases h with (h | ⟨o, h⟩) | ⟨o, its, n, h, c, _⟩
  · exact .base (.tup h)
  · exact .fTuple h
  · exact .kTuple h c
theorem sqL_ty {K : PySem.W.Frag} {H : Hp} {a : Addr} {xs : List V} (h : SqL K H a xs) : TyX K H (.ref a) (.type "list") := by
  rcases h with (h | ⟨o, h⟩) | ⟨o, its, n, h, c, _⟩
  · exact .base (.lst h)
  · exact .base (.frz h)
  · exact .kList h c
theorem tyD_rep {K : PySem.W.Frag} {H : Hp} {F : Addr → Prop} {α : List Addr} {d : D} {v : V} {t : Ty} (r : Rep K cl H F α d v) (h : tyD d = some t) : TyX K H v (.type t.nm) := by
  cases r <;> simp [tyD] at h <;> subst h
  · exact .base .non
  · exact .base (.bl _)
  · exact .base (.int _)
  · exact .base (.str _)
  · rename_i h _; exact sqT_ty h.1
  · rename_i h _; exact sqT_ty (SqT.of h)
  · rename_i h _ _; exact .base (.lst h)
  · rename_i h _ _; exact sqL_ty (.inl h)
  · rename_i h _; exact sqL_ty (h H)
  · rename_i h _ _; exact .base (.dK h)
  · rename_i h _ _; exact .base (.dT h)
theorem tyD_view {K : PySem.W.Frag} {c : Cz} {H : Hp} {σ : L2.St} {s : S} {T : List (D × V)} {F : Addr → Prop} {α : List Addr} {d : D} {v : V} {t : Ty} (J : SIx K cl c H σ s T F α) (r : Rep K cl H F α d v) (h : tyD (view s.M d) = some t) : TyX K H v (.type t.nm) := by
  rcases J.view r with r | ⟨k, x, a, _, rfl, _, _, e2, rc⟩
  · exact tyD_rep r h
  · rw [e2] at h
    cases x <;> simp [C.dat, tyD] at h <;> subst h
    · obtain ⟨vs, h1, _⟩ := rc; exact .base (.lst h1)
    · obtain ⟨vs, h1, _⟩ := rc; exact .base (.dK h1)
    · obtain ⟨vs, h1, _⟩ := rc; exact .base (.dT h1)
def dIsi : D → D → Option D
  | d, .raw (.ty c) => match tyD d with
    | some t => (isiT t c).map .bl
    | none => none
  | _, _ => none
theorem cd_isi : CD X cl (.builtin "isinstance") (g2 dIsi) := by
  refine CD.two call_isi fun c σ s T H F α d v e u z Q J hz k => ?_
  have key : ∀ d e z, dIsi d e = some z → ∃ cn t b, e = .raw (.ty cn) ∧ tyD d = some t ∧ isiT t cn = some b ∧ z = .bl b := fun d e z h => by
    unfold dIsi at h
    split at h
    · rename_i d cn
      split at h
      · rename_i t ht
        obtain ⟨b, h1, rfl⟩ := Option.map_eq_some_iff.mp h
        exact ⟨cn, t, b, rfl, ht, h1, rfl⟩
      · cases h
    · cases h
  obtain ⟨cn, t, b, e1, h1, h2, rfl⟩ := key _ _ _ hz
  have eu : u = .ty cn := by
    have r := J.tmp (e, u) (List.mem_cons_self ..)
    rcases J.view r with r | ⟨k', x, a, _, _, _, _, e2, _⟩
    · rw [e1] at r
      cases r; rfl
    · rw [e1] at e2; cases x <;> cases e2
  subst eu
  exact ⟨v, .ty cn, .type t.nm, .type cn, b, rfl, .ty cn, tyD_view J (J.tmp (d, v) (List.mem_cons_of_mem _ (List.mem_cons_self ..))) h1, kit_ty (isiT_ok h2), k _ H (SI.flat rfl ⟨F, α, J⟩)⟩
end
end DL

/-! DlM: defs that hand back a cell of their own; calls of them. -/
namespace DL
open PySem L2
open PySem.Spec PyProof.Rows

section
variable {K : PySem.W.Frag} {cl : Str → Addr} {c : Cz} {H : Hp} {σ : L2.St} {s : S} {T T' : List (D × V)} {F : Addr → Prop} {α : List Addr}
/-- a cell more, of a list (..) not known so far -/
theorem SIx.addCell {a : Addr} {x : C} (I : SIx K cl c H σ s T F α) (r : RepC K cl H F α a x) (nα : a ∉ α) (nF : ¬ F a) (old : a ∈ c.β ∨ c.H0 a = none) (dm : ∃ o, H a = some o) : SI K cl c H σ { s with M := s.M ++ [some x] } ((.ptr s.M.length, .ref a) :: T) := by
  have al : ∀ (k : Nat) (b : Addr), α[k]? = some b → (α ++ [a])[k]? = some b := fun k b q => by
    rw [List.getElem?_append_left (List.getElem?_eq_some_iff.mp q).1]; exact q
  have E : Ext H F α H F (α ++ [a]) := ⟨fun _ _ => rfl, fun _ h => h, fun _ _ h => h, fun _ _ _ h => h, al⟩
  refine ⟨F, α ++ [a], fun i d e => ?_, I.el, fun q hq => ?_, ?_, fun k y b e1 e2 => ?_, ?_, fun b hb => ?_, fun b hb => ?_, I.domF, I.inF, fun k b e => al k b (I.pre k b e), I.keep, I.tups, I.frzs⟩
  · obtain ⟨v, h1, h2⟩ := I.env i d e
    exact ⟨v, h1, h2.ext E⟩
  · rcases List.mem_cons.mp hq with z | hq
    · subst z
      refine .ptr ?_
      rw [← I.len]
      exact List.getElem?_concat_length
    · exact (I.tmp q hq).ext E
  · show (α ++ [a]).length = (s.M ++ [some x]).length
    rw [List.length_append, List.length_append, I.len]; rfl
  · have e1 : (s.M ++ [some x])[k]? = some (some y) := e1
    by_cases hk : k < s.M.length
    · rw [List.getElem?_append_left hk] at e1
      rw [List.getElem?_append_left (by rw [I.len]; exact hk)] at e2
      obtain ⟨h1, h2⟩ := I.cel k y b e1 e2
      exact ⟨E.repC h1 rfl, h2⟩
    · have hk' : k = s.M.length := by
        have := (List.getElem?_eq_some_iff.mp e1).1
        rw [List.length_append] at this
        simp at this; omega
      subst hk'
      rw [List.getElem?_concat_length] at e1
      cases e1
      rw [← I.len, List.getElem?_concat_length] at e2
      cases e2
      exact ⟨E.repC r rfl, nF⟩
  · rw [List.nodup_append]
    exact ⟨I.nd, by simp, fun x hx y hy e => nα (by rw [← List.mem_singleton.mp hy, ← e]; exact hx)⟩
  · rcases List.mem_append.mp hb with hb | hb
    · exact I.dom b hb
    · rw [List.mem_singleton.mp hb]; exact dm
  · rcases List.mem_append.mp hb with hb | hb
    · exact I.inα b hb
    · rw [List.mem_singleton.mp hb]; exact old
/-- the frame is left, one of its cells is kept -/
theorem SIx.leaveC {k n : Nat} {x : C} {v : V} (I : SIx K cl c H σ s ((.ptr k, v) :: T) F α) (hn : n ≤ k) (hk : s.M[k]? = some (some x)) (hβ : c.β.length ≤ n) (hc : cNp (s.M.take n) = true) (hx : x.np = true) :
    SI K cl c H [] ⟨[], s.M.take n ++ [some x]⟩ [(.ptr n, v)] := by
  have hkl : k < s.M.length := (List.getElem?_eq_some_iff.mp hk).1
  cases I.tmp (.ptr k, v) (List.mem_cons_self ..) with
  | ptr ha =>
    rename_i a
    have hl : n ≤ α.length := by rw [I.len]; omega
    obtain ⟨rc, nF⟩ := I.cel k x a hk ha
    have tk : ∀ (j : Nat) (b : Addr), (α.take n)[j]? = some b → α[j]? = some b ∧ j < n := fun j b e => by
      have hj : j < (α.take n).length := (List.getElem?_eq_some_iff.mp e).1
      rw [List.length_take] at hj
      have hj' : j < n := by omega
      rw [List.getElem?_take_of_lt hj'] at e
      exact ⟨e, hj'⟩
    have I2 : SIx K cl c H [] ⟨[], s.M.take n⟩ [] F (α.take n) := by
      refine ⟨fun i d e => by simp at e, rfl, fun q hq => by simp at hq, by show (α.take n).length = (s.M.take n).length; rw [List.length_take, List.length_take, I.len], fun j y b e1 e2 => ?_, I.nd.sublist (List.take_sublist _ _), fun b hb => I.dom b (List.mem_of_mem_take hb), fun b hb => I.inα b (List.mem_of_mem_take hb), I.domF, I.inF, fun j b e => ?_, I.keep, I.tups, I.frzs⟩
      · have e1 : (s.M.take n)[j]? = some (some y) := e1
        obtain ⟨e3, hj⟩ := tk j b e2
        have hy := cNp_get hc e1
        rw [List.getElem?_take_of_lt hj] at e1
        obtain ⟨rc, nF⟩ := I.cel j y b e1 e3
        exact ⟨rc.np (fun _ h => h) hy, nF⟩
      · have hj : j < n := Nat.lt_of_lt_of_le (List.getElem?_eq_some_iff.mp e).1 hβ
        rw [List.getElem?_take_of_lt hj]
        exact I.pre j b e
    have nα : a ∉ α.take n := fun hm => by
      obtain ⟨j, hj⟩ := List.getElem?_of_mem hm
      obtain ⟨e3, hj'⟩ := tk j a hj
      have := (List.getElem?_inj (by omega) I.nd).mp (e3.trans ha.symm)
      omega
    have Z := I2.addCell (x := x) (rc.np (fun _ h => h) hx) nα nF (I.inα a (List.mem_of_getElem? ha)) (I.dom a (List.mem_of_getElem? ha))
    have e : (s.M.take n).length = n := by rw [List.length_take]; omega
    have Z' : SI K cl c H [] ⟨[], s.M.take n ++ [some x]⟩ ((.ptr (s.M.take n).length, .ref a) :: []) := Z
    rw [e] at Z'
    exact Z'
end
/-- how a body's run ends, a cell of its own handed back -/
def finC (n : Nat) (o : Out Fl) : Out D := match o with
  | .ok (.ret (.ptr k)) s => match s.M[k]? with
    | some (some x) => if decide (n ≤ k) && cNp (s.M.take n) && x.np then .ok (.ptr n) ⟨[], s.M.take n ++ [some x]⟩ else .fail
    | _ => .fail
  | .exc c fs s => if npF fs && okM n s then .exc c fs ⟨[], s.M.take n⟩ else .fail
  | _ => .fail
def runC (N : Nat) (f : M Fl) : Sem := fun m ds => finC m.length (f ⟨ds.map some ++ List.replicate (N - ds.length) none, m.map some⟩)
/-- a def that hands back a cell -/
structure LenC (sem : Sem) : Prop where
  ok : ∀ m ds d s, sem m ds = .ok d s → ∃ x, d = .ptr m.length ∧ s.M.length = m.length + 1 ∧ s.M[m.length]? = some (some x)
  exc : ∀ m ds n fs s, sem m ds = .exc n fs s → s.M.length = m.length
theorem runC_len (N : Nat) (f : M Fl) : LenC (runC N f) := by
  refine ⟨fun m ds d s h => ?_, fun m ds n fs s h => ?_⟩
  · unfold runC at h
    revert h
    generalize f ⟨ds.map some ++ List.replicate (N - ds.length) none, m.map some⟩ = o
    intro h
    unfold finC at h
    split at h
    · rename_i k s1
      split at h
      · rename_i x hx
        split at h
        · rename_i hc
          cases h
          simp only [Bool.and_eq_true, decide_eq_true_eq] at hc
          have hk := (List.getElem?_eq_some_iff.mp hx).1
          have hl : (s1.M.take m.length).length = m.length := by rw [List.length_take]; omega
          refine ⟨x, rfl, ?_, ?_⟩
          · show (s1.M.take m.length ++ [some x]).length = _
            rw [List.length_append, hl]; rfl
          · show (s1.M.take m.length ++ [some x])[m.length]? = _
            rw [List.getElem?_append_right (by omega), hl, Nat.sub_self]; rfl
        · cases h
      · cases h
    · split at h <;> cases h
    · cases h
  · unfold runC at h
    revert h
    generalize f ⟨ds.map some ++ List.replicate (N - ds.length) none, m.map some⟩ = o
    intro h
    unfold finC at h
    split at h
    · split at h
      · split at h <;> cases h
      · cases h
    · split at h
      · rename_i hc
        cases h
        exact okM_len (Bool.and_eq_true_iff.mp hc).2
      · cases h
    · cases h
section
variable {K : PySem.W.Frag} {cl : Str → Addr} {H : Hp}
theorem body_wantC {W : XK} {F : Addr → Prop} {β : List Addr} {n : Nat} {o : Out Fl} {Q : VK} (hβ : β.length = n) (w : Want K cl (fun cls dx _ H' => W cls dx H') ⟨H, β, F⟩ [] [] (match finC n o with
    | .fail => .fail
    | .ok d s => .ok d ⟨[], s.M⟩
    | .exc n fs s => .exc n fs ⟨[], s.M⟩) Q) : WantS K cl (fun cls dx _ H' => W cls dx H') ⟨H, β, F⟩ [] o { nx := fun _ H' => Q .non H', rt := Q } := by
  cases o with
  | fail => exact w
  | exc c fs s => exact body_want (o := .exc c fs s) hβ w
  | ok r s =>
    cases r with
    | brk => exact w.elim
    | ct => exact w.elim
    | nx => exact w.elim
    | ret d =>
      rcases ptr_or d with ⟨k, rfl⟩ | hd
      · simp only [finC] at w
        cases e : s.M[k]? with
        | none => rw [e] at w; exact w.elim
        | some z =>
          cases z with
          | none => rw [e] at w; exact w.elim
          | some x =>
            rw [e] at w
            dsimp only at w
            cases hc : (decide (n ≤ k) && cNp (s.M.take n) && x.np) with
            | false => rw [hc] at w; exact w.elim
            | true =>
              rw [hc] at w
              simp only [Bool.and_eq_true, decide_eq_true_eq] at hc
              intro v σ H' I
              obtain ⟨G, α, J⟩ := I
              exact w v H' (J.leaveC hc.1.1 e (by rw [hβ]; exact Nat.le_refl _) hc.1.2 hc.2)
      · have : finC n (.ok (.ret d) s) = .fail := by
          cases d <;> first | rfl | exact absurd rfl (hd _)
        rw [this] at w
        exact w.elim
end
section
variable {P : Program} {w : World} {K : PySem.W.Frag} {mg : Str → Option Value} {base : Heap} {cl : Str → Addr}
/-- THE RULE, for any reading of the body's end -/
theorem fn_GX {k : Nat} {f : Addr} {x qual : Str} {params : Arguments} {body : List Stmt} {scope : Scope} {dvs : List V} {kws : List (Str × V)} {fd : FuncData} {N ps : List Str} {g : M Fl} {sem : Sem} (F : FunD K x qual params body scope dvs kws f fd) (S : FnScope N ps scope)
    (hsem : ∀ {H : Hp} {W : XK} {G : Addr → Prop} {β : List Addr} {m : List C} {ds : List D} {Q : VK}, β.length = m.length → Want K cl (fun cls dx _ H' => W cls dx H') ⟨H, β, G⟩ [] [] (match sem m ds with
      | .fail => .fail
      | .ok d s => .ok d ⟨[], s.M⟩
      | .exc n fs s => .exc n fs ⟨[], s.M⟩) Q → WantS K cl (fun cls dx _ H' => W cls dx H') ⟨H, β, G⟩ [] (g ⟨ds.map some ++ List.replicate (N.length - ds.length) none, m.map some⟩) { nx := fun _ H' => Q .non H', rt := Q })
    (hbody : ∀ (cdv : Value) (A : Around) (outer : List Env) (s : Shared) (H : Hp) (E : XK), Cok (cxOf (L2.CX P w) P w K mg base N qual scope f cdv A outer s H E) (fun cls dx _ H' => E cls dx H') k →
      DSs (cxOf (L2.CX P w) P w K mg base N qual scope f cdv A outer s H E) cl (fun cls dx _ H' => E cls dx H') body g) : FnG P w K mg base cl (k + 1) f fd ps sem := by
  obtain ⟨oc, od, dV, kV, doc, pm, an, cdv, ct, osl, rfl, lk, hcd, _, _⟩ := F.ex
  refine ⟨fun A outer s H args us vs Q E hr hgd e0 hb r hl hsp => ?_⟩
  have KX : K.In s.heap := e0.mod.kin.keeps fun b o e => (e0.bs b o e).1
  have lim : s.heap.NoLimit := e0.mod.nolimit.keeps fun b o e => (e0.bs b o e).1
  have hkind : ∀ y ∈ ps.zip us, scope.names.lookup y.1 = some .local ∨ (scope.names.lookup y.1 = some .cell ∧ ((cellsFrom (s.heap.objs.size + 1) scope.names []).lookup y.1).isSome = true) := fun ⟨n, v⟩ hy =>
    (S.par n (List.of_mem_zip hy).1).elim .inl fun q => .inr ⟨q, PySem.W.cellsFrom_some _ _ _ (.inl q)⟩
  refine codeAny_call_function hr.depth (KX _ _ lk) rfl S.co S.gen rfl (PySem.W.codeRec_of KX hcd) (hb _ _ _ _ ?_)
  refine wpAny_newFunctionEnv_cells S.kind hkind fun env he s1 z => ?_
  subst he
  refine ⟨lim.keeps z.toInCall.keep, codeAny_func ?_⟩
  have cok : Cok (cxOf (L2.CX P w) P w K mg base N qual scope f cdv A outer s H E) (fun cls dx _ H' => E cls dx H') k :=
    ⟨takes_of rfl rfl rfl rfl, passes_of (X := cxOf (L2.CX P w) P w K mg base N qual scope f cdv A outer s H E) (K := fun e s'' => L2.CX P w outer H s E e s'') rfl, S.nd, rfl, hr.deeper _, guards_deeper hgd⟩
  obtain ⟨ts, pt, hq⟩ := hbody cdv A outer s H E cok
  have I : Inv (cxOf (L2.CX P w) P w K mg base N qual scope f cdv A outer s H E) [] (start N vs) H s1 := inv_start S hr.hd e0 hl r z
  obtain ⟨G, β, m, ds, hdl, J, wn⟩ := hsp
  have hβ : β.length = m.length := by
    have := J.len
    rw [this]; show (m.map some).length = m.length
    rw [List.length_map]
  have start_want := hsem hβ wn
  have main := hq ⟨H, β, G⟩ (start N vs) _ [] H { nx := fun _ H' => Q .non H', rt := Q } (start_SI hdl J) start_want
  refine wpAny_mono (pt.run [] s1 (start N vs) H _ I main) (fun fl s' hs => ?_) fun e s' hs => hs
  have ends : ∀ {σ' : L2.St} {H' : Hp} {v : V} {u : Value}, Inv (cxOf (L2.CX P w) P w K mg base N qual scope f cdv A outer s H E) [] σ' H' s' → RelV v u → Q v H' → CE outer P w H s Q u s' :=
    fun {σ' H' v u} J rv q => ⟨v, H', J.os, J.bare, J.base, J.hok, rv, q⟩
  cases fl with
  | ret u =>
    obtain ⟨v, σ', H', J, rv, q⟩ := hs
    exact ends J rv q
  | next =>
    obtain ⟨σ', H', J, q⟩ := hs
    exact ends (v := V.non) (u := Value.none) J rfl q
  | brk => exact hs.elim fun _ h => h.elim fun _ h => h.2.elim
  | cont => exact hs.elim fun _ h => h.elim fun _ h => h.2.elim
theorem fn_GC {k : Nat} {f : Addr} {x qual : Str} {params : Arguments} {body : List Stmt} {scope : Scope} {dvs : List V} {kws : List (Str × V)} {fd : FuncData} {N ps : List Str} {g : M Fl} (F : FunD K x qual params body scope dvs kws f fd) (S : FnScope N ps scope)
    (hbody : ∀ (cdv : Value) (A : Around) (outer : List Env) (s : Shared) (H : Hp) (E : XK), Cok (cxOf (L2.CX P w) P w K mg base N qual scope f cdv A outer s H E) (fun cls dx _ H' => E cls dx H') k →
      DSs (cxOf (L2.CX P w) P w K mg base N qual scope f cdv A outer s H E) cl (fun cls dx _ H' => E cls dx H') body g) : FnG P w K mg base cl (k + 1) f fd ps (runC N.length g) :=
  fn_GX F S (fun hβ wn => body_wantC hβ wn) hbody
end
/-! ### the call -/
def callSC (io : List Bool) (sem : Sem) (ds : List D) (s : S) : Out D := match prep s.M io ds 0 with
  | none => .fail
  | some p => if p.ks.Nodup ∧ (∀ k ∈ p.ls, k ∉ p.ks) then
      match sem p.m p.ds with
      | .fail => .fail
      | .ok d s' => match s'.M[p.ks.length]? with
        | some (some x) => if x.np && cNp (s'.M.take p.ks.length) && (p.ls.isEmpty || (x.nm && cNm (s'.M.take p.ks.length))) then .ok (.ptr s.M.length) { s with M := putC s.M p.ks s'.M ++ [some x] } else .fail
        | _ => .fail
      | .exc n fs s' => if npF fs && cNp (s'.M.take p.ks.length) && p.ls.isEmpty then .exc n fs { s with M := putC s.M p.ks s'.M } else .fail
    else .fail
section
variable {K : PySem.W.Frag} {cl : Str → Addr} {c : Cz} {H : Hp} {σ : L2.St} {s : S} {T T' : List (D × V)} {F : Addr → Prop} {α : List Addr}
theorem call_dspC {W : WX} {io : List Bool} {sem : Sem} {ds : List D} {vs : List V} {Q : VK} (I : SIx K cl c H σ s (zipT ds vs T) F α) (hl : ds.length = vs.length) (w : Want K cl W c σ T (callSC io sem ds s) Q)
    (hM : LenC sem) : dsp K cl sem vs H Q (fun cls dx H' => W cls dx σ H') := by
  unfold callSC at w
  cases hp : prep s.M io ds 0 with
  | none => rw [hp] at w; exact w.elim
  | some p =>
    rw [hp] at w
    dsimp only at w
    by_cases hc : p.ks.Nodup ∧ ∀ k ∈ p.ls, k ∉ p.ks
    · rw [if_pos hc] at w
      obtain ⟨hks, hls⟩ := hc
      obtain ⟨Fp, hFp, hkl, hlive, pl, hdl, J0, IT⟩ := call_pre I hl hp hks hls
      refine ⟨Fp, adrs α p.ks, p.m, p.ds, hdl, J0, ?_⟩
      cases hs : sem p.m p.ds with
      | fail => rw [hs] at w; exact w.elim
      | ok d s' =>
        rw [hs] at w
        dsimp only at w ⊢
        obtain ⟨x, hd, hlen, hx⟩ := hM.ok _ _ _ _ hs
        rw [pl] at hd hlen hx
        subst hd
        rw [hx] at w
        dsimp only at w
        cases hcond : (x.np && cNp (s'.M.take p.ks.length) && (p.ls.isEmpty || (x.nm && cNm (s'.M.take p.ks.length)))) with
        | false => rw [hcond] at w; exact w.elim
        | true =>
          rw [hcond] at w
          simp only [Bool.and_eq_true, Bool.or_eq_true] at hcond
          obtain ⟨⟨h1, h2⟩, h3⟩ := hcond
          intro v H' J
          obtain ⟨G, γ, J⟩ := J
          have JT : SIx K cl ⟨H, adrs α p.ks, Fp⟩ H' [] ⟨[], s'.M⟩ [] G γ := { J with tmp := fun q hq => by simp at hq }
          obtain ⟨F2, hF2, hG, hF2G, B⟩ := backX (T' := []) IT hks hkl hlive hFp JT (by omega) h2 (by
            rcases h3 with h3 | ⟨_, h4⟩
            · exact .inl (List.isEmpty_iff.mp h3)
            · exact .inr ⟨h4, fun q hq => by simp at hq⟩) fun q hq => by simp at hq
          have hr : Rep K cl H' G γ (.ptr p.ks.length) v := J.tmp (.ptr p.ks.length, v) (List.mem_cons_self ..)
          cases hr with
          | ptr ha =>
            rename_i a
            obtain ⟨rc, nG⟩ := J.cel _ x a hx ha
            have hβl : (adrs α p.ks).length = p.ks.length := by unfold adrs; rw [List.length_map]
            have hfresh : H a = none := by
              rcases J.inα a (List.mem_of_getElem? ha) with z | z
              · obtain ⟨j, hj⟩ := List.getElem?_of_mem z
                have hj' := (List.getElem?_eq_some_iff.mp hj).1
                rw [hβl] at hj'
                have e1 := J.pre j a hj
                have := (List.getElem?_inj (List.getElem?_eq_some_iff.mp e1).1 J.nd).mp (e1.trans ha.symm)
                omega
              · exact z
            have nα : a ∉ α := fun hm => by
              obtain ⟨o, ho⟩ := I.dom a hm
              rw [hfresh] at ho; cases ho
            have nF : ¬ F2 a := fun hf => by
              rcases hF2G a hf with hf | ⟨_, hf⟩
              · obtain ⟨o, ho⟩ := I.domF a hf
                rw [hfresh] at ho; cases ho
              · exact nG hf
            have old : a ∈ c.β ∨ c.H0 a = none := by
              cases q : c.H0 a with
              | none => exact .inr rfl
              | some u =>
                by_cases hm : a ∈ c.β
                · exact .inl hm
                · have := I.keep a u q hm
                  rw [hfresh] at this; cases this
            have rcx : RepC K cl H' F2 α a x := by
              rcases h3 with h3 | ⟨h3, _⟩
              · exact rc.np (hG (List.isEmpty_iff.mp h3)) h1
              · exact rc.nm h3
            have Z := SIx.addCell (x := x) B rcx nα nF old (J.dom a (List.mem_of_getElem? ha))
            have Z' : SI K cl c H' σ { s with M := putC s.M p.ks s'.M ++ [some x] } ((.ptr (putC s.M p.ks s'.M).length, .ref a) :: T) := Z
            rw [putC_len] at Z'
            exact w _ H' Z'
      | exc n fs s' =>
        rw [hs] at w
        dsimp only at w ⊢
        have hlen : p.ks.length ≤ s'.M.length := by rw [hM.exc _ _ _ _ _ hs, pl]; exact Nat.le_refl _
        cases hcond : (npF fs && cNp (s'.M.take p.ks.length) && p.ls.isEmpty) with
        | false => rw [hcond] at w; exact w.elim
        | true =>
          rw [hcond] at w
          simp only [Bool.and_eq_true] at hcond
          obtain ⟨⟨h1, h2⟩, h3⟩ := hcond
          intro dx H' hdx J
          refine w dx H' hdx (back (T' := xt fs dx) IT hks hkl hlive hFp (by rw [List.append_nil] at J; exact J) hlen h2 (.inl (List.isEmpty_iff.mp h3)) fun q hq => ?_)
          cases dx with
          | none => simp [xt] at hq
          | some a =>
            rw [List.mem_singleton.mp hq]
            show np (.xd fs) = true
            simp only [np]; exact h1
    · rw [if_neg hc] at w; exact w.elim
theorem callSC_len {io : List Bool} {sem : Sem} {ds : List D} {W : WX} {Q : VK} (w : Want K cl W c σ T (callSC io sem ds s) Q) : ds.length = io.length := by
  unfold callSC at w
  cases hp : prep s.M io ds 0 with
  | none => rw [hp] at w; exact w.elim
  | some p =>
    refine callS_len (s := s) (sem := fun _ _ => .ok .non ⟨[], []⟩) (io := io) (K := K) (cl := cl) (c := c) (σ := σ) (T := T) (W := W) (Q := fun _ _ => True) ?_
    unfold callS
    rw [hp] at w ⊢
    dsimp only at w ⊢
    by_cases hc : p.ks.Nodup ∧ ∀ k ∈ p.ls, k ∉ p.ks
    · rw [if_pos hc]
      have e : (np D.non && cNp (([] : List (Option C)).take p.ks.length) && (p.ls.isEmpty || (nm D.non && cNm (([] : List (Option C)).take p.ks.length)))) = true := by
        rw [List.take_nil]
        cases p.ls.isEmpty <;> rfl
      rw [e]
      exact fun _ _ _ => trivial
    · rw [if_neg hc] at w; exact w.elim
end
def eCallC (io : List Bool) (sem : Sem) (f : M (List D)) : M D := fun s => (f s).bind fun ds s => callSC io sem ds s
section
variable {X : Cx} {cl : Str → Addr} {W : WX} {k : Nat}
theorem de_callC {x : Str} {fa : Addr} {fd : FuncData} {ps : List Str} {sem : Sem} {io : List Bool} {e : Expr} {es : List Expr} {f : M (List D)} {p pos : Pos} (F : FnG X.prog X.w X.K X.mg X.base cl k fa fd ps sem) (hn : LenC sem) (hio : io.length = ps.length) (hc : Cok X W k)
    (hm : X.mg x = some (.ref fa)) (hk : PySem.W.keepIn X.K (.ref fa) = true) (hb : Binds X.K fd ps []) (ha : DA X cl W (e :: es) f) (hg : Gl X x := by rfl)
    (hdb : (x == ("__debug__" : Str)) = false := by decide) (he : starEach (e :: es) X.env = (false, eval e X.env) :: starEach es X.env := by rfl) (hpl : (backTo pos (starEach es X.env)).any (·.1) = false := by rfl) :
    DE X cl W (.Call (.Name x p) (e :: es) [] pos) (eCallC io sem f) := by
  obtain ⟨ta, pa, qa⟩ := ha
  refine ⟨fun σ H Q => ta σ H fun vs H1 => vs.length = ps.length ∧ dsp X.K cl sem vs H1 Q (fun cls dx H' => W cls dx σ H'), ⟨fun pins s σ H Q I h => ?_⟩, fun c σ s T H Q I w => ?_⟩
  · refine wpAny_Call_Name_kw (ld_glob I hg hm ?_ hdb)
    refine PySem.W.callWith_K (h₀ := X.base) I.ok.mod.kin hk (thn (pa.run pos pins s σ H _ I h) fun us s1 ⟨vs, H1, I1, r, hl, q⟩ => ⟨I1.kIn, ?_⟩) he hpl
    exact run_G (dvs := []) F hc hb I1 r hl q
  · refine qa c σ s T H _ I (w.bindA fun ds s1 _ w1 vs H1 hl I1 => ?_)
    obtain ⟨G, α, J⟩ := I1
    exact ⟨by rw [← hl, callSC_len w1, hio], call_dspC J hl w1 hn⟩
end
end DL

/-! DlN: methods of texts and lists; subscripts; slices; stores. -/
namespace DL
open PySem L2
open PySem.Spec PyProof.Rows

def strsD : List D → Option (List Str)
  | [] => some []
  | .str z :: ds => (strsD ds).map (z :: ·)
  | _ => none
def intsD : List D → Option (List Int)
  | [] => some []
  | .int z :: ds => (intsD ds).map (z :: ·)
  | _ => none
section
variable {K : PySem.W.Frag} {cl : Str → Addr} {H : Hp} {F : Addr → Prop} {α : List Addr}
theorem strsD_rep : ∀ {ds : List D} {vs : List V} {zs : List Str}, RepL K cl H F α ds vs → strsD ds = some zs → vs = zs.map V.str
  | _, _, _, .nil, h => by simp [strsD] at h; subst h; rfl
  | _, _, _, .cons (d := d) (ds := ds) r t, h => by
    cases d <;> first | (simp [strsD] at h; done) | skip
    simp only [strsD] at h
    obtain ⟨bs, h1, rfl⟩ := Option.map_eq_some_iff.mp h
    cases r
    rw [strsD_rep t h1]; rfl
theorem intsD_rep : ∀ {ds : List D} {vs : List V} {zs : List Int}, RepL K cl H F α ds vs → intsD ds = some zs → vs = zs.map V.int
  | _, _, _, .nil, h => by simp [intsD] at h; subst h; rfl
  | _, _, _, .cons (d := d) (ds := ds) r t, h => by
    cases d <;> first | (simp [intsD] at h; done) | skip
    simp only [intsD] at h
    obtain ⟨bs, h1, rfl⟩ := Option.map_eq_some_iff.mp h
    cases r
    rw [intsD_rep t h1]; rfl
theorem rep_strs : ∀ zs : List Str, RepL K cl H F α (zs.map D.str) (zs.map V.str)
  | [] => .nil
  | _ :: zs => .cons .str (rep_strs zs)
theorem rep_ints : ∀ zs : List Int, RepL K cl H F α (zs.map D.int) (zs.map V.int)
  | [] => .nil
  | _ :: zs => .cons .int (rep_ints zs)
end
/-! ### the receiver's type -/
def tyN : D → Option String
  | .str _ => some "str"
  | .lst _ => some "list"
  | .slst _ => some "list"
  | .dct _ => some "dict"
  | .dcu _ => some "dict"
  | _ => none
theorem tyN_rep {K : PySem.W.Frag} {cl : Str → Addr} {H : Hp} {F : Addr → Prop} {α : List Addr} {d : D} {v : V} {t : String} (r : Rep K cl H F α d v) (h : tyN d = some t) : tyV K t v H := by
  cases r <;> simp [tyN] at h <;> subst h
  · rfl
  · rename_i h _ _; exact .inl ⟨rfl, _, SqL.of h⟩
  · rename_i h _ _; exact .inl ⟨rfl, _, .inl h⟩
  · rename_i h _; exact .inl ⟨rfl, _, h H⟩
  · rename_i h _ _; exact .inr (.inr (.inl ⟨rfl, .inl ⟨_, h⟩⟩))
  · rename_i h _ _; exact .inr (.inr (.inl ⟨rfl, .inr ⟨_, h⟩⟩))
theorem tyN_view {K : PySem.W.Frag} {cl : Str → Addr} {c : Cz} {H : Hp} {σ : L2.St} {s : S} {T : List (D × V)} {F : Addr → Prop} {α : List Addr} {d : D} {v : V} {t : String} (J : SIx K cl c H σ s T F α) (r : Rep K cl H F α d v) (h : tyN (view s.M d) = some t) : tyV K t v H := by
  rcases J.view r with r | ⟨k, x, a, _, rfl, _, _, e2, rc⟩
  · exact tyN_rep r h
  · rw [e2] at h
    cases x <;> simp [C.dat, tyN] at h <;> subst h
    · obtain ⟨vs, h1, _⟩ := rc; exact .inl ⟨rfl, _, SqL.of h1⟩
    · obtain ⟨vs, h1, _⟩ := rc; exact .inr (.inr (.inl ⟨rfl, .inl ⟨_, h1⟩⟩))
    · obtain ⟨vs, h1, _⟩ := rc; exact .inr (.inr (.inl ⟨rfl, .inr ⟨_, h1⟩⟩))

/-! ### methods that read -/
structure MD (X : Cx) (cl : Str → Addr) (id : String) (g : D → List D → Option D) : Prop where
  ex : ∃ r, MtR X id r ∧ ∀ c σ s T H d v ds vs z Q, ds.length = vs.length → SI X.K cl c H σ s (zipT ds vs ((d, v) :: T)) → g (view s.M d) (ds.map (view s.M)) = some z → (∀ v' H', SI X.K cl c H' σ s ((z, v') :: zipT ds vs ((d, v) :: T)) → Q v' H') → r v vs H Q
/-- .. that write their cell -/
structure MC (X : Cx) (cl : Str → Addr) (id : String) (g : C → List D → Option (D × C)) : Prop where
  ex : ∃ r, MtM X id r ∧ ∀ c σ s T H k x v ds vs z y Q, ds.length = vs.length → SI X.K cl c H σ s (zipT ds vs ((.ptr k, v) :: T)) → s.M[k]? = some (some x) → g x ds = some (z, y) → (∀ v' H', SI X.K cl c H' σ { s with M := s.M.set k (some y) } ((z, v') :: zipT ds vs ((.ptr k, v) :: T)) → Q v' H') → r v vs H Q
def eBM (t : String) (g : D → List D → Option D) (fo : M D) (fa : M (List D)) : M D := fun s => (fo s).bind fun d s1 => if tyN (view s1.M d) = some t then (fa s1).bind fun ds s2 => oOf (g (view s2.M d) (ds.map (view s2.M))) s2 else .fail
def eBM0 (t : String) (g : D → List D → Option D) (fo : M D) : M D := fun s => (fo s).bind fun d s1 => if tyN (view s1.M d) = some t then oOf (g (view s1.M d) []) s1 else .fail
def oC (k : Nat) (o : Option (D × C)) (s : S) : Out D := match o with
  | some (z, y) => .ok z { s with M := s.M.set k (some y) }
  | none => .fail
def onC (g : C → List D → Option (D × C)) (d : D) (ds : List D) (s : S) : Out D := match d with
  | .ptr k => match s.M[k]? with
    | some (some x) => oC k (g x ds) s
    | _ => .fail
  | _ => .fail
def eCM (t : String) (g : C → List D → Option (D × C)) (fo : M D) (fa : M (List D)) : M D := fun s => (fo s).bind fun d s1 => if tyN (view s1.M d) = some t then (fa s1).bind fun ds s2 => onC g d ds s2 else .fail
def eCM0 (t : String) (g : C → List D → Option (D × C)) (fo : M D) : M D := fun s => (fo s).bind fun d s1 => if tyN (view s1.M d) = some t then onC g d [] s1 else .fail
section
variable {X : Cx} {cl : Str → Addr} {W : WX} {o e : Expr} {es : List Expr} {fo : M D} {fa : M (List D)} {name : Str} {apos cpos : Pos} {t id : String} {g : D → List D → Option D} {gc : C → List D → Option (D × C)}
theorem de_bm (pa : PlainAttrs t) (slot : Slot t name id) (hty : typeOf (.builtin id) = pure (.type "method_descriptor")) (hm : MD X cl id g) (ho : DE X cl W o fo) (ha : DA X cl W (e :: es) fa)
    (hbase : attributeBase o name X.env (eval o X.env) = eval o X.env := by rfl)
    (hfew : ((backTo cpos (starEach (e :: es) X.env)).all (fun x => !x.1) && (backToKw cpos (keywordEach [] X.env)).all (fun x => x.1.isSome)
      && decide ((e :: es).length + ([] : List Keyword).length + (if ([] : List Keyword).isEmpty then 0 else 1) < 30)) = true := by rfl)
    (hline : (apos.endLine == cpos.line) = true := by rfl) (hs : starEach (e :: es) X.env = (false, eval e X.env) :: starEach es X.env := by rfl) (hplain : (backTo cpos (starEach es X.env)).any (·.1) = false := by rfl) :
    DE X cl W (.Call (.Attribute o name apos) (e :: es) [] cpos) (eBM t g fo fa) := by
  obtain ⟨to, po, qo⟩ := ho
  obtain ⟨ta, pp, qa⟩ := ha
  obtain ⟨r, hr, q⟩ := hm
  refine ⟨_, pe_bm pa slot hty hr po pp hbase hfew hline hs hplain, fun c σ s T H Q I w => ?_⟩
  refine qo c σ s T H _ I (w.bind fun d s1 _ w1 v H1 I1 => ?_)
  split at w1
  · rename_i ht
    obtain ⟨F, α, J⟩ := _root_.id I1
    refine ⟨tyN_view J (J.tmp (d, v) (List.mem_cons_self ..)) ht, ?_⟩
    refine qa c σ s1 _ H1 _ I1 ((w1.deeper fun p hp => List.mem_cons_of_mem _ hp).bindA fun ds s2 _ w2 vs H2 hl I2 => ?_)
    unfold oOf at w2
    split at w2
    · rename_i z hz
      exact q c σ s2 T H2 d v ds vs z Q hl I2 hz fun v' H' I' => w2 v' H' I'.unzip
    · exact w2.elim
  · exact w1.elim
theorem de_bm0 (pa : PlainAttrs t) (slot : Slot t name id) (hty : typeOf (.builtin id) = pure (.type "method_descriptor")) (hm : MD X cl id g) (ho : DE X cl W o fo)
    (hbase : attributeBase o name X.env (eval o X.env) = eval o X.env := by rfl) (hline : (apos.endLine == cpos.line) = true := by rfl) : DE X cl W (.Call (.Attribute o name apos) [] [] cpos) (eBM0 t g fo) := by
  obtain ⟨to, po, qo⟩ := ho
  obtain ⟨r, hr, q⟩ := hm
  refine ⟨_, pe_bm0 pa slot hty hr po hbase hline, fun c σ s T H Q I w => ?_⟩
  refine qo c σ s T H _ I (w.bind fun d s1 _ w1 v H1 I1 => ?_)
  split at w1
  · rename_i ht
    obtain ⟨F, α, J⟩ := _root_.id I1
    refine ⟨tyN_view J (J.tmp (d, v) (List.mem_cons_self ..)) ht, ?_⟩
    unfold oOf at w1
    split at w1
    · rename_i z hz
      exact q c σ s1 T H1 d v [] [] z Q rfl I1 hz fun v' H' I' => w1 v' H' (I'.sub fun p hp => (List.mem_cons.mp hp).elim (fun e => e ▸ List.mem_cons_self ..) fun hp => List.mem_cons_of_mem _ (List.mem_cons_of_mem _ hp))
    · exact w1.elim
  · exact w1.elim
theorem de_cm (pa : PlainAttrs t) (slot : Slot t name id) (hty : typeOf (.builtin id) = pure (.type "method_descriptor")) (hm : MC X cl id gc) (ho : DE X cl W o fo) (ha : DA X cl W (e :: es) fa)
    (hbase : attributeBase o name X.env (eval o X.env) = eval o X.env := by rfl)
    (hfew : ((backTo cpos (starEach (e :: es) X.env)).all (fun x => !x.1) && (backToKw cpos (keywordEach [] X.env)).all (fun x => x.1.isSome)
      && decide ((e :: es).length + ([] : List Keyword).length + (if ([] : List Keyword).isEmpty then 0 else 1) < 30)) = true := by rfl)
    (hline : (apos.endLine == cpos.line) = true := by rfl) (hs : starEach (e :: es) X.env = (false, eval e X.env) :: starEach es X.env := by rfl) (hplain : (backTo cpos (starEach es X.env)).any (·.1) = false := by rfl) :
    DE X cl W (.Call (.Attribute o name apos) (e :: es) [] cpos) (eCM t gc fo fa) := by
  obtain ⟨to, po, qo⟩ := ho
  obtain ⟨ta, pp, qa⟩ := ha
  obtain ⟨r, hr, q⟩ := hm
  refine ⟨_, pe_bm pa slot hty hr po pp hbase hfew hline hs hplain, fun c σ s T H Q I w => ?_⟩
  refine qo c σ s T H _ I (w.bind fun d s1 _ w1 v H1 I1 => ?_)
  split at w1
  · rename_i ht
    obtain ⟨F, α, J⟩ := _root_.id I1
    refine ⟨tyN_view J (J.tmp (d, v) (List.mem_cons_self ..)) ht, ?_⟩
    refine qa c σ s1 _ H1 _ I1 ((w1.deeper fun p hp => List.mem_cons_of_mem _ hp).bindA fun ds s2 _ w2 vs H2 hl I2 => ?_)
    rcases ptr_or d with ⟨k, rfl⟩ | hd
    · simp only [onC] at w2
      cases hk : s2.M[k]? with
      | none => rw [hk] at w2; exact w2.elim
      | some ox =>
        cases ox with
        | none => rw [hk] at w2; exact w2.elim
        | some x =>
          rw [hk] at w2
          dsimp only at w2
          cases hg : gc x ds with
          | none => rw [hg] at w2; exact w2.elim
          | some zy =>
            rw [hg] at w2
            obtain ⟨z, y⟩ := zy
            exact q c σ s2 T H2 k x v ds vs z y Q hl I2 hk hg fun v' H' I' => w2 v' H' I'.unzip
    · have : onC gc d ds s2 = .fail := by cases d <;> first | rfl | exact absurd rfl (hd _)
      rw [this] at w2
      exact w2.elim
  · exact w1.elim
theorem de_cm0 (pa : PlainAttrs t) (slot : Slot t name id) (hty : typeOf (.builtin id) = pure (.type "method_descriptor")) (hm : MC X cl id gc) (ho : DE X cl W o fo)
    (hbase : attributeBase o name X.env (eval o X.env) = eval o X.env := by rfl) (hline : (apos.endLine == cpos.line) = true := by rfl) : DE X cl W (.Call (.Attribute o name apos) [] [] cpos) (eCM0 t gc fo) := by
  obtain ⟨to, po, qo⟩ := ho
  obtain ⟨r, hr, q⟩ := hm
  refine ⟨_, pe_bm0 pa slot hty hr po hbase hline, fun c σ s T H Q I w => ?_⟩
  refine qo c σ s T H _ I (w.bind fun d s1 _ w2 v H1 I1 => ?_)
  split at w2
  · rename_i ht
    obtain ⟨F, α, J⟩ := _root_.id I1
    refine ⟨tyN_view J (J.tmp (d, v) (List.mem_cons_self ..)) ht, ?_⟩
    rcases ptr_or d with ⟨k, rfl⟩ | hd
    · simp only [onC] at w2
      cases hk : s1.M[k]? with
      | none => rw [hk] at w2; exact w2.elim
      | some ox =>
        cases ox with
        | none => rw [hk] at w2; exact w2.elim
        | some x =>
          rw [hk] at w2
          dsimp only at w2
          cases hg : gc x [] with
          | none => rw [hg] at w2; exact w2.elim
          | some zy =>
            rw [hg] at w2
            obtain ⟨z, y⟩ := zy
            exact q c σ s1 T H1 k x v [] [] z y Q rfl I1 hk hg fun v' H' I' => w2 v' H' (I'.sub fun p hp => (List.mem_cons.mp hp).elim (fun e => e ▸ List.mem_cons_self ..) fun hp => List.mem_cons_of_mem _ (List.mem_cons_of_mem _ hp))
    · have : onC gc d [] s1 = .fail := by cases d <;> first | rfl | exact absurd rfl (hd _)
      rw [this] at w2
      exact w2.elim
  · exact w2.elim
end
end DL

/-! DlO: the methods one by one; subscripts; slices; stores. -/
namespace DL
open PySem L2
open PySem.Spec PyProof.Rows

section
variable {K : PySem.W.Frag} {cl : Str → Addr} {c : Cz} {H : Hp} {σ : L2.St} {s : S} {T : List (D × V)} {F : Addr → Prop} {α : List Addr}
/-- a cell's list, and the same cell written -/
theorem SIx.cellL {k : Nat} {v : V} {xs : List D} (J : SIx K cl c H σ s T F α) (r : Rep K cl H F α (.ptr k) v) (hk : s.M[k]? = some (some (.lst xs))) :
    ∃ a vs, v = .ref a ∧ H a = some (.lst vs) ∧ RepL K cl H F α xs vs ∧ ∀ ys ws z u, RepL K cl H F α ys ws → Rep K cl H F α z u → SI K cl c (upd H a (.lst ws)) σ { s with M := s.M.set k (some (.lst ys)) } ((z, u) :: T) := by
  cases r with
  | ptr ha =>
    rename_i a
    obtain ⟨⟨vs, h1, rl⟩, nF⟩ := J.cel k _ a hk ha
    refine ⟨a, vs, rfl, h1, rl, fun ys ws z u ry rz => ?_⟩
    have e := ext_set (o := .lst ws) J hk ha
    exact ⟨F, α, (J.setCell (y := .lst ys) hk ha fun e => ⟨ws, upd_same, ry.ext e⟩).push (rz.ext e)⟩
end
def le1m (n : Nat) : Bool := decide (n ≤ 1000000)
theorem le1m_ok {n : Nat} (h : le1m n = true) : n ≤ sizeLine := line1m (of_decide_eq_true h)
theorem lt1m {n : Nat} (h : n < 1000000) : n < sizeLine := by
  have e : sizeLine = sizeLine := rfl
  have := line1m (n := n + 1) (by omega)
  omega
section
variable {X : Cx} {cl : Str → Addr}
def g0 (g : D → Option D) : D → List D → Option D := fun d ds => match ds with
  | [] => g d
  | _ => none
def g1m (g : D → D → Option D) : D → List D → Option D := fun d ds => match ds with
  | [e] => g d e
  | _ => none
theorem MD.none {id : String} {g : D → Option D} {r : V → List V → Hp → VK → Prop} (hr : MtR X id r) (q : ∀ c σ s T H F α d v z Q, SIx X.K cl c H σ s ((d, v) :: T) F α → g (view s.M d) = some z → (∀ v' H', SI X.K cl c H' σ s ((z, v') :: (d, v) :: T) → Q v' H') → r v [] H Q) : MD X cl id (g0 g) := by
  refine ⟨r, hr, fun c σ s T H d v ds vs z Q hl I hz k => ?_⟩
  match ds, vs, hl with
  | [], [], _ =>
    obtain ⟨F, α, J⟩ := _root_.id I
    exact q c σ s T H F α d v z Q J hz k
  | _ :: _, _, _ => cases hz
theorem MD.one {id : String} {g : D → D → Option D} {r : V → List V → Hp → VK → Prop} (hr : MtR X id r) (q : ∀ c σ s T H F α d v e u z Q, SIx X.K cl c H σ s ((e, u) :: (d, v) :: T) F α → g (view s.M d) (view s.M e) = some z → (∀ v' H', SI X.K cl c H' σ s ((z, v') :: (e, u) :: (d, v) :: T) → Q v' H') → r v [u] H Q) : MD X cl id (g1m g) := by
  refine ⟨r, hr, fun c σ s T H d v ds vs z Q hl I hz k => ?_⟩
  match ds, vs, hl with
  | [e], [u], _ =>
    obtain ⟨F, α, J⟩ := _root_.id I
    exact q c σ s T H F α d v e u z Q J hz k
  | [], _, _ => cases hz
  | _ :: _ :: _, _, _ => cases hz
/-- sep.join(..) -/
def dJoin : D → D → Option D := fun d e => match d with
  | .str a => match (seqD e).bind strsD with
    | some ys => if (ys.map (·.length)).sum + ys.length * a.length ≤ 16777216 then some (.str (Txt.join a ys)) else none
    | none => none
  | _ => none
theorem md_join : MD X cl "str.join" (g1m dJoin) := by
  refine MD.one mt_join fun c σ s T H F α d v e u z Q J hz k => ?_
  unfold dJoin at hz
  split at hz
  · rename_i a ea
    split at hz
    · rename_i ys hy
      split at hz
      · rename_i hb
        cases hz
        obtain ⟨xs, h1, h2⟩ := Option.bind_eq_some_iff.mp hy
        obtain ⟨p, vs, ev, h3, rl⟩ := J.vSeq (J.tmp (e, u) (List.mem_cons_self ..)) h1
        have ev : u = .ref p := ev
        subst ev
        have h4 := strsD_rep rl h2
        subst h4
        exact ⟨a, p, ys, J.t2s ea, rfl, h3, hb, k _ H (SI.flat rfl ⟨F, α, J⟩)⟩
      · cases hz
    · cases hz
  · cases hz
/-- texts, a text given -/
def dSS (g : Str → Str → Option D) : D → D → Option D
  | .str a, .str b => g a b
  | _, _ => none
theorem dSS_some {g : Str → Str → Option D} {d e z : D} (h : dSS g d e = some z) : ∃ a b, d = .str a ∧ e = .str b ∧ g a b = some z := by
  unfold dSS at h
  split at h
  · exact ⟨_, _, rfl, rfl, h⟩
  · cases h
theorem md_count : MD X cl "str.count" (g1m (dSS fun a b => some (.int (Txt.count a b)))) := by
  refine MD.one mt_count fun c σ s T H F α d v e u z Q J hz k => ?_
  obtain ⟨a, b, e1, e2, h⟩ := dSS_some hz
  cases h
  exact ⟨a, b, J.t2s e1, by rw [J.t1s e2], k _ H (SI.flat rfl ⟨F, α, J⟩)⟩
def dSplit (a b : Str) : Option D := if (b.length == 0) = false ∧ le1m (a.length + 2) = true then some (.lst ((Txt.split a b).map .str)) else none
theorem md_split : MD X cl "str.split" (g1m (dSS dSplit)) := by
  refine MD.one mt_split fun c σ s T H F α d v e u z Q J hz k => ?_
  obtain ⟨a, b, e1, e2, h⟩ := dSS_some hz
  unfold dSplit at h
  split at h
  · rename_i hc
    cases h
    exact ⟨a, b, J.t2s e1, by rw [J.t1s e2], hc.1, le1m_ok hc.2, fun p hp => k _ _ (J.lstNew hp (rep_strs _))⟩
  · cases h
/-! lists in cells -/
def cAppend : C → List D → Option (D × C)
  | .lst xs, [d] => if xs.length < 1000000 then some (.non, .lst (xs ++ [d])) else none
  | _, _ => none
theorem mc_append : MC X cl "list.append" cAppend := by
  refine ⟨_, mt_append, fun c σ s T H k x v ds vs z y Q hl I hk hg w => ?_⟩
  unfold cAppend at hg
  split at hg
  · rename_i xs d
    split at hg
    · rename_i hlt
      cases hg
      match vs, hl with
      | [u], _ =>
        obtain ⟨F, α, J⟩ := _root_.id I
        obtain ⟨a, ws, rfl, h1, rl, st⟩ := J.cellL (J.tmp (.ptr k, v) (List.mem_cons_of_mem _ (List.mem_cons_self ..))) hk
        refine ⟨a, ws, u, rfl, rfl, h1, by rw [← rl.length]; exact lt1m hlt, ?_⟩
        exact w _ _ (st _ _ _ _ (rl.append (.cons (J.tmp (d, u) (List.mem_cons_self ..)) .nil)) .non)
    · cases hg
  · cases hg
def cPop : C → List D → Option (D × C)
  | .lst xs, [] => (xs[xs.length - 1]?).map fun y => (y, .lst xs.dropLast)
  | _, _ => none
theorem mc_pop : MC X cl "list.pop" cPop := by
  refine ⟨_, mt_pop, fun c σ s T H k x v ds vs z y Q hl I hk hg w => ?_⟩
  unfold cPop at hg
  split at hg
  · rename_i xs
    obtain ⟨q, h2, h3⟩ := Option.map_eq_some_iff.mp hg
    cases h3
    match vs, hl with
    | [], _ =>
      obtain ⟨F, α, J⟩ := _root_.id I
      obtain ⟨a, ws, rfl, h1, rl, st⟩ := J.cellL (J.tmp (.ptr k, v) (List.mem_cons_self ..)) hk
      obtain ⟨u, h4, r4⟩ := rl.get h2
      refine ⟨a, ws, u, rfl, rfl, h1, by rw [← rl.length]; exact h4, w _ _ (st _ _ _ _ rl.dropLast r4)⟩
  · cases hg
def cPopAt : C → List D → Option (D × C)
  | .lst xs, [.int i] => match ixN xs.length i with
    | some j => if xs.length ≤ 1000000 then (xs[j]?).map fun y => (y, .lst (xs.eraseIdx j)) else none
    | none => none
  | _, _ => none
theorem mc_popAt : MC X cl "list.pop" cPopAt := by
  refine ⟨_, mt_popAt, fun c σ s T H k x v ds vs z y Q hl I hk hg w => ?_⟩
  unfold cPopAt at hg
  split at hg
  · rename_i xs i
    split at hg
    · rename_i j hj
      split at hg
      · rename_i hm
        obtain ⟨q, h2, h3⟩ := Option.map_eq_some_iff.mp hg
        cases h3
        match vs, hl with
        | [u], _ =>
          obtain ⟨F, α, J⟩ := _root_.id I
          obtain ⟨a, ws, rfl, h1, rl, st⟩ := J.cellL (J.tmp (.ptr k, v) (List.mem_cons_of_mem _ (List.mem_cons_self ..))) hk
          have eu : u = .int i := J.t1i rfl
          subst eu
          obtain ⟨w4, h4, r4⟩ := rl.get h2
          obtain ⟨s1, s2, s3, s4⟩ := ixN_seq hj
          refine ⟨a, ws, i, j, w4, rfl, rfl, h1, by omega, by omega, by rw [← rl.length]; exact s1, h4, w _ _ (st _ _ _ _ (rl.eraseIdx j) r4)⟩
      · cases hg
    · cases hg
  · cases hg
def cClear : C → List D → Option (D × C)
  | .lst _, [] => some (.non, .lst [])
  | _, _ => none
theorem mc_clear : MC X cl "list.clear" cClear := by
  refine ⟨_, mt_clear, fun c σ s T H k x v ds vs z y Q hl I hk hg w => ?_⟩
  unfold cClear at hg
  split at hg
  · cases hg
    match vs, hl with
    | [], _ =>
      obtain ⟨F, α, J⟩ := _root_.id I
      obtain ⟨a, ws, rfl, h1, rl, st⟩ := J.cellL (J.tmp (.ptr k, v) (List.mem_cons_self ..)) hk
      exact ⟨a, ws, rfl, rfl, h1, w _ _ (st _ _ _ _ .nil .non)⟩
  · cases hg
/-- xs.remove(k), ints -/
def cRemove : C → List D → Option (D × C)
  | .lst xs, [.int i] => match intsD xs with
    | some ns => if i ∈ ns then some (.non, .lst ((ns.erase i).map .int)) else none
    | none => none
  | _, _ => none
theorem first_at {i : Int} : ∀ {ns : List Int}, i ∈ ns → ∃ j : Nat, ns[j]? = some i ∧ (∀ m : Nat, m < j → ns[m]? ≠ some i) ∧ ns.eraseIdx j = ns.erase i
  | n :: ns, h => by
    by_cases e : n = i
    · subst e
      exact ⟨0, rfl, fun m hm => by omega, by simp⟩
    · have h' : i ∈ ns := (List.mem_cons.mp h).elim (fun q => absurd q.symm e) _root_.id
      obtain ⟨j, h1, h2, h3⟩ := first_at h'
      refine ⟨j + 1, by simpa using h1, fun m hm => ?_, ?_⟩
      · cases m with
        | zero => simpa using e
        | succ m => simpa using h2 m (by omega)
      · rw [List.eraseIdx_cons_succ, h3, List.erase_cons_tail (by simpa using e)]
theorem mc_remove : MC X cl "list.remove" cRemove := by
  refine ⟨_, mt_remove, fun c σ s T H k x v ds vs z y Q hl I hk hg w => ?_⟩
  unfold cRemove at hg
  split at hg
  · rename_i xs i
    split at hg
    · rename_i ns hn
      split at hg
      · rename_i hm
        cases hg
        match vs, hl with
        | [u], _ =>
          obtain ⟨F, α, J⟩ := _root_.id I
          obtain ⟨a, ws, rfl, h1, rl, st⟩ := J.cellL (J.tmp (.ptr k, v) (List.mem_cons_of_mem _ (List.mem_cons_self ..))) hk
          have eu : u = .int i := J.t1i rfl
          subst eu
          have ew := intsD_rep rl hn
          subst ew
          obtain ⟨j, h2, h3, h4⟩ := first_at hm
          refine ⟨a, ns, i, j, rfl, rfl, h1, h2, h3, ?_⟩
          rw [h4]
          exact w _ _ (st _ _ _ _ (rep_ints _) .non)
      · cases hg
    · cases hg
  · cases hg
end

/-! ### subscripts -/
structure IxD (X : Cx) (cl : Str → Addr) (g : D → D → Option D) : Prop where
  ex : ∃ r, IxR X r ∧ ∀ c σ s T H d v e u z Q, SI X.K cl c H σ s ((e, u) :: (d, v) :: T) → g (view s.M d) (view s.M e) = some z → (∀ v' H', SI X.K cl c H' σ s ((z, v') :: (e, u) :: (d, v) :: T) → Q v' H') → r v u H Q
section
variable {X : Cx} {cl : Str → Addr} {W : WX} {g h : D → D → Option D}
theorem IxD.or (a : IxD X cl g) (b : IxD X cl h) : IxD X cl (orD g h) := by
  obtain ⟨r, hr, q⟩ := a
  obtain ⟨r', hr', q'⟩ := b
  refine ⟨_, hr.or hr', fun c σ s T H d v e u z Q I hz k => ?_⟩
  unfold orD at hz
  split at hz
  · rename_i z' e1
    cases hz
    exact .inl (q c σ s T H d v e u z Q I e1 k)
  · exact .inr (q' c σ s T H d v e u z Q I hz k)
theorem de_ix {a b : Expr} {fa fb : M D} {pos : Pos} (ho : IxD X cl g) (ha : DE X cl W a fa) (hb : DE X cl W b fb) (hs : PlainIx b := by intro _ _; rfl) : DE X cl W (.Subscript a b pos) (eOp g fa fb) := by
  obtain ⟨ta, pa, qa⟩ := ha
  obtain ⟨tb, pb, qb⟩ := hb
  obtain ⟨r, hr, q⟩ := ho
  refine ⟨_, pe_ix hr pa pb hs, fun c σ s T H Q I w => ?_⟩
  refine qa c σ s T H _ I (w.bind fun d s1 _ w1 v H1 I1 => ?_)
  refine qb c σ s1 _ H1 _ I1 ((w1.deeper fun p hp => List.mem_cons_of_mem _ hp).bind fun e s2 _ w2 u H2 I2 => ?_)
  unfold oOf at w2
  split at w2
  · rename_i z hz
    exact q c σ s2 T H2 d v e u z Q I2 hz fun v' H' I' => w2 v' H' I'.drop2
  · exact w2.elim
/-- xs[i] of a list (frozen, sealed, a cell), a tuple -/
def dIx : D → D → Option D
  | .lst xs, .int i => atI xs i
  | .slst xs, .int i => atI xs i
  | .tup xs, .int i => atI xs i
  | .kt xs, .int i => atI xs i
  | _, _ => none
theorem atI_rep {K : PySem.W.Frag} {H : Hp} {F : Addr → Prop} {α : List Addr} {ds : List D} {vs : List V} {i : Int} {d : D} (r : RepL K cl H F α ds vs) (h : atI ds i = some d) : ∃ v, atI vs i = some v ∧ Rep K cl H F α d v := by
  obtain ⟨j, h1, h2⟩ := Option.bind_eq_some_iff.mp h
  obtain ⟨v, h3, h4⟩ := r.get h2
  exact ⟨v, Option.bind_eq_some_iff.mpr ⟨j, by rw [← r.length]; exact h1, h3⟩, h4⟩
theorem dIx_some {d e z : D} (h : dIx d e = some z) : ∃ xs i, seqD d = some xs ∧ e = .int i ∧ atI xs i = some z := by
  unfold dIx at h
  split at h
  · exact ⟨_, _, rfl, rfl, h⟩
  · exact ⟨_, _, rfl, rfl, h⟩
  · exact ⟨_, _, rfl, rfl, h⟩
  · exact ⟨_, _, rfl, rfl, h⟩
  · cases h
theorem ixd_seq : IxD X cl dIx := by
  refine ⟨_, ix_seq, fun c σ s T H d v e u z Q I hz k => ?_⟩
  obtain ⟨F, α, J⟩ := _root_.id I
  obtain ⟨xs, i, h1, h2, h3⟩ := dIx_some hz
  obtain ⟨a, vs, ev, h4, rl⟩ := J.vSeq (J.tmp (d, v) (List.mem_cons_of_mem _ (List.mem_cons_self ..))) h1
  have ev : v = .ref a := ev
  subst ev
  have eu : u = .int i := J.t1i h2
  subst eu
  obtain ⟨w, h5, r5⟩ := atI_rep rl h3
  rcases h4 with h4 | h4
  · exact .inl ⟨a, vs, i, w, rfl, rfl, h4, h5, k _ H ⟨F, α, J.push r5⟩⟩
  · exact .inr (.inl ⟨a, vs, i, w, rfl, rfl, h4, h5, k _ H ⟨F, α, J.push r5⟩⟩)
/-- z[i] of a text -/
def dIxS : D → D → Option D
  | .str z, .int i => if le1m z.length = true then (atI z.cps.toList i).map fun c => .str ⟨#[c]⟩ else none
  | _, _ => none
theorem ixd_str : IxD X cl dIxS := by
  refine ⟨_, ix_str, fun c σ s T H d v e u z Q I hz k => ?_⟩
  obtain ⟨F, α, J⟩ := _root_.id I
  have key : ∀ d e z, dIxS d e = some z → ∃ y i ch, d = .str y ∧ e = .int i ∧ le1m y.length = true ∧ atI y.cps.toList i = some ch ∧ z = .str ⟨#[ch]⟩ := fun d e z h => by
    unfold dIxS at h
    split at h
    · split at h
      · rename_i hl
        obtain ⟨ch, h1, rfl⟩ := Option.map_eq_some_iff.mp h
        exact ⟨_, _, ch, rfl, rfl, hl, h1, rfl⟩
      · cases h
    · cases h
  obtain ⟨y, i, ch, e1, e2, h1, h2, rfl⟩ := key _ _ _ hz
  exact ⟨y, i, ch, J.t2s e1, J.t1i e2, le1m_ok h1, h2, k _ H (SI.flat rfl ⟨F, α, J⟩)⟩
/-! ### slices -/
/-- a bound -/
structure DO (X : Cx) (cl : Str → Addr) (W : WX) (e : Option Expr) (f : M (Option Int)) : Prop where
  ex : ∃ t, PO X e t ∧ ∀ c σ s T H (Q : Option Int → Hp → Prop), SI X.K cl c H σ s T → (match f s with
    | .fail => False
    | .ok b s' => ∀ H', SI X.K cl c H' σ s' T → Q b H'
    | .exc n fs s' => ∀ dx H', (dx = none → fs = []) → SI X.K cl c H' σ s' (xt fs dx ++ T) → W (.ref (cl n)) dx σ H') → t σ H Q
def oNone : M (Option Int) := fun s => .ok none s
def oSome (f : M D) : M (Option Int) := fun s => (f s).bind fun d s => match view s.M d with
  | .int i => .ok (some i) s
  | _ => .fail
theorem do_none : DO X cl W none oNone := ⟨_, po_none, fun c σ s T H Q I w => w H I⟩
theorem do_some {e : Expr} {f : M D} (h : DE X cl W e f) : DO X cl W (some e) (oSome f) := by
  obtain ⟨t, p, q⟩ := h
  refine ⟨_, po_some p, fun c σ s T H Q I w => ?_⟩
  refine q c σ s T H _ I ?_
  unfold oSome at w
  cases hf : f s with
  | fail => rw [hf] at w; exact w.elim
  | exc n fs s1 => rw [hf] at w; exact w
  | ok d s1 =>
    rw [hf] at w
    intro v H1 I1
    obtain ⟨F, α, J⟩ := _root_.id I1
    have w : (match (match view s1.M d with
      | .int i => Out.ok (some i) s1
      | _ => .fail) with
    | .fail => False
    | .ok b s' => ∀ H', SI X.K cl c H' σ s' T → Q b H'
    | .exc n fs s' => ∀ dx H', (dx = none → fs = []) → SI X.K cl c H' σ s' (xt fs dx ++ T) → W (.ref (cl n)) dx σ H') := w
    cases e : view s1.M d with
    | int i =>
      rw [e] at w
      exact ⟨i, J.t1i e, w H1 I1.pop⟩
    | _ => rw [e] at w; exact w.elim
structure SlD (X : Cx) (cl : Str → Addr) (g : D → Option Int → Option Int → Option D) : Prop where
  ex : ∃ r, SlR X r ∧ ∀ c σ s T H d v lo hi z Q, SI X.K cl c H σ s ((d, v) :: T) → g (view s.M d) lo hi = some z → (∀ v' H', SI X.K cl c H' σ s ((z, v') :: (d, v) :: T) → Q v' H') → r v lo hi H Q
def eSl (g : D → Option Int → Option Int → Option D) (f : M D) (lo hi : M (Option Int)) : M D := fun s => (f s).bind fun d s => (lo s).bind fun l s => (hi s).bind fun h s => oOf (g (view s.M d) l h) s
theorem de_slice {gs : D → Option Int → Option Int → Option D} {e : Expr} {lo hi : Option Expr} {fe : M D} {fl fh : M (Option Int)} {p2 pos : Pos} (hg : SlD X cl gs) (he : DE X cl W e fe) (hl : DO X cl W lo fl) (hh : DO X cl W hi fh) : DE X cl W (.Subscript e (.Slice lo hi none p2) pos) (eSl gs fe fl fh) := by
  obtain ⟨te, pe, qe⟩ := he
  obtain ⟨tl, pl, ql⟩ := hl
  obtain ⟨th, ph, qh⟩ := hh
  obtain ⟨r, hr, q⟩ := hg
  refine ⟨_, pe_slice hr pe pl ph, fun c σ s T H Q I w => ?_⟩
  refine qe c σ s T H _ I (w.bind fun d s1 _ w1 v H1 I1 => ?_)
  have w1 := w1.deeper (T' := (d, v) :: T) fun p hp => List.mem_cons_of_mem _ hp
  refine ql c σ s1 _ H1 _ I1 ?_
  cases hfl : fl s1 with
  | fail => rw [hfl] at w1; exact w1.elim
  | exc n fs s2 => rw [hfl] at w1; exact w1
  | ok l s2 =>
    rw [hfl] at w1
    intro H2 I2
    have w1 : Want X.K cl W c σ ((d, v) :: T) ((fh s2).bind fun h s => oOf (gs (view s.M d) l h) s) Q := w1
    refine qh c σ s2 _ H2 _ I2 ?_
    cases hfh : fh s2 with
    | fail => rw [hfh] at w1; exact w1.elim
    | exc n fs s3 => rw [hfh] at w1; exact w1
    | ok h s3 =>
      rw [hfh] at w1
      intro H3 I3
      have w1 : Want X.K cl W c σ ((d, v) :: T) (oOf (gs (view s3.M d) l h) s3) Q := w1
      unfold oOf at w1
      split at w1
      · rename_i z hz
        exact q c σ s3 T H3 d v l h z Q I3 hz w1
      · exact w1.elim
/-- of lists, tuples, texts -/
def cutD (xs : List D) (lo hi : Option Int) : List D := (xs.drop (HT.sIx xs.length 0 lo)).take (HT.sIx xs.length xs.length hi - HT.sIx xs.length 0 lo)
theorem cutD_rep {K : PySem.W.Frag} {H : Hp} {F : Addr → Prop} {α : List Addr} {ds : List D} {vs : List V} (r : RepL K cl H F α ds vs) (lo hi : Option Int) : RepL K cl H F α (cutD ds lo hi) (cutV vs lo hi) := by
  unfold cutD cutV
  rw [r.length]
  exact (r.drop _).take _
def dSl : D → Option Int → Option Int → Option D
  | .lst xs, lo, hi => some (.lst (cutD xs lo hi))
  | .slst xs, lo, hi => some (.lst (cutD xs lo hi))
  | .tup xs, lo, hi => some (.tup (cutD xs lo hi))
  | .str z, lo, hi => if le1m z.length = true then some (.str (cutS z lo hi)) else none
  | _, _, _ => none
theorem cut_whole {ds : List D} {lo hi : Option Int} (h : HT.sIx ds.length 0 lo = 0 ∧ HT.sIx ds.length ds.length hi = ds.length) : cutD ds lo hi = ds := by
  unfold cutD
  rw [h.1, h.2, List.drop_zero, Nat.sub_zero, List.take_length]
theorem sld : SlD X cl dSl := by
  refine ⟨_, (sl_list.or sl_tupN).or sl_str, fun c σ s T H d v lo hi z Q I hz k => ?_⟩
  obtain ⟨F, α, J⟩ := _root_.id I
  have r := J.tmp (d, v) (List.mem_cons_self ..)
  cases e : view s.M d with
  | lst xs =>
    rw [e] at hz
    cases hz
    obtain ⟨a, vs, ev, h1, rl⟩ := J.vLst r e
    have ev : v = .ref a := ev
    subst ev
    exact .inl (.inl ⟨a, vs, rfl, SqL.of h1, fun p hp => k _ _ (J.lstNew hp (cutD_rep rl lo hi))⟩)
  | slst xs =>
    rw [e] at hz
    cases hz
    obtain ⟨a, vs, ev, h1, rl⟩ := J.vSeqL r (by cases d <;> first | rfl | (cases e)) (show seqD (view s.M d) = some xs by rw [e]; rfl)
    have ev : v = .ref a := ev
    subst ev
    exact .inl (.inl ⟨a, vs, rfl, h1, fun p hp => k _ _ (J.lstNew hp (cutD_rep rl lo hi))⟩)
  | tup xs =>
    rw [e] at hz
    cases hz
    obtain ⟨a, vs, ev, h1, rl⟩ := J.vTupN r e
    have ev : v = .ref a := ev
    subst ev
    refine .inl (.inr ⟨a, vs, rfl, h1.1, fun hw => ?_, fun _ p hp o hd => k _ _ (J.tupNew hp hd (cutD_rep rl lo hi))⟩)
    rw [← rl.length] at hw
    rw [cut_whole hw] at k
    exact k _ H ⟨F, α, J.push (.tup h1 rl)⟩
  | str y =>
    rw [e] at hz
    simp only [dSl] at hz
    split at hz
    · rename_i hl
      cases hz
      exact .inr ⟨y, J.t1s e, le1m_ok hl, k _ H (SI.flat rfl ⟨F, α, J⟩)⟩
    · cases hz
  | _ => rw [e] at hz; cases hz
end
end DL

/-! DlP: assignment to any target; op=; what is never reached; sorted. -/
namespace DL
open PySem L2
open PySem.Spec PyProof.Rows

def WantG (K : PySem.W.Frag) (cl : Str → Addr) (W : WX) (c : Cz) (T : List (D × V)) (o : Out Unit) (Q : L2.St → Hp → Prop) : Prop := match o with
  | .fail => False
  | .ok _ s => ∀ σ H, SI K cl c H σ s T → Q σ H
  | .exc n fs s => ∀ dx σ H, (dx = none → fs = []) → SI K cl c H σ s (xt fs dx ++ T) → W (.ref (cl n)) dx σ H
theorem WantG.deeper {K : PySem.W.Frag} {cl : Str → Addr} {W : WX} {c : Cz} {T T' : List (D × V)} {o : Out Unit} {Q : L2.St → Hp → Prop} (h : WantG K cl W c T o Q) (hs : ∀ p ∈ T, p ∈ T') : WantG K cl W c T' o Q := by
  cases o with
  | fail => exact h
  | ok d s => exact fun σ H I => h σ H (I.sub hs)
  | exc n fs s => exact fun dx σ H e I => h dx σ H e (I.xt hs)
structure DH (X : Cx) (cl : Str → Addr) (W : WX) (tg : Expr) (g : D → M Unit) : Prop where
  ex : ∃ t, PG X tg t ∧ ∀ c σ s T H d v Q, SI X.K cl c H σ s ((d, v) :: T) → WantG X.K cl W c T (g d s) Q → t v σ H Q
structure DHs (X : Cx) (cl : Str → Addr) (W : WX) (tgs : List Expr) (g : List D → M Unit) : Prop where
  ex : ∃ t, PGs X tgs t ∧ ∀ c σ s T H ds vs Q, ds.length = vs.length → SI X.K cl c H σ s (zipT ds vs T) → WantG X.K cl W c T (g ds s) Q → t vs σ H Q
def hVar (i : Nat) (d : D) : M Unit := fun s => if i < s.env.length then .ok () { s with env := s.env.set i (some d) } else .fail
def hNone : List D → M Unit
  | [], s => .ok () s
  | _, _ => .fail
def hMore (g : D → M Unit) (h : List D → M Unit) : List D → M Unit
  | d :: ds, s => (g d s).bind fun _ s => h ds s
  | [], _ => .fail
def hTup (n : Nat) (g : List D → M Unit) : D → M Unit
  | .tup ds, s => if ds.length = n then g ds s else .fail
  | _, _ => .fail
/-- the items of a value list, from a tuple's -/
theorem RepL.zip {K : PySem.W.Frag} {cl : Str → Addr} {H : Hp} {F : Addr → Prop} {α : List Addr} : ∀ {ds : List D} {vs : List V}, RepL K cl H F α ds vs → ∀ {T : List (D × V)}, (∀ q ∈ T, Rep K cl H F α q.1 q.2) → ∀ q ∈ zipT ds vs T, Rep K cl H F α q.1 q.2
  | _, _, .nil, T, h, q, hq => h q hq
  | _, _, .cons r t, T, h, q, hq => RepL.zip t (fun q hq => (List.mem_cons.mp hq).elim (fun e => by subst e; exact r) (h q)) q hq
section
variable {X : Cx} {cl : Str → Addr} {W : WX}
theorem dh_name {i : Nat} {x : Str} {pos : Pos} (hN : X.N.Nodup) (hi : X.N[i]? = some x) (hx : Loc X.env.scope x) (hf : X.fn x = true ∨ X.env.scope.names.lookup x = some .local := by first | exact .inl rfl | exact .inr rfl | assumption) : DH X cl W (.Name x pos) (hVar i) := by
  refine ⟨_, pg_name hN hi hx hf, fun c σ s T H d v Q I w => ?_⟩
  unfold hVar at w
  by_cases hl : i < s.env.length
  · rw [if_pos hl] at w
    exact w _ _ (I.bind hl)
  · rw [if_neg hl] at w; exact w.elim
theorem dhs_nil : DHs X cl W [] hNone := by
  refine ⟨_, pgs_nil, fun c σ s T H ds vs Q hl I w => ?_⟩
  match ds, vs, hl with
  | [], [], _ => exact ⟨rfl, w σ H I⟩
  | _ :: _, _, _ => exact w.elim
theorem dhs_cons {e : Expr} {es : List Expr} {g : D → M Unit} {h : List D → M Unit} (h1 : DH X cl W e g) (h2 : DHs X cl W es h) (hs : (assignEach (e :: es) X.env).map (·.2) = assign e X.env :: (assignEach es X.env).map (·.2) := by rfl) : DHs X cl W (e :: es) (hMore g h) := by
  obtain ⟨t, p, q⟩ := h1
  obtain ⟨t2, p2, q2⟩ := h2
  refine ⟨_, pgs_cons p p2 hs, fun c σ s T H ds vs Q hl I w => ?_⟩
  match ds, vs, hl with
  | [], _, _ => exact w.elim
  | d :: ds, v :: vs, hl =>
    have hl' : ds.length = vs.length := by simpa using hl
    refine ⟨v, vs, rfl, ?_⟩
    have I1 : SI X.K cl c H σ s ((d, v) :: zipT ds vs T) := I.sub fun p hp => by
      have I0 : p ∈ zipT ds vs ((d, v) :: T) := by
        rcases List.mem_cons.mp hp with e | hp
        · exact zipT_sub _ _ _ _ (e ▸ List.mem_cons_self ..)
        · revert hp
          have key : ∀ (ds : List D) (vs : List V) (T T' : List (D × V)), (∀ p ∈ T, p ∈ T') → ∀ p ∈ zipT ds vs T, p ∈ zipT ds vs T' := by
            intro ds
            induction ds with
            | nil => intro vs T T' h p hp; exact h p hp
            | cons d ds ih =>
              intro vs T T' h p hp
              cases vs with
              | nil => exact h p hp
              | cons v vs => exact ih vs _ _ (fun p hp => (List.mem_cons.mp hp).elim (fun e => e ▸ List.mem_cons_self ..) fun hp => List.mem_cons_of_mem _ (h p hp)) p hp
          exact key ds vs T _ (fun p hp => List.mem_cons_of_mem _ hp) p
      exact I0
    refine q c σ s _ H d v _ I1 ?_
    have w : WantG X.K cl W c T ((g d s).bind fun _ s => h ds s) Q := w
    cases hg : g d s with
    | fail => rw [hg] at w; exact w.elim
    | exc n fs s1 => rw [hg] at w; exact WantG.deeper (o := .exc n fs s1) (Q := fun _ _ => True) (show WantG X.K cl W c T (.exc n fs s1) _ from w) (zipT_sub ds vs T)
    | ok u s1 =>
      rw [hg] at w
      intro σ1 H1 I2
      exact q2 c σ1 s1 T H1 ds vs Q hl' I2 w
theorem dh_tup {es : List Expr} {k n : Nat} {pos : Pos} {g : List D → M Unit} (hc : X.calm = true) (h : DHs X cl W es g) (hn : (assignEach es X.env).length = n := by rfl) (hst : (assignEach es X.env).findIdx? (·.1) = none := by rfl) : DH X cl W (.Tuple es k pos) (hTup n g) := by
  obtain ⟨t, p, q⟩ := h
  refine ⟨_, pg_tup hc p hn hst, fun c σ s T H d v Q I w => ?_⟩
  cases d with
  | tup ds =>
    obtain ⟨F, α, J⟩ := _root_.id I
    obtain ⟨a, vs, ev, h1, rl⟩ := J.vTup (J.tmp (.tup ds, v) (List.mem_cons_self ..)) rfl
    have ev : v = .ref a := ev
    simp only [hTup] at w
    by_cases hl : ds.length = n
    · rw [if_pos hl] at w
      exact ⟨a, vs, ev, h1, by rw [← rl.length]; exact hl, q c σ s T H ds vs Q rl.length ⟨F, α, J.temps (rl.zip fun q hq => J.tmp q (List.mem_cons_of_mem _ hq))⟩ w⟩
    · rw [if_neg hl] at w; exact w.elim
  | _ => exact w.elim
/-- o[i] = .. -/
structure StD (X : Cx) (cl : Str → Addr) (g : C → D → D → Option C) : Prop where
  ex : ∃ r, PSet X r ∧ ∀ c σ s T H k x v e u d w y Q, SI X.K cl c H σ s ((e, u) :: (.ptr k, v) :: (d, w) :: T) → s.M[k]? = some (some x) → g x e d = some y → (∀ H', SI X.K cl c H' σ { s with M := s.M.set k (some y) } T → Q H') → r v u w H Q
def stC (g : C → D → D → Option C) (o i d : D) (s : S) : Out Unit := match o with
  | .ptr k => match s.M[k]? with
    | some (some x) => match g x i d with
      | some y => .ok () { s with M := s.M.set k (some y) }
      | none => .fail
    | _ => .fail
  | _ => .fail
def hSub (g : C → D → D → Option C) (fo fi : M D) (d : D) : M Unit := fun s => (fo s).bind fun o s => (fi s).bind fun i s => stC g o i d s
theorem dh_sub {o i : Expr} {fo fi : M D} {pos : Pos} {g : C → D → D → Option C} (hg : StD X cl g) (ho : DE X cl W o fo) (hi : DE X cl W i fi)
    (ha : ∀ v, assign (.Subscript o i pos) X.env v = (do
      let ov ← holding [v] (eval o X.env)
      let iv ← holding [v, ov] (eval i X.env)
      standAt pos
      holding [v, ov, iv] (setItem ov iv v)
      release [v, ov, iv] []) := by intro _; rfl) : DH X cl W (.Subscript o i pos) (hSub g fo fi) := by
  obtain ⟨to, po, qo⟩ := ho
  obtain ⟨ti, pi, qi⟩ := hi
  obtain ⟨r, hr, q⟩ := hg
  refine ⟨_, pg_sub po pi hr ha, fun c σ s T H d w Q I wn => ?_⟩
  refine qo c σ s _ H _ I ?_
  unfold hSub at wn
  cases hfo : fo s with
  | fail => rw [hfo] at wn; exact wn.elim
  | exc n fs s1 => rw [hfo] at wn; exact fun dx H1 e I1 => wn dx σ H1 e (I1.xt fun p hp => List.mem_cons_of_mem _ hp)
  | ok ov s1 =>
    rw [hfo] at wn
    intro v H1 I1
    refine qi c σ s1 _ H1 _ I1 ?_
    have wn : WantG X.K cl W c T ((fi s1).bind fun i s => stC g ov i d s) Q := wn
    cases hfi : fi s1 with
    | fail => rw [hfi] at wn; exact wn.elim
    | exc n fs s2 => rw [hfi] at wn; exact fun dx H2 e I2 => wn dx σ H2 e (I2.xt fun p hp => List.mem_cons_of_mem _ (List.mem_cons_of_mem _ hp))
    | ok iv s2 =>
      rw [hfi] at wn
      intro u H2 I2
      have wn : WantG X.K cl W c T (stC g ov iv d s2) Q := wn
      rcases ptr_or ov with ⟨k, rfl⟩ | hd
      · simp only [stC] at wn
        cases hk : s2.M[k]? with
        | none => rw [hk] at wn; exact wn.elim
        | some ox =>
          cases ox with
          | none => rw [hk] at wn; exact wn.elim
          | some x =>
            rw [hk] at wn
            dsimp only at wn
            cases hy : g x iv d with
            | none => rw [hy] at wn; exact wn.elim
            | some y =>
              rw [hy] at wn
              exact q c σ s2 T H2 k x v iv u d w y _ I2 hk hy fun H' I' => wn σ H' I'
      · have : stC g ov iv d s2 = .fail := by cases ov <;> first | rfl | exact absurd rfl (hd _)
        rw [this] at wn
        exact wn.elim
def cSet : C → D → D → Option C
  | .lst xs, .int i, d => (ixN xs.length i).map fun j => .lst (xs.set j d)
  | _, _, _ => none
theorem cSet_some {x y : C} {e d : D} (h : cSet x e d = some y) : ∃ xs i j, x = .lst xs ∧ e = .int i ∧ ixN xs.length i = some j ∧ y = .lst (xs.set j d) := by
  cases x <;> first | (simp [cSet] at h; done) | skip
  cases e <;> first | (simp [cSet] at h; done) | skip
  obtain ⟨j, hj, hy⟩ := Option.map_eq_some_iff.mp h
  exact ⟨_, _, j, rfl, rfl, hj, hy.symm⟩
theorem std_list : StD X cl cSet := by
  refine ⟨_, set_list, fun c σ s T H k x v e u d w y Q I hk hg wn => ?_⟩
  obtain ⟨xs, i, j, rfl, rfl, hj, rfl⟩ := cSet_some hg
  obtain ⟨F, α, J⟩ := _root_.id I
  obtain ⟨a, ws, rfl, h1, rl, st⟩ := J.cellL (J.tmp (.ptr k, v) (List.mem_cons_of_mem _ (List.mem_cons_self ..))) hk
  have eu : u = .int i := J.t1i rfl
  subst eu
  have rd : Rep X.K cl H F α d w := J.tmp (d, w) (List.mem_cons_of_mem _ (List.mem_cons_of_mem _ (List.mem_cons_self ..)))
  refine ⟨a, ws, i, j, rfl, rfl, h1, by rw [← rl.length]; exact hj, ?_⟩
  exact wn _ (((st _ _ .non .non (rl.set rd j) .non).pop).sub fun p hp => List.mem_cons_of_mem _ (List.mem_cons_of_mem _ (List.mem_cons_of_mem _ hp)))
/-- target = e -/
def sAsg (f : M D) (g : D → M Unit) : M Fl := fun s => (f s).bind fun d s => (g d s).bind fun _ s => .ok .nx s
theorem ds_asg {tg e : Expr} {f : M D} {g : D → M Unit} {pos : Pos} (he : DE X cl W e f) (hg : DH X cl W tg g) (hs : swapsWithSole [tg] e pos.line X.env = pure false := by rfl) (hw : swappedStores [tg] e X.env = pure none := by rfl)
    (h1 : (assignEach [tg] X.env).map (·.2) = [assign tg X.env] := by rfl) : DS X cl W (.Assign [tg] e pos) (sAsg f g) := by
  obtain ⟨te, pe, qe⟩ := he
  obtain ⟨t, p, q⟩ := hg
  refine ⟨_, ps_asg pe p hs hw h1, fun c σ s T H E I w => ?_⟩
  refine qe c σ s T H _ I (w.bind fun d s1 _ w1 v H1 I1 => ?_)
  refine q c σ s1 T H1 d v _ I1 ?_
  cases hgd : g d s1 with
  | fail => rw [hgd] at w1; exact w1.elim
  | exc n fs s2 => rw [hgd] at w1; exact w1
  | ok u s2 => rw [hgd] at w1; exact w1
/-- a, b = x, y: plain local names -/
def sPar (i j : Nat) (f : M (List D)) : M Fl := fun s => (f s).bind fun ds s => match ds with
  | [d, e] => if i < s.env.length ∧ j < s.env.length then .ok .nx { s with env := (s.env.set i (some d)).set j (some e) } else .fail
  | _ => .fail
theorem ds_par {i j : Nat} {x y : Str} {a b : Expr} {f : M (List D)} {px py pt pos : Pos} {kt k2 pt2} (hc : X.calm = true) (hN : X.N.Nodup) (hi : X.N[i]? = some x) (hj : X.N[j]? = some y) (hij : i ≠ j)
    (hx : X.env.scope.names.lookup x = some .local) (hy : X.env.scope.names.lookup y = some .local) (ha : DA X cl W [a, b] f)
    (hw : swappedStores [.Tuple [.Name x px, .Name y py] kt pt] (.Tuple [a, b] k2 pt2) X.env = pure (some [x, y]) := by rfl)
    (hs : swapsWithSole [.Tuple [.Name x px, .Name y py] kt pt] (.Tuple [a, b] k2 pt2) pos.line X.env = pure false := by rfl) :
    DS X cl W (.Assign [.Tuple [.Name x px, .Name y py] kt pt] (.Tuple [a, b] k2 pt2) pos) (sPar i j f) := by
  obtain ⟨t, p, q⟩ := ha
  refine ⟨_, ps_par hc hN hi hj hij hx hy p hw hs, fun c σ s T H E I w => ?_⟩
  refine q c σ s T H _ I (w.bindA fun ds s1 _ w1 vs H1 hl I1 => ?_)
  match ds, vs, hl with
  | [d, e], [v, u], _ =>
    dsimp only at w1
    by_cases hb : i < s1.env.length ∧ j < s1.env.length
    · rw [if_pos hb] at w1
      refine ⟨v, u, rfl, w1 _ _ ?_⟩
      have I2 : SI X.K cl c H1 σ s1 ((d, v) :: (e, u) :: T) := I1.sub fun p hp => by
        show p ∈ (e, u) :: (d, v) :: T
        simp only [List.mem_cons] at hp ⊢
        rcases hp with h | h | h
        · exact .inr (.inl h)
        · exact .inl h
        · exact .inr (.inr h)
      have I3 := I2.bind hb.1
      have I4 := I3.bind (i := j) (d := e) (v := u) (by show j < (s1.env.set i (some d)).length; rw [List.length_set]; exact hb.2)
      exact I4
    · rw [if_neg hb] at w1; exact w1.elim
  | [], [], _ => exact w1.elim
  | [_], [_], _ => exact w1.elim
  | _ :: _ :: _ :: _, _, _ => exact w1.elim
/-- name op= e -/
def sAug (i : Nat) (g : D → D → Option D) (f : M D) : M Fl := fun s => match s.env[i]? with
  | some (some d) => (f s).bind fun e s1 => match g (view s1.M d) (view s1.M e) with
    | some z => setV i z s1
    | none => .fail
  | _ => .fail
theorem ds_aug {i : Nat} {x : Str} {e : Expr} {f : M D} {op : Operator} {g : D → D → Option D} {pos pos' : Pos} (hN : X.N.Nodup) (hi : X.N[i]? = some x) (hx : Loc X.env.scope x) (he : DE X cl W e f) (ho : OpD X cl (inplaceOp op) g)
    (hf : X.fn x = true ∨ X.env.scope.names.lookup x = some .local := by first | exact .inl rfl | exact .inr rfl | assumption) : DS X cl W (.AugAssign (.Name x pos') op e pos) (sAug i g f) := by
  obtain ⟨te, pe, qe⟩ := he
  obtain ⟨r, hr, q⟩ := ho
  have hp : PIp X op r := fun pins s σ H x y v u Q I r1 r2 h => hr pins s σ H x y v u Q I r1 r2 h
  refine ⟨_, ps_aug hN hi hx pe hp hf, fun c σ s T H E I w => ?_⟩
  unfold sAug at w
  cases hd : s.env[i]? with
  | none => rw [hd] at w; exact w.elim
  | some od =>
    cases od with
    | none => rw [hd] at w; exact w.elim
    | some d =>
      rw [hd] at w
      dsimp only at w
      obtain ⟨v, h1, I1⟩ := I.var hd
      refine ⟨v, h1, qe c σ s _ H _ I1 ?_⟩
      cases hf : f s with
      | fail => rw [hf] at w; exact w.elim
      | exc n fs s1 => rw [hf] at w; exact fun dx H1 e I1 => w dx σ H1 e (I1.xt fun p hp => List.mem_cons_of_mem _ hp)
      | ok e s1 =>
        rw [hf] at w
        intro u H1 I2
        have w : WantS X.K cl W c T (match g (view s1.M d) (view s1.M e) with
          | some z => setV i z s1
          | none => .fail) E := w
        cases hz : g (view s1.M d) (view s1.M e) with
        | none => rw [hz] at w; exact w.elim
        | some z =>
          rw [hz] at w
          exact q c σ s1 T H1 d v e u z _ I2 hz fun v' H' I' => setV_ok w I'.drop2.drop2
theorem oi_add : OpD X cl (inplaceOp .Add) dAddI := OpD.int iop_add (fun i j z v H Q e f q => by cases e; cases f; exact ⟨i, j, rfl, rfl, q⟩) (fun i j z e => by cases e; exact ⟨_, rfl⟩)
theorem oi_sub : OpD X cl (inplaceOp .Sub) dSubI := OpD.int iop_sub (fun i j z v H Q e f q => by cases e; cases f; exact ⟨i, j, rfl, rfl, q⟩) (fun i j z e => by cases e; exact ⟨_, rfl⟩)
theorem oi_mul : OpD X cl (inplaceOp .Mult) dMulI := OpD.intIf iop_mul fun i j h => by
  simpa [small64, Bool.or_eq_true, Bool.and_eq_true, CMul] using h
theorem oi_div : OpD X cl (inplaceOp .FloorDiv) dDivI := OpD.intIf iop_fdiv fun i j h => by simpa [CDiv, Bool.and_eq_true] using h
/-! ### never reached -/
def eFail {α : Type} : M α := fun _ => .fail
theorem dss_never {sts : List Stmt} : DSs X cl W sts eFail := ⟨_, pss_never, fun _ _ _ _ _ _ _ w => w.elim⟩
theorem ds_never {st : Stmt} : DS X cl W st eFail := ⟨_, ps_never, fun _ _ _ _ _ _ _ w => w.elim⟩
end
end DL

/-! DlQ: sorted, of lists, tuples and texts. -/
namespace DL
open PySem L2
open PySem.Spec PyProof.Rows

/-! ### the sorted list is one -/
def leS (a b : Str) : Bool := !decide (b.cps.toList < a.cps.toList)
def sortS (zs : List Str) : List Str := zs.mergeSort leS
def sortI (ns : List Int) : List Int := ns.mergeSort (fun a b => decide (a ≤ b))
theorem leS_iff {a b : Str} : leS a b = true ↔ a.cps.toList ≤ b.cps.toList := by
  unfold leS
  rw [Bool.not_eq_true', decide_eq_false_iff_not, List.not_lt]
theorem leS_anti {a b : Str} (h1 : leS a b = true) (h2 : leS b a = true) : a = b := by
  have e := List.le_antisymm (leS_iff.mp h1) (leS_iff.mp h2)
  obtain ⟨x⟩ := a
  obtain ⟨y⟩ := b
  have e' : x.toList = y.toList := e
  rw [Array.toList_inj.mp e']
theorem leS_trans (a b c : Str) (h1 : leS a b = true) (h2 : leS b c = true) : leS a c = true := leS_iff.mpr (List.le_trans (leS_iff.mp h1) (leS_iff.mp h2))
theorem leS_total (a b : Str) : (leS a b || leS b a) = true := by
  rcases List.le_total a.cps.toList b.cps.toList with h | h
  · rw [leS_iff.mpr h]; rfl
  · rw [leS_iff.mpr h, Bool.or_true]
theorem rising_pw : ∀ (p : Str) (r : List Str), risingS p r = true → (p :: r).Pairwise fun a b => leS a b = true
  | p, [], _ => by simp
  | p, x :: r, h => by
    have h' : (!ltCps x.cps.toList p.cps.toList && risingS x r) = true := h
    rw [Bool.and_eq_true] at h'
    have ih := rising_pw x r h'.2
    have hx : leS p x = true := by
      have := h'.1
      rw [ltCps_eq] at this
      exact this
    refine List.pairwise_cons.mpr ⟨fun y hy => ?_, ih⟩
    rcases List.mem_cons.mp hy with e | hy
    · exact e ▸ hx
    · exact leS_trans _ _ _ hx ((List.pairwise_cons.mp ih).1 y hy)
theorem sortS_eq {ys zs : List Str} (hp : ys.Perm zs) (hs : sortedS ys = true) : ys = sortS zs := by
  have h1 : ys.Pairwise fun a b => leS a b = true := by
    cases ys with
    | nil => exact .nil
    | cons p r => exact rising_pw p r hs
  exact List.Perm.eq_of_pairwise (fun a b _ _ => leS_anti) h1 (List.pairwise_mergeSort leS_trans leS_total zs) (hp.trans (List.mergeSort_perm zs leS).symm)
theorem sortI_eq {ys zs : List Int} (hp : ys.Perm zs) (hs : ys.Pairwise (· ≤ ·)) : ys = sortI zs := by
  refine List.Perm.eq_of_pairwise (le := fun a b => decide (a ≤ b) = true) (fun a b _ _ h1 h2 => Int.le_antisymm (of_decide_eq_true h1) (of_decide_eq_true h2)) (hs.imp fun h => decide_eq_true h)
    (List.pairwise_mergeSort (le := fun a b : Int => decide (a ≤ b)) (fun a b c h1 h2 => decide_eq_true (Int.le_trans (of_decide_eq_true h1) (of_decide_eq_true h2))) (fun a b => ?_) zs) (hp.trans (List.mergeSort_perm zs _).symm)
  rcases Int.le_total a b with h | h
  · rw [decide_eq_true h]; rfl
  · rw [decide_eq_true h, Bool.or_true]

section
variable {prog : Program} {w : World} {A : Around} {E : Value → Shared → Prop} {s : Shared}
theorem collect_tup {l : Addr} {vs : List Value} {Q : List Value → Shared → Prop} (hl : IsTup s.heap l vs.toArray)
    (h : Q vs { s with heap := (s.heap.push (seqObj "list" #[] 0)).update s.heap.objs.size (Obj.mapSeq (· ++ vs.toArray)) }) (hsz : vs.length ≤ sizeLine) :
    wpAny (model prog w) A (collect (.ref l)) Q E s := by
  obtain ⟨o, ho, hc, n, hd⟩ := id hl
  unfold collect
  refine wpAny_bind (wpAny_runValue (codeAny_builtin entry_proto_collect' ?_))
  show wpAny _ _ (do again (.builtin "list.__iadd__" ⟨[← newList [], .ref l], []⟩)) _ _ s
  refine wpAny_bind (wpAny_newList (wpAny_pure ⟨Code.quiet_builtin _ (by decide +kernel), codeAny_builtin entry_list_iadd' ?_⟩))
  show wpAny _ _ (Builtin.List.listExtendWith (.ref s.heap.objs.size) (.ref l) (.ref s.heap.objs.size)) _ _ { s with heap := s.heap.push (seqObj "list" #[] 0) }
  unfold Builtin.List.listExtendWith
  have ho' : (s.heap.push (seqObj "list" #[] 0)).get? l = some o := Heap.get?_push_of_some _ ho
  refine wpAny_bind (wpAny_typeOf (T := "tuple") ⟨o, ho', hc⟩ ?_)
  have ht : (Value.type "tuple" == Value.type "tuple") = true := by rfl
  rw [if_pos (by rw [ht]; simp)]
  refine wpAny_bind (listItems_at ho' hd ?_)
  refine wpAny_bind (listItems_at (xs := #[]) (n := 0) (Heap.get?_push_size _ rfl) rfl ?_)
  rw [if_neg (by simp)]
  refine wpAny_bind (listUpdate_at (xs := #[]) (n := 0) (Heap.get?_push_size _ rfl) rfl ?_ (Nat.zero_le _) (by show (#[] ++ vs.toArray).size ≤ sizeLine + 1; simp only [Array.size_append, List.size_toArray, List.length_nil]; omega))
  refine wpAny_pure ?_
  show wpAny (model prog w) A (do
      let o ← load s.heap.objs.size
      match o.data with
      | .seq xs _ => pure xs.toList
      | _ => unsupported "internal:collect") Q E { s with heap := (s.heap.push (seqObj "list" #[] 0)).update s.heap.objs.size (Obj.mapSeq (· ++ vs.toArray)) }
  refine wpAny_bind (wpAny_load (get?_update_seq (Heap.get?_push_size _ rfl) _) ?_)
  show wpAny _ _ (pure ((#[] : Array Value) ++ vs.toArray).toList) Q E _
  rw [show ((#[] : Array Value) ++ vs.toArray).toList = vs by simp]
  exact wpAny_pure h
theorem copy_keeps {vs : List Value} {b : Addr} {o : Obj} (h : s.heap.get? b = some o) : ((s.heap.push (seqObj "list" #[] 0)).update s.heap.objs.size (Obj.mapSeq (· ++ vs.toArray))).get? b = some o := by
  rw [Heap.get?_update_ne _ _ _ _ (Nat.ne_of_lt (Heap.lt_size h))]
  exact Heap.get?_push_of_some _ h
/-- sorted, whatever is collected -/
theorem sorted_col {κ : KeyKind} (hO : κ.OneLt) {src : Value} {P : List Value → Prop} {Q : Value → Shared → Prop} {E : Value → Shared → Prop}
    (col : ∀ (Q' : List Value → Shared → Prop), (∀ h' tk vs, (∀ b o, s.heap.get? b = some o → h'.get? b = some o) → P vs → Q' vs { s with heap := h', toks := tk }) → wpAny (model prog w) A.in1 (collect src) Q' E s)
    (hP : ∀ vs, P vs → KeysOf κ (pairsOf vs) ∧ (∀ v₁ v₂ rest, vs = v₁ :: v₂ :: rest → keyKind' (v₁ :: v₂ :: rest).toArray = pure oneType') ∧ vs.length ≤ sizeLine)
    (h : ∀ (h1 h' : Heap) tk vs (st' : SortSt) (a : Addr) e, P vs → (arrOf st').Perm (pairsOf vs) → SortedToK κ (arrOf st') (pairsOf vs).size → (∀ b o, s.heap.get? b = some o → h1.get? b = some o) → (∀ b o, h1.get? b = some o → h'.get? b = some o) → h1.objs.size ≤ a →
      h'.get? a = some (seqObj "list" ((arrOf st').map (·.2)) e) → Q (.ref a) { s with heap := h', toks := tk }) :
    wpAny (model prog w) A (call (.builtin "sorted") [src]) Q E s := by
  refine Calls.call_function_entry kind_sorted plain_sorted entry_sorted (args_sorted1 _) ?_
  unfold Builtin.«sorted»
  refine wpAny_bind (m := checkCount "sorted" 1 1 _) (wpAny_pure ?_)
  refine wpAny_bind (col _ fun h' tk vs hk hvs => ?_)
  obtain ⟨h0, hkk, hL⟩ := hP vs hvs
  refine wpAny_bind (wpAny_newList ?_ hL)
  have hoL : (h'.push (seqObj "list" vs.toArray 0)).get? h'.objs.size = some (seqObj "list" vs.toArray 0) := Heap.get?_push_size _ rfl
  show wpAny _ _ _ _ _ { s with heap := h'.push (seqObj "list" vs.toArray 0), toks := tk }
  refine wpAny_bind (wpAny_holding (wpAny_call_entry slot_list_sort ⟨_, hoL, rfl⟩ entry_list_sort (list_sort_treeKAny (s := { s with heap := h'.push (seqObj "list" vs.toArray 0), toks := tk }) hO hoL h0 hkk hL fun st' a1 a2 => ⟨_, rfl, ?_⟩) (args_list_sort _)))
  obtain ⟨e, he⟩ := sortedHeap_at (vs := vs) (out := (arrOf st').map (·.2)) hoL
  refine wpAny_pure ⟨_, rfl, h h' _ tk vs st' _ e hvs a1 a2 hk (fun b o hb => ?_) (Nat.le_refl _) he⟩
  have hlt := Heap.lt_size hb
  rw [sortedHeap_old (Nat.ne_of_lt hlt) (by rw [size_push']; exact Nat.lt_succ_of_lt hlt)]
  exact Heap.get?_push_of_some _ hb
end

section
variable {X : Cx} {cl : Str → Addr}
theorem strs_of_signs {z : Str} {acc : Array Value} (h : ItemsOf (SignAt z) acc z.cps.size) : StrsAre acc.toList (signs z) := by
  obtain ⟨h1, h2⟩ := h
  have key : ∀ (us : List Value) (ys : List Str), us.length = ys.length → (∀ (j : Nat) (u : Value), us[j]? = some u → ∃ t y, ys[j]? = some y ∧ u = Value.str y t) → StrsAre us ys := by
    intro us
    induction us with
    | nil => intro ys hl _; cases ys with
      | nil => exact .nil
      | cons _ _ => cases hl
    | cons u us ih =>
      intro ys hl h
      cases ys with
      | nil => cases hl
      | cons y ys =>
        obtain ⟨t, y', e1, e2⟩ := h 0 u rfl
        cases e1
        subst e2
        exact .cons y t (ih ys (by simpa using hl) fun j u hu => h (j + 1) u (by simpa using hu))
  refine key _ _ (by simp [h1, signs]) fun j u hu => ?_
  obtain ⟨c, t, hc, rfl⟩ := h2 j u (by simpa using hu)
  exact ⟨t, ⟨#[c]⟩, by simp [signs, hc], rfl⟩
def rSrtS (K : PySem.W.Frag) : List V → Hp → VK → Prop := fun vs H Q => (∃ z, vs = [.str z] ∧ z.length ≤ sizeLine ∧ ∀ p, H p = none → Q (.ref p) (upd H p (.lst ((sortS (signs z)).map V.str)))) ∨
  ∃ a zs, vs = [.ref a] ∧ (SqL K H a (zs.map V.str) ∨ SqT K H a (zs.map V.str)) ∧ ∀ p, H p = none → Q (.ref p) (upd H p (.lst ((sortS zs).map V.str)))
def rSrtI (K : PySem.W.Frag) : List V → Hp → VK → Prop := fun vs H Q => ∃ a ns, vs = [.ref a] ∧ (SqL K H a (ns.map V.int) ∨ SqT K H a (ns.map V.int)) ∧ ∀ p, H p = none → Q (.ref p) (upd H p (.lst ((sortI ns).map V.int)))
theorem cr_srtS (hc : X.calm = true) : CallR X (.builtin "sorted") (rSrtS X.K) := by
  intro pins s σ H vs us Q I r h
  have fin : ∀ {src : Value} {zs : List Str}, zs.length ≤ sizeLine → (∀ (Q' : List Value → Shared → Prop), (∀ h' tk vs, (∀ b o, s.heap.get? b = some o → h'.get? b = some o) → StrsAre vs zs → Q' vs { s with heap := h', toks := tk }) → wpAny (model X.prog X.w) X.A.in1 (collect src) Q' X.xe s) →
      (∀ p, H p = none → Q (.ref p) (upd H p (.lst ((sortS zs).map V.str)))) → wpAny (model X.prog X.w) X.A (call (.builtin "sorted") [src]) (EP X pins σ Q) X.xe s := by
    intro src zs hz col q
    refine sorted_col strKind_oneLt (P := fun vs => StrsAre vs zs) col (fun vs hS => ⟨hS.keysOf, fun v₁ v₂ rest e => keyKind_strs (by rw [← e]; exact hS), by rw [hS.length]; exact hz⟩) fun h1 h' tk vs st' a e hS hp hs k1 k2 ha he => ?_
    obtain ⟨ss', g1, g2, g3⟩ := sorted_out_str hS hp hs
    have I1 : Inv X pins σ H { s with heap := h1, toks := tk } := I.kept k1
    have eq := sortS_eq g2 g3
    have hlen : (ss'.map V.str).length ≤ sizeLine := by rw [List.length_map, g2.length_eq]; exact hz
    refine ⟨.ref a, upd H a (.lst (ss'.map V.str)), I1.laid (t' := tk) k2 ha ⟨hlen, _, e, vals_of_strs g1, he⟩, rfl, ?_⟩
    rw [eq]
    exact q a (I1.hok.fresh ha)
  rcases h with ⟨z, rfl, hz, q⟩ | ⟨a, zs, rfl, hs, q⟩
  · obtain ⟨u, rfl, ru⟩ := r.one
    obtain ⟨t, rfl⟩ := ru
    refine fin (zs := signs z) (by rw [signs_length]; exact hz) (fun Q' k => ?_) q
    refine wpAny_collect_str (A := X.A.in1) (I.ok.hd hc) z t (fun s' acc hk hg hd ho hacc => ?_) hz
    obtain ⟨h', g', d', tk', os'⟩ := s'
    have e1 : g' = s.gens := hg
    have e2 : d' = s.drawn := hd
    have e3 : os' = s.os := ho
    subst e1 e2 e3
    exact k h' tk' acc.toList hk (strs_of_signs hacc)
  · rw [Vals.ref1 r]
    rcases hs with hs | hs
    · obtain ⟨its, rv, hl, hz⟩ := I.list hs
      rw [List.length_map] at hz
      refine fin hz (fun Q' k => collect_list hl.isList (k _ s.toks _ (fun b o => copy_keeps) rv.strs) ?_) q
      rw [← rv.length, List.length_map]; exact hz
    · obtain ⟨its, rv, hl, hz⟩ := I.tuple hs
      rw [List.length_map] at hz
      refine fin hz (fun Q' k => collect_tup hl (k _ s.toks _ (fun b o => copy_keeps) rv.strs) ?_) q
      rw [← rv.length, List.length_map]; exact hz
theorem cr_srtI (hc : X.calm = true) : CallR X (.builtin "sorted") (rSrtI X.K) := by
  intro pins s σ H vs us Q I r h
  have fin : ∀ {src : Value} {zs : List Int}, zs.length ≤ sizeLine → (∀ (Q' : List Value → Shared → Prop), (∀ h' tk vs, (∀ b o, s.heap.get? b = some o → h'.get? b = some o) → IntsAre vs zs → Q' vs { s with heap := h', toks := tk }) → wpAny (model X.prog X.w) X.A.in1 (collect src) Q' X.xe s) →
      (∀ p, H p = none → Q (.ref p) (upd H p (.lst ((sortI zs).map V.int)))) → wpAny (model X.prog X.w) X.A (call (.builtin "sorted") [src]) (EP X pins σ Q) X.xe s := by
    intro src zs hz col q
    refine sorted_col intKind_oneLt (P := fun vs => IntsAre vs zs) col (fun vs hS => ⟨hS.keysOfInt, fun v₁ v₂ rest e => keyKind_ints (by rw [← e]; exact hS), by rw [hS.length]; exact hz⟩) fun h1 h' tk vs st' a e hS hp hs k1 k2 ha he => ?_
    obtain ⟨ss', g1, g2, g3⟩ := sorted_out hS hp (sortedTo_of_int hs)
    have I1 : Inv X pins σ H { s with heap := h1, toks := tk } := I.kept k1
    have eq := sortI_eq g2 g3
    have hlen : (ss'.map V.int).length ≤ sizeLine := by rw [List.length_map, g2.length_eq]; exact hz
    refine ⟨.ref a, upd H a (.lst (ss'.map V.int)), I1.laid (t' := tk) k2 ha ⟨hlen, _, e, vals_of_ints g1, he⟩, rfl, ?_⟩
    rw [eq]
    exact q a (I1.hok.fresh ha)
  obtain ⟨a, zs, rfl, hs, q⟩ := h
  rw [Vals.ref1 r]
  rcases hs with hs | hs
  · obtain ⟨its, rv, hl, hz⟩ := I.list hs
    rw [List.length_map] at hz
    refine fin hz (fun Q' k => collect_list hl.isList (k _ s.toks _ (fun b o => copy_keeps) rv.ints) ?_) q
    rw [← rv.length, List.length_map]; exact hz
  · obtain ⟨its, rv, hl, hz⟩ := I.tuple hs
    rw [List.length_map] at hz
    refine fin hz (fun Q' k => collect_tup hl (k _ s.toks _ (fun b o => copy_keeps) rv.ints) ?_) q
    rw [← rv.length, List.length_map]; exact hz
/-- sorted(xs) -/
def dSrtS : D → Option (List D)
  | .str z => if le1m z.length = true then some ((sortS (signs z)).map .str) else none
  | d => ((seqD d).bind strsD).map fun zs => (sortS zs).map .str
def dSrtI : D → Option (List D) := fun d => ((seqD d).bind intsD).map fun zs => (sortI zs).map .int
theorem cdc_srtS (hc : X.calm = true) : CDC X cl (.builtin "sorted") (gL1 dSrtS) := by
  refine ⟨_, cr_srtS hc, fun c σ s T H ds vs z Q hl I hz k => ?_⟩
  match ds, vs, hl with
  | [d], [v], _ =>
    obtain ⟨F, α, J⟩ := _root_.id I
    have h1 : dSrtS (view s.M d) = some z := hz
    by_cases h : ∃ y, view s.M d = .str y
    · obtain ⟨y, e⟩ := h
      rw [e] at h1
      simp only [dSrtS] at h1
      split at h1
      · rename_i hl
        cases h1
        exact .inl ⟨y, by rw [J.t1s e], le1m_ok hl, fun p hp => k _ _ (J.cellNew hp (rep_strs _))⟩
      · cases h1
    · have h2 : ((seqD (view s.M d)).bind strsD).map (fun zs => (sortS zs).map D.str) = some z := by
        revert h1 h
        generalize view s.M d = u
        intro h1 h
        cases u <;> first | exact h1 | exact absurd ⟨_, rfl⟩ h
      obtain ⟨zs, h3, rfl⟩ := Option.map_eq_some_iff.mp h2
      obtain ⟨xs, h4, h5⟩ := Option.bind_eq_some_iff.mp h3
      obtain ⟨a, vs, ev, h6, rl⟩ := J.vSeq (J.tmp (d, v) (List.mem_cons_self ..)) h4
      have ev : v = .ref a := ev
      subst ev
      have h7 := strsD_rep rl h5
      subst h7
      exact .inr ⟨a, zs, rfl, h6, fun p hp => k _ _ (J.cellNew hp (rep_strs _))⟩
  | [], [], _ => cases hz
  | _ :: _ :: _, _, _ => cases hz
theorem cdc_srtI (hc : X.calm = true) : CDC X cl (.builtin "sorted") (gL1 dSrtI) := by
  refine ⟨_, cr_srtI hc, fun c σ s T H ds vs z Q hl I hz k => ?_⟩
  match ds, vs, hl with
  | [d], [v], _ =>
    obtain ⟨F, α, J⟩ := _root_.id I
    have h1 : ((seqD (view s.M d)).bind intsD).map (fun zs => (sortI zs).map D.int) = some z := hz
    obtain ⟨zs, h3, rfl⟩ := Option.map_eq_some_iff.mp h1
    obtain ⟨xs, h4, h5⟩ := Option.bind_eq_some_iff.mp h3
    obtain ⟨a, vs, ev, h6, rl⟩ := J.vSeq (J.tmp (d, v) (List.mem_cons_self ..)) h4
    have ev : v = .ref a := ev
    subst ev
    have h7 := intsD_rep rl h5
    subst h7
    exact ⟨a, zs, rfl, h6, fun p hp => k _ _ (J.cellNew hp (rep_ints _))⟩
  | [], [], _ => cases hz
  | _ :: _ :: _, _, _ => cases hz
theorem CDC.cd {f : Value} {r : List V → Hp → VK → Prop} {g : D → Option (List D)} (hr : CallR X f r) (q : ∀ c σ s T H F α d v z Q, SIx X.K cl c H σ s ((d, v) :: T) F α → g (view s.M d) = some z → (∀ v' H', SI X.K cl c H' σ s ((.lst z, v') :: (d, v) :: T) → Q v' H') → r [v] H Q) : CD X cl f (g1 fun d => (g d).map .lst) := by
  refine CD.one hr fun c σ s T H F α d v z Q J hz k => ?_
  obtain ⟨xs, h1, rfl⟩ := Option.map_eq_some_iff.mp hz
  exact q c σ s T H F α d v xs Q J h1 k
theorem cd_srtS (hc : X.calm = true) : CD X cl (.builtin "sorted") (g1 fun d => (dSrtS d).map .lst) := by
  refine CDC.cd (cr_srtS hc) fun c σ s T H F α d v z Q J hz k => ?_
  by_cases h : ∃ y, view s.M d = .str y
  · obtain ⟨y, e⟩ := h
    rw [e] at hz
    simp only [dSrtS] at hz
    split at hz
    · rename_i hl
      cases hz
      exact .inl ⟨y, by rw [J.t1s e], le1m_ok hl, fun p hp => k _ _ (J.lstNew hp (rep_strs _))⟩
    · cases hz
  · have h2 : ((seqD (view s.M d)).bind strsD).map (fun zs => (sortS zs).map D.str) = some z := by
      revert hz h
      generalize view s.M d = u
      intro h1 h
      cases u <;> first | exact h1 | exact absurd ⟨_, rfl⟩ h
    obtain ⟨zs, h3, rfl⟩ := Option.map_eq_some_iff.mp h2
    obtain ⟨xs, h4, h5⟩ := Option.bind_eq_some_iff.mp h3
    obtain ⟨a, vs, ev, h6, rl⟩ := J.vSeq (J.tmp (d, v) (List.mem_cons_self ..)) h4
    have ev : v = .ref a := ev
    subst ev
    have h7 := strsD_rep rl h5
    subst h7
    exact .inr ⟨a, zs, rfl, h6, fun p hp => k _ _ (J.lstNew hp (rep_strs _))⟩
theorem cd_srtI (hc : X.calm = true) : CD X cl (.builtin "sorted") (g1 fun d => (dSrtI d).map .lst) := by
  refine CDC.cd (cr_srtI hc) fun c σ s T H F α d v z Q J hz k => ?_
  have h1 : ((seqD (view s.M d)).bind intsD).map (fun zs => (sortI zs).map D.int) = some z := hz
  obtain ⟨zs, h3, rfl⟩ := Option.map_eq_some_iff.mp h1
  obtain ⟨xs, h4, h5⟩ := Option.bind_eq_some_iff.mp h3
  obtain ⟨a, vs, ev, h6, rl⟩ := J.vSeq (J.tmp (d, v) (List.mem_cons_self ..)) h4
  have ev : v = .ref a := ev
  subst ev
  have h7 := intsD_rep rl h5
  subst h7
  exact ⟨a, zs, rfl, h6, fun p hp => k _ _ (J.lstNew hp (rep_ints _))⟩
def dSrt : List D → Option D := orC (g1 fun d => (dSrtS d).map .lst) (g1 fun d => (dSrtI d).map .lst)
theorem cd_sorted (hc : X.calm = true) : CD X cl (.builtin "sorted") dSrt := (cd_srtS hc).or (cd_srtI hc)
end
end DL

/-! DlR: repr; texts backwards. -/
namespace DL
open PySem L2
open PySem.Spec PyProof.Rows
section
variable {X : Cx} {cl : Str → Addr} {W : WX}
/-- what repr shows -/
def shOk : PyData → Bool
  | .list xs => (PyData.list xs).showable && !(PyData.list xs).hasDict && decide ((PyData.list xs).depth ≤ 60) && le1m (PyData.list xs).shown.length
  | .tuple xs => (PyData.tuple xs).showable && !(PyData.tuple xs).hasDict && decide ((PyData.tuple xs).depth ≤ 60) && le1m (PyData.tuple xs).shown.length
  | _ => false
def rRepr (K : PySem.W.Frag) : List V → Hp → VK → Prop := fun vs H Q => ∃ v p, vs = [v] ∧ Dp K H v p ∧ shOk p = true ∧ Q (.str p.shown) H
theorem shOk_out {p : PyData} (h : shOk p = true) : p.showable = true ∧ p.hasDict = false ∧ p.depth ≤ 60 ∧ p.shown.length ≤ sizeLine ∧ ((∃ xs, p = .list xs) ∨ ∃ xs, p = .tuple xs) := by
  cases p <;> first | (simp [shOk] at h; done) | skip
  all_goals
    simp only [shOk, Bool.and_eq_true, decide_eq_true_eq, Bool.not_eq_true'] at h
    obtain ⟨⟨⟨h1, h2⟩, h3⟩, h4⟩ := h
    refine ⟨h1, h2, h3, le1m_ok h4, ?_⟩
    first | exact .inl ⟨_, rfl⟩ | exact .inr ⟨_, rfl⟩
theorem cr_repr (hg : X.A.guards = some []) (hu : X.A.units + 64 < cLine) : CallR X (.builtin "repr") (rRepr X.K) := by
  intro pins s σ H vs us Q I r h
  obtain ⟨v, p, rfl, hd, hs, q⟩ := h
  obtain ⟨u, rfl, ru⟩ := r.one
  obtain ⟨h1, h2, h3, h4, h5⟩ := shOk_out hs
  obtain ⟨as, hr⟩ := Dp.reads I p v u hd ru
  have : ∃ a, v = .ref a := by
    rcases h5 with ⟨xs, rfl⟩ | ⟨xs, rfl⟩ <;> cases hd <;> exact ⟨_, rfl⟩
  obtain ⟨a, rfl⟩ := this
  cases ru
  exact repr_of_reads' hr h1 (PyData.noDict_hsm h2) hg (by omega) (fun _ _ e => e) (fun h' u tk hk => ⟨.str _, H, I.kept hk, ⟨_, rfl⟩, q⟩) h4
def dRepr : D → Option D := fun d => match pd d with
  | some p => if shOk p = true then some (.str p.shown) else none
  | none => none
theorem cd_repr (hg : X.A.guards = some []) (hu : X.A.units + 64 < cLine) : CD X cl (.builtin "repr") (g1 dRepr) := by
  refine CD.one (cr_repr hg hu) fun c σ s T H F α d v z Q J hz k => ?_
  unfold dRepr at hz
  split at hz
  · rename_i p hp
    split at hz
    · rename_i hs
      cases hz
      exact ⟨v, p, rfl, J.vDp (J.tmp (d, v) (List.mem_cons_self ..)) hp, hs, k _ H (SI.flat rfl ⟨F, α, J⟩)⟩
    · cases hz
  · cases hz
/-! ### z[::-1] -/
def revS (z : Str) : Str := ⟨z.cps.reverse⟩
def tRevS (te : TE) : TE := fun σ H Q => te σ H fun x H1 => ∃ z, x = .str z ∧ z.length ≤ sizeLine ∧ Q (.str (revS z)) H1
theorem revIx (n : Nat) : Builtin.Str.strSliceIndices none none (-1) n = (List.range n).map fun k => n - 1 - k := by
  rw [← PySem.W.krv_sliceRange]
  rfl
theorem rev_pick (xs : List Nat) : ((List.range xs.length).map fun k => xs.length - 1 - k).filterMap (fun j => xs.toArray[j]?) = xs.reverse := by
  have h1 : (List.range xs.length).map (fun k => xs.length - 1 - k) = (List.range xs.length).reverse := by
    refine List.ext_getElem (by simp) fun i h1 h2 => ?_
    simp at h1 ⊢
  have h2 : (List.range xs.length).filterMap (fun j => xs.toArray[j]?) = xs := by
    have : ∀ (ys zs : List Nat), (List.range' ys.length zs.length).filterMap (fun j => (ys ++ zs)[j]?) = zs := by
      intro ys zs
      induction zs generalizing ys with
      | nil => rfl
      | cons z zs ih =>
        rw [List.length_cons, List.range'_succ, List.filterMap_cons]
        have e : (ys ++ z :: zs)[ys.length]? = some z := by simp
        rw [e]
        have ih' := ih (ys ++ [z])
        rw [List.length_append, List.append_assoc] at ih'
        exact congrArg (z :: ·) ih'
    have := this [] xs
    rw [List.length_nil, ← List.range_eq_range'] at this
    simpa using this
  rw [h1, List.filterMap_reverse, h2]
theorem revS_pick (z : Str) : (⟨((Builtin.Str.strSliceIndices none none (-1) z.length).filterMap (z.cps[·]?)).toArray⟩ : Str) = revS z := by
  obtain ⟨⟨xs⟩⟩ := z
  rw [revIx]
  have := rev_pick xs
  show (⟨(((List.range xs.length).map fun k => xs.length - 1 - k).filterMap (fun j => xs.toArray[j]?)).toArray⟩ : Str) = _
  rw [this]
  simp [revS]
theorem pe_revS {e : Expr} {te : TE} {k : Nat} {p1 p2 p3 pos : Pos} (he : PE X e te) : PE X (.Subscript e (.Slice none none (some (.UnaryOp .USub (.Constant (.int 1) k p1) p2)) p3) pos) (tRevS te) := by
  refine ⟨fun pins s σ H Q I h => ?_⟩
  refine Subscript_ (thn (he.run pins s σ H _ I h) fun v s1 ⟨x, H1, I1, r1, q1⟩ => ?_)
  obtain ⟨z, rfl, hz, q⟩ := q1
  obtain ⟨t, rfl⟩ := r1
  have hst : PO X (some (.UnaryOp .USub (.Constant (.int 1) k p1) p2)) (tPart (tUn (rU fun i => .int (-i)) (tC (.int 1)))) := po_some (pe_un un_neg pe_int)
  refine wpAny_Slice (thn (po_none.run pins s1 σ H1 (fun o H2 => o = none ∧ H2 = H1) I1 ⟨rfl, rfl⟩) fun vl s2 ⟨l, H2, I2, pl, el, e2⟩ => ?_)
  subst el e2
  refine thn (po_none.run pins s2 σ H2 (fun o H3 => o = none ∧ H3 = H2) I2 ⟨rfl, rfl⟩) fun vu s3 ⟨u, H3, I3, pu, eu, e3⟩ => ?_
  subst eu e3
  refine thn (hst.run pins s3 σ H3 (fun o H4 => o = some (-1) ∧ H4 = H3) I3 ⟨1, rfl, -1, rfl, rfl, rfl⟩) fun vs s4 ⟨o, H4, I4, ps, eo, e4⟩ => ?_
  subst eo e4
  have I5 : Inv X pins σ H4 { s4 with heap := s4.heap.push { cls := .type "slice", data := .fields #[vl, vu, vs] } } := I4.kept (t' := s4.toks) fun b ob q => Heap.get?_push_of_some _ q
  cases pl
  cases pu
  cases ps with
  | int i ti =>
  show wpAny (model X.prog X.w) X.A (subscriptTail e (.Slice none none (some (.UnaryOp .USub (.Constant (.int 1) k p1) p2)) p3) (.str z t) (.ref s4.heap.objs.size)) (EP X pins σ Q) X.xe { s4 with heap := s4.heap.push { cls := .type "slice", data := .fields #[.none, .none, .int (-1) ti] } }
  refine tail_any (ops := [.str z t, .ref s4.heap.objs.size]) (typeIs_str _ _ _) (F.slot_str_getitem.lookup) ?_ (by with_unfolding_all rfl)
  refine wpAny_getItem_str_slice (l := none) (u := none) (st := some (-1, ti)) ⟨_, Heap.get?_push_size _ rfl, rfl, rfl⟩ rfl ?_
  show Made.post (if (((-1 : Int)) == 1 && (Builtin.Str.strSliceIndices none none (-1) z.length).length == z.length) = true then Made.val (.str z t)
    else Made.str ⟨((Builtin.Str.strSliceIndices none none (-1) z.length).filterMap (z.cps[·]?)).toArray⟩) (EP X pins σ Q) _
  rw [if_neg (by rw [show ((-1 : Int) == 1) = false from rfl, Bool.false_and]; exact Bool.false_ne_true), revS_pick]
  refine ⟨?_, .str _, H4, I5.tok _, ⟨_, rfl⟩, q⟩
  show z.cps.reverse.size ≤ sizeLine
  rw [Array.size_reverse]
  exact hz
def dRev : D → Option D
  | .str z => if le1m z.length = true then some (.str (revS z)) else none
  | _ => none
def eUn (g : D → Option D) (f : M D) : M D := fun s => (f s).bind fun d s => oOf (g (view s.M d)) s
theorem de_revS {e : Expr} {f : M D} {k : Nat} {p1 p2 p3 pos : Pos} (he : DE X cl W e f) : DE X cl W (.Subscript e (.Slice none none (some (.UnaryOp .USub (.Constant (.int 1) k p1) p2)) p3) pos) (eUn dRev f) := by
  obtain ⟨te, pe, q⟩ := he
  refine ⟨_, pe_revS pe, fun c σ s T H Q I w => ?_⟩
  refine q c σ s T H _ I (w.bind fun d s1 _ w1 v H1 I1 => ?_)
  obtain ⟨F, α, J⟩ := _root_.id I1
  cases e : view s1.M d with
  | str z =>
    rw [e] at w1
    simp only [dRev] at w1
    by_cases hl : le1m z.length = true
    · rw [if_pos hl] at w1
      exact ⟨z, J.t1s e, le1m_ok hl, w1 _ H1 (SI.flat rfl I1.pop)⟩
    · rw [if_neg hl] at w1; exact w1.elim
  | _ => rw [e] at w1; exact w1.elim
/-- xs[::-1] of a list -/
def dRevL : D → Option D
  | .lst xs => some (.lst xs.reverse)
  | .slst xs => some (.lst xs.reverse)
  | _ => none
theorem de_revL {e : Expr} {f : M D} {k : Nat} {p1 p2 p3 pos : Pos} (he : DE X cl W e f) : DE X cl W (.Subscript e (.Slice none none (some (.UnaryOp .USub (.Constant (.int 1) k p1) p2)) p3) pos) (eUn dRevL f) := by
  obtain ⟨te, pe, q⟩ := he
  refine ⟨_, pe_revL pe, fun c σ s T H Q I w => ?_⟩
  refine q c σ s T H _ I (w.bind fun d s1 _ w1 v H1 I1 => ?_)
  obtain ⟨F, α, J⟩ := _root_.id I1
  have r := J.tmp (d, v) (List.mem_cons_self ..)
  have key : ∀ xs, seqD (view s1.M d) = some xs → tpD d = none → Want X.K cl W c σ T (.ok (.lst xs.reverse) s1) Q → ∃ a vs, v = .ref a ∧ SqL X.K H1 a vs ∧ ∀ p, H1 p = none → Q (.ref p) (upd H1 p (.lst vs.reverse)) := fun xs h hn w => by
    obtain ⟨a, vs, ev, h1, rl⟩ := J.vSeqL r hn h
    exact ⟨a, vs, ev, h1, fun p hp => w _ _ (J.lstNew hp rl.reverse).drop2⟩
  cases e : view s1.M d with
  | lst xs => rw [e] at w1 key; exact key xs rfl (by cases d <;> first | rfl | (cases e)) w1
  | slst xs => rw [e] at w1 key; exact key xs rfl (by cases d <;> first | rfl | (cases e)) w1
  | _ => rw [e] at w1; exact w1.elim
/-- x[::-1] of a text, a list, a tuple -/
def dRevA : D → Option D
  | .str z => if le1m z.length = true then some (.str (revS z)) else none
  | .lst xs => some (.lst xs.reverse)
  | .slst xs => some (.lst xs.reverse)
  | .tup xs => some (.tup xs.reverse)
  | _ => none
theorem de_revA {e : Expr} {f : M D} {k : Nat} {p1 p2 p3 pos : Pos} (he : DE X cl W e f) : DE X cl W (.Subscript e (.Slice none none (some (.UnaryOp .USub (.Constant (.int 1) k p1) p2)) p3) pos) (eUn dRevA f) := by
  obtain ⟨te, pe, q⟩ := id he
  refine ⟨_, PE.or (pe_revS pe) (PE.or (pe_revL pe) (pe_revT pe)), fun c σ s T H Q I w => ?_⟩
  have w' : Want X.K cl W c σ T ((f s).bind fun d s => oOf (dRevA (view s.M d)) s) Q := w
  cases hf : f s with
  | fail => rw [hf] at w'; exact w'.elim
  | exc n fs s1 => exact .inl (q c σ s T H _ I (by rw [hf] at w' ⊢; exact w'))
  | ok d s1 =>
    rw [hf] at w'
    have w1 : Want X.K cl W c σ T (oOf (dRevA (view s1.M d)) s1) Q := w'
    cases e : view s1.M d with
    | str z =>
      refine .inl (q c σ s T H _ I ?_)
      rw [hf]
      intro v H1 I1
      obtain ⟨F, α, J⟩ := id I1
      rw [e] at w1
      simp only [dRevA] at w1
      by_cases hl : le1m z.length = true
      · rw [if_pos hl] at w1
        exact ⟨z, J.t1s e, le1m_ok hl, w1 _ H1 (SI.flat rfl I1.pop)⟩
      · rw [if_neg hl] at w1; exact w1.elim
    | lst xs =>
      refine .inr (.inl (q c σ s T H _ I ?_))
      rw [hf]
      intro v H1 I1
      obtain ⟨F, α, J⟩ := id I1
      rw [e] at w1
      obtain ⟨a, vs, ev, h1, rl⟩ := J.vSeqL (J.tmp (d, v) (List.mem_cons_self ..)) (by cases d <;> first | rfl | (cases e)) (show seqD (view s1.M d) = some xs by rw [e]; rfl)
      exact ⟨a, vs, ev, h1, fun p hp => w1 _ _ (J.lstNew hp rl.reverse).drop2⟩
    | slst xs =>
      refine .inr (.inl (q c σ s T H _ I ?_))
      rw [hf]
      intro v H1 I1
      obtain ⟨F, α, J⟩ := id I1
      rw [e] at w1
      obtain ⟨a, vs, ev, h1, rl⟩ := J.vSeqL (J.tmp (d, v) (List.mem_cons_self ..)) (by cases d <;> first | rfl | (cases e)) (show seqD (view s1.M d) = some xs by rw [e]; rfl)
      exact ⟨a, vs, ev, h1, fun p hp => w1 _ _ (J.lstNew hp rl.reverse).drop2⟩
    | tup xs =>
      refine .inr (.inr (q c σ s T H _ I ?_))
      rw [hf]
      intro v H1 I1
      obtain ⟨F, α, J⟩ := id I1
      rw [e] at w1
      obtain ⟨a, vs, ev, h1, rl⟩ := J.vTup (J.tmp (d, v) (List.mem_cons_self ..)) e
      exact ⟨a, vs, ev, h1, fun p hp o hd => w1 _ _ (J.tupNew hp hd rl.reverse).drop2⟩
    | _ => rw [e] at w1; exact w1.elim
end
end DL

/-! DlS: calls by names; the law's call. -/
namespace DL
open PySem L2
open PySem.Spec PyProof.Rows

structure DK (X : Cx) (cl : Str → Addr) (W : WX) (kws : List Keyword) (f : M (List D)) : Prop where
  ex : ∃ te, PK X kws te ∧ ∀ c σ s T H Q, SI X.K cl c H σ s T → WantA X.K cl W c σ T (f s) Q → te σ H Q
def pick {α : Type} (ix : List Nat) (l : List α) : List α := ix.filterMap fun i => l[i]?
theorem Vals.pick {vs : List V} {us : List Value} (r : Vals vs us) : ∀ ix : List Nat, Vals (DL.pick ix vs) (DL.pick ix us)
  | [] => .nil
  | i :: ix => by
    unfold DL.pick
    rw [List.filterMap_cons, List.filterMap_cons]
    cases e : vs[i]? with
    | none =>
      have e2 : us[i]? = none := by
        rw [List.getElem?_eq_none_iff] at e ⊢
        rw [← r.length]; exact e
      rw [e2]
      exact Vals.pick r ix
    | some v =>
      obtain ⟨u, hu, ru⟩ := r.get e
      rw [hu]
      exact .cons ru (Vals.pick r ix)
theorem RepL.pick {K : PySem.W.Frag} {cl : Str → Addr} {H : Hp} {F : Addr → Prop} {α : List Addr} {ds : List D} {vs : List V} (r : RepL K cl H F α ds vs) : ∀ ix : List Nat, RepL K cl H F α (DL.pick ix ds) (DL.pick ix vs)
  | [] => .nil
  | i :: ix => by
    unfold DL.pick
    rw [List.filterMap_cons, List.filterMap_cons]
    cases e : ds[i]? with
    | none =>
      have e2 : vs[i]? = none := by
        rw [List.getElem?_eq_none_iff] at e ⊢
        rw [← r.length]; exact e
      rw [e2]
      exact RepL.pick r ix
    | some d =>
      obtain ⟨v, hv, rv⟩ := r.get e
      rw [hv]
      exact .cons rv (RepL.pick r ix)
theorem kbn_of {K : PySem.W.Frag} {x qual : Str} {params : Arguments} {body : List Stmt} {scope : Scope} {kws : List (Str × V)} {f : Addr} {fd : FuncData} {ps : List Str} {ix : List Nat} (F : FunD K x qual params body scope [] kws f fd) (n : Nat) (ks : List Str)
    (h : ∀ (kV doc pm : Value) (an : Option Addr) (cdv ct : Value) (us ws : List Value), us.length = n → ws.length = ks.length → bindArgs (PySem.W.fnOf x qual params body scope .none kV doc pm an cdv ct) ⟨us, ks.zip ws⟩ = pure (ps.zip (pick ix (us ++ ws)))) :
    KBn K fd ps n ks (fun us ws => pick ix (us ++ ws)) (fun us ws => pick ix (us ++ ws)) := by
  obtain ⟨oc, od, dV, kV, doc, pm, an, cdv, ct, osl, rfl, lk, hcd, hD, hK⟩ := F.ex
  rcases hD with ⟨_, rfl⟩ | ⟨e, _⟩
  · exact ⟨fun s us ws X l1 l2 => .of_eq (h kV doc pm an cdv ct us ws l1 l2), fun r1 r2 => Vals.pick (r1.append r2) ix⟩
  · exact absurd rfl e
section
variable {X : Cx} {cl : Str → Addr} {W : WX} {k : Nat}
theorem de_tyname {x : Str} {ty : String} {pos : Pos} (hm : X.mg x = none) (hv : bootBuiltins x = some (.type ty) := by decide +kernel) (hg : Gl X x := by rfl) (hn : x ≠ "__name__" := by decide) (hd : (x == ("__debug__" : Str)) = false := by decide) : DE X cl W (.Name x pos) (eC (.raw (.ty ty))) :=
  ⟨_, pe_bltn hg hm hv (v := .ty ty) rfl hn hd, fun c σ s T H Q I w => w _ H (by obtain ⟨F, α, J⟩ := I; exact ⟨F, α, J.push .raw⟩)⟩
theorem dk_nil : DK X cl W [] aNil := ⟨_, pk_nil, fun c σ s T H Q I w => w [] H rfl I⟩
theorem dk_cons {e : Expr} {nm : Option Str} {kpos : Pos} {kws : List Keyword} {f : M D} {g : M (List D)} (h : DE X cl W e f) (hr : DK X cl W kws g) : DK X cl W (⟨nm, e, kpos⟩ :: kws) (aCons f g) := by
  obtain ⟨te, pe, q⟩ := h
  obtain ⟨ta, pa, qa⟩ := hr
  refine ⟨_, pk_cons pe pa, fun c σ s T H Q I w => ?_⟩
  refine q c σ s T H _ I (w.bind fun d s1 _ w1 v H1 I1 => ?_)
  refine qa c σ s1 _ H1 _ I1 ?_
  cases hg : g s1 with
  | fail => rw [hg] at w1; exact w1
  | exc n fs s2 => rw [hg] at w1; exact fun dx H e i => w1 dx H e (i.xt fun p hp => List.mem_cons_of_mem _ hp)
  | ok ds s2 =>
    rw [hg] at w1
    exact fun vs H2 hl I2 => w1 (v :: vs) H2 (by rw [List.length_cons, List.length_cons, hl]) I2
def eCallK (io : List Bool) (sem : Sem) (n m : Nat) (ix : List Nat) (f fk : M (List D)) : M D := fun s => (f s).bind fun ds s => (fk s).bind fun es s => if ds.length = n ∧ es.length = m then callS io sem (pick ix (ds ++ es)) s else .fail
theorem run_GK {fa : Addr} {fd : FuncData} {ps ks : List Str} {sem : Sem} {pins : List (Addr × Obj)} {σ : L2.St} {H : Hp} {s : Shared} {Q : VK} {us ws : List Value} {vs zs : List V} {g : List Value → List Value → List Value} {gV : List V → List V → List V} (F : FnG X.prog X.w X.K X.mg X.base cl k fa fd ps sem) (hc : Cok X W k) {n : Nat} (hb : KBn X.K fd ps n ks g gV) (I : Inv X pins σ H s) (r : Vals vs us) (rz : Vals zs ws) (hl : (gV vs zs).length = ps.length) (l1 : vs.length = n) (l2 : zs.length = ks.length)
    (h : dsp X.K cl sem (gV vs zs) H Q (fun cls dx H' => W cls dx σ H')) : wpAny (model X.prog X.w) X.A (call (.ref fa) us (ks.zip ws)) (EP X pins σ Q) X.xe s := by
  have r2 := hb.rel r rz
  have hl2 : (g us ws).length = ps.length := by rw [← r2.length]; exact hl
  refine wpAny_call (codeAny_mono (F.run X.A X.stack s H ⟨us, ks.zip ws⟩ (g us ws) (gV vs zs) Q _ hc.room hc.gd I.env0 (hb.to s us ws I.kIn (r.length.symm.trans l1) (rz.length.symm.trans l2)) r2 hl h) fun res s' hq => ?_)
  cases res with
  | error e => exact passAt hc.tk σ pins H s e s' I hq
  | ok fl =>
    cases fl with
    | ret u => exact I.after hq
    | next => exact False.elim hq
    | brk => exact False.elim hq
    | cont => exact False.elim hq
theorem callK_dsp {σ : L2.St} {T : List (D × V)} {c : Cz} {s : S} {H : Hp} {io : List Bool} {sem : Sem} {ix : List Nat} {ds es : List D} {vs zs : List V} {Q : VK} (hn : LenOk sem) (hl : ds.length = vs.length) (hl2 : es.length = zs.length) (I : SI X.K cl c H σ s (zipT es zs (zipT ds vs T))) (w : Want X.K cl W c σ T (callS io sem (pick ix (ds ++ es)) s) Q) :
    dsp X.K cl sem (pick ix (vs ++ zs)) H Q (fun cls dx H' => W cls dx σ H') ∧ (pick ix (vs ++ zs)).length = io.length := by
  obtain ⟨G, α, J⟩ := I
  have r2 := J.args hl2
  have J1 : SIx X.K cl c H σ s (zipT ds vs T) G α := J.temps fun q hq => J.tmp q (zipT_sub _ _ _ q hq)
  have r1 := J1.args hl
  have rp := (r1.append r2).pick ix
  have J2 : SIx X.K cl c H σ s (zipT (pick ix (ds ++ es)) (pick ix (vs ++ zs)) T) G α := J1.temps (rp.zip fun q hq => J1.tmp q (zipT_sub _ _ _ q hq))
  exact ⟨call_dsp J2 rp.length w hn.1 hn.2, by rw [← rp.length, callS_len w]⟩
theorem zipT_key : ∀ (ds : List D) (vs : List V) (T T' : List (D × V)), (∀ p ∈ T, p ∈ T') → ∀ p ∈ zipT ds vs T, p ∈ zipT ds vs T' := by
  intro ds
  induction ds with
  | nil => intro vs T T' h p hp; exact h p hp
  | cons d ds ih =>
    intro vs T T' h p hp
    cases vs with
    | nil => exact h p hp
    | cons v vs => exact ih vs _ _ (fun p hp => (List.mem_cons.mp hp).elim (fun e => e ▸ List.mem_cons_self ..) fun hp => List.mem_cons_of_mem _ (h p hp)) p hp
theorem zipT_or : ∀ (ds : List D) (vs : List V) (T : List (D × V)) (p : D × V), p ∈ zipT ds vs T → p ∈ T ∨ p ∈ zipT ds vs [] := by
  intro ds
  induction ds with
  | nil => intro vs T p hp; exact .inl hp
  | cons d ds ih =>
    intro vs T p hp
    cases vs with
    | nil => exact .inl hp
    | cons v vs =>
      rcases ih vs _ p hp with h | h
      · rcases List.mem_cons.mp h with h | h
        · exact .inr (zipT_sub ds vs [(d, v)] p (by rw [h]; exact List.mem_cons_self ..))
        · exact .inl h
      · exact .inr (zipT_key ds vs [] [(d, v)] (fun _ h => by simp at h) p h)
theorem zz (ds : List D) (vs : List V) (es : List D) (zs : List V) (T : List (D × V)) : ∀ p ∈ zipT es zs (zipT ds vs (zipT ds vs T)), p ∈ zipT es zs (zipT ds vs T) := by
  refine zipT_key es zs _ _ fun p hp => ?_
  rcases zipT_or ds vs _ p hp with h | h
  · exact h
  · exact zipT_key ds vs [] T (fun _ h => by simp at h) p h
/-- f(e, .., k = v, ..) -/
theorem de_callK {x : Str} {fa : Addr} {fd : FuncData} {ps ks : List Str} {sem : Sem} {io : List Bool} {n : Nat} {ix : List Nat} {e : Expr} {es : List Expr} {kws : List Keyword} {f fk : M (List D)} {p pos : Pos} (F : FnG X.prog X.w X.K X.mg X.base cl k fa fd ps sem) (hn : LenOk sem) (hio : io.length = ps.length) (hc : Cok X W k)
    (hm : X.mg x = some (.ref fa)) (hk : PySem.W.keepIn X.K (.ref fa) = true) (hb : KBn X.K fd ps n ks (fun us ws => pick ix (us ++ ws)) (fun us ws => pick ix (us ++ ws))) (ha : DA X cl W (e :: es) f) (hkw : DK X cl W kws fk)
    (hg : Gl X x := by rfl) (hall : (backToKw pos (keywordEach kws X.env)).all (·.1.isSome) = true := by rfl) (hks : (backToKw pos (keywordEach kws X.env)).filterMap (·.1) = ks := by rfl)
    (hdb : (x == ("__debug__" : Str)) = false := by decide) (he : starEach (e :: es) X.env = (false, eval e X.env) :: starEach es X.env := by rfl)
    (hpl : ((backTo pos (starEach (e :: es) X.env)).any (·.1) || (backToKw pos (keywordEach kws X.env)).any (·.1.isNone)) = false := by rfl) : DE X cl W (.Call (.Name x p) (e :: es) kws pos) (eCallK io sem n ks.length ix f fk) := by
  obtain ⟨ta, pa, qa⟩ := ha
  obtain ⟨tk, pk, qk⟩ := hkw
  refine ⟨fun σ H Q => ta σ H fun vs H1 => tk σ H1 fun zs H2 => vs.length = n ∧ zs.length = ks.length ∧ (pick ix (vs ++ zs)).length = ps.length ∧ dsp X.K cl sem (pick ix (vs ++ zs)) H2 Q (fun cls dx H' => W cls dx σ H'), ⟨fun pins s σ H Q I h => ?_⟩, fun c σ s T H Q I w => ?_⟩
  · refine wpAny_Call_Name_kw (ld_glob I hg hm ?_ hdb)
    refine PySem.W.callWith_KW (h₀ := X.base) I.ok.mod.kin hk hall (thn (pa.run pos pins s σ H _ I h) fun us s1 ⟨vs, H1, I1, r, q⟩ => ?_) hpl he
    refine thn (pk.run pos pins s1 σ H1 _ I1 q) fun ws s2 ⟨zs, H2, I2, rz, l1, l2, hl, q2⟩ => ⟨I2.kIn, ?_⟩
    rw [hks]
    exact run_GK F hc hb I2 r rz hl l1 l2 q2
  · refine qa c σ s T H _ I (w.bindA fun ds s1 _ w1 vs H1 hl I1 => ?_)
    refine qk c σ s1 _ H1 _ I1 ((w1.deeper fun p hp => zipT_sub _ _ _ p hp).bindA fun es' s2 _ w2 zs H2 hl2 I2 => ?_)
    by_cases hb : ds.length = n ∧ es'.length = ks.length
    · rw [if_pos hb] at w2
      obtain ⟨h1, h2⟩ := callK_dsp (T := zipT ds vs T) hn hl hl2 (I2.sub fun p hp => zz ds vs es' zs T p hp) w2
      exact ⟨hl.symm.trans hb.1, hl2.symm.trans hb.2, by rw [h2, hio], h1⟩
    · rw [if_neg hb] at w2; exact w2.elim
/-- f(k = v, ..) -/
theorem de_callK0 {x : Str} {fa : Addr} {fd : FuncData} {ps ks : List Str} {sem : Sem} {io : List Bool} {n : Nat} {ix : List Nat} {kws : List Keyword} {fk : M (List D)} {p pos : Pos} (F : FnG X.prog X.w X.K X.mg X.base cl k fa fd ps sem) (hn : LenOk sem) (hio : io.length = ps.length) (hc : Cok X W k)
    (hm : X.mg x = some (.ref fa)) (hk : PySem.W.keepIn X.K (.ref fa) = true) (hb : KBn X.K fd ps n ks (fun us ws => pick ix (us ++ ws)) (fun us ws => pick ix (us ++ ws))) (hkw : DK X cl W kws fk)
    (hg : Gl X x := by rfl) (hall : (backToKw pos (keywordEach kws X.env)).all (·.1.isSome) = true := by rfl) (hks : (backToKw pos (keywordEach kws X.env)).filterMap (·.1) = ks := by rfl)
    (hdb : (x == ("__debug__" : Str)) = false := by decide)
    (hpl : ((backTo pos (starEach [] X.env)).any (·.1) || (backToKw pos (keywordEach kws X.env)).any (·.1.isNone)) = false := by rfl) : DE X cl W (.Call (.Name x p) [] kws pos) (eCallK io sem n ks.length ix aNil fk) := by
  obtain ⟨tk, pk, qk⟩ := hkw
  refine ⟨fun σ H Q => tk σ H fun zs H2 => 0 = n ∧ zs.length = ks.length ∧ (pick ix ([] ++ zs)).length = ps.length ∧ dsp X.K cl sem (pick ix ([] ++ zs)) H2 Q (fun cls dx H' => W cls dx σ H'), ⟨fun pins s σ H Q I h => ?_⟩, fun c σ s T H Q I w => ?_⟩
  · refine wpAny_Call_Name_kw (ld_glob I hg hm ?_ hdb)
    refine PySem.W.callWith_KW0 (h₀ := X.base) I.ok.mod.kin hk hall (thn (pk.run pos pins s σ H _ I h) fun ws s2 ⟨zs, H2, I2, rz, l1, l2, hl, q2⟩ => ⟨I2.kIn, ?_⟩) hpl
    rw [hks]
    exact run_GK (us := []) (vs := []) F hc hb I2 .nil rz hl l1 l2 q2
  · have w' : Want X.K cl W c σ T ((fk s).bind fun es s => if 0 = n ∧ es.length = ks.length then callS io sem (pick ix ([] ++ es)) s else .fail) Q := w
    refine qk c σ s _ H _ I (w'.bindA fun es' s2 _ w2 zs H2 hl2 I2 => ?_)
    by_cases hb : 0 = n ∧ es'.length = ks.length
    · rw [if_pos hb] at w2
      obtain ⟨h1, h2⟩ := callK_dsp (ds := []) (vs := []) (T := T) hn rfl hl2 I2 w2
      exact ⟨hb.1, hl2.symm.trans hb.2, by rw [h2, hio], h1⟩
    · rw [if_neg hb] at w2; exact w2.elim
end

/-! ### the law, called -/
theorem law_G {P : Program} {w : World} {K : PySem.W.Frag} {cl : Str → Addr} {mg mb : Str → Option Value} {k : Nat} {fa a : Addr} {fd : FuncData} {x : Str} {sem : Sem} {s₁ : Shared} {vs : List Value} {ns : List Int}
    (KX : K.In s₁.heap) (hns : s₁.heap.Ns mainGlobals mg) (hb : s₁.heap.Ns builtinsNs mb) (hbb : ∀ x : Str, x ≠ "__name__" → mb x = bootBuiltins x) (hlim : s₁.heap.NoLimit) (hg : s₁.gens = #[])
    (ha : s₁.heap.get? a = some { cls := .type "list", data := .seq vs.toArray }) (hi : IntsAre vs ns) (hl : ns.length ≤ sizeLine) (hr : Room k callerA)
    (F : ∀ base : Heap, K.In base → base.Ns mainGlobals mg → FnG P w K mg base cl k fa fd [x] sem) (hbind : ∀ (s : Shared) (u : Value), BindsTo s fd ⟨[u], []⟩ [(x, u)])
    (hsem : ∃ s', sem [] [.slst (ns.map .int)] = .ok (.bl true) s') :
    codeAny (model P w) callerA (.call (.ref fa) ⟨[.ref a], []⟩) (fun r s' => r = .ok (.ret (.bool true)) ∧ OldK s₁.heap s'.heap ∧ s'.os = s₁.os ∧ AllBare s'.gens) s₁ := by
  have rv := vals_ints hi
  have lenV := hi.length
  have core : ∀ H : Hp, Only H → SqL K H a (ns.map V.int) → HOk P w H s₁.heap → (∀ b, H b ≠ none → b = a) → (H a ≠ none → K.lookup a = none) →
      codeAny (model P w) callerA (.call (.ref fa) ⟨[.ref a], []⟩) (fun r s' => r = .ok (.ret (.bool true)) ∧ OldK s₁.heap s'.heap ∧ s'.os = s₁.os ∧ AllBare s'.gens) s₁ := by
    intro H hO hS hok hA hK
    have only : ∀ {b : Addr}, b ≠ a → H b = none := fun {b} nb => by
      cases q : H b with
      | none => rfl
      | some u => exact absurd (hA b (by rw [q]; simp)) nb
    have ofns : ∀ {b : Addr} {m : Str → Option Value}, s₁.heap.Ns b m → (hidT s₁.heap H).Ns b m := fun {b m} ⟨o, es, ep, e, d, r⟩ => by
      refine ⟨o, es, ep, hidT_get e (only fun q => ?_), d, r⟩
      subst q
      rw [ha] at e; cases e
      exact nomatch (show Data.seq vs.toArray _ = Data.dict es ep from d)
    have inK : K.In (hidT s₁.heap H) := fun b o e => hidT_get (KX b o e) (by
      by_cases q : H a = none
      · by_cases nb : b = a
        · rw [nb]; exact q
        · exact only nb
      · exact only fun nb => by rw [nb, hK q] at e; cases e)
    obtain ⟨mc, h1, h2⟩ := id hlim
    have e0 : Env0 P w K mg (hidT s₁.heap H) callerA [] s₁ H := ⟨rfl, ⟨inK, ofns hns, ⟨mb, ofns hb, hbb⟩, ⟨mc, ofns h1, h2⟩⟩, fun b o e => of_hidT e, Nat.le_of_eq (hidT_size _ _), trivial, fun b hb => absurd (show b ∈ ([] : List Addr) from hb) (by simp), hok, .of_eq hg⟩
    have promise : dsp K cl sem [.ref a] H (fun v _ => v = .bl true) (fun _ _ _ => False) := by
      obtain ⟨s2, e2⟩ := hsem
      have live : H a ≠ none → ∃ o, H a = some o := fun q => by
        cases z : H a with
        | none => exact absurd z q
        | some o => exact ⟨o, rfl⟩
      have rp : Rep K cl H (fun b => b = a ∧ H b ≠ none) [] (.slst (ns.map .int)) (.ref a) := by
        rcases hS with h | h
        · refine .slst h ⟨rfl, ?_⟩ (rep_ints ns)
          rcases h with h | ⟨o, h⟩ <;> rw [h] <;> simp
        · exact .slstK (fun H' => .inr h) (rep_ints ns)
      refine ⟨fun b => b = a ∧ H b ≠ none, [], [], [.slst (ns.map .int)], rfl, ?_, ?_⟩
      · exact ⟨fun i d e => by simp at e, rfl, fun q hq => by
          rw [List.mem_singleton.mp (show q ∈ [((D.slst (ns.map .int)), V.ref a)] from hq)]; exact rp, rfl, fun k x b e => by simp at e, List.nodup_nil, fun b hb => by simp at hb, fun b hb => by simp at hb, fun b hb => by
          obtain ⟨rfl, q⟩ := hb
          exact live q, fun b hb => .inr (.inl hb), fun k b e => by simp at e, fun b o e _ => e, fun _ _ e => e, fun _ _ _ e => e⟩
      · rw [e2]
        intro v H' I'
        obtain ⟨F', α', J'⟩ := I'
        cases J'.tmp (.bl true, v) (List.mem_cons_self ..)
        rfl
    refine codeAny_mono ((F _ inK (ofns hns)).run callerA [] s₁ H ⟨[.ref a], []⟩ [.ref a] [.ref a] _ _ hr rfl e0 (hbind s₁ (.ref a)) (.cons rfl .nil) rfl promise) fun r s' h => ?_
    cases r with
    | error e =>
      obtain ⟨_, _, _, _, _, _, _, _, _, _, _, _, z⟩ := h
      exact z.elim
    | ok fl =>
      cases fl with
      | next => exact False.elim h
      | brk => exact False.elim h
      | cont => exact False.elim h
      | ret u =>
        obtain ⟨v, H', os, bare, un, hok', r', q⟩ := h
        have q' : v = .bl true := q
        subst q'
        obtain rfl : u = Value.bool true := r'
        refine ⟨rfl, OldK.of_keep fun b o e => ?_, os, bare⟩
        rcases hO b with z | ⟨ob, xs, z⟩
        · exact un.keep b o e z (by intro z; exact absurd (show b ∈ ([] : List Addr) from z) (by simp)) (by simp)
        · obtain ⟨e1, _⟩ := hok b _ z
          obtain ⟨e2, _⟩ := hok' b _ (un.frzs b ob _ z)
          rw [e] at e1; cases e1
          exact e2
  cases hk : K.lookup a with
  | some o =>
    have e := KX a o hk
    rw [ha] at e
    cases e
    exact core (fun _ => none) (fun _ => .inl rfl) (.inr ⟨_, vs.toArray, _, hk, rfl, rfl, rfl, by rw [List.size_toArray, lenV]; exact hl, by simpa using rv⟩) (fun b u z => by cases z) (fun b z => absurd rfl z) fun z => absurd rfl z
  | none =>
    obtain ⟨H, hH⟩ : ∃ H : Hp, H = fun b => if b = a then some (.frz { cls := .type "list", data := .seq vs.toArray } (.lst (ns.map V.int))) else none := ⟨_, rfl⟩
    have here : H a = some (.frz { cls := .type "list", data := .seq vs.toArray } (.lst (ns.map V.int))) := by rw [hH]; exact if_pos rfl
    have away : ∀ b, b ≠ a → H b = none := fun b nb => by rw [hH]; exact if_neg nb
    refine core H (fun b => ?_) (.inl (.inr ⟨_, here⟩)) (fun b u z => ?_) (fun b z => ?_) fun _ => hk
    · by_cases nb : b = a
      · subst nb; exact .inr ⟨_, _, here⟩
      · exact .inl (away b nb)
    · by_cases nb : b = a
      · subst nb
        rw [here] at z
        cases z
        exact ⟨ha, by rw [List.length_map]; exact hl, vs, _, rv, ha⟩
      · rw [away b nb] at z
        cases z
    · by_cases nb : b = a
      · exact nb
      · exact absurd (away b nb) z
theorem walk_G {l : PySem.W.OpenLaw} {n k : Nat} {q : Program} {loose : List Str} {XP : (Str → Option Value) → Heap → Prop} {YP : World → Heap → Prop} {d : DefRec} {x : Str}
    (hn : l.most = some n) (hn2 : n ≤ sizeLine) (hdf : d.params.defaults = []) (hr : Room k callerA)
    (F : ∀ (w : World) (mg : Str → Option Value) (fa : Addr) (h : Heap), YP w h → h.Ns mainGlobals mg → mg d.name = some (.ref fa) →
      ∃ (K : PySem.W.Frag) (cl : Str → Addr) (fd : FuncData) (sem : Sem), K.In h ∧ (∀ (s : Shared) (u : Value), BindsTo s fd ⟨[u], []⟩ [(x, u)]) ∧
        (∀ ns : List Int, ns.length ≤ n → ∃ s', sem [] [.slst (ns.map .int)] = .ok (.bl true) s') ∧
        ∀ base : Heap, K.In base → base.Ns mainGlobals mg → FnG l.prog w K mg base cl k fa fd [x] sem) :
    PySem.W.WalkO q loose XP YP l.row.toRowW d [] (fun f vs => PySem.call f vs) := by
  refine Att.attach_call hn hdf fun w s₀ s₁ mg mb fa o pm cd doc a vs ns G Y ho hd hcd hmg hobj hints hlen hg => ?_
  obtain ⟨K, cl, fd, sem, KX, hb, hsem, hF⟩ := F w mg fa _ Y G.T.g hmg
  exact law_G KX G.T.g G.T.b G.T.builtins G.T.nolimit hg hobj hints (Nat.le_trans hlen hn2) hr hF hb (hsem ns hlen)
end DL

/-! DlZ: zip, strict, over any two walks of one length. -/
namespace DL
open PySem
open PySem.Sem (wp)
section
variable {prog : Program} {w : World} {A : Around} {E : Value → Shared → Prop} {s : Shared}
theorem nextEnd_of {it : Value} {Q : Option Value → Shared → Prop} (h : wpAny (model prog w) A (pyNext it) Q E s) : wpAny (model prog w) A (Builtin.SmallTypes.nextOrEnd it) Q E s := by
  intro Γ p hΓ
  have h := h Γ p hΓ
  unfold pyNext at h
  unfold Builtin.SmallTypes.nextOrEnd Builtin.SmallTypes.nextOf
  rw [Sem.wp_bind', Sem.wp_attempt] at h
  rw [Sem.wp_bind', Sem.wp_attempt, Sem.wp_bind']
  refine Sem.wp_mono _ _ _ (fun r p' s' h => ?_) (fun e p' s' h => ?_) _ _ h
  · cases r with
    | none => exact False.elim (by simpa [wp] using h)
    | some v => exact h
  · exact h
/-- the zip's record, strict -/
abbrev IsZs (h : Heap) (z TI TO : Addr) (f0 : Value) : Prop :=
  h.get? z = some { cls := .type "zip", dict := none, data := .fields #[f0, .bool false, .bool true, .ref TI, .ref TO], slots := #[] }
/-- two walks, the zip's own objects, all apart -/
structure Zw (z TI TO i1 i2 : Addr) (fp1 fp2 wr1 wr2 : List Addr) : Prop where
  TIz : TI ≠ z
  TOz : TO ≠ z
  TITO : TI ≠ TO
  z1 : z ∉ fp1
  z2 : z ∉ fp2
  I1 : TI ∉ fp1
  I2 : TI ∉ fp2
  O1 : TO ∉ fp1
  O2 : TO ∉ fp2
  a12 : ∀ b ∈ fp1, b ∉ wr2
  a21 : ∀ b ∈ fp2, b ∉ wr1
variable {z TI TO i1 i2 : Addr} {fp1 fp2 wr1 wr2 : List Addr} {n : Nat} {P1 P2 : Nat → Value → Prop} {S1 S2 : Nat → Heap → Prop}
theorem zs_item (D : Zw z TI TO i1 i2 fp1 fp2 wr1 wr2) (W1 : Walks prog w A i1 fp1 wr1 n P1 S1) (W2 : Walks prog w A i2 fp2 wr2 n P2 S2) {a b : Value} {k : Nat} {Q : Value → Shared → Prop}
    (hz : IsZs s.heap z TI TO .none) (hTI : IsPair s.heap TI (.ref i1) (.ref i2)) (hTO : IsPair s.heap TO a b) (h1 : S1 k s.heap) (h2 : S2 k s.heap) (hk : k < n)
    (hQ : ∀ x y (h5 h' : Heap) tk, P1 k x → P2 k y → (∀ c o, c ≠ z → c ≠ TO → c ∉ wr1 → c ∉ wr2 → s.heap.get? c = some o → h5.get? c = some o) → (∀ c o, c ≠ z → h5.get? c = some o → h'.get? c = some o) →
      IsZs h' z TI TO (rawInt h5.objs.size) → IsPair h' TO x y → S1 (k + 1) h' → S2 (k + 1) h' → IsPair h' h5.objs.size x y → z < h5.objs.size → Q (.ref h5.objs.size) { s with heap := h', toks := tk }) :
    wpAny (model prog w) A (Builtin.«zip.__next__» ⟨[.ref z], []⟩) (fun fin s' => ∃ v, fin = .done (.ret v) ∧ Q v s') E s := by
  show wpAny _ _ (field (.ref z) 2 >>= _) _ _ _
  refine wpAny_bind (wpAny_field hz rfl (x := .bool true) rfl ?_)
  show wpAny _ _ (field (.ref z) 3 >>= _) _ _ _
  refine wpAny_bind (wpAny_field hz rfl (x := .ref TI) rfl ?_)
  refine wpAny_bind (wpAny_seqItems hTI rfl ?_)
  show wpAny _ _ (Builtin.SmallTypes.ownedTupleIsFree (.ref z) >>= _) _ _ _
  refine wpAny_bind ?_
  unfold Builtin.SmallTypes.ownedTupleIsFree
  refine wpAny_bind (wpAny_field hz rfl (x := .none) rfl (wpAny_pure ?_))
  simp only [if_true]
  refine wpAny_bind (wpAny_rule ?_)
  refine wpAny_bind (wpAny_field hz rfl (x := .ref TO) rfl ?_)
  refine wpAny_bind (wpAny_setField_rec hz (by simp) fun h₁ hz₁ hs₁ => ?_)
  replace hz₁ : IsZs h₁ z TI TO .ellipsis := hz₁
  refine wpAny_bind ?_
  simp only [List.zipIdx_cons, List.zipIdx_nil, List.forIn_cons, List.forIn_nil]
  have g1 : S1 k h₁ := W1.frame _ _ _ h1 fun b hb o q => hs₁.extBut _ _ (fun e => D.z1 (e ▸ hb)) q
  have g2 : S2 k h₁ := W2.frame _ _ _ h2 fun b hb o q => hs₁.extBut _ _ (fun e => D.z2 (e ▸ hb)) q
  refine wpAny_bind (wpAny_bind (wpAny_onRaise ?_))
  show wpAny _ _ (Builtin.SmallTypes.nextOrEnd (.ref i1)) _ _ _
  refine nextEnd_of (W1.item k _ _ _ hk g1 fun x h₂ t₂ px st1 k₂ => ?_)
  have zw1 : z ∉ wr1 := fun q => D.z1 (W1.sub z q)
  have Ow1 : TO ∉ wr1 := fun q => D.O1 (W1.sub TO q)
  have Iw1 : TI ∉ wr1 := fun q => D.I1 (W1.sub TI q)
  have zw2 : z ∉ wr2 := fun q => D.z2 (W2.sub z q)
  have Ow2 : TO ∉ wr2 := fun q => D.O2 (W2.sub TO q)
  have hTO₂ : IsPair h₂ TO a b := k₂ _ _ Ow1 (hs₁.extBut _ _ D.TOz hTO)
  refine wpAny_bind (wpAny_seqItems (s := { s with heap := h₂, toks := t₂ }) hTO₂ rfl ?_)
  refine wpAny_bind (wpAny_updateSeq_pair (s := { s with heap := h₂, toks := t₂ }) hTO₂ fun h₃ hTO₃ hs₃ => ?_)
  replace hTO₃ : IsPair h₃ TO x b := hTO₃
  refine wpAny_bind (wpAny_letGo (wpAny_pure ?_))
  have g3 : S2 k h₃ := W2.frame _ _ _ g2 fun c hc o q => hs₃.extBut _ _ (fun e => D.O2 (e ▸ hc)) (k₂ _ _ (D.a21 c hc) q)
  refine wpAny_bind (wpAny_bind (wpAny_onRaise ?_))
  show wpAny _ _ (Builtin.SmallTypes.nextOrEnd (.ref i2)) _ _ _
  refine nextEnd_of (W2.item k { s with heap := h₃, toks := t₂ } _ _ hk g3 fun y h₄ t₄ py st2 k₄ => ?_)
  have hTO₄ : IsPair h₄ TO x b := k₄ _ _ Ow2 hTO₃
  refine wpAny_bind (wpAny_seqItems (s := { s with heap := h₄, toks := t₄ }) hTO₄ rfl ?_)
  refine wpAny_bind (wpAny_updateSeq_pair (s := { s with heap := h₄, toks := t₄ }) hTO₄ fun h₅ hTO₅ hs₅ => ?_)
  replace hTO₅ : IsPair h₅ TO x y := hTO₅
  refine wpAny_bind (wpAny_letGo (wpAny_pure (wpAny_pure ?_)))
  refine wpAny_bind (wpAny_seqItems (s := { s with heap := h₅, toks := t₄ }) hTO₅ rfl ?_)
  refine wpAny_bind (wpAny_newTuple ?_)
  have hz₅ : IsZs h₅ z TI TO .ellipsis := hs₅.extBut _ _ D.TOz.symm (k₄ _ _ zw2 (hs₃.extBut _ _ D.TOz.symm (k₂ _ _ zw1 hz₁)))
  have hk₅ : ∀ c o, c ≠ z → c ≠ TO → c ∉ wr1 → c ∉ wr2 → s.heap.get? c = some o → h₅.get? c = some o := fun c o c1 c2 c3 c4 e =>
    hs₅.extBut _ _ c2 (k₄ _ _ c4 (hs₃.extBut _ _ c2 (k₂ _ _ c3 (hs₁.extBut _ _ c1 e))))
  have e1₅ : S1 (k + 1) h₅ := W1.frame _ _ _ st1 fun c hc o q => hs₅.extBut _ _ (fun e => D.O1 (e ▸ hc)) (k₄ _ _ (D.a12 c hc) (hs₃.extBut _ _ (fun e => D.O1 (e ▸ hc)) q))
  have e2₅ : S2 (k + 1) h₅ := W2.frame _ _ _ st2 fun c hc o q => hs₅.extBut _ _ (fun e => D.O2 (e ▸ hc)) q
  have hzlt : z < h₅.objs.size := Heap.lt_size hz₅
  show wpAny _ _ (Builtin.SmallTypes.ownedTupleHandOut (.ref z) (.ref h₅.objs.size) >>= _) _ _ _
  refine wpAny_bind ?_
  unfold Builtin.SmallTypes.ownedTupleHandOut
  have hz₆ : IsZs (h₅.push { cls := .type "tuple", data := .seq #[x, y] }) z TI TO .ellipsis := Heap.get?_push_of_some _ hz₅
  refine wpAny_bind (wpAny_setField_rec (s := { s with heap := h₅.push { cls := .type "tuple", data := .seq #[x, y] }, toks := t₄ }) hz₆ (by simp) fun h₇ hz₇ hs₇ => ?_)
  replace hz₇ : IsZs h₇ z TI TO (rawInt h₅.objs.size) := hz₇
  refine wpAny_setField_rec (s := { s with heap := h₇, toks := t₄ }) hz₇ (by simp) fun h₈ hz₈ hs₈ => ?_
  replace hz₈ : IsZs h₈ z TI TO (rawInt h₅.objs.size) := hz₈
  have up : ∀ c o, c ≠ z → h₅.get? c = some o → h₈.get? c = some o := fun c o c1 e => hs₈.extBut _ _ c1 (hs₇.extBut _ _ c1 (Heap.get?_push_of_some _ e))
  have hT₈ : IsPair h₈ h₅.objs.size x y := hs₈.extBut _ _ (Nat.ne_of_gt hzlt) (hs₇.extBut _ _ (Nat.ne_of_gt hzlt) (Heap.get?_push_size _ rfl))
  refine wpAny_pure ⟨_, rfl, ?_⟩
  exact hQ x y h₅ h₈ t₄ px py hk₅ up hz₈ (up _ _ D.TOz hTO₅) (W1.frame _ _ _ e1₅ fun c hc o q => up c o (fun e => D.z1 (e ▸ hc)) q) (W2.frame _ _ _ e2₅ fun c hc o q => up c o (fun e => D.z2 (e ▸ hc)) q) hT₈ hzlt
theorem stop_raises {Q : Fin → Shared → Prop} (hh : A.handled = none) (hE : ∀ h' e, (∀ c o, s.heap.get? c = some o → h'.get? c = some o) → (∃ o, h'.get? e = some o ∧ o.cls = .type "StopIteration") → E (.ref e) { s with heap := h' }) :
    wpAny (model prog w) A (Builtin.SmallTypes.stopIteration) Q E s := by
  show wpAny _ _ (newExc (.type "StopIteration") [] >>= _) _ _ _
  refine wpAny_bind ?_
  simp only [newExc, newTuple]
  refine wpAny_bind (wpAny_newObj_type ?_ (by size_fits))
  refine wpAny_bind (m := firstArgMember _ _) (wpAny_of_eq (a := Value.none) (by first | rfl | (simp only [firstArgMember]; rfl)) ?_)
  refine wpAny_newObj_type ?_ (by size_fits)
  simp only [raiseNew]
  refine wpAny_bind (wpAny_handled ?_)
  rw [hh]
  refine wpAny_bind (wpAny_pure (wpAny_throw ?_))
  exact hE _ _ (fun c o e => Heap.get?_push_of_some _ (Heap.get?_push_of_some _ e)) ⟨_, Heap.get?_push_size _ rfl, rfl⟩
theorem zs_done (hh : A.handled = none) (D : Zw z TI TO i1 i2 fp1 fp2 wr1 wr2) (W1 : Walks prog w A i1 fp1 wr1 n P1 S1) (W2 : Walks prog w A i2 fp2 wr2 n P2 S2) {a b : Value} {Q : Fin → Shared → Prop}
    (hz : IsZs s.heap z TI TO .none) (hTI : IsPair s.heap TI (.ref i1) (.ref i2)) (hTO : IsPair s.heap TO a b) (h1 : S1 n s.heap) (h2 : S2 n s.heap)
    (hE : ∀ (h' : Heap) tk e, (∀ c o, c ≠ z → c ≠ TO → c ∉ wr1 → c ∉ wr2 → s.heap.get? c = some o → h'.get? c = some o) → (∃ o, h'.get? e = some o ∧ o.cls = .type "StopIteration") → E (.ref e) { s with heap := h', toks := tk }) :
    wpAny (model prog w) A (Builtin.«zip.__next__» ⟨[.ref z], []⟩) Q E s := by
  show wpAny _ _ (field (.ref z) 2 >>= _) _ _ _
  refine wpAny_bind (wpAny_field hz rfl (x := .bool true) rfl ?_)
  show wpAny _ _ (field (.ref z) 3 >>= _) _ _ _
  refine wpAny_bind (wpAny_field hz rfl (x := .ref TI) rfl ?_)
  refine wpAny_bind (wpAny_seqItems hTI rfl ?_)
  show wpAny _ _ (Builtin.SmallTypes.ownedTupleIsFree (.ref z) >>= _) _ _ _
  refine wpAny_bind ?_
  unfold Builtin.SmallTypes.ownedTupleIsFree
  refine wpAny_bind (wpAny_field hz rfl (x := .none) rfl (wpAny_pure ?_))
  simp only [if_true]
  refine wpAny_bind (wpAny_rule ?_)
  refine wpAny_bind (wpAny_field hz rfl (x := .ref TO) rfl ?_)
  refine wpAny_bind (wpAny_setField_rec hz (by simp) fun h₁ hz₁ hs₁ => ?_)
  replace hz₁ : IsZs h₁ z TI TO .ellipsis := hz₁
  refine wpAny_bind ?_
  simp only [List.zipIdx_cons, List.zipIdx_nil, List.forIn_cons, List.forIn_nil]
  have g1 : S1 n h₁ := W1.frame _ _ _ h1 fun b hb o q => hs₁.extBut _ _ (fun e => D.z1 (e ▸ hb)) q
  have g2 : S2 n h₁ := W2.frame _ _ _ h2 fun b hb o q => hs₁.extBut _ _ (fun e => D.z2 (e ▸ hb)) q
  have zw1 : z ∉ wr1 := fun q => D.z1 (W1.sub z q)
  have zw2 : z ∉ wr2 := fun q => D.z2 (W2.sub z q)
  refine wpAny_bind (wpAny_bind (wpAny_onRaise ?_))
  show wpAny _ _ (Builtin.SmallTypes.nextOrEnd (.ref i1)) _ _ _
  refine nextEnd_of (W1.done _ _ _ g1 fun h₂ t₂ k₂ => ?_)
  have hz₂ : IsZs h₂ z TI TO .ellipsis := k₂ _ _ zw1 hz₁
  have g3 : S2 n h₂ := W2.frame _ _ _ g2 fun c hc o q => k₂ _ _ (D.a21 c hc) q
  refine wpAny_bind (wpAny_setField_rec (s := { s with heap := h₂, toks := t₂ }) hz₂ (by simp) fun h₃ hz₃ hs₃ => ?_)
  have g4 : S2 n h₃ := W2.frame _ _ _ g3 fun c hc o q => hs₃.extBut _ _ (fun e => D.z2 (e ▸ hc)) q
  refine wpAny_bind ?_
  refine wpAny_bind (m := forIn [(Value.ref i2, 1)] PUnit.unit _) ?_
  simp only [List.forIn_cons, List.forIn_nil]
  refine wpAny_bind ?_
  refine wpAny_bind (nextEnd_of (W2.done { s with heap := h₃, toks := t₂ } _ _ g4 fun h₄ t₄ k₄ => ?_))
  refine wpAny_pure ?_
  refine wpAny_pure ?_
  refine wpAny_bind (wpAny_rule (stop_raises (s := { s with heap := h₄, toks := t₄ }) hh fun h' e k5 he => hE h' t₄ e (fun c o c1 c2 c3 c4 q => k5 _ _ (k₄ _ _ c4 (hs₃.extBut _ _ c1 (k₂ _ _ c3 (hs₁.extBut _ _ c1 q))))) he))
end
theorem typeCall_zs (a b : Value) : checkTypeCall "zip" ⟨[a, b], [(Str.ofString "strict", .bool true)]⟩ = pure () := by kernel_rfl
theorem newCall_zs (a b : Value) : checkBuiltinCall "zip.__new__" ⟨[.type "zip", a, b], [(Str.ofString "strict", .bool true)]⟩ = pure () := by kernel_rfl
theorem args_zs (obj a b : Value) : argsOk "object.__init__" ⟨[obj, a, b], [(Str.ofString "strict", .bool true)]⟩ := by unfold argsOk; kernel_rfl
abbrev zH3 (h : Heap) (o1 o2 : Obj) : Heap := ((h.push o1).push o2).push { cls := .type "tuple", data := .seq #[.ref h.objs.size, .ref (h.push o1).objs.size] }
abbrev zH4 (h : Heap) (o1 o2 : Obj) : Heap := (zH3 h o1 o2).push { cls := .type "tuple", data := .seq #[.none, .none] }
abbrev zH5 (h : Heap) (o1 o2 : Obj) : Heap := (zH4 h o1 o2).push { cls := .type "zip", data := .fields #[.none, .bool false, .bool true, .ref ((h.push o1).push o2).objs.size, .ref (zH3 h o1 o2).objs.size] }
theorem meets_zs {v1 v2 : Value} {o1 o2 : Obj} {H1 H2 : Heap → Prop} (B1 : Begins v1 o1 H1) (B2 : Begins v2 o2 H2) :
    Meets (Builtin.«zip.__new__» ⟨[.type "zip", v1, v2], [(Str.ofString "strict", .bool true)]⟩) (fun _ R s => H1 s.heap ∧ H2 (s.heap.push o1) ∧
      R (.ok (.ret (.ref (zH4 s.heap o1 o2).objs.size))) { s with heap := zH5 s.heap o1 o2 }) :=
  .of_wp fun prog w A R s h => by
    obtain ⟨hp, g, d, tk, os⟩ := s; obtain ⟨h1, h2, h⟩ := h
    have hsub := sub_zip
    have q1 : ∀ {A' : Around} {E : Value → Shared → Prop} {Q : Value → Shared → Prop}, Q (.ref hp.objs.size) ⟨hp.push o1, g, d, tk, os⟩ → wpAny (model prog w) A' (pyIter v1) Q E ⟨hp, g, d, tk, os⟩ :=
      fun q => B1.iter prog w _ _ ⟨hp, g, d, tk, os⟩ _ h1 q
    have q2 : ∀ {A' : Around} {E : Value → Shared → Prop} {Q : Value → Shared → Prop}, Q (.ref (hp.push o1).objs.size) ⟨(hp.push o1).push o2, g, d, tk, os⟩ → wpAny (model prog w) A' (pyIter v2) Q E ⟨hp.push o1, g, d, tk, os⟩ :=
      fun q => B2.iter prog w _ _ ⟨hp.push o1, g, d, tk, os⟩ _ h2 q
    have e2 : (Str.ofString "strict" != ("strict" : Str)) = false := by decide +kernel
    wp_walk using q1, q2
    exact ⟨_, rfl, h⟩
section
variable {prog : Program} {w : World} {A : Around} {E : Value → Shared → Prop} {s : Shared}
theorem call_zs {v1 v2 : Value} {o1 o2 : Obj} {H1 H2 : Heap → Prop} {Q : Value → Shared → Prop} (B1 : Begins v1 o1 H1) (B2 : Begins v2 o2 H2) (h1 : H1 s.heap) (h2 : H2 s.heap)
    (h : ∀ h' : Heap, IsZs h' (s.heap.objs.size + 4) (s.heap.objs.size + 2) (s.heap.objs.size + 3) .none → IsPair h' (s.heap.objs.size + 2) (.ref s.heap.objs.size) (.ref (s.heap.objs.size + 1)) →
      IsPair h' (s.heap.objs.size + 3) .none .none → h'.get? s.heap.objs.size = some o1 → h'.get? (s.heap.objs.size + 1) = some o2 →
      (∀ c o, s.heap.get? c = some o → h'.get? c = some o) → Q (.ref (s.heap.objs.size + 4)) { s with heap := h' }) :
    wpAny (model prog w) A (call (.type "zip") [v1, v2] [(Str.ofString "strict", .bool true)]) Q E s := by
  refine callType_newKw F.called_zip (by decide) (typeCall_zs _ _) (newCall_zs _ _) (fun obj => args_zs obj _ _) F.entry_zip_new
    (meets_zs B1 B2) ⟨h1, B2.keeps _ _ h2 fun b o e => Heap.get?_push_of_some _ e, ?_⟩
  have z1 : (s.heap.push o1).objs.size = s.heap.objs.size + 1 := Heap.size_push ..
  have z2 : ((s.heap.push o1).push o2).objs.size = s.heap.objs.size + 2 := by rw [Heap.size_push, z1]
  have z3 : (zH3 s.heap o1 o2).objs.size = s.heap.objs.size + 3 := by rw [Heap.size_push, z2]
  have z4 : (zH4 s.heap o1 o2).objs.size = s.heap.objs.size + 4 := by rw [Heap.size_push, z3]
  have g5 : (zH5 s.heap o1 o2).get? (zH4 s.heap o1 o2).objs.size = some _ := Heap.get?_push_size _ rfl
  have g4 : (zH5 s.heap o1 o2).get? (zH3 s.heap o1 o2).objs.size = some _ := Heap.get?_push_of_some _ (Heap.get?_push_size _ rfl)
  have g3 : (zH5 s.heap o1 o2).get? ((s.heap.push o1).push o2).objs.size = some _ := Heap.get?_push_of_some _ (Heap.get?_push_of_some _ (Heap.get?_push_size _ rfl))
  have g2 : (zH5 s.heap o1 o2).get? (s.heap.push o1).objs.size = some o2 := Heap.get?_push_of_some _ (Heap.get?_push_of_some _ (Heap.get?_push_of_some _ (Heap.get?_push_size _ B2.free)))
  have g1 : (zH5 s.heap o1 o2).get? s.heap.objs.size = some o1 := Heap.get?_push_of_some _ (Heap.get?_push_of_some _ (Heap.get?_push_of_some _ (Heap.get?_push_of_some _ (Heap.get?_push_size _ B1.free))))
  show _ ∧ _
  rw [z2, z3, z4] at g5
  rw [z1, z2] at g3
  rw [z3] at g4
  rw [z1] at g2
  rw [z4]
  exact ⟨⟨_, g5, rfl⟩, h _ g5 g3 g4 g1 g2 fun c o x =>
    Heap.get?_push_of_some _ (Heap.get?_push_of_some _ (Heap.get?_push_of_some _ (Heap.get?_push_of_some _ (Heap.get?_push_of_some _ x))))⟩
variable {z TI TO i1 i2 : Addr} {fp1 fp2 wr1 wr2 : List Addr} {n : Nat} {P1 P2 : Nat → Value → Prop} {S1 S2 : Nat → Heap → Prop}
theorem pyNext_zs_item (D : Zw z TI TO i1 i2 fp1 fp2 wr1 wr2) (W1 : Walks prog w A.in1 i1 fp1 wr1 n P1 S1) (W2 : Walks prog w A.in1 i2 fp2 wr2 n P2 S2) {a b : Value} {k : Nat} {Q : Option Value → Shared → Prop}
    (hz : IsZs s.heap z TI TO .none) (hTI : IsPair s.heap TI (.ref i1) (.ref i2)) (hTO : IsPair s.heap TO a b) (h1 : S1 k s.heap) (h2 : S2 k s.heap) (hk : k < n)
    (hQ : ∀ x y (h5 h' : Heap) tk, P1 k x → P2 k y → (∀ c o, c ≠ z → c ≠ TO → c ∉ wr1 → c ∉ wr2 → s.heap.get? c = some o → h5.get? c = some o) → (∀ c o, c ≠ z → h5.get? c = some o → h'.get? c = some o) →
      IsZs h' z TI TO (rawInt h5.objs.size) → IsPair h' TO x y → S1 (k + 1) h' → S2 (k + 1) h' → IsPair h' h5.objs.size x y → z < h5.objs.size → Q (some (.ref h5.objs.size)) { s with heap := h', toks := tk }) :
    wpAny (model prog w) A (pyNext (.ref z)) Q E s := by
  have hT : s.TypeIs (.ref z) "zip" := ⟨_, hz, rfl⟩
  unfold pyNext
  exact wpAny_bind (wpAny_attempt (wpAny_callSpecial?_slot (name := Str.ofString "__next__") hT F.slot_zip_next
    (wpAny_call_entry F.slot_zip_next hT F.entry_zip_next
      (zs_item (A := A.in1) D W1 W2 hz hTI hTO h1 h2 hk fun x y h5 h' tk a1 a2 a3 a4 a5 a6 a7 a8 a9 a10 => wpAny_pure (hQ x y h5 h' tk a1 a2 a3 a4 a5 a6 a7 a8 a9 a10)) (F.args_zip_next_1 _))))
theorem pyNext_zs_end (hh : A.handled = none) (D : Zw z TI TO i1 i2 fp1 fp2 wr1 wr2) (W1 : Walks prog w A.in1 i1 fp1 wr1 n P1 S1) (W2 : Walks prog w A.in1 i2 fp2 wr2 n P2 S2) {a b : Value} {Q : Option Value → Shared → Prop}
    (hz : IsZs s.heap z TI TO .none) (hTI : IsPair s.heap TI (.ref i1) (.ref i2)) (hTO : IsPair s.heap TO a b) (h1 : S1 n s.heap) (h2 : S2 n s.heap)
    (hQ : ∀ (h' : Heap) tk, (∀ c o, c ≠ z → c ≠ TO → c ∉ wr1 → c ∉ wr2 → s.heap.get? c = some o → h'.get? c = some o) → Q none { s with heap := h', toks := tk }) : wpAny (model prog w) A (pyNext (.ref z)) Q E s := by
  have hT : s.TypeIs (.ref z) "zip" := ⟨_, hz, rfl⟩
  unfold pyNext
  refine wpAny_bind (wpAny_attempt (wpAny_callSpecial?_slot (name := Str.ofString "__next__") hT F.slot_zip_next
    (wpAny_call_entry F.slot_zip_next hT F.entry_zip_next (zs_done (A := A.in1) hh D W1 W2 hz hTI hTO h1 h2 fun h' tk e hk he => ?_) (F.args_zip_next_1 _))))
  obtain ⟨o, ho, hc⟩ := he
  refine wpAny_bind (wpAny_isInstance (T := "StopIteration") (b := true) ⟨o, ho, hc⟩ isSubtype_stop ?_)
  exact wpAny_pure (hQ _ _ hk)
theorem pyIter_zs {f0 : Value} {Q : Value → Shared → Prop} (hz : IsZs s.heap z TI TO f0) (h : Q (.ref z) s) : wpAny (model prog w) A (pyIter (.ref z)) Q E s := by
  have hT : s.TypeIs (.ref z) "zip" := ⟨_, hz, rfl⟩
  refine wpAny_pyIter_slot hT F.slot_zip_iter (wpAny_call_entry F.slot_zip_iter hT F.entry_zip_iter ?_ (F.args_zip_iter_1 _))
  show wpAny _ _ (ret (.ref z)) _ _ s
  exact wpAny_pure ⟨_, rfl, "zip", _, hT, F.slot_zip_next.lookup, h⟩
theorem go_zs {elts : List Expr} {x1} {pos : Pos} {T : Addr} {Q : Unit → Shared → Prop} (hz : IsZs s.heap z TI TO (rawInt T))
    (hQ : ∀ h', IsZs h' z TI TO .none → Heap.SameBut z s.heap h' → Q () { s with heap := h' }) :
    wpAny (model prog w) A (letOwnedTupleGo (.Tuple elts x1 pos) (.ref z) (.ref T)) Q E s := by
  unfold letOwnedTupleGo
  refine wpAny_bind (wpAny_load hz ?_)
  show wpAny _ _ (if (["enumerate", "zip", "dict_itemiterator", "dict_reverseitemiterator", "odict_iterator", "itertools.zip_longest", "itertools.pairwise"].contains "zip" &&
      (#[rawInt T, .bool false, .bool true, .ref TI, .ref TO] : Array Value)[0]? == some (rawInt T)) = true then _ else _) Q E s
  rw [if_pos (by simp)]
  refine wpAny_bind (wpAny_rule ?_)
  show wpAny _ _ (setField (.ref z) 0 .none) Q E s
  exact wpAny_setField_rec hz (by simp) fun h' hz' hs' => hQ h' hz' hs'
end
end DL

/-! DlY: zip of two texts, strict, as something walked. -/
namespace DL
open PySem PySem.Spec PyProof.Rows L2
theorem nad (m : Nat) {i j : Nat} (h : i ≠ j := by decide) : m + i ≠ m + j := by omega
theorem nad0 (m : Nat) {i : Nat} (h : i ≠ 0 := by decide) : m + i ≠ m := by omega
theorem walks_txt {P : Program} {w : World} {A : Around} (hh : A.handled = none) (it : Addr) (x : Str) (t : Tok) : Walks P w A it [it] [it] x.cps.size (SignAt x) (fun i h => h.IsStrIter it (strIterType x) x t i) := by
  unfold strIterType
  cases h : x.cps.all (· < 128)
  · exact Walks.strWide hh it x t
  · exact Walks.strAscii hh it x t
/-- the signs of two texts, in new pairs -/
def ItzS (x y : Str) (n : Nat) : It :=
  ⟨fun i _ => i < n,
    fun i H v H' => ∃ T c d, v = .ref T ∧ H T = none ∧ H' = upd H T (.tup [.str ⟨#[c]⟩, .str ⟨#[d]⟩]) ∧ x.cps[i]? = some c ∧ y.cps[i]? = some d,
    fun i _ => n ≤ i⟩
theorem turn_zs {P : Program} {w : World} {K : PySem.W.Frag} {elts : List Expr} {kk : Nat} {tpos : Pos} {m : Nat} {x y : Str} {t u : Tok} (hsz : y.cps.size = x.cps.size) :
    Turn P w K (.Tuple elts kk tpos) (ItzS x y x.cps.size) [m + 4, m + 2, m + 3, m, m + 1] (m + 4) (fun i h => i ≤ x.cps.size ∧ IsZs h (m + 4) (m + 2) (m + 3) .none ∧ IsPair h (m + 2) (.ref m) (.ref (m + 1)) ∧ (∃ a b, IsPair h (m + 3) a b) ∧ h.IsStrIter m (strIterType x) x t i ∧ h.IsStrIter (m + 1) (strIterType y) y u i) where
  mem := by simp
  obj := fun i h st c hc => by
    obtain ⟨_, hz, hTI, ⟨a, b, hTO⟩, ⟨o1, e1, _, d1⟩, ⟨o2, e2, _, d2⟩⟩ := st
    have e' : c = m + 4 ∨ c = m + 2 ∨ c = m + 3 ∨ c = m ∨ c = m + 1 := by simpa using hc
    rcases e' with q | q | q | q | q
    · rw [q]; exact ⟨_, hz, fun v q => nomatch q⟩
    · rw [q]; exact ⟨_, hTI, fun v q => nomatch q⟩
    · rw [q]; exact ⟨_, hTO, fun v q => nomatch q⟩
    · rw [q]; exact ⟨o1, e1, fun v q => by rw [d1] at q; cases q⟩
    · rw [q]; exact ⟨o2, e2, fun v q => by rw [d2] at q; cases q⟩
  keep := fun i h h' st k => by
    obtain ⟨hle, hz, hTI, ⟨a, b, hTO⟩, ⟨o1, e1, r1⟩, ⟨o2, e2, r2⟩⟩ := st
    exact ⟨hle, k _ (by simp) _ hz, k _ (by simp) _ hTI, ⟨a, b, k _ (by simp) _ hTO⟩, ⟨o1, k _ (by simp) _ e1, r1⟩, ⟨o2, k _ (by simp) _ e2, r2⟩⟩
  item := by
    intro X hP hw hK hc i pins s σ H E I hf st hg
    subst hP hw hK
    obtain ⟨hle, hz, hTI, ⟨a0, b0, hTO⟩, h1, h2⟩ := st
    have D : Zw (m + 4) (m + 2) (m + 3) m (m + 1) [m] [m + 1] [m] [m + 1] := ⟨nad m, nad m, nad m, by simp, by simp, by simp, by simp, by simp, by simp, by simp, by simp⟩
    have W1 := walks_txt (P := X.prog) (w := X.w) (A := X.A.in1) (I.ok.hd hc) m x t
    have W2 := walks_txt (P := X.prog) (w := X.w) (A := X.A.in1) (I.ok.hd hc) (m + 1) y u
    rw [hsz] at W2
    refine pyNext_zs_item D W1 W2 hz hTI hTO h1 h2 hg fun vx vy h5 h' tk px py k5 k8 hz' hTO' g1 g2 hT hlt => ?_
    obtain ⟨c, t1, hcx, rfl⟩ := px
    obtain ⟨d, t2, hdy, rfl⟩ := py
    refine ⟨_, rfl, go_zs (s := { s with heap := h', toks := tk }) hz' fun h'' hz'' sb => ?_⟩
    have I5 : Inv X pins σ H { s with heap := h5, toks := tk } := I.turnedL (ch := [m + 4, m + 2, m + 3, m, m + 1]) (fun b o hb q => k5 b o (fun e => hb (by simp [e])) (fun e => hb (by simp [e])) (fun e => hb (by simp at e; simp [e])) (fun e => hb (by simp at e; simp [e])) q) hf
    have hT2 : h''.get? h5.objs.size = some { cls := .type "tuple", data := .seq #[.str ⟨#[c]⟩ t1, .str ⟨#[d]⟩ t2] } := (sb.2 _ (Nat.ne_of_gt hlt)).trans hT
    have new : ObjOk X.prog X.w (upd H h5.objs.size (.tup [.str ⟨#[c]⟩, .str ⟨#[d]⟩])) h'' h5.objs.size (.tup [.str ⟨#[c]⟩, .str ⟨#[d]⟩]) :=
      ⟨by show 2 ≤ sizeLine; decide, [.str ⟨#[c]⟩ t1, .str ⟨#[d]⟩ t2], .cons ⟨_, rfl⟩ (.cons ⟨_, rfl⟩ .nil), ⟨_, hT2, rfl, _, rfl⟩⟩
    have I1 : Inv X pins σ (upd H h5.objs.size (.tup [.str ⟨#[c]⟩, .str ⟨#[d]⟩])) { s with heap := h'', toks := tk } :=
      I5.turnedNew (t' := tk) (ch := [m + 4, m + 2, m + 3, m, m + 1]) (fun b o hb q => (sb.2 b (fun e => hb (by simp [e]))).trans (k8 b o (fun e => hb (by simp [e])) q)) hf (Nat.le_refl _) new
    have keep5 : ∀ b o, b ≠ m + 4 → h'.get? b = some o → h''.get? b = some o := fun b o nb q => (sb.2 b nb).trans q
    refine ⟨.ref h5.objs.size, _, I1, rfl, ⟨_, c, d, rfl, I5.hok.fresh (Nat.le_refl _), rfl, hcx, hdy⟩, ⟨hg, hz'', ?_, ⟨_, _, keep5 _ _ (nad m) hTO'⟩, ?_, ?_⟩, fun b hb => ?_⟩
    · have q := k5 (m + 2) _ (nad m) (nad m) (by simp) (by simp) hTI
      exact keep5 _ _ (nad m) (k8 _ _ (nad m) q)
    · obtain ⟨o, e, r⟩ := g1
      exact ⟨o, keep5 _ _ (nad0 m).symm e, r⟩
    · obtain ⟨o, e, r⟩ := g2
      exact ⟨o, keep5 _ _ (nad m) e, r⟩
    · have nb : b ≠ h5.objs.size := fun e => by
        have e' : b = m + 4 ∨ b = m + 2 ∨ b = m + 3 ∨ b = m ∨ b = m + 1 := by simpa using hb
        have hlt' : m + 4 < h5.objs.size := hlt
        have : ∀ b' N : Nat, (b' = m + 4 ∨ b' = m + 2 ∨ b' = m + 3 ∨ b' = m ∨ b' = m + 1) → m + 4 < N → b' = N → False := by
          intro b' N h1 h2 h3
          omega
        exact this b _ e' hlt' e
      rw [upd_ne nb]
      exact (hf b hb).1
  done := by
    intro X hP hw hK hc i pins s σ H E I hf st hg
    subst hP hw hK
    have hg : x.cps.size ≤ i := hg
    obtain ⟨hle, hz, hTI, ⟨a0, b0, hTO⟩, h1, h2⟩ := st
    have D : Zw (m + 4) (m + 2) (m + 3) m (m + 1) [m] [m + 1] [m] [m + 1] := ⟨nad m, nad m, nad m, by simp, by simp, by simp, by simp, by simp, by simp, by simp, by simp⟩
    have W1 := walks_txt (P := X.prog) (w := X.w) (A := X.A.in1) (I.ok.hd hc) m x t
    have W2 := walks_txt (P := X.prog) (w := X.w) (A := X.A.in1) (I.ok.hd hc) (m + 1) y u
    rw [hsz] at W2
    have ei : i = x.cps.size := Nat.le_antisymm hle hg
    subst ei
    exact pyNext_zs_end (I.ok.hd hc) D W1 W2 hz hTI hTO h1 h2 fun h' tk hk => ⟨rfl, I.turnedL (t' := tk) (ch := [m + 4, m + 2, m + 3, m, m + 1]) (fun b o hb q => hk b o (fun e => hb (by simp [e])) (fun e => hb (by simp [e])) (fun e => hb (by simp at e; simp [e])) (fun e => hb (by simp at e; simp [e])) q) hf⟩
  self := fun A i s Q E st h => pyIter_zs st.2.1 h
theorem callWith_typeKw {M : Model} {A : Around} {E : Value → Shared → Prop} {s : Shared} {env : Env} {pos : Pos} {T : String} {e : Expr} {rest : List Expr} {kws : List Keyword} {Q : Value → Shared → Prop}
    (h : wpAny M A (spliced (backTo pos (starEach (e :: rest) env))) (fun vs s₁ => wpAny M A (evalAll ((backToKw pos (keywordEach kws env)).map (·.2)))
      (fun kvs s₂ => wpAny M A (call (.type T) vs (((backToKw pos (keywordEach kws env)).filterMap (·.1)).zip kvs)) Q E s₂) E s₁) E s)
    (he : backTo pos (starEach (e :: rest) env) = (false, eval e env) :: backTo pos (starEach rest env) := by rfl)
    (hplain : (backTo pos (starEach (e :: rest) env)).any (·.1) = false := by rfl)
    (hall : (backToKw pos (keywordEach kws env)).all (·.1.isSome) = true := by rfl)
    (hkw : (backToKw pos (keywordEach kws env)).any (·.1.isNone) = false := by rfl) :
    wpAny M A (callWith pos (.type T) [] (backTo pos (starEach (e :: rest) env)) (backToKw pos (keywordEach kws env))) Q E s := by
  have h2 : wpAny M A (evalArgs (.type T) true (backTo pos (starEach (e :: rest) env)) (backToKw pos (keywordEach kws env))) (fun a s₁ => wpAny M A (call (.type T) ([] ++ a.pos) a.kw) Q E s₁) E s := by
    rw [he] at h ⊢
    exact evalArgs_kwB hall h
  unfold callWith
  refine wpAny_bind (wpAny_holding (wpAny_mono h2 (fun a s₁ h₁ => wpAny_bind (wpAny_standAt ?_)) fun _ _ x => x))
  simp only [hplain, hkw, Bool.or_false]
  refine wpAny_bind (wpAny_pure ?_)
  exact wpAny_bind (wpAny_mono h₁ (fun r s₂ hr => wpAny_bind (wpAny_holding (wpAny_point (wpAny_pure hr)))) fun _ _ x => x)
def iZipS (t : TA) : TI := fun σ H R => t σ H fun vs H1 => ∃ x y : Str, vs = [.str x, .str y] ∧ y.cps.size = x.cps.size ∧ R (ItzS x y x.cps.size) H1
theorem pi_zs {X : Cx} {e e2 : Expr} {ta : TA} {p pos tpos kq kr : Pos} {k kk : Nat} {elts : List Expr} (hm : X.mg "zip" = none) (ha : PA X [e, e2] ta) (hg : Gl X "zip" := by rfl)
    (he : backTo pos (starEach [e, e2] X.env) = (false, eval e X.env) :: backTo pos (starEach [e2] X.env) := by rfl) (hpl : (backTo pos (starEach [e, e2] X.env)).any (·.1) = false := by rfl) :
    PI X (.Tuple elts kk tpos) (.Call (.Name "zip" p) [e, e2] [⟨some "strict", .Constant (.bool true) k kq, kr⟩] pos) (iZipS ta) := by
  refine ⟨fun pins s σ H R I h => ?_⟩
  refine wpAny_Call_Name_kw (ld_blt I hg hm PyProof.Rows.boot_zip ?_)
  refine callWith_typeKw (thn (ha.run pos pins s σ H _ I h) fun us s1 ⟨vs, H1, I1, r1, x, y, ex, hsz, q1⟩ => ?_) he hpl
  subst ex
  refine thn ((pk_cons pe_bl pk_nil).run pos pins s1 σ H1 (fun zs H2 => zs = [.bl true] ∧ H2 = H1) I1 ⟨rfl, rfl⟩) fun ws s2 ⟨zs, H2, I2, r2, e1, e2⟩ => ?_
  subst e1 e2
  obtain ⟨u1, u2, rfl, ru1, ru2⟩ := r1.two
  obtain ⟨t1, rfl⟩ := ru1
  obtain ⟨t2, rfl⟩ := ru2
  obtain ⟨w1, rfl, rw1⟩ := r2.one
  obtain rfl : w1 = Value.bool true := rw1
  show wpAny (model X.prog X.w) X.A (call (.type "zip") [.str x t1, .str y t2] [(Str.ofString "strict", .bool true)]) _ _ s2
  refine call_zs (begins_text x t1) (begins_text y t2) trivial trivial fun h' hz hTI hTO g1 g2 hk => pyIter_zs hz ?_
  have fresh5 : ∀ c, c ∈ [s2.heap.objs.size + 4, s2.heap.objs.size + 2, s2.heap.objs.size + 3, s2.heap.objs.size, s2.heap.objs.size + 1] → FpOk X pins H2 c := fun c hcm => by
    have e' : c = s2.heap.objs.size + 4 ∨ c = s2.heap.objs.size + 2 ∨ c = s2.heap.objs.size + 3 ∨ c = s2.heap.objs.size ∨ c = s2.heap.objs.size + 1 := by simpa using hcm
    have hle : s2.heap.objs.size ≤ c := by
      rcases e' with z | z | z | z | z
      · rw [z]; exact Nat.le_add_right _ _
      · rw [z]; exact Nat.le_add_right _ _
      · rw [z]; exact Nat.le_add_right _ _
      · rw [z]; exact Nat.le_refl _
      · rw [z]; exact Nat.le_add_right _ _
    exact I2.fpOk hle (I2.hok.fresh hle)
  have I3 : Inv X pins σ H2 { s2 with heap := h' } := I2.kept (t' := s2.toks) hk
  exact ⟨s2.heap.objs.size + 4, [s2.heap.objs.size + 4, s2.heap.objs.size + 2, s2.heap.objs.size + 3, s2.heap.objs.size, s2.heap.objs.size + 1], _, _, H2, rfl, I3, turn_zs hsz, ⟨Nat.zero_le _, hz, hTI, ⟨_, _, hTO⟩, ⟨_, g1, rfl, rfl⟩, ⟨_, g2, rfl, rfl⟩⟩, fresh5, q1⟩
end DL

/-! DlV: len(set(..)) of keys, in any number. -/
namespace DL
open PySem PySem.Spec PyProof.Rows L2
/-- how many different ones -/
def dnR {K : Type} [DecidableEq K] : List K → Nat
  | [] => 0
  | x :: xs => if x ∈ xs then dnR xs else dnR xs + 1
def dn {K : Type} [DecidableEq K] (l : List K) : Nat := dnR l.reverse
theorem dnR_cons {K : Type} [DecidableEq K] (x : K) (xs : List K) : dnR (x :: xs) = if x ∈ xs then dnR xs else dnR xs + 1 := rfl
theorem dnR_le {K : Type} [DecidableEq K] : ∀ l : List K, dnR l ≤ l.length
  | [] => Nat.le_refl _
  | x :: xs => by
    have := dnR_le xs
    rw [dnR_cons, List.length_cons]
    split <;> omega
theorem dnR_eq {K : Type} [DecidableEq K] : ∀ l : List K, dnR l = l.length ↔ l.Nodup
  | [] => by simp [dnR]
  | x :: xs => by
    have h1 := dnR_le xs
    have h2 := dnR_eq xs
    rw [List.nodup_cons, ← h2, dnR_cons, List.length_cons]
    by_cases hx : x ∈ xs
    · rw [if_pos hx]
      exact ⟨fun q => by omega, fun q => absurd hx q.1⟩
    · rw [if_neg hx]
      exact ⟨fun q => ⟨hx, by omega⟩, fun q => by omega⟩
theorem dn_le {K : Type} [DecidableEq K] (l : List K) : dn l ≤ l.length := by
  have := dnR_le l.reverse
  rwa [List.length_reverse] at this
theorem dn_eq {K : Type} [DecidableEq K] (l : List K) : dn l = l.length ↔ l.Nodup := by
  have := dnR_eq l.reverse
  rw [List.length_reverse] at this
  refine Iff.trans this ?_
  show l.reverse.Pairwise (· ≠ ·) ↔ l.Pairwise (· ≠ ·)
  rw [List.pairwise_reverse]
  exact ⟨fun h => h.imp fun q => Ne.symm q, fun h => h.imp fun q => Ne.symm q⟩
theorem dn_snoc {K : Type} [DecidableEq K] (l : List K) (z : K) : dn (l ++ [z]) = if decide (z ∈ l) = true then dn l else dn l + 1 := by
  unfold dn
  rw [List.reverse_append]
  show dnR (z :: l.reverse) = _
  rw [dnR_cons]
  simp only [List.mem_reverse, decide_eq_true_eq]
def memB {K : Type} [DecidableEq K] (l : List K) (j : K) : Bool := decide (j ∈ l)
section
variable {P : Program} {w : World} {A : Around} {E : Value → Shared → Prop} {s : Shared} {K : Type} [DecidableEq K] {knd : PySem.KeyKind P w K}
theorem setOf_up {h h' : Heap} {a : Addr} {S : K → Bool} {n : Nat} (R : h.SetOf knd a S n) (k : ∀ o, h.get? a = some o → h'.get? a = some o) : h'.SetOf knd a S n := by
  obtain ⟨o, es, ep, t, ho, r⟩ := R
  exact ⟨o, es, ep, t, k o ho, r⟩
theorem setOf_same {h : Heap} {a : Addr} {S S' : K → Bool} {n n' : Nat} (R : h.SetOf knd a S n) (e : ∀ j, S j = S' j) (en : n = n') : h.SetOf knd a S' n' := by
  have : S = S' := funext e
  subst this en
  exact R
theorem upd_keys {I : Addr} {fp wr : List Addr} {G : Array GenState → Array GenState → Prop} {n : Nat} {Pv : Nat → Value → Prop} {St : Nat → Shared → Prop} {R : Result → Shared → Prop}
    (W : WalksS P w A.in1 I fp wr G n Pv St) (T : Addr) (hT : T ∉ fp) (ks : List K) (hn : n = ks.length) (room : ks.length + 1 < scanBound) (hval : ∀ i v, Pv i v → ∃ k, ks[i]? = some k ∧ knd.is k v = true ∧ v.scannable = true) :
    ∀ (m i : Nat) (s : Shared), n - i = m → i ≤ n → St i s → s.heap.SetOf knd T (memB (ks.take i)) (dn (ks.take i)) →
      (∀ s', Moved (T :: wr) G s s' → s'.heap.SetOf knd T (memB ks) (dn ks) → R (.ok (.ret .none)) s') →
      codeAny (model P w) A (.builtin "set.update.loop" ⟨[.ref T, .ref I], []⟩) R s := by
  have hTw : T ∉ wr := fun z => hT (W.sub _ z)
  have more : ∀ b ∈ wr, b ∈ T :: wr := fun b hb => List.mem_cons_of_mem _ hb
  intro m
  induction m with
  | zero =>
    intro i s em hi st hS hR
    have ei : i = n := by omega
    subst ei
    refine codeAny_builtin F.entry_set_update_loop ?_
    rw [Around.under_plainId F.plain_set_update_loop _]
    show wpAny _ A.in1 (pyNext (.ref I) >>= _) _ _ s
    refine wpAny_bind (W.done s _ _ st fun s' mv => ?_)
    show wpAny _ A.in1 (ret Value.none) _ _ s'
    rw [List.take_of_length_le (by omega : ks.length ≤ i)] at hS
    exact wpAny_pure (hR s' (mv.mono more) (setOf_up hS fun o e => mv.heap T o hTw e))
  | succ m ih =>
    intro i s em hi st hS hR
    have lt : i < n := by omega
    refine codeAny_builtin F.entry_set_update_loop ?_
    rw [Around.under_plainId F.plain_set_update_loop _]
    show wpAny _ A.in1 (pyNext (.ref I) >>= _) _ _ s
    refine wpAny_bind (W.item i s _ _ lt st fun v s' pv st' mv => ?_)
    obtain ⟨z, hz, hk, hsc⟩ := hval i v pv
    have hS' : s'.heap.SetOf knd T (memB (ks.take i)) (dn (ks.take i)) := setOf_up hS fun o e => mv.heap T o hTw e
    show wpAny _ A.in1 (holding [v] (setAdd T v) >>= _) _ _ s'
    refine wpAny_bind (wpAny_holding ?_)
    unfold setAdd
    refine wpAny_holding ?_
    refine wpAny_bind (knd.pyHash (k := z) hk ?_)
    have few : dn (ks.take i) + 1 < scanBound := by
      have h1 := dn_le (ks.take i)
      have h2 : (ks.take i).length ≤ ks.length := by rw [List.length_take]; omega
      omega
    refine wpAny_setAddHashed_of (s := { s' with toks := s'.toks + 1 }) hk hsc hS' few fun h' sb hS2 => ?_
    have et : ks.take (i + 1) = ks.take i ++ [z] := by rw [List.take_add_one, hz]; rfl
    have hS3 : h'.SetOf knd T (memB (ks.take (i + 1))) (dn (ks.take (i + 1))) := setOf_same hS2 (fun j => by rw [et]; simp [memB, List.mem_append]) (by rw [et, dn_snoc]; rfl)
    refine wpAny_pure ⟨plainId_quiet F.plain_set_update_loop _, ih (i + 1) _ (by omega) lt (W.frame _ s' _ _ st' (Nat.le_succ _) fun b hb o e => ?_) hS3 fun s'' mv2 hS'' => ?_⟩
    · rw [sb.2 b (fun q : b = T => hT (by rw [← q]; exact hb))]; exact e
    · refine hR s'' (Moved.trans W.gtrans ((mv.mono more).then_heap (Nat.le_succ _) fun b o hb e => ?_) mv2) hS''
      rw [sb.2 b (fun q : b = T => hb (by rw [q]; exact List.mem_cons_self))]; exact e

theorem call_set_tupleK {l : Addr} {items : Array Value} (ks : List K) {Q : Value → Shared → Prop} (hh : A.handled = none) (hl : s.heap.IsTuple l items) (hsz : items.size = ks.length) (hit : ∀ (i : Nat) (v : Value), items[i]? = some v → ∃ k, ks[i]? = some k ∧ knd.is k v = true ∧ v.scannable = true) (room : ks.length + 1 < scanBound)
    (h : ∀ (h' : Heap) (tk : Nat), h'.SetOf knd s.heap.objs.size (memB ks) (dn ks) → (∀ b o, s.heap.get? b = some o → h'.get? b = some o) → Q (.ref s.heap.objs.size) { s with heap := h', toks := tk }) :
    wpAny (model P w) A (call (.type "set") [.ref l]) Q E s := by
  obtain ⟨c, tl, hmro⟩ := F.called_set.mro
  have hmade := F.called_set.made
  have hsub := F.called_set.sub
  refine wpAny_call (codeAny_of_tree ?_)
  show wpAny _ _ (callAny (.type "set") _) _ _ _
  refine wpAny_pure ⟨Code.quiet_builtin _ (by decide +kernel), codeAny_builtin F.entry_type_call ?_⟩
  rw [Around.under_plain (weight_type_call_type "set" [.ref l] []) rfl]
  have h1 := F.called_set.notType
  have h2 := F.called_set.canCreate
  have hct := F.typeCall_set_1 (.ref l)
  repeat (any_goals (first | assumption | wp_step))
  refine codeAny_mono (code_set_new_1 (.ref l) (E := E) (Q₁ := fun ob s₁ => ∃ led : Bool, ob = .ref s.heap.objs.size ∧ s₁ = { s with heap := s.heap.push { cls := .type "set", dict := none, data := .set #[] 0 (.fresh 0 0 led) } }) fun led => ⟨led, rfl, rfl⟩) fun r s₁ hr => ?_
  cases r with
  | error e => exact hr
  | ok fl =>
    cases fl with
    | ret ob =>
      obtain ⟨led, rfl, rfl⟩ := hr
      have hS : (s.heap.push { cls := .type "set", dict := none, data := .set #[] 0 (.fresh 0 0 led) }).get? s.heap.objs.size = some { cls := .type "set", dict := none, data := .set #[] 0 (.fresh 0 0 led) } := Heap.get?_push_size _ rfl
      have hT : Shared.TypeIs { s with heap := s.heap.push { cls := .type "set", dict := none, data := .set #[] 0 (.fresh 0 0 led) } } (.ref s.heap.objs.size) "set" := ⟨_, hS, rfl⟩
      have hli := F.called_set.init.lookup
      have hbi := F.called_set.init.bind (.ref s.heap.objs.size)
      repeat (any_goals (first | assumption | wp_step))
      refine codeAny_mono (codeAny_call_builtin (R := wants (fun r s₂ => r = .none ∧ ∃ h' tk, s₂ = { s with heap := h', toks := tk } ∧ h'.SetOf knd s.heap.objs.size (memB ks) (dn ks) ∧
          (∀ b o, s.heap.get? b = some o → h'.get? b = some o)) E) F.called_set.init.plain F.entry_set_init (check_set_init_1 hT ?_)) fun r₂ s₂ hr₂ => ?_
      · obtain ⟨ol, hol, hcl, nl, hdl⟩ := hl
        obtain ⟨ocls, odict, odata, oslots⟩ := ol
        simp only at hcl hdl
        subst hcl; subst hdl
        have hol' : (s.heap.push { cls := .type "set", dict := none, data := .set #[] 0 (.fresh 0 0 led) }).get? l = some { cls := .type "tuple", dict := odict, data := .seq items nl, slots := oslots } := Heap.get?_push_of_some _ hol
        have hsls := F.sub_tuple_set
        have hslf := F.sub_tuple_frozenset
        have hne : (Value.type "tuple" == Value.type "dict") = false := by decide
        have hl1 : (s.heap.push { cls := .type "set", dict := none, data := .set #[] 0 (.fresh 0 0 led) }).IsTuple l items := ⟨_, hol', rfl, nl, rfl⟩
        unfold Builtin.«set.__init__» noKeywords Builtin.Frozenset.updateFrom
        generalize hPI : pyIter = PI
        wp_walk
        subst hPI
        refine wpAny_pyIter_tuple hl1 ?_
        refine wpAny_bind (wpAny_runValue ?_)
        have hlS : l < s.heap.objs.size := Heap.lt_size hol
        have hh3 : A.in1.in1.in1.handled = none := by simp [hh]
        have hneI : l ≠ (s.heap.push { cls := .type "set", dict := none, data := .set #[] 0 (.fresh 0 0 led) }).objs.size := by
          rw [Heap.size_push]; exact Nat.ne_of_lt (Nat.lt_succ_of_lt hlS)
        have hSf : s.heap.objs.size ∉ [(s.heap.push { cls := .type "set", dict := none, data := .set #[] 0 (.fresh 0 0 led) }).objs.size, l] := by
          rw [Heap.size_push]; simp only [List.mem_cons, List.mem_singleton, List.not_mem_nil, or_false, not_or]
          exact ⟨Nat.ne_of_lt (Nat.lt_succ_self _), Nat.ne_of_gt hlS⟩
        refine upd_keys ((Walks.tuple hh3 _ l hneI items).toS) s.heap.objs.size
          hSf ks hsz room hit (items.size - 0) 0 _ (by omega) (Nat.zero_le _)
          ⟨⟨_, Heap.get?_push_size _ rfl, rfl, rfl⟩, (hl1.push _)⟩ ?hS0 ?hR
        case hS0 =>
          have hget : ((s.heap.push { cls := .type "set", dict := none, data := .set #[] 0 (.fresh 0 0 led) }).push { cls := .type "tuple_iterator", data := .fields #[.ref l, .int 0 0] }).get? s.heap.objs.size
              = some { cls := .type "set", dict := none, data := .set #[] 0 (.fresh 0 0 led) } := Heap.get?_push_of_some _ hS
          exact ⟨_, #[], 0, _, hget, ⟨rfl, rfl, rfl⟩, rfl, (fun e he => by simp at he), (fun k => by simp [memB]), (by decide), (by rfl), rfl⟩
        case hR =>
          intro s' hm hS'
          obtain ⟨h', g2, d', tk', os'⟩ := s'
          have eg : g2 = s.gens := hm.gens
          have ed : d' = s.drawn := hm.drawn
          have eo : os' = s.os := hm.os
          subst eg; subst ed; subst eo
          show wpAny _ _ _ _ _ _
          refine wpAny_pure ?_
          show wpAny _ _ (ret Value.none) _ _ _
          refine wpAny_pure ⟨rfl, h', tk', rfl, hS', fun b o e => ?_⟩
          have hb0 : b < s.heap.objs.size := Heap.lt_size e
          have hb1 : b ≠ s.heap.objs.size := Nat.ne_of_lt hb0
          have hb2 : b ≠ (s.heap.push { cls := .type "set", dict := none, data := .set #[] 0 (.fresh 0 0 led) }).objs.size := by
            rw [Heap.size_push]; exact Nat.ne_of_lt (Nat.lt_succ_of_lt hb0)
          exact hm.heap b o (by simp only [List.mem_cons, List.mem_singleton, List.not_mem_nil, or_false, not_or]; exact ⟨hb1, hb2⟩) (Heap.get?_push_of_some _ (Heap.get?_push_of_some _ e))
      · cases r₂ with
        | error e => exact hr₂
        | ok fl₂ =>
          cases fl₂ with
          | ret r =>
            obtain ⟨rfl, h', tk, rfl, hS', hk'⟩ := hr₂
            repeat (any_goals (first | assumption | wp_step))
            exact h _ _ hS' hk'
          | _ => exact hr₂.elim
    | _ => exact hr.elim

theorem call_set_listK {l : Addr} {items : Array Value} (ks : List K) {Q : Value → Shared → Prop} (hh : A.handled = none) (hl : s.heap.IsList l items) (hsz : items.size = ks.length) (hit : ∀ (i : Nat) (v : Value), items[i]? = some v → ∃ k, ks[i]? = some k ∧ knd.is k v = true ∧ v.scannable = true) (room : ks.length + 1 < scanBound)
    (h : ∀ (h' : Heap) (tk : Nat), h'.SetOf knd s.heap.objs.size (memB ks) (dn ks) → (∀ b o, s.heap.get? b = some o → h'.get? b = some o) → Q (.ref s.heap.objs.size) { s with heap := h', toks := tk }) :
    wpAny (model P w) A (call (.type "set") [.ref l]) Q E s := by
  obtain ⟨c, tl, hmro⟩ := F.called_set.mro
  have hmade := F.called_set.made
  have hsub := F.called_set.sub
  refine wpAny_call (codeAny_of_tree ?_)
  show wpAny _ _ (callAny (.type "set") _) _ _ _
  refine wpAny_pure ⟨Code.quiet_builtin _ (by decide +kernel), codeAny_builtin F.entry_type_call ?_⟩
  rw [Around.under_plain (weight_type_call_type "set" [.ref l] []) rfl]
  have h1 := F.called_set.notType
  have h2 := F.called_set.canCreate
  have hct := F.typeCall_set_1 (.ref l)
  repeat (any_goals (first | assumption | wp_step))
  refine codeAny_mono (code_set_new_1 (.ref l) (E := E) (Q₁ := fun ob s₁ => ∃ led : Bool, ob = .ref s.heap.objs.size ∧ s₁ = { s with heap := s.heap.push { cls := .type "set", dict := none, data := .set #[] 0 (.fresh 0 0 led) } }) fun led => ⟨led, rfl, rfl⟩) fun r s₁ hr => ?_
  cases r with
  | error e => exact hr
  | ok fl =>
    cases fl with
    | ret ob =>
      obtain ⟨led, rfl, rfl⟩ := hr
      have hS : (s.heap.push { cls := .type "set", dict := none, data := .set #[] 0 (.fresh 0 0 led) }).get? s.heap.objs.size = some { cls := .type "set", dict := none, data := .set #[] 0 (.fresh 0 0 led) } := Heap.get?_push_size _ rfl
      have hT : Shared.TypeIs { s with heap := s.heap.push { cls := .type "set", dict := none, data := .set #[] 0 (.fresh 0 0 led) } } (.ref s.heap.objs.size) "set" := ⟨_, hS, rfl⟩
      have hli := F.called_set.init.lookup
      have hbi := F.called_set.init.bind (.ref s.heap.objs.size)
      repeat (any_goals (first | assumption | wp_step))
      refine codeAny_mono (codeAny_call_builtin (R := wants (fun r s₂ => r = .none ∧ ∃ h' tk, s₂ = { s with heap := h', toks := tk } ∧ h'.SetOf knd s.heap.objs.size (memB ks) (dn ks) ∧
          (∀ b o, s.heap.get? b = some o → h'.get? b = some o)) E) F.called_set.init.plain F.entry_set_init (check_set_init_1 hT ?_)) fun r₂ s₂ hr₂ => ?_
      · obtain ⟨ol, hol, hcl, nl, hdl⟩ := hl
        obtain ⟨ocls, odict, odata, oslots⟩ := ol
        simp only at hcl hdl
        subst hcl; subst hdl
        have hol' : (s.heap.push { cls := .type "set", dict := none, data := .set #[] 0 (.fresh 0 0 led) }).get? l = some { cls := .type "list", dict := odict, data := .seq items nl, slots := oslots } := Heap.get?_push_of_some _ hol
        have hsls := F.sub_list_set
        have hslf := F.sub_list_frozenset
        have hne : (Value.type "list" == Value.type "dict") = false := by decide
        have hl1 : (s.heap.push { cls := .type "set", dict := none, data := .set #[] 0 (.fresh 0 0 led) }).IsList l items := ⟨_, hol', rfl, nl, rfl⟩
        unfold Builtin.«set.__init__» noKeywords Builtin.Frozenset.updateFrom
        generalize hPI : pyIter = PI
        wp_walk
        subst hPI
        refine wpAny_pyIter_list hl1 ?_
        refine wpAny_bind (wpAny_runValue ?_)
        have hlS : l < s.heap.objs.size := Heap.lt_size hol
        have hh3 : A.in1.in1.in1.handled = none := by simp [hh]
        have hneI : l ≠ (s.heap.push { cls := .type "set", dict := none, data := .set #[] 0 (.fresh 0 0 led) }).objs.size := by
          rw [Heap.size_push]; exact Nat.ne_of_lt (Nat.lt_succ_of_lt hlS)
        have hSf : s.heap.objs.size ∉ [(s.heap.push { cls := .type "set", dict := none, data := .set #[] 0 (.fresh 0 0 led) }).objs.size, l] := by
          rw [Heap.size_push]; simp only [List.mem_cons, List.mem_singleton, List.not_mem_nil, or_false, not_or]
          exact ⟨Nat.ne_of_lt (Nat.lt_succ_self _), Nat.ne_of_gt hlS⟩
        refine upd_keys ((Walks.list hh3 _ l hneI items).toS) s.heap.objs.size
          hSf ks hsz room hit (items.size - 0) 0 _ (by omega) (Nat.zero_le _)
          ⟨⟨_, Heap.get?_push_size _ rfl, rfl, rfl⟩, (hl1.push _)⟩ ?hS0 ?hR
        case hS0 =>
          have hget : ((s.heap.push { cls := .type "set", dict := none, data := .set #[] 0 (.fresh 0 0 led) }).push { cls := .type "list_iterator", data := .fields #[.ref l, .int 0 0] }).get? s.heap.objs.size
              = some { cls := .type "set", dict := none, data := .set #[] 0 (.fresh 0 0 led) } := Heap.get?_push_of_some _ hS
          exact ⟨_, #[], 0, _, hget, ⟨rfl, rfl, rfl⟩, rfl, (fun e he => by simp at he), (fun k => by simp [memB]), (by decide), (by rfl), rfl⟩
        case hR =>
          intro s' hm hS'
          obtain ⟨h', g2, d', tk', os'⟩ := s'
          have eg : g2 = s.gens := hm.gens
          have ed : d' = s.drawn := hm.drawn
          have eo : os' = s.os := hm.os
          subst eg; subst ed; subst eo
          show wpAny _ _ _ _ _ _
          refine wpAny_pure ?_
          show wpAny _ _ (ret Value.none) _ _ _
          refine wpAny_pure ⟨rfl, h', tk', rfl, hS', fun b o e => ?_⟩
          have hb0 : b < s.heap.objs.size := Heap.lt_size e
          have hb1 : b ≠ s.heap.objs.size := Nat.ne_of_lt hb0
          have hb2 : b ≠ (s.heap.push { cls := .type "set", dict := none, data := .set #[] 0 (.fresh 0 0 led) }).objs.size := by
            rw [Heap.size_push]; exact Nat.ne_of_lt (Nat.lt_succ_of_lt hb0)
          exact hm.heap b o (by simp only [List.mem_cons, List.mem_singleton, List.not_mem_nil, or_false, not_or]; exact ⟨hb1, hb2⟩) (Heap.get?_push_of_some _ (Heap.get?_push_of_some _ e))
      · cases r₂ with
        | error e => exact hr₂
        | ok fl₂ =>
          cases fl₂ with
          | ret r =>
            obtain ⟨rfl, h', tk, rfl, hS', hk'⟩ := hr₂
            repeat (any_goals (first | assumption | wp_step))
            exact h _ _ hS' hk'
          | _ => exact hr₂.elim
    | _ => exact hr.elim

end
section
variable {X : Cx} {cl : Str → Addr} {W : WX}
/-- len(set(e)), e a list or tuple of ints, texts -/
def tLenSetK (K : PySem.W.Frag) (ta : TE) : TE := fun σ H Q => ta σ H fun x H1 => ∃ (l : Addr) (ks : List Key), x = .ref l ∧ (SqL K H1 l (ks.map kV) ∨ SqT K H1 l (ks.map kV)) ∧ ks.length + 1 < 4096 ∧ Q (.int (dn ks : Nat)) H1
theorem keys_at {ks : List Key} {its : List Value} (r : Vals (ks.map kV) its) {P : Program} {w : World} (i : Nat) (v : Value) (e : its.toArray[i]? = some v) : ∃ k, ks[i]? = some k ∧ (mixKind P w).is k v = true ∧ v.scannable = true := by
  have e' : its[i]? = some v := by simpa using e
  have hi : i < ks.length := by
    have h1 := (List.getElem?_eq_some_iff.mp e').1
    have h2 := r.length
    rw [List.length_map] at h2
    omega
  obtain ⟨u, hu, ru⟩ := r.get (i := i) (x := kV ks[i]) (by simp [hi])
  rw [e'] at hu
  cases hu
  exact ⟨ks[i], List.getElem?_eq_getElem hi, kV_is ru, key_scan ru⟩
theorem pe_lenSetK {a : Expr} {ta : TE} {p p2 q pos : Pos} (hc : X.calm = true) (hm : X.mg "len" = none) (hm2 : X.mg "set" = none) (ha : PE X a ta) (hg : Gl X "len" := by rfl) (hg2 : Gl X "set" := by rfl)
    (na : starEach [a] X.env = (false, eval a X.env) :: starEach [] X.env := by rfl) : PE X (.Call (.Name "len" p) [.Call (.Name "set" p2) [a] [] q] [] pos) (tLenSetK X.K ta) := by
  refine ⟨fun pins s σ H Q I h => ?_⟩
  refine Call_ (ld_blt I hg hm boot_len ?_)
  refine PyProof.Rows.callWith_builtin1 (PyProof.Rows.args_cons ?_ rfl) rfl rfl
  refine Call_ (ld_blt I hg2 hm2 boot_set ?_)
  refine PyProof.Rows.callWith_type1 (PyProof.Rows.args_cons (thn (ha.run pins s σ H _ I h) fun v s1 ⟨x, H1, I1, r1, q1⟩ => PyProof.Rows.args_nil ?_) na) na rfl
  obtain ⟨l, ks, rfl, hq, h1, q1⟩ := q1
  cases r1
  have done : ∀ (h' : Heap) (tk : Nat), h'.SetOf (mixKind X.prog X.w) s1.heap.objs.size (memB ks) (dn ks) → (∀ b o, s1.heap.get? b = some o → h'.get? b = some o) →
      wpAny (model X.prog X.w) X.A (spliced (backTo pos (starEach [] X.env))) (fun vs s₂ => wpAny (model X.prog X.w) X.A (call (.builtin "len") (Value.ref s1.heap.objs.size :: vs)) (EP X pins σ Q) X.xe s₂) X.xe { s1 with heap := h', toks := tk } := fun h' tk hS hk => by
    refine PyProof.Rows.args_nil ?_
    obtain ⟨o, es, ep, t, ho, hex, hd, _, _, _, hf, hn⟩ := hS
    have I2 : Inv X pins σ H1 { s1 with heap := h', toks := tk } := I1.kept fun b o e => hk b o e
    have few := dn_le ks
    refine call_len_set ho hex hd hf (by rw [hn]; omega) ⟨.int (dn ks : Nat), H1, I2.tok _, ⟨_, by rw [hn]⟩, q1⟩
  have room : ks.length + 1 < scanBound := h1
  rcases hq with hq | hq
  · obtain ⟨its, r, pl, hz⟩ := I1.list hq
    exact call_set_listK (knd := mixKind X.prog X.w) ks (I1.ok.hd hc) pl.isList (by rw [List.size_toArray, ← r.length, List.length_map]) (fun i v => keys_at r i v) room done
  · obtain ⟨its, r, pl, hz⟩ := I1.tuple hq
    exact call_set_tupleK (knd := mixKind X.prog X.w) ks (I1.ok.hd hc) pl (by rw [List.size_toArray, ← r.length, List.length_map]) (fun i v => keys_at r i v) room done
def keysD : List D → Option (List Key)
  | [] => some []
  | .str z :: ds => (keysD ds).map (.inr z :: ·)
  | .int z :: ds => (keysD ds).map (.inl z :: ·)
  | _ => none
theorem keysD_rep {K : PySem.W.Frag} {H : Hp} {F : Addr → Prop} {α : List Addr} : ∀ {ds : List D} {vs : List V} {ks : List Key}, RepL K cl H F α ds vs → keysD ds = some ks → vs = ks.map kV
  | _, _, _, .nil, e => by cases e; rfl
  | _, _, _, .cons (d := d) r t, e => by
    cases r <;> simp only [keysD, Option.map_eq_some_iff, reduceCtorEq] at e
    all_goals
      obtain ⟨ks, e1, rfl⟩ := e
      rw [keysD_rep t e1]
      rfl
def dLenSet (d : D) : Option D := match (seqD d).bind keysD with
  | some ks => if ks.length < 4000 then some (.int (dn ks : Nat)) else none
  | none => none
theorem de_lenSet {a : Expr} {f : M D} {p p2 q pos : Pos} (hc : X.calm = true) (hm : X.mg "len" = none) (hm2 : X.mg "set" = none) (ha : DE X cl W a f) (hg : Gl X "len" := by rfl) (hg2 : Gl X "set" := by rfl)
    (na : starEach [a] X.env = (false, eval a X.env) :: starEach [] X.env := by rfl) : DE X cl W (.Call (.Name "len" p) [.Call (.Name "set" p2) [a] [] q] [] pos) (eUn dLenSet f) := by
  obtain ⟨te, pe, q⟩ := ha
  refine ⟨_, pe_lenSetK hc hm hm2 pe hg hg2 na, fun c σ s T H Q I w => q c σ s T H _ I (w.bind fun d s1 _ w1 v H1 I1 => ?_)⟩
  obtain ⟨F, α, J⟩ := I1
  unfold dLenSet oOf at w1
  split at w1
  · rename_i z hz
    split at hz
    · rename_i ks hks
      split at hz
      · rename_i hl
        cases hz
        rw [Option.bind_eq_some_iff] at hks
        obtain ⟨ds, h1, h2⟩ := hks
        obtain ⟨a', vs, rfl, h3, h4⟩ := J.vSeq (J.tmp (d, v) (List.mem_cons_self ..)) h1
        have ev := keysD_rep h4 h2
        subst ev
        exact ⟨a', ks, rfl, h3, by omega, w1 _ _ (SI.flat rfl ⟨F, α, J⟩).drop2⟩
      · cases hz
    · cases hz
  · exact w1.elim
end
end DL

/-! DlW: comparisons in a chain; enumerate over lists, tuples, texts. -/
namespace DL
open PySem PySem.Spec PyProof.Rows L2
section
variable {X : Cx} {cl : Str → Addr} {W : WX}
/-- a op b op c -/
def eChain (g h : D → D → Option D) (fa fb fc : M D) : M D := fun s => (fa s).bind fun x s => (fb s).bind fun y s => match g (view s.M x) (view s.M y) with
  | some (.bl true) => (fc s).bind fun z s => oOf (h (view s.M y) (view s.M z)) s
  | some (.bl false) => .ok (.bl false) s
  | _ => .fail
theorem chain_core {K : PySem.W.Frag} {ta tb tc : TE} {r r' : R2} {g h : D → D → Option D} {fa fb fc : M D} {c : Cz} {σ : L2.St} {s : S} {T : List (D × V)} {H : Hp} {Q : VK}
    (q : ∀ c σ s T H d x e y z Q, SI K cl c H σ s ((e, y) :: (d, x) :: T) → g (DL.view s.M d) (DL.view s.M e) = some z → (∀ v H', SI K cl c H' σ s ((z, v) :: (e, y) :: (d, x) :: T) → Q v H') → r x y H Q)
    (q' : ∀ c σ s T H d x e y z Q, SI K cl c H σ s ((e, y) :: (d, x) :: T) → h (DL.view s.M d) (DL.view s.M e) = some z → (∀ v H', SI K cl c H' σ s ((z, v) :: (e, y) :: (d, x) :: T) → Q v H') → r' x y H Q)
    (qa : ∀ c σ s T H Q, SI K cl c H σ s T → Want K cl W c σ T (fa s) Q → ta σ H Q) (qb : ∀ c σ s T H Q, SI K cl c H σ s T → Want K cl W c σ T (fb s) Q → tb σ H Q)
    (qc : ∀ c σ s T H Q, SI K cl c H σ s T → Want K cl W c σ T (fc s) Q → tc σ H Q) (I : SI K cl c H σ s T) (w : Want K cl W c σ T (eChain g h fa fb fc s) Q) : tChain r r' ta tb tc σ H Q := by
  refine qa c σ s T H _ I (Want.bind w fun d s1 _ w1 v H1 I1 => ?_)
  refine qb c σ s1 _ H1 _ I1 (Want.bind (w1.deeper fun p hp => List.mem_cons_of_mem _ hp) fun e s2 _ w2 u H2 I2 => ?_)
  split at w2
  · rename_i e1
    refine q c σ s2 T H2 d v e u _ _ I2 e1 fun v' H' I' => ?_
    have ev := rep_bl I'
    refine ⟨true, ev, iteT ?_⟩
    refine qc c σ s2 ((e, u) :: (d, v) :: T) H' _ I'.pop ((w2.deeper fun p hp => List.mem_cons_of_mem _ hp).bind fun z s3 _ w3 y H3 I3 => ?_)
    unfold oOf at w3
    split at w3
    · rename_i z' hz
      exact q' c σ s3 ((d, v) :: T) H3 e u z y z' Q I3 hz fun v'' H'' I'' => w3 v'' H'' I''.drop2
    · exact w3.elim
  · rename_i e1
    refine q c σ s2 T H2 d v e u _ _ I2 e1 fun v' H' I' => ?_
    have ev := rep_bl I'
    refine ⟨false, ev, iteF ?_⟩
    subst ev
    exact w2 _ H' I'.drop2
  · exact w2.elim
theorem de_chain {o o' : CmpOp} {g h : D → D → Option D} {a b c : Expr} {fa fb fc : M D} {pos : Pos} (ho : OpD X cl (compareOp o) g) (ho' : OpD X cl (compareOp o') h) (ha : DE X cl W a fa) (hb : DE X cl W b fb) (hc : DE X cl W c fc)
    (hm : lastMarks [o, o'] [b, c] = false := by with_unfolding_all rfl) : DE X cl W (.Compare a [o, o'] [b, c] pos) (eChain g h fa fb fc) := by
  obtain ⟨ta, pa, qa⟩ := ha
  obtain ⟨tb, pb, qb⟩ := hb
  obtain ⟨tc, pc, qc⟩ := hc
  obtain ⟨r, hr, q⟩ := ho
  obtain ⟨r', hr', q'⟩ := ho'
  exact ⟨_, pe_chain hr hr' pa pb pc hm, fun c σ s T H Q I w => chain_core q q' qa qb qc I w⟩
theorem dt_chain {o o' : CmpOp} {g h : D → D → Option D} {a b c : Expr} {fa fb fc : M D} {pos : Pos} (ho : OpD X cl (compareOp o) g) (ho' : OpD X cl (compareOp o') h) (ha : DE X cl W a fa) (hb : DE X cl W b fb) (hc : DE X cl W c fc)
    (hm : lastMarks [o, o'] [b, c] = false := by with_unfolding_all rfl) : DT X cl W (.Compare a [o, o'] [b, c] pos) (tOf (eChain g h fa fb fc)) := by
  obtain ⟨ta, pa, qa⟩ := ha
  obtain ⟨tb, pb, qb⟩ := hb
  obtain ⟨tc, pc, qc⟩ := hc
  obtain ⟨r, hr, q⟩ := ho
  obtain ⟨r', hr', q'⟩ := ho'
  refine ⟨_, pt_chain hr hr' pa pb pc hm, fun c σ s T H Q I w => chain_core q q' qa qb qc I ?_⟩
  refine WantB.bindD (k := bOf) w fun d s1 _ w1 v H1 I1 => ?_
  obtain ⟨b, rfl, w2⟩ := bOf_ok w1
  exact ⟨b, rep_bl I1, w2 H1 I1.pop⟩
end

/-! ### enumerate -/
def Ett (K : PySem.W.Frag) (a : Addr) (n : Nat) : It :=
  ⟨fun i H => i < n ∧ ∃ xs : List V, xs.length = n ∧ SqT K H a xs, fun i H v H' => ∃ T x, v = .ref T ∧ H T = none ∧ H' = upd H T (.tup [.int (i : Nat), x]) ∧ ∀ xs, SqT K H a xs → xs[i]? = some x, fun i H => n ≤ i ∧ ∃ xs : List V, xs.length = n ∧ SqT K H a xs⟩
def Ets (z : Str) : It :=
  ⟨fun i _ => i < z.cps.size, fun i H v H' => ∃ T c, v = .ref T ∧ H T = none ∧ H' = upd H T (.tup [.int (i : Nat), .str ⟨#[c]⟩]) ∧ z.cps[i]? = some c, fun i _ => z.cps.size ≤ i⟩
theorem nat1 (i : Nat) : ((i + 1 : Nat) : Int) = (i : Int) + 1 := by omega
theorem enum_item {X : Cx} {elts : List Expr} {kk : Nat} {tpos : Pos} {e it : Addr} {fp : List Addr} {n i : Nat} {P : Nat → Value → Prop} {St : Nat → Heap → Prop} {old : Value} {pins : List (Addr × Obj)} {s : Shared} {σ : L2.St} {H : Hp} {E : Value → Shared → Prop} {R : V → Hp → Heap → Prop}
    (Dr : Draws X.prog X.w X.A.in1 it fp n P St) (I : Inv X pins σ H s) (hf : ∀ b ∈ [e, it], FpOk X pins H b) (he : IsEnum s.heap e it ((i : Nat) : Int) old) (hst : St i s.heap) (hlt : i < n) (hne : e ≠ it) (hef : e ∉ fp)
    (hR : ∀ x u T h'', P i u → RelV x u → H T = none → (∃ old', IsEnum h'' e it (((i + 1 : Nat) : Nat) : Int) old') → St (i + 1) h'' → R (.ref T) (upd H T (.tup [.int (i : Nat), x])) h'') (hx : ∀ u, P i u → ∃ x, RelV x u) :
    wpAny (model X.prog X.w) X.A (pyNext (.ref e)) (fun r s1 => ∃ u, r = some u ∧ wpAny (model X.prog X.w) X.A (letOwnedTupleGo (.Tuple elts kk tpos) (.ref e) u) (fun _ s2 => ∃ x H', Inv X pins σ H' s2 ∧ RelV x u ∧ R x H' s2.heap ∧ ∀ b ∈ [e, it], H' b = none) E s1) E s := by
  refine wpAny_pyNext_enum_itemD Dr he hst hlt hne hef fun x h' tk px ho hst' hT hsz hk => ?_
  have hel : e < s.heap.objs.size := Heap.lt_size he
  have hil : it < s.heap.objs.size := by
    obtain ⟨o, q⟩ := Dr.live i _ hst
    exact Heap.lt_size q
  refine ⟨_, rfl, wpAny_letOwnedTupleGo_enum (s := { s with heap := h', toks := tk + 1 }) ho fun h'' he' sb => ?_⟩
  obtain ⟨v, rv⟩ := hx x px
  have hT2 : h''.get? s.heap.objs.size = some { cls := .type "tuple", data := .seq #[.int i tk, x] } := (sb.2 _ (Nat.ne_of_gt hel)).trans hT
  have new : ObjOk X.prog X.w (upd H s.heap.objs.size (.tup [.int (i : Nat), v])) h'' s.heap.objs.size (.tup [.int (i : Nat), v]) :=
    ⟨by show 2 ≤ sizeLine; decide, [.int i tk, x], .cons ⟨_, rfl⟩ (.cons rv .nil), ⟨_, hT2, rfl, _, rfl⟩⟩
  have I1 : Inv X pins σ (upd H s.heap.objs.size (.tup [.int (i : Nat), v])) { s with heap := h'', toks := tk + 1 } :=
    I.turnedNew (ch := [e, it]) (fun b ob hb q => (sb.2 b (fun z => hb (by simp [z]))).trans (hk b ob (fun z => hb (by simp [z])) (fun z => hb (by simp [z])) q)) hf (Nat.le_refl _) new
  refine ⟨.ref s.heap.objs.size, _, I1, rfl, hR v x _ _ px rv (I.hok.fresh (Nat.le_refl _)) ⟨x, ?_⟩ (Dr.frame _ _ _ hst' fun b hb o q => (sb.2 b (fun z => hef (z ▸ hb))).trans q), fun b hb => ?_⟩
  · rw [nat1]; exact he'
  · have hb' : b < s.heap.objs.size := by
      have e' : b = e ∨ b = it := by simpa using hb
      rcases e' with z | z
      · rw [z]; exact hel
      · rw [z]; exact hil
    rw [upd_ne (Nat.ne_of_lt hb')]
    exact (hf b hb).1
theorem enum_end {X : Cx} {e it : Addr} {fp : List Addr} {n : Nat} {P : Nat → Value → Prop} {St : Nat → Heap → Prop} {i : Int} {old : Value} {pins : List (Addr × Obj)} {s : Shared} {σ : L2.St} {H : Hp} {E : Value → Shared → Prop}
    (Dr : Draws X.prog X.w X.A.in1 it fp n P St) (I : Inv X pins σ H s) (hf : FpOk X pins H it) (he : IsEnum s.heap e it i old) (hst : St n s.heap) :
    wpAny (model X.prog X.w) X.A (pyNext (.ref e)) (fun r s1 => r = none ∧ Inv X pins σ H s1) E s := by
  obtain ⟨f0, f1, f2, f3, f4, f5⟩ := hf
  exact wpAny_pyNext_enum_endD Dr he hst fun h' eb => ⟨rfl, I.turned (t' := s.toks) (fun b o hb q => eb b o hb q) f0 f1 f3 f4 f5⟩
theorem turn_enumT {P : Program} {w : World} {K : PySem.W.Frag} {elts : List Expr} {kk : Nat} {tpos : Pos} {n : Nat} (a e it : Addr) :
    Turn P w K (.Tuple elts kk tpos) (Ett K a n) [e, it] e (fun i h => (∃ old, IsEnum h e it ((i : Nat) : Int) old) ∧ h.IsTupleIter it a i ∧ e ≠ it ∧ a ≠ e ∧ a ≠ it ∧ i ≤ n) where
  mem := by simp
  obj := fun i h st b hb => by
    obtain ⟨⟨old, he⟩, ⟨o, ho, hc, hd⟩, _⟩ := st
    have e' : b = e ∨ b = it := by simpa using hb
    rcases e' with z | z
    · rw [z]; exact ⟨_, he, fun v q => nomatch q⟩
    · rw [z]; exact ⟨o, ho, fun v q => by rw [hd] at q; cases q⟩
  keep := fun i h h' st k => let ⟨⟨old, he⟩, hi, hne⟩ := st; ⟨⟨old, k e (by simp) _ he⟩, hi.at fun o q => k it (by simp) o q, hne⟩
  item := by
    intro X hP hw hK hc i pins s σ H E I hf st hg
    subst hP hw hK
    obtain ⟨⟨old, he⟩, hit, hne, n1, n2, hin⟩ := st
    obtain ⟨lt0, xs, hxn, hq⟩ := hg
    have hx : xs[i]? = some xs[i] := List.getElem?_eq_getElem (by omega)
    obtain ⟨x, ex⟩ : ∃ x, x = xs[i] := ⟨_, rfl⟩
    rw [← ex] at hx
    obtain ⟨its, rv, p, hz⟩ := I.tuple hq
    obtain ⟨u, hu, ru⟩ := rv.get hx
    have lt : i < its.toArray.size := by rw [List.size_toArray]; exact (List.getElem?_eq_some_iff.mp hu).1
    refine wpAny_mono (enum_item (R := fun x H' h => (Ett X.K a n).yld i H x H' ∧ (∃ old, IsEnum h e it ((i + 1 : Nat) : Int) old) ∧ h.IsTupleIter it a (i + 1) ∧ e ≠ it ∧ a ≠ e ∧ a ≠ it ∧ i + 1 ≤ n)
      (Draws.tuple (A := X.A.in1) (I.ok.hd hc) it a n2 its.toArray) I hf he ⟨hit, p⟩ lt hne (by simp [hne, n1.symm]) (fun y v T h'' pv rv' hT en st' => ?_) (fun v pv => ⟨x, ?_⟩))
      (fun r s1 ⟨u, e1, q⟩ => ⟨u, e1, wpAny_mono q (fun _ s2 ⟨y, H', J, r, ⟨q1, q2⟩, q3⟩ => ⟨y, H', J, r, q1, q2, q3⟩) fun _ _ k => k⟩) fun _ _ k => k
    · have ev : v = u := by
        have pv' : its[i]? = some v := by simpa using pv
        rw [hu] at pv'; exact (Option.some.inj pv').symm
      subst ev
      have ey : y = x := RelV.inj rv' ru
      subst ey
      exact ⟨⟨T, y, rfl, hT, rfl, fun ys hy => by rw [I.tuple_inj hy hq]; exact hx⟩, en, st'.1, hne, n1, n2, lt0⟩
    · have pv' : its[i]? = some v := by simpa using pv
      rw [hu] at pv'
      cases pv'
      exact ru
  done := by
    intro X hP hw hK hc i pins s σ H E I hf st hg
    subst hP hw hK
    obtain ⟨⟨old, he⟩, hit, hne, n1, n2, hin⟩ := st
    obtain ⟨hx, xs, hxn, hq⟩ := hg
    obtain ⟨its, rv, p, hz⟩ := I.tuple hq
    have hl := rv.length
    have en : i = its.toArray.size := by rw [List.size_toArray]; omega
    exact enum_end (Draws.tuple (A := X.A.in1) (I.ok.hd hc) it a n2 its.toArray) I (hf it (by simp)) he ⟨by rw [← en]; exact hit, p⟩
  self := fun A i s Q E st h => let ⟨⟨_, he⟩, _⟩ := st; wpAny_pyIter_enum he h
theorem turn_enumS {P : Program} {w : World} {K : PySem.W.Frag} {elts : List Expr} {kk : Nat} {tpos : Pos} (z : Str) (t : Tok) (e it : Addr) :
    Turn P w K (.Tuple elts kk tpos) (Ets z) [e, it] e (fun i h => (∃ old, IsEnum h e it ((i : Nat) : Int) old) ∧ h.IsStrIter it (strIterType z) z t i ∧ e ≠ it ∧ i ≤ z.cps.size) where
  mem := by simp
  obj := fun i h st b hb => by
    obtain ⟨⟨old, he⟩, ⟨o, ho, hc, hd⟩, _⟩ := st
    have e' : b = e ∨ b = it := by simpa using hb
    rcases e' with z | z
    · rw [z]; exact ⟨_, he, fun v q => nomatch q⟩
    · rw [z]; exact ⟨o, ho, fun v q => by rw [hd] at q; cases q⟩
  keep := fun i h h' st k => let ⟨⟨old, he⟩, ⟨o, ho, r⟩, hne⟩ := st; ⟨⟨old, k e (by simp) _ he⟩, ⟨o, k it (by simp) o ho, r⟩, hne⟩
  item := by
    intro X hP hw hK hc i pins s σ H E I hf st hg
    subst hP hw hK
    obtain ⟨⟨old, he⟩, hit, hne, hin⟩ := st
    have lt0 : i < z.cps.size := hg
    refine wpAny_mono (enum_item (R := fun x H' h => (Ets z).yld i H x H' ∧ (∃ old, IsEnum h e it ((i + 1 : Nat) : Int) old) ∧ h.IsStrIter it (strIterType z) z t (i + 1) ∧ e ≠ it ∧ i + 1 ≤ z.cps.size)
      (Draws.text (A := X.A.in1) (I.ok.hd hc) it z t) I hf he hit lt0 hne (by simp [hne]) (fun y v T h'' pv rv' hT en st' => ?_) (fun v pv => ?_))
      (fun r s1 ⟨u, e1, q⟩ => ⟨u, e1, wpAny_mono q (fun _ s2 ⟨y, H', J, r, ⟨q1, q2⟩, q3⟩ => ⟨y, H', J, r, q1, q2, q3⟩) fun _ _ k => k⟩) fun _ _ k => k
    · obtain ⟨cp, tk, h1, rfl⟩ := pv
      have ey : y = .str ⟨#[cp]⟩ := RelV.inj rv' ⟨tk, rfl⟩
      subst ey
      exact ⟨⟨T, cp, rfl, hT, rfl, h1⟩, en, st', hne, lt0⟩
    · obtain ⟨cp, tk, h1, rfl⟩ := pv
      exact ⟨.str ⟨#[cp]⟩, tk, rfl⟩
  done := by
    intro X hP hw hK hc i pins s σ H E I hf st hg
    subst hP hw hK
    obtain ⟨⟨old, he⟩, hit, hne, hin⟩ := st
    have hx : z.cps.size ≤ i := hg
    have en : i = z.cps.size := Nat.le_antisymm hin hx
    exact enum_end (Draws.text (A := X.A.in1) (I.ok.hd hc) it z t) I (hf it (by simp)) he (by rw [← en]; exact hit)
  self := fun A i s Q E st h => let ⟨⟨_, he⟩, _⟩ := st; wpAny_pyIter_enum he h
set_option maxHeartbeats 1000000 in
theorem meets_enumT (l : Addr) (items : Array Value) (n : Nat) (dct : Option Addr) (sl : Array (Option Value)) :
    Meets (Builtin.«enumerate.__new__» ⟨[.type "enumerate", .ref l], []⟩) (fun _ R s => s.heap.get? l = some { cls := .type "tuple", dict := dct, data := .seq items n, slots := sl } ∧
      R (.ok (.ret (.ref (s.heap.push { cls := .type "tuple_iterator", data := .fields #[.ref l, .int 0 0] }).objs.size)))
        { s with heap := (s.heap.push { cls := .type "tuple_iterator", data := .fields #[.ref l, .int 0 0] }).push { cls := .type "enumerate", data := .fields #[.none, .bool false, .ref s.heap.objs.size, rawInt 0, .none, .none] } }) :=
  .of_wp fun prog w A R s ⟨hl, h⟩ => by
    obtain ⟨hp, g, d, tk, os⟩ := s
    have hsub := sub_enumerate
    have hL : Heap.IsTuple (Shared.heap ⟨hp, g, d, tk, os⟩) l items := ⟨_, hl, rfl, n, rfl⟩
    wp_walk using wpAny_loadPart' hl
    refine wpAny_stack_any fun st => wpAny_pure ?_
    split
    · rename_i c _ _ _ _ _
      cases (c == Value.type "enumerate")
      · wp_walk using wpAny_loadPart' hl, wpAny_pyIter_tuple hL
        exact ⟨_, rfl, h⟩
      · wp_walk using wpAny_loadPart' hl, wpAny_pyIter_tuple hL
        exact ⟨_, rfl, h⟩
    · wp_walk using wpAny_loadPart' hl, wpAny_pyIter_tuple hL
      exact ⟨_, rfl, h⟩
theorem call_enumT {prog : Program} {w : World} {A : Around} {E : Value → Shared → Prop} {s : Shared} {l : Addr} {items : Array Value} {Q : Value → Shared → Prop} (hL : s.heap.IsTuple l items)
    (h : ∀ h', IsEnum h' (s.heap.objs.size + 1) s.heap.objs.size 0 .none → h'.IsTupleIter s.heap.objs.size l 0 → (∀ b o, s.heap.get? b = some o → h'.get? b = some o) → Q (.ref (s.heap.objs.size + 1)) { s with heap := h' }) :
    wpAny (model prog w) A (call (.type "enumerate") [.ref l]) Q E s := by
  obtain ⟨⟨c, dct, dt, sl⟩, hl, hc, n, hd⟩ := hL
  replace hc : c = .type "tuple" := hc
  replace hd : dt = .seq items n := hd
  subst hc hd
  refine callType_new F.called_enumerate (by decide) (F.typeCall_enumerate_1 _) (F.newCall_enumerate_1 _) (fun obj => F.args_object_init_2 obj _) F.entry_enumerate_new
    (meets_enumT l items n dct sl) ⟨hl, ?_⟩
  have hz : (s.heap.push { cls := .type "tuple_iterator", data := .fields #[.ref l, .int 0 0] }).objs.size = s.heap.objs.size + 1 := Heap.size_push ..
  show _ ∧ _
  rw [hz]
  have he : IsEnum ((s.heap.push { cls := .type "tuple_iterator", data := .fields #[.ref l, .int 0 0] }).push
      { cls := .type "enumerate", data := .fields #[.none, .bool false, .ref s.heap.objs.size, rawInt 0, .none, .none] }) (s.heap.objs.size + 1) s.heap.objs.size 0 .none := by
    have := Heap.get?_push_size (s.heap.push { cls := .type "tuple_iterator", data := .fields #[.ref l, .int 0 0] })
      (o := { cls := .type "enumerate", data := .fields #[.none, .bool false, .ref s.heap.objs.size, rawInt 0, .none, .none] }) rfl
    rw [hz] at this; exact this
  refine ⟨⟨_, he, rfl⟩, h _ he ⟨_, Heap.get?_push_of_some _ (Heap.get?_push_size _ rfl), rfl, rfl⟩ fun b o x => Heap.get?_push_of_some _ (Heap.get?_push_of_some _ x)⟩
/-- over a tuple, a text -/
def iEnumTS (K : PySem.W.Frag) (ta : TA) : TI := fun σ H R => ta σ H fun vs H1 => (∃ a xs, vs = [.ref a] ∧ SqT K H1 a xs ∧ R (Ett K a xs.length) H1) ∨ ∃ z, vs = [.str z] ∧ R (Ets z) H1
theorem pi_enumTS {X : Cx} {e : Expr} {ta : TA} {p pos tpos : Pos} {elts : List Expr} {kk : Nat} (hg : Gl X "enumerate") (hm : X.mg "enumerate" = none) (ha : PA X [e] ta) (hs : starEach [e] X.env = [(false, eval e X.env)] := by rfl) :
    PI X (.Tuple elts kk tpos) (.Call (.Name "enumerate" p) [e] [] pos) (iEnumTS X.K ta) := by
  refine ⟨fun pins s σ H R I h => ?_⟩
  refine Call_ (ld_blt I hg hm boot_enumerate (PyProof.Rows.callWith_type1 (thn (ha.run pos pins s σ H _ I h) fun us s1 ⟨vs, H1, I1, r1, q1⟩ => ?_) hs rfl))
  have fresh : ∀ b ∈ [s1.heap.objs.size + 1, s1.heap.objs.size], FpOk X pins H1 b := fun b hb => by
    have e' : b = s1.heap.objs.size + 1 ∨ b = s1.heap.objs.size := by simpa using hb
    have hle : s1.heap.objs.size ≤ b := by
      rcases e' with z | z
      · rw [z]; exact Nat.le_add_right _ _
      · rw [z]; exact Nat.le_refl _
    exact I1.fpOk hle (I1.hok.fresh hle)
  rcases q1 with ⟨a, xs, ex, hq, q⟩ | ⟨z, ex, q⟩
  · subst ex
    obtain ⟨u, rfl, ru⟩ := r1.one
    obtain rfl : u = Value.ref a := ru
    obtain ⟨its, rv, p', hz⟩ := I1.tuple hq
    have la : a < s1.heap.objs.size := by obtain ⟨o, ho, _⟩ := p'; exact Heap.lt_size ho
    refine call_enumT p' fun h' he hit hk => wpAny_pyIter_enum he ?_
    have I2 : Inv X pins σ H1 { s1 with heap := h' } := I1.kept (t' := s1.toks) hk
    exact ⟨s1.heap.objs.size + 1, [s1.heap.objs.size + 1, s1.heap.objs.size], _, _, H1, rfl, I2, turn_enumT a (s1.heap.objs.size + 1) s1.heap.objs.size, ⟨⟨.none, he⟩, hit, Nat.succ_ne_self _, Nat.ne_of_lt (Nat.lt_succ_of_lt la), Nat.ne_of_lt la, Nat.zero_le _⟩, fresh, q⟩
  · subst ex
    obtain ⟨u, rfl, t, rfl⟩ := r1.one
    refine call_enumerate_str fun h' he hit hsz hk => wpAny_pyIter_enum he ?_
    have I2 : Inv X pins σ H1 { s1 with heap := h' } := I1.kept (t' := s1.toks) hk
    exact ⟨s1.heap.objs.size + 1, [s1.heap.objs.size + 1, s1.heap.objs.size], _, _, H1, rfl, I2, turn_enumS z t (s1.heap.objs.size + 1) s1.heap.objs.size, ⟨⟨.none, he⟩, hit, Nat.succ_ne_self _, Nat.zero_le _⟩, fresh, q⟩
/-- the pairs -/
def enumL : Nat → List D → List D
  | _, [] => []
  | i, d :: ds => .kt [.int (i : Nat), d] :: enumL (i + 1) ds
theorem enumL_len : ∀ (ds : List D) (i : Nat), (enumL i ds).length = ds.length
  | [], _ => rfl
  | _ :: ds, i => congrArg Nat.succ (enumL_len ds (i + 1))
theorem enumL_at : ∀ (ds : List D) (i j : Nat), (enumL i ds)[j]? = ds[j]?.map fun d => D.kt [.int ((i + j : Nat) : Int), d]
  | [], _, _ => by simp [enumL]
  | d :: ds, i, 0 => rfl
  | d :: ds, i, j + 1 => by
    show (enumL (i + 1) ds)[j]? = ds[j]?.map _
    rw [enumL_at ds (i + 1) j, show i + 1 + j = i + (j + 1) by omega]
def itEnum (d : D) : Option (List D) := (itSeq d).map (enumL 0)
section
variable {X : Cx} {cl : Str → Addr} {W : WX}
theorem pair_in {K : PySem.W.Frag} {c : Cz} {σ : L2.St} {s : S} {T : List (D × V)} {H : Hp} {F : Addr → Prop} {α : List Addr} {p : Addr} {i : Nat} {d : D} {x : V} (J : SIx K cl c H σ s T F α) (r : Rep K cl H F α d x) (hp : H p = none) :
    SI K cl c (upd H p (.tup [.int (i : Nat), x])) σ s ((.kt [.int (i : Nat), d], .ref p) :: T) := J.ktNew hp (.cons .int (.cons r .nil))
theorem drv_enumL {K : PySem.W.Frag} {a : Addr} {d : D} (h1 : tpD d = none) (h2 : ∀ z, d ≠ .str z) : Drv K cl (Ite K a) [(d, .ref a)] itEnum d := by
  intro c H σ s T i ds I e
  obtain ⟨es, e1, rfl⟩ := Option.map_eq_some_iff.mp e
  obtain ⟨F, α, J⟩ := id I
  have e' := itSeq_seq (fun z q => h2 z (view_str q)) e1
  obtain ⟨b, vs, ev, hl, r⟩ := J.vSeqL (J.tmp (d, .ref a) (List.mem_append_left _ (List.mem_cons_self ..))) h1 e'
  cases ev
  refine ⟨fun g hg => ?_, fun hl' => ⟨vs, hl, by rw [← r.length, ← enumL_len es 0]; exact hl'⟩⟩
  rw [enumL_at] at hg
  obtain ⟨y, h3, rfl⟩ := Option.map_eq_some_iff.mp hg
  obtain ⟨x, h4, r4⟩ := r.get h3
  refine ⟨⟨vs, x, hl, h4⟩, fun z H'' hy => ?_⟩
  obtain ⟨T', x', rfl, hT, rfl, hy⟩ := hy
  have := hy vs hl
  rw [h4] at this; cases this
  rw [Nat.zero_add]
  exact pair_in J r4 hT
theorem tp_seq {M : List (Option C)} {d : D} {xs es : List D} (hd : tpD d = some xs) (e : itSeq (view M d) = some es) : es = xs := by
  have q := tp_view (M := M) hd
  revert e q
  generalize view M d = u
  intro e q
  cases u <;> simp [tpD] at q
  · subst q; exact (Option.some.inj (show some _ = some es from e)).symm
  · subst q; exact (Option.some.inj (show some _ = some es from e)).symm
theorem drv_enumT {K : PySem.W.Frag} {a : Addr} {d : D} {xs : List D} (hd : tpD d = some xs) : Drv K cl (Ett K a xs.length) [(d, .ref a)] itEnum d := by
  intro c H σ s T i ds I e
  obtain ⟨es, e1, rfl⟩ := Option.map_eq_some_iff.mp e
  obtain ⟨F, α, J⟩ := id I
  have e' := tp_seq hd e1
  subst e'
  obtain ⟨b, vs, ev, hl, r⟩ := J.vTp (J.tmp (d, .ref a) (List.mem_append_left _ (List.mem_cons_self ..))) (tp_view hd)
  cases ev
  refine ⟨fun g hg => ?_, fun hl' => ⟨by rw [← enumL_len es 0]; exact hl', vs, r.length.symm, hl⟩⟩
  rw [enumL_at] at hg
  obtain ⟨y, h3, rfl⟩ := Option.map_eq_some_iff.mp hg
  obtain ⟨x, h4, r4⟩ := r.get h3
  refine ⟨⟨(List.getElem?_eq_some_iff.mp h3).1, vs, r.length.symm, hl⟩, fun z H'' hy => ?_⟩
  obtain ⟨T', x', rfl, hT, rfl, hy⟩ := hy
  have := hy vs hl
  rw [h4] at this; cases this
  rw [Nat.zero_add]
  exact pair_in J r4 hT
theorem drv_enumS {K : PySem.W.Frag} {z : Str} {P : List (D × V)} : Drv K cl (Ets z) P itEnum (.str z) := by
  intro c H σ s T i ds I e
  obtain ⟨es, e1, rfl⟩ := Option.map_eq_some_iff.mp e
  have e' : es = z.cps.toList.map fun c => D.str ⟨#[c]⟩ := (Option.some.inj (show some _ = some es from e1)).symm
  subst e'
  refine ⟨fun g hg => ?_, fun hl => by rw [enumL_len, List.length_map, Array.length_toList] at hl; exact hl⟩
  rw [enumL_at, List.getElem?_map, Option.map_map] at hg
  obtain ⟨cp, h1, rfl⟩ := Option.map_eq_some_iff.mp hg
  have h1' : z.cps[i]? = some cp := by rw [← Array.getElem?_toList]; exact h1
  refine ⟨(Array.getElem?_eq_some_iff.mp h1').1, fun x H'' hy => ?_⟩
  obtain ⟨T', c', rfl, hT, rfl, hy⟩ := hy
  rw [h1'] at hy; cases hy
  obtain ⟨F, α, J⟩ := I
  show SI K cl c _ σ s ((D.kt [.int ((0 + i : Nat) : Int), .str ⟨#[cp]⟩], _) :: _)
  rw [Nat.zero_add]
  exact pair_in J .str hT
/-- enumerate(e) -/
theorem di_enum {e : Expr} {f : M D} {p pos tpos : Pos} {elts : List Expr} {kk : Nat} (h : DE X cl W e f) (hm : X.mg "enumerate" = none) (hg : Gl X "enumerate" := by rfl) (hs : starEach [e] X.env = [(false, eval e X.env)] := by rfl) :
    DI X cl W (.Tuple elts kk tpos) (.Call (.Name "enumerate" p) [e] [] pos) f itEnum := by
  obtain ⟨te, pe, q⟩ := h
  have pa := pa_cons pe pa_nil hs
  refine ⟨_, PI.or (pi_enum hg hm pa hs) (pi_enumTS hg hm pa hs), fun c σ s T H R I w hs => ?_⟩
  cases hf : f s with
  | fail => rw [hf] at w; exact w.elim
  | exc n fs s1 => exact .inl (q c σ s T H _ I (by rw [hf] at w ⊢; exact w))
  | ok d s1 =>
    obtain ⟨ds0, hds0⟩ := Option.isSome_iff_exists.mp (hs d s1 hf)
    obtain ⟨ds, hds, _⟩ := Option.map_eq_some_iff.mp hds0
    rw [hf] at w
    have w : ∀ H J P, SI X.K cl c H σ s1 (P ++ T) → Drv X.K cl J P itEnum d → R J H := w
    by_cases h2 : ∃ z, d = .str z
    · obtain ⟨z, rfl⟩ := h2
      refine .inr (q c σ s T H _ I ?_)
      rw [hf]
      intro v H1 I1
      have ev := rep_str I1
      subst ev
      exact .inr ⟨z, rfl, w H1 _ [(.str z, .str z)] I1 drv_enumS⟩
    · cases h1 : tpD d with
      | some xs =>
        refine .inr (q c σ s T H _ I ?_)
        rw [hf]
        intro v H1 I1
        obtain ⟨F, α, J1⟩ := id I1
        obtain ⟨a, vs, ev, h2, rl⟩ := J1.vTp (J1.tmp (d, v) (List.mem_cons_self ..)) (tp_view h1)
        have ev : v = .ref a := ev
        subst ev
        exact .inl ⟨a, vs, rfl, h2, by rw [← rl.length]; exact w H1 _ [(d, .ref a)] I1 (drv_enumT h1)⟩
      | none =>
        have h2' : ∀ z, d ≠ .str z := fun z e => h2 ⟨z, e⟩
        refine .inl (q c σ s T H _ I ?_)
        rw [hf]
        intro v H1 I1
        obtain ⟨F, α, J1⟩ := id I1
        obtain ⟨a, vs, ev, h3, rl⟩ := J1.vSeqL (J1.tmp (d, v) (List.mem_cons_self ..)) h1 (itSeq_seq (fun z e => h2' z (view_str e)) hds)
        have ev : v = .ref a := ev
        subst ev
        exact ⟨a, vs, rfl, h3, w H1 _ [(d, .ref a)] I1 (drv_enumL h1 h2')⟩
end
end DL

/-! DlX: x.index(y); sum; dicts read; dict comprehensions. -/
namespace DL
open PySem PySem.Spec PyProof.Rows L2
section
variable {X : Cx} {cl : Str → Addr} {W : WX}
/-- x.index(y), x a list or a tuple -/
def rIxT (K : PySem.W.Frag) : V → List V → Hp → VK → Prop := fun x xs H Q => ∃ p, ∃ ys : List Str, ∃ z j, x = .ref p ∧ xs = [.str z] ∧ SqT K H p (ys.map V.str) ∧ ys[j]? = some z ∧ (∀ m, m < j → ys[m]? ≠ some z) ∧ Q (.int (j : Nat)) H
def tIndex (K : PySem.W.Frag) (to : TE) (t : TA) : TE := fun σ H Q => to σ H fun x H1 => (∃ a xs, x = .ref a ∧ SqN K H1 a xs ∧ t σ H1 fun zs H2 => rIxT K x zs H2 Q) ∨ ∃ a xs, x = .ref a ∧ SqL K H1 a xs ∧ t σ H1 fun zs H2 => rIndex K x zs H2 Q
theorem pe_index {o e : Expr} {es : List Expr} {to : TE} {t : TA} {apos cpos : Pos} (ho : PE X o to) (ha : PA X (e :: es) t)
    (hbase : attributeBase o "index" X.env (eval o X.env) = eval o X.env := by rfl)
    (hfew : ((backTo cpos (starEach (e :: es) X.env)).all (fun x => !x.1) && (backToKw cpos (keywordEach [] X.env)).all (fun x => x.1.isSome)
      && decide ((e :: es).length + ([] : List Keyword).length + (if ([] : List Keyword).isEmpty then 0 else 1) < 30)) = true := by rfl)
    (hline : (apos.endLine == cpos.line) = true := by rfl) (hs : starEach (e :: es) X.env = (false, eval e X.env) :: starEach es X.env := by rfl) (hplain : (backTo cpos (starEach es X.env)).any (·.1) = false := by rfl) :
    PE X (.Call (.Attribute o "index" apos) (e :: es) [] cpos) (tIndex X.K to t) := by
  refine ⟨fun pins s σ H Q I h => ?_⟩
  refine wpAny_Call_method_late hbase hfew hline rfl (thn (ho.run pins s σ H _ I h) fun v s1 ⟨x, H1, I1, r1, q1⟩ => ?_)
  rcases q1 with ⟨a, xs, rfl, hq, q1⟩ | ⟨a, xs, rfl, hq, q1⟩
  · obtain rfl : v = Value.ref a := r1
    obtain ⟨its, rv, pl, hz⟩ := I1.tuple hq.1
    refine ⟨"tuple", "tuple.index", PySem.F.plainAttrs_tuple, PySem.F.slot_tuple_index, PySem.F.type_tuple_index, pl.typeIs, fun b e => (by cases e; exact hq.dict I1), ?_⟩
    have hA := ha.run cpos pins s1 σ H1 _ I1 q1
    rw [hs] at hA ⊢
    refine Calls.callWith_builtin (by show (false || (backTo cpos (starEach es X.env)).any (·.1)) = false; rw [hplain] <;> rfl) (Calls.evalArgs_plain ?_)
    exact thn hA fun us s2 ⟨vs, H2, I2, r2, q2⟩ => mt_tup_index pins s2 σ H2 (.ref a) vs (.ref a) us Q I2 rfl r2 q2
  · obtain ⟨h1, h2⟩ := tyV_is I1 r1 (show tyV X.K "list" (.ref a) H1 from .inl ⟨rfl, _, hq⟩)
    refine ⟨"list", "list.index", PySem.F.plainAttrs_list, PySem.F.slot_list_index, PySem.F.type_list_index, h1, h2, ?_⟩
    have hA := ha.run cpos pins s1 σ H1 _ I1 q1
    rw [hs] at hA ⊢
    refine Calls.callWith_builtin (by show (false || (backTo cpos (starEach es X.env)).any (·.1)) = false; rw [hplain] <;> rfl) (Calls.evalArgs_plain ?_)
    exact thn hA fun us s2 ⟨vs, H2, I2, r2, q2⟩ => mt_index pins s2 σ H2 (.ref a) vs v us Q I2 r1 r2 q2
def isSeqIx : D → Bool
  | .tup _ => true | .lst _ => true | .slst _ => true
  | _ => false
/-- the place of a text among texts -/
def dIndex : D → D → Option D
  | d, .str z => match (if isSeqIx d = true then seqD d else none).bind strsD with
    | some zs => if z ∈ zs then some (.int (zs.idxOf z : Nat)) else none
    | none => none
  | _, _ => none
theorem dIndex_some {d e z : D} (h : dIndex d e = some z) : ∃ y ds zs, e = .str y ∧ isSeqIx d = true ∧ seqD d = some ds ∧ strsD ds = some zs ∧ y ∈ zs ∧ z = .int (zs.idxOf y : Nat) := by
  unfold dIndex at h
  split at h
  · rename_i d y
    split at h
    · rename_i zs hz
      split at h
      · rename_i hm
        cases h
        obtain ⟨ds, h1, h2⟩ := Option.bind_eq_some_iff.mp hz
        split at h1
        · rename_i h3
          exact ⟨_, ds, zs, rfl, h3, h1, h2, hm, rfl⟩
        · cases h1
      · cases h
    · cases h
  · cases h
theorem idx_first : ∀ {zs : List Str} {y : Str}, y ∈ zs → zs[zs.idxOf y]? = some y ∧ ∀ m, m < zs.idxOf y → zs[m]? ≠ some y
  | [], y, h => by cases h
  | z :: zs, y, h => by
    by_cases e : z = y
    · subst e
      rw [List.idxOf_cons_self]
      exact ⟨rfl, fun m hm => absurd hm (Nat.not_lt_zero _)⟩
    · have hy : y ∈ zs := (List.mem_cons.mp h).resolve_left fun q => e q.symm
      obtain ⟨h1, h2⟩ := idx_first hy
      have e2 : (z :: zs).idxOf y = zs.idxOf y + 1 := by
        rw [List.idxOf_cons, show (z == y) = false from beq_eq_false_iff_ne.mpr e]; rfl
      rw [e2]
      refine ⟨by simpa using h1, fun m hm => ?_⟩
      cases m with
      | zero => simpa using e
      | succ m => simpa using h2 m (by omega)
def eIndex (fo : M D) (fa : M (List D)) : M D := fun s => (fo s).bind fun d s1 => if isSeqIx (view s1.M d) = true then (fa s1).bind fun ds s2 => oOf (g1m dIndex (view s2.M d) (ds.map (view s2.M))) s2 else .fail
theorem de_index {o e : Expr} {es : List Expr} {fo : M D} {fa : M (List D)} {apos cpos : Pos} (ho : DE X cl W o fo) (ha : DA X cl W (e :: es) fa)
    (hbase : attributeBase o "index" X.env (eval o X.env) = eval o X.env := by rfl)
    (hfew : ((backTo cpos (starEach (e :: es) X.env)).all (fun x => !x.1) && (backToKw cpos (keywordEach [] X.env)).all (fun x => x.1.isSome)
      && decide ((e :: es).length + ([] : List Keyword).length + (if ([] : List Keyword).isEmpty then 0 else 1) < 30)) = true := by rfl)
    (hline : (apos.endLine == cpos.line) = true := by rfl) (hs : starEach (e :: es) X.env = (false, eval e X.env) :: starEach es X.env := by rfl) (hplain : (backTo cpos (starEach es X.env)).any (·.1) = false := by rfl) :
    DE X cl W (.Call (.Attribute o "index" apos) (e :: es) [] cpos) (eIndex fo fa) := by
  obtain ⟨to, po, qo⟩ := ho
  obtain ⟨ta, pp, qa⟩ := ha
  refine ⟨_, pe_index po pp hbase hfew hline hs hplain, fun c σ s T H Q I w => ?_⟩
  refine qo c σ s T H _ I (Want.bind w fun d s1 _ w1 v H1 I1 => ?_)
  split at w1
  · rename_i ht
    obtain ⟨F, α, J⟩ := _root_.id I1
    have r := J.tmp (d, v) (List.mem_cons_self ..)
    have key : ∀ (ds : List D) (s2 : S) (vs : List V) (H2 : Hp), ds.length = vs.length → SI X.K cl c H2 σ s2 (zipT ds vs ((d, v) :: T)) → Want X.K cl W c σ ((d, v) :: T) (oOf (g1m dIndex (view s2.M d) (ds.map (view s2.M))) s2) Q →
        ∃ (y : Str) (zs : List Str) (es : List D) (xs : List V) (a : Addr), vs = [.str y] ∧ v = .ref a ∧ isSeqIx (view s2.M d) = true ∧ seqD (view s2.M d) = some es ∧ xs = zs.map V.str ∧ (SqL X.K H2 a xs ∨ SqT X.K H2 a xs) ∧ (tpD d = none → SqL X.K H2 a xs) ∧ (∀ ys, view s2.M d = .tup ys → SqT X.K H2 a xs) ∧ y ∈ zs ∧ Q (.int (zs.idxOf y : Nat)) H2 := fun ds s2 vs H2 hl I2 w2 => by
      unfold oOf at w2
      split at w2
      · rename_i z hz
        match ds, vs, hl with
        | [e1], [u], _ =>
          obtain ⟨y, es, zs, ey, hi, hs1, hs2, hm, rfl⟩ := dIndex_some (show dIndex (view s2.M d) (view s2.M e1) = some z from hz)
          obtain ⟨F2, α2, J2⟩ := _root_.id I2
          have r2 := J2.tmp (d, v) (List.mem_cons_of_mem _ (List.mem_cons_self ..))
          obtain ⟨a, xs, ev, h3, rl⟩ := J2.vSeq r2 hs1
          have hx := strsD_rep rl hs2
          refine ⟨y, zs, es, xs, a, by rw [J2.t1s ey], ev, hi, hs1, hx, h3, fun hn => ?_, fun ys hy => ?_, hm, w2 _ H2 (SI.flat rfl ((I2.sub fun q hq => List.mem_cons_of_mem _ hq) : SI X.K cl c H2 σ s2 ((d, v) :: T)))⟩
          · obtain ⟨a', xs', ev', h4, rl'⟩ := J2.vSeqL r2 hn hs1
            have ev : v = .ref a := ev
            have ev' : v = .ref a' := ev'
            rw [ev] at ev'
            cases ev'
            rw [strsD_rep rl' hs2] at h4
            rw [hx]; exact h4
          · obtain ⟨a', xs', ev', h4, rl'⟩ := J2.vTup r2 hy
            rw [hy] at hs1
            cases hs1
            have ev : v = .ref a := ev
            have ev' : v = .ref a' := ev'
            rw [ev] at ev'
            cases ev'
            rw [strsD_rep rl' hs2] at h4
            rw [hx]; exact h4
        | [], [], _ => cases hz
        | _ :: _ :: _, _, _ => cases hz
      · exact w2.elim
    by_cases htu : ∃ ys, d = .tup ys
    · obtain ⟨ys, rfl⟩ := htu
      obtain ⟨a, vs, ev, h1, rl⟩ := J.vTupN r rfl
      have ev : v = .ref a := ev
      subst ev
      refine .inl ⟨a, vs, rfl, h1, qa c σ s1 _ H1 _ I1 ((w1.deeper fun p hp => List.mem_cons_of_mem _ hp).bindA fun ds s2 _ w2 vs H2 hl I2 => ?_)⟩
      obtain ⟨y, zs, es, xs, a', e1, e2, e3, e4, e5, _, _, e6, hm, q⟩ := key ds s2 vs H2 hl I2 w2
      cases e2
      have hf := idx_first hm
      exact ⟨a, zs, y, _, rfl, e1, by rw [← e5]; exact e6 ys rfl, hf.1, hf.2, q⟩
    · have hn : tpD d = none := by
        cases d <;> first | rfl | exact absurd ⟨_, rfl⟩ htu | (cases ht)
      have hq : ∃ ds, seqD (view s1.M d) = some ds := by
        revert ht
        generalize view s1.M d = u
        intro ht
        cases u <;> first | exact ⟨_, rfl⟩ | (cases ht)
      obtain ⟨es, he⟩ := hq
      obtain ⟨a, vs, ev, h1, rl⟩ := J.vSeqL r hn he
      have ev : v = .ref a := ev
      subst ev
      refine .inr ⟨a, vs, rfl, h1, qa c σ s1 _ H1 _ I1 ((w1.deeper fun p hp => List.mem_cons_of_mem _ hp).bindA fun ds s2 _ w2 vs H2 hl I2 => ?_)⟩
      obtain ⟨y, zs, es, xs, a', e1, e2, e3, e4, e5, _, e6, _, hm, q⟩ := key ds s2 vs H2 hl I2 w2
      cases e2
      have hf := idx_first hm
      refine ⟨a, zs.map V.str, .str y, _, .str y, rfl, e1, by rw [← e5]; exact e6 hn, rfl, flat_strs zs, by rw [List.getElem?_map, hf.1]; rfl, ?_, fun m z' hm' hz' => ?_, q⟩
      · show (y == y) = true
        exact beq_self_eq_true y
      · rw [List.getElem?_map] at hz'
        obtain ⟨y', h4, rfl⟩ := Option.map_eq_some_iff.mp hz'
        show (y' == y) = false
        exact beq_eq_false_iff_ne.mpr fun q => hf.2 m hm' (q ▸ h4)
  · exact w1.elim
/-- sum of a list of ints -/
def dSum : D → Option D
  | .lst xs => (intsD xs).map fun ns => .int ns.sum
  | .slst xs => (intsD xs).map fun ns => .int ns.sum
  | _ => none
theorem cd_sum (hc : X.calm = true) : CD X cl (.builtin "sum") (g1 dSum) := by
  refine CD.one (cr_sum hc) fun c σ s T H F α d v z Q J hz k => ?_
  have r := J.tmp (d, v) (List.mem_cons_self ..)
  have key : ∀ xs, seqD (view s.M d) = some xs → tpD d = none → (intsD xs).map (fun ns => D.int ns.sum) = some z → ∃ (a : Addr) (ns : List Int), [v] = [V.ref a] ∧ SqL X.K H a (ns.map V.int) ∧ Q (.int ns.sum) H := fun xs h1 h2 h3 => by
    obtain ⟨ns, h4, rfl⟩ := Option.map_eq_some_iff.mp h3
    obtain ⟨a, vs, ev, h5, rl⟩ := J.vSeqL r h2 h1
    have ev : v = .ref a := ev
    subst ev
    have h6 := intsD_rep rl h4
    subst h6
    exact ⟨a, ns, rfl, h5, k _ H (SI.flat rfl ⟨F, α, J⟩)⟩
  cases e : view s.M d with
  | lst xs => rw [e] at hz; exact key xs (by rw [e]; rfl) (by cases d <;> first | rfl | (cases e)) hz
  | slst xs => rw [e] at hz; exact key xs (by rw [e]; rfl) (by cases d <;> first | rfl | (cases e)) hz
  | _ => rw [e] at hz; cases hz
end
end DL

/-! DlXb: dicts read; dict comprehensions. -/
namespace DL
open PySem PySem.Spec PyProof.Rows L2
/-- a dict's entry -/
def valD {κ α : Type} [DecidableEq κ] (kvs : List (κ × α)) (k : κ) : Option α := (kvs.find? fun kv => decide (kv.1 = k)).map (·.2)
def putD {κ α : Type} [DecidableEq κ] (kvs : List (κ × α)) (k : κ) (d : α) : List (κ × α) :=
  if (kvs.any fun kv => decide (kv.1 = k)) = true then kvs.map (fun kv => if kv.1 = k then (kv.1, d) else kv) else kvs ++ [(k, d)]
def keyD : D → Option Key
  | .int i => some (.inl i)
  | .str z => some (.inr z)
  | _ => none
section
variable {K : PySem.W.Frag} {cl : Str → Addr} {H : Hp} {F : Addr → Prop} {α : List Addr}
theorem keyD_rep {d : D} {v : V} {k : Key} (r : Rep K cl H F α d v) (h : keyD d = some k) : v = kV k := by
  cases r <;> simp [keyD] at h <;> subst h <;> rfl
theorem RepK.keys : ∀ {kvs : List (Key × D)} {vs : List (Key × V)}, RepK K cl H F α kvs vs → kvs.map (·.1) = vs.map (·.1)
  | _, _, .nil => rfl
  | _, _, .cons _ r => by simp [r.keys]
theorem RepK.vals : ∀ {kvs : List (Key × D)} {vs : List (Key × V)}, RepK K cl H F α kvs vs → RepL K cl H F α (kvs.map (·.2)) (vs.map (·.2))
  | _, _, .nil => .nil
  | _, _, .cons h r => .cons h r.vals
theorem RepK.of : ∀ {kvs : List (Key × D)} {vs : List (Key × V)}, kvs.map (·.1) = vs.map (·.1) → RepL K cl H F α (kvs.map (·.2)) (vs.map (·.2)) → RepK K cl H F α kvs vs
  | [], [], _, _ => .nil
  | (k, d) :: kvs, (k', v) :: vs, h, r => by
    simp only [List.map_cons, List.cons.injEq] at h
    obtain ⟨rfl, h⟩ := h
    cases r with
    | cons h1 r => exact .cons h1 (RepK.of h r)
  | [], _ :: _, h, _ => by simp at h
  | _ :: _, [], h, _ => by simp at h
theorem RepK.valD : ∀ {kvs : List (Key × D)} {vs : List (Key × V)} {k : Key} {d : D}, RepK K cl H F α kvs vs → DL.valD kvs k = some d → ∃ v, valV vs k = some v ∧ Rep K cl H F α d v
  | _, _, k, d, .nil, h => by cases h
  | (k1, d1) :: kvs, (_, v1) :: vs, k, d, .cons h r, e => by
    by_cases q : k1 = k
    · subst q
      have e1 : d1 = d := by simpa [DL.valD, List.find?_cons] using e
      subst e1
      exact ⟨v1, valV_pos rfl, h⟩
    · have e1 : DL.valD kvs k = some d := by simpa [DL.valD, List.find?_cons, q] using e
      obtain ⟨v, h1, h2⟩ := r.valD e1
      exact ⟨v, (valV_neg q).trans h1, h2⟩
theorem zipT_at : ∀ {ds : List D} {vs : List V} {T : List (D × V)} {q : D × V}, q ∈ zipT ds vs T → q ∈ T ∨ ∃ i : Nat, ds[i]? = some q.1 ∧ vs[i]? = some q.2
  | [], vs, T, q, h => .inl h
  | d :: ds, [], T, q, h => .inl h
  | d :: ds, v :: vs, T, q, h => by
    rcases zipT_at (ds := ds) (vs := vs) (T := (d, v) :: T) h with h | ⟨i, h1, h2⟩
    · rcases List.mem_cons.mp h with h | h
      · subst h; exact .inr ⟨0, rfl, rfl⟩
      · exact .inl h
    · exact .inr ⟨i + 1, by simpa using h1, by simpa using h2⟩
theorem any_keys {α β : Type} {k : Key} : ∀ {kvs : List (Key × α)} {vs : List (Key × β)}, kvs.map (·.1) = vs.map (·.1) → (kvs.any fun kv => decide (kv.1 = k)) = (vs.any fun kv => decide (kv.1 = k))
  | [], [], _ => rfl
  | (k1, _) :: kvs, (k2, _) :: vs, h => by
    simp only [List.map_cons, List.cons.injEq] at h
    obtain ⟨rfl, h⟩ := h
    simp only [List.any_cons, any_keys h]
  | [], _ :: _, h => by simp at h
  | _ :: _, [], h => by simp at h
theorem put_keys {kvs : List (Key × D)} {vs : List (Key × V)} {k : Key} {d : D} {v : V} (h : kvs.map (·.1) = vs.map (·.1)) : (putD kvs k d).map (·.1) = (putK vs k v).map (·.1) := by
  unfold putD putK
  rw [any_keys h]
  split
  · rw [List.map_map, List.map_map]
    have e1 : ((fun x : Key × D => x.1) ∘ fun kv => if kv.1 = k then (kv.1, d) else kv) = (·.1) := funext fun x => by
      show (if x.1 = k then (x.1, d) else x).1 = x.1
      split <;> rfl
    have e2 : ((fun x : Key × V => x.1) ∘ fun kv => if kv.1 = k then (kv.1, v) else kv) = (·.1) := funext fun x => by
      show (if x.1 = k then (x.1, v) else x).1 = x.1
      split <;> rfl
    rw [e1, e2, h]
  · simp [h]
theorem put_at {kvs : List (Key × D)} {vs : List (Key × V)} {k : Key} {d : D} {v : V} (h : kvs.map (·.1) = vs.map (·.1)) {i : Nat} {q : D × V} (h1 : ((putD kvs k d).map (·.2))[i]? = some q.1) (h2 : ((putK vs k v).map (·.2))[i]? = some q.2) :
    q = (d, v) ∨ ((kvs.map (·.2))[i]? = some q.1 ∧ (vs.map (·.2))[i]? = some q.2) := by
  have hl : kvs.length = vs.length := by have := congrArg List.length h; simpa using this
  unfold putD at h1
  unfold putK at h2
  rw [any_keys h] at h1
  split at h1
  · rename_i ha
    rw [if_pos ha] at h2
    simp only [List.getElem?_map, Option.map_map] at h1 h2
    obtain ⟨p1, e1, q1⟩ := Option.map_eq_some_iff.mp h1
    obtain ⟨p2, e2, q2⟩ := Option.map_eq_some_iff.mp h2
    have ek : p1.1 = p2.1 := by
      have e3 : (kvs.map (·.1))[i]? = (vs.map (·.1))[i]? := by rw [h]
      rw [List.getElem?_map, List.getElem?_map, e1, e2] at e3
      simpa using e3
    simp only [Function.comp_apply] at q1 q2
    by_cases hk : p1.1 = k
    · rw [if_pos hk] at q1
      rw [if_pos (ek ▸ hk)] at q2
      exact .inl (Prod.ext q1.symm q2.symm)
    · rw [if_neg hk] at q1
      rw [if_neg (fun z => hk (ek.trans z))] at q2
      exact .inr ⟨by rw [List.getElem?_map, e1, ← q1]; rfl, by rw [List.getElem?_map, e2, ← q2]; rfl⟩
  · rename_i ha
    rw [if_neg ha] at h2
    rw [List.map_append] at h1 h2
    by_cases hi : i < kvs.length
    · rw [List.getElem?_append_left (by simpa using hi)] at h1
      rw [List.getElem?_append_left (by simpa [← hl] using hi)] at h2
      exact .inr ⟨h1, h2⟩
    · have hi1 := (List.getElem?_eq_some_iff.mp h1).1
      have ei : i = kvs.length := by simp at hi1; omega
      subst ei
      have e1 : ((kvs.map (·.2)) ++ [(k, d)].map (·.2))[kvs.length]? = some d := by
        rw [List.getElem?_append_right (by simp)]; simp
      have e2 : ((vs.map (·.2)) ++ [(k, v)].map (·.2))[kvs.length]? = some v := by
        rw [hl, List.getElem?_append_right (by simp)]; simp
      rw [e1] at h1
      rw [e2] at h2
      exact .inl (Prod.ext (Option.some.inj h1).symm (Option.some.inj h2).symm)
end
section
variable {X : Cx} {cl : Str → Addr} {W : WX}
/-- one of two readings of an operation -/
theorem DE.orOp {e : Expr} {g h : D → D → Option D} {fa fb : M D} (h1 : DE X cl W e (eOp g fa fb)) (h2 : DE X cl W e (eOp h fa fb)) : DE X cl W e (eOp (orD g h) fa fb) := by
  obtain ⟨t1, p1, q1⟩ := h1
  obtain ⟨t2, p2, q2⟩ := h2
  refine ⟨_, PE.or p1 p2, fun c σ s T H Q I w => ?_⟩
  have key : eOp (orD g h) fa fb s = eOp g fa fb s ∨ eOp (orD g h) fa fb s = eOp h fa fb s := by
    unfold eOp
    cases fa s with
    | fail => exact .inl rfl
    | exc n fs s1 => exact .inl rfl
    | ok d s1 =>
      show ((fb s1).bind fun y s => oOf (orD g h (view s.M d) (view s.M y)) s) = ((fb s1).bind fun y s => oOf (g (view s.M d) (view s.M y)) s) ∨ ((fb s1).bind fun y s => oOf (orD g h (view s.M d) (view s.M y)) s) = ((fb s1).bind fun y s => oOf (h (view s.M d) (view s.M y)) s)
      cases fb s1 with
      | fail => exact .inl rfl
      | exc n fs s2 => exact .inl rfl
      | ok e s2 =>
        show oOf (orD g h (view s2.M d) (view s2.M e)) s2 = oOf (g (view s2.M d) (view s2.M e)) s2 ∨ oOf (orD g h (view s2.M d) (view s2.M e)) s2 = oOf (h (view s2.M d) (view s2.M e)) s2
        unfold orD
        cases hg : g (view s2.M d) (view s2.M e) with
        | none => exact .inr rfl
        | some z => exact .inl rfl
  rcases key with k | k
  · exact .inl (q1 c σ s T H Q I (by rw [k] at w; exact w))
  · exact .inr (q2 c σ s T H Q I (by rw [k] at w; exact w))
/-- d[k] -/
def dGet : D → D → Option D
  | .dct kvs, e => (keyD e).bind fun k => valD kvs k
  | _, _ => none
theorem SIx.vDct {K : PySem.W.Frag} {c : Cz} {H : Hp} {σ : L2.St} {s : S} {T : List (D × V)} {F : Addr → Prop} {α : List Addr} {d : D} {v : V} {kvs : List (Key × D)} (h : SIx K cl c H σ s T F α) (r : Rep K cl H F α d v) (e : DL.view s.M d = .dct kvs) : ∃ a vs, v = .ref a ∧ H a = some (.dK vs) ∧ RepK K cl H F α kvs vs := by
  rcases h.view r with r | ⟨k, x, a, _, rfl, _, _, e2, rc⟩
  · rw [e] at r; cases r; rename_i h1 h2 h3; exact ⟨_, _, rfl, h1, h3⟩
  · rw [e] at e2
    cases x <;> cases e2
    obtain ⟨vs, h1, h2⟩ := rc
    exact ⟨a, vs, rfl, h1, h2⟩
theorem keyD_view {K : PySem.W.Frag} {c : Cz} {H : Hp} {σ : L2.St} {s : S} {T : List (D × V)} {F : Addr → Prop} {α : List Addr} {d : D} {v : V} {k : Key} (h : SIx K cl c H σ s T F α) (r : Rep K cl H F α d v) (e : keyD (DL.view s.M d) = some k) : v = kV k := by
  rcases h.view r with r | ⟨j, x, a, _, rfl, _, _, e2, rc⟩
  · exact keyD_rep r e
  · rw [e2] at e
    cases x <;> cases e
theorem de_dget {o i : Expr} {fo fi : M D} {pos : Pos} {k : Nat} (hk : Cok X W k) (ho : DE X cl W o fo) (hi : DE X cl W i fi) (hs : NoSl i := by intro _ _; rfl) : DE X cl W (.Subscript o i pos) (eOp dGet fo fi) := by
  obtain ⟨to, po, qo⟩ := ho
  obtain ⟨ti, pi, qi⟩ := hi
  refine ⟨_, pe_dget (by have := hk.u64; omega) po pi hs, fun c σ s T H Q I w => ?_⟩
  refine qo c σ s T H _ I (Want.bind w fun d s1 _ w1 v H1 I1 => ?_)
  refine qi c σ s1 _ H1 _ I1 ((w1.deeper fun p hp => List.mem_cons_of_mem _ hp).bind fun e s2 _ w2 u H2 I2 => ?_)
  unfold oOf at w2
  split at w2
  · rename_i z hz
    obtain ⟨F, α, J⟩ := id I2
    unfold dGet at hz
    split at hz
    · rename_i kvs e1
      obtain ⟨key, h1, h2⟩ := Option.bind_eq_some_iff.mp hz
      obtain ⟨a, vs, ev, h3, rk⟩ := J.vDct (J.tmp (d, v) (List.mem_cons_of_mem _ (List.mem_cons_self ..))) e1
      have eu := keyD_view J (J.tmp (e, u) (List.mem_cons_self ..)) h1
      obtain ⟨x, h4, rx⟩ := rk.valD h2
      have ev : v = .ref a := ev
      have eu : u = kV key := eu
      exact ⟨a, x, ev, .inl ⟨vs, key, .inl h3, eu, h4.symm⟩, w2 x H2 (SI.drop2 ⟨F, α, J.push rx⟩)⟩
    · cases hz
  · exact w2.elim
/-! ### dict comprehensions -/
noncomputable def dcL (d : D) (M0 : List (Option C)) (env0 : List (Option D)) (g : D → S → Option S) (tt : M Bool) (fk fv : M D) : List D → List (Key × D) → List (Option C) → Out (List (Key × D))
  | [], acc, M => .ok acc ⟨env0, M⟩
  | x :: r, acc, M => match g x ⟨env0, M⟩ with
    | none => .fail
    | some s1 => match tt s1 with
      | .ok true s2 => (match fk s2 with
        | .ok kd s3 => (match keyD kd with
          | none => .fail
          | some k => (match fv s3 with
            | .ok e s4 => if chkP d M0 s4.M = true ∧ acc.length < 1000000 then dcL d M0 env0 g tt fk fv r (putD acc k e) s4.M else .fail
            | _ => .fail))
        | _ => .fail)
      | .ok false s2 => if chkP d M0 s2.M = true then dcL d M0 env0 g tt fk fv r acc s2.M else .fail
      | _ => .fail
noncomputable def eDc (f : M D) (its : D → Option (List D)) (g : D → S → Option S) (tt : M Bool) (fk fv : M D) (vs : List Nat) : M D := fun s => (f s).bind fun d s1 => match its (view s1.M d) with
  | none => .fail
  | some ds => (dcL d s1.M (wipeE s1.env vs) g tt fk fv ds [] s1.M).bind fun acc s2 => .ok (.dct acc) { s1 with M := s2.M }
/-- .. to a new cell -/
noncomputable def eDcC (f : M D) (its : D → Option (List D)) (g : D → S → Option S) (tt : M Bool) (fk fv : M D) (vs : List Nat) : M D := fun s => (f s).bind fun d s1 => match its (view s1.M d) with
  | none => .fail
  | some ds => (dcL d s1.M (wipeE s1.env vs) g tt fk fv ds [] s1.M).bind fun acc s2 => .ok (.ptr s2.M.length) { s1 with M := s2.M ++ [some (.dct acc)] }
/-- an object beside the state -/
structure Sid (c : Cz) (H : Hp) (F : Addr → Prop) (α : List Addr) (a : Addr) (o : HO) : Prop where
  at_ : H a = some o
  nα : a ∉ α
  nF : ¬ F a
  old : a ∈ c.β ∨ c.H0 a = none
end
section
variable {K : PySem.W.Frag} {cl : Str → Addr} {c : Cz} {H H' : Hp} {σ σ' : L2.St} {s s' : S} {T T' : List (D × V)} {F F' : Addr → Prop} {α α' : List Addr}
theorem Sid.after {a : Addr} {o : HO} (S : Sid c H F α a o) (J : SIx K cl ⟨H, α, F⟩ H' σ' s' T' F' α') : Sid c H' F' α' a o :=
  ⟨J.keep a _ S.at_ S.nα, fun h => (J.inα a h).elim S.nα fun z : H a = none => (by rw [S.at_] at z; cases z), fun h => (J.inF a h).elim S.nα fun z => z.elim S.nF fun z : H a = none => (by rw [S.at_] at z; cases z), S.old⟩
/-- the heap changes at an address that the state does not know -/
theorem SIx.besideO {a : Addr} {o : HO} (I : SIx K cl c H σ s T F α) (nα : a ∉ α) (nF : ¬ F a) (old : a ∈ c.β ∨ c.H0 a = none) (nt : ∀ u, H a = some u → (∀ xs, u ≠ .tup xs) ∧ ∀ o v, u ≠ .frz o v) : SIx K cl c (upd H a o) σ s T F α := by
  have E : Ext H F α (upd H a o) F α := ⟨fun b hb => upd_ne fun e => nF (e ▸ hb), fun _ h => h, fun b xs q => by
      rw [upd_ne]; exact q
      intro e; subst e; exact (nt _ q).1 _ rfl, fun b u xs q => by
      rw [upd_ne]; exact q
      intro e; subst e; exact (nt _ q).2 _ _ rfl, fun _ _ e => e⟩
  refine ⟨fun i d e => ?_, I.el, fun q hq => (I.tmp q hq).ext E, I.len, fun k x b e1 e2 => ?_, I.nd, fun b hb => ?_, I.inα, fun b hb => ?_, I.inF, I.pre, fun b u e1 e2 => ?_, fun b xs e => E.tups b xs (I.tups b xs e), fun b u xs e => E.frzs b u xs (I.frzs b u xs e)⟩
  · obtain ⟨v, h1, h2⟩ := I.env i d e
    exact ⟨v, h1, h2.ext E⟩
  · obtain ⟨h1, h2⟩ := I.cel k x b e1 e2
    exact ⟨E.repC h1 (upd_ne fun e => nα (e ▸ List.mem_of_getElem? e2)), h2⟩
  · obtain ⟨u, e⟩ := I.dom b hb
    exact ⟨u, (upd_ne fun q : b = a => nα (q ▸ hb)).trans e⟩
  · obtain ⟨u, e⟩ := I.domF b hb
    exact ⟨u, (upd_ne fun q : b = a => nF (q ▸ hb)).trans e⟩
  · rw [upd_ne]
    · exact I.keep b u e1 e2
    · intro e; subst e
      rcases old with z | z
      · exact e2 z
      · rw [z] at e1; cases e1
theorem dK_nt {kvs : List (Key × V)} {a : Addr} (h : H a = some (.dK kvs)) : ∀ u, H a = some u → (∀ xs, u ≠ .tup xs) ∧ ∀ o v, u ≠ .frz o v := fun u q => by
  rw [h] at q; cases q; exact ⟨fun _ z => (by cases z), fun _ _ z => (by cases z)⟩
theorem no_nt {a : Addr} (h : H a = none) : ∀ u, H a = some u → (∀ xs, u ≠ .tup xs) ∧ ∀ o v, u ≠ .frz o v := fun u q => by
  rw [h] at q; cases q
/-- it is frozen from now on -/
theorem SIx.freeze {a : Addr} {o : HO} (I : SIx K cl c H σ s T F α) (S : Sid c H F α a o) : SIx K cl c H σ s T (fun b => F b ∨ b = a) α ∧ Ext H F α H (fun b => F b ∨ b = a) α := by
  have E : Ext H F α H (fun b => F b ∨ b = a) α := ⟨fun _ _ => rfl, fun _ h => .inl h, fun _ _ h => h, fun _ _ _ h => h, fun _ _ h => h⟩
  refine ⟨⟨fun i d e => ?_, I.el, fun q hq => (I.tmp q hq).ext E, I.len, fun k x b e1 e2 => ?_, I.nd, I.dom, I.inα, fun b hb => ?_, fun b hb => ?_, I.pre, I.keep, I.tups, I.frzs⟩, E⟩
  · obtain ⟨v, h1, h2⟩ := I.env i d e
    exact ⟨v, h1, h2.ext E⟩
  · obtain ⟨h1, h2⟩ := I.cel k x b e1 e2
    exact ⟨E.repC h1 rfl, fun z => z.elim h2 fun e => S.nα (e ▸ List.mem_of_getElem? e2)⟩
  · rcases hb with hb | rfl
    · exact I.domF b hb
    · exact ⟨_, S.at_⟩
  · rcases hb with hb | rfl
    · exact I.inF b hb
    · rcases S.old with z | z
      · exact .inl z
      · exact .inr (.inr z)
theorem dc_heart {is vs : List Nat} {g : D → S → Option S} {tt : M Bool} {fk fv : M D} {its : D → Option (List D)} {R : V → Hp → Prop} (his : ∀ i ∈ is, i ∈ vs)
    {d : D} {ds : List D} {s : S} {H : Hp} {J : It} {P : List (D × V)} {Dn : Addr} (I : SI K cl c H σ s (P ++ T)) (dr : Drv K cl J P its d) (e : its (view s.M d) = some ds) (hD : H Dn = none)
    (hne : dcL d s.M (wipeE s.env vs) g tt fk fv ds [] s.M ≠ .fail)
    (w : ∀ acc s2, dcL d s.M (wipeE s.env vs) g tt fk fv ds [] s.M = .ok acc s2 → ∀ (H' : Hp) (F : Addr → Prop) (α : List Addr) (vl : List (Key × V)), SIx K cl c H' σ { s with M := s2.M } T F α → Sid c H' F α Dn (.dK vl) → RepK K cl H' F α acc vl → R (.ref Dn) H') :
    ∃ Wm : Nat → Nat → Hp → Prop, (∃ m, Wm 0 m (upd H Dn (.dK []))) ∧ ∀ i m H, Wm i m H →
      (J.stop i H ∧ R (.ref Dn) H) ∨ (J.go i H ∧ ∃ Nx : Hp → Prop, (∀ H', Nx H' → ∃ m', m' < m ∧ Wm (i + 1) m' H') ∧ ∀ x H', J.yld i H x H' → uG K cl is g x (wipe σ vs) H' fun σ2 H2 => wipe σ2 vs = wipe σ vs ∧ uT K cl (fun _ _ _ _ => False) tt σ2 H2 fun b H3 =>
        if b = true then uE K cl (fun _ _ _ _ => False) fk σ2 H3 fun y H4 => uE K cl (fun _ _ _ _ => False) fv σ2 H4 fun z H5 => ∃ kvs k, y = kV k ∧ H5 Dn = some (.dK kvs) ∧ kvs.length < sizeLine ∧ Nx (upd H5 Dn (.dK (putK kvs k z))) else Nx H3) := by
  obtain ⟨M0, hM0⟩ : ∃ M0, M0 = s.M := ⟨_, rfl⟩
  obtain ⟨res, hres⟩ : ∃ res, res = dcL d s.M (wipeE s.env vs) g tt fk fv ds [] s.M := ⟨_, rfl⟩
  rw [← hres] at hne w
  rw [← hM0] at hres e
  have e0 : view s.M d = view M0 d := by rw [hM0]
  obtain ⟨L, hL⟩ : ∃ L, L = pairs s.env σ := ⟨_, rfl⟩
  obtain ⟨F0, α0, I0⟩ := I
  have hel := I0.el
  have lookL : ∀ (i : Nat) (d : D), s.env[i]? = some (some d) → ∃ v, σ[i]? = some (some v) ∧ (d, v) ∈ L := fun i d h => by
    obtain ⟨v, h1, _⟩ := I0.env i d h
    exact ⟨v, h1, by rw [hL]; exact pairs_mem h h1⟩
  have lookW : ∀ (i : Nat) (d : D), (wipeE s.env vs)[i]? = some (some d) → ∃ v, (wipe σ vs)[i]? = some (some v) ∧ (d, v) ∈ L := fun i d h => by
    obtain ⟨h1, h2⟩ := wipeE_some h
    obtain ⟨v, h3, h4⟩ := lookL i d h1
    exact ⟨v, by rw [wipe_at h2]; exact h3, h4⟩
  have lenW : (wipeE s.env vs).length = (wipe σ vs).length := by rw [wipeE_len, wipe_length]; exact hel
  let Z : List (Key × D) → List (Key × V) → List (D × V) := fun aD aV => zipT (aD.map (·.2)) (aV.map (·.2)) (L ++ T)
  let Inv' : Nat → Hp → Prop := fun i H => ∃ (M : List (Option C)) (aD : List (Key × D)) (aV : List (Key × V)) (F : Addr → Prop) (α : List Addr), SIx K cl c H (wipe σ vs) ⟨wipeE s.env vs, M⟩ (P ++ Z aD aV) F α ∧ aD.map (·.1) = aV.map (·.1) ∧ Sid c H F α Dn (.dK aV) ∧
    view M d = view M0 d ∧ dcL d M0 (wipeE s.env vs) g tt fk fv (ds.drop i) aD M = res
  have hstart : Inv' 0 (upd H Dn (.dK [])) := by
    have old := I0.c0 hD
    have nα : Dn ∉ α0 := fun h => by
      obtain ⟨o, q⟩ := I0.dom Dn h
      rw [hD] at q; cases q
    have nF : ¬ F0 Dn := fun h => by
      obtain ⟨o, q⟩ := I0.domF Dn h
      rw [hD] at q; cases q
    have I1 : SIx K cl c (upd H Dn (.dK [])) σ s (pairs s.env σ ++ (P ++ T)) F0 α0 := (I0.save).besideO nα nF old (no_nt hD)
    have I2 : SIx K cl c (upd H Dn (.dK [])) σ s (P ++ (L ++ T)) F0 α0 := I1.temps fun q hq => I1.tmp q (by
      rw [← hL]
      rcases List.mem_append.mp hq with h | h
      · exact List.mem_append_right _ (List.mem_append_left _ h)
      · rcases List.mem_append.mp h with h | h
        · exact List.mem_append_left _ h
        · exact List.mem_append_right _ (List.mem_append_right _ h))
    have I3 := I2.load lenW fun i d h => by
      obtain ⟨v, h1, h2⟩ := lookW i d h
      exact ⟨v, h1, List.mem_append_right _ (List.mem_append_left _ h2)⟩
    exact ⟨s.M, [], [], F0, α0, I3, rfl, ⟨upd_same, nα, nF, old⟩, e0, by rw [hres, ← hM0]; rfl⟩
  refine ⟨fun i m H => m = ds.length - i ∧ i ≤ ds.length ∧ Inv' i H, ⟨_, rfl, Nat.zero_le _, hstart⟩, ?_⟩
  rintro i m H ⟨rfl, hi, M, aD, aV, F, α, I, hal, SD, ev, hw⟩
  have e1 : its (view M d) = some ds := by rw [ev]; exact e
  have hlen : aD.length = aV.length := by have := congrArg List.length hal; simpa using this
  by_cases hlt : i < ds.length
  · have In := I.nest
    have d1 := dr ⟨H, α, F⟩ H (wipe σ vs) ⟨wipeE s.env vs, M⟩ (Z aD aV) i ds ⟨F, α, In⟩ e1
    obtain ⟨hgo, hy⟩ := d1.1 _ (List.getElem?_eq_getElem hlt)
    refine .inr ⟨hgo, fun H' => i + 1 ≤ ds.length ∧ Inv' (i + 1) H', fun H' h => ⟨ds.length - (i + 1), by omega, rfl, h.1, h.2⟩, fun x H' hx => ?_⟩
    have I1 := hy x H' hx
    rw [List.drop_eq_getElem_cons hlt] at hw
    unfold dcL at hw
    cases hg : g ds[i] ⟨wipeE s.env vs, M⟩ with
    | none => rw [hg] at hw; exact absurd hw.symm hne
    | some s1 =>
      rw [hg] at hw
      dsimp only at hw
      refine ⟨⟨H, α, F⟩, ⟨wipeE s.env vs, M⟩, _, ds[i], s1, I1, hg, fun σ2 hσ2 I2 => ⟨(hσ2 vs his).trans (wipe_wipe σ vs), ?_⟩⟩
      refine ⟨⟨H, α, F⟩, s1, _, I2, ?_⟩
      cases ht : tt s1 with
      | fail => rw [ht] at hw; exact absurd hw.symm hne
      | exc n fs s2 => rw [ht] at hw; exact absurd hw.symm hne
      | ok b s2 =>
        rw [ht] at hw
        intro H3 I3
        cases b with
        | false =>
          dsimp only at hw
          by_cases hc : chkP d M0 s2.M = true
          · rw [if_pos hc] at hw
            refine iteF ⟨hlt, ?_⟩
            obtain ⟨F', α', J3⟩ := I3
            have J4 := (I.unnest J3).load lenW fun i d h => by
              obtain ⟨v, h1, h2⟩ := lookW i d h
              exact ⟨v, h1, List.mem_append_right _ (zipT_sub _ _ _ _ (List.mem_append_left _ h2))⟩
            exact ⟨s2.M, aD, aV, F', α', J4, hal, SD.after J3, chkP_view hc, hw⟩
          · rw [if_neg hc] at hw; exact absurd hw.symm hne
        | true =>
          dsimp only at hw
          refine iteT ⟨⟨H, α, F⟩, s2, _, I3, ?_⟩
          cases hf : fk s2 with
          | fail => rw [hf] at hw; exact absurd hw.symm hne
          | exc n fs s3 => rw [hf] at hw; exact absurd hw.symm hne
          | ok kd s3 =>
            rw [hf] at hw
            dsimp only at hw
            intro u H4 I4
            cases hkd : keyD kd with
            | none => rw [hkd] at hw; exact absurd hw.symm hne
            | some k =>
              rw [hkd] at hw
              dsimp only at hw
              have eu : u = kV k := by
                obtain ⟨F4, α4, J4⟩ := id I4
                exact keyD_rep (J4.tmp (kd, u) (List.mem_cons_self ..)) hkd
              refine ⟨⟨H, α, F⟩, s3, _, I4, ?_⟩
              cases hf2 : fv s3 with
              | fail => rw [hf2] at hw; exact absurd hw.symm hne
              | exc n fs s4 => rw [hf2] at hw; exact absurd hw.symm hne
              | ok y s4 =>
                rw [hf2] at hw
                dsimp only at hw
                by_cases hc : chkP d M0 s4.M = true ∧ aD.length < 1000000
                · rw [if_pos hc] at hw
                  intro v H5 I5
                  obtain ⟨F', α', J5⟩ := I5
                  have SD' := SD.after J5
                  refine ⟨aV, k, eu, SD'.at_, by rw [← hlen]; exact Nat.lt_of_lt_of_le hc.2 (line1m (Nat.le_refl _)), hlt, ?_⟩
                  have K4 := (I.unnest J5).besideO (o := .dK (putK aV k v)) SD'.nα SD'.nF SD'.old (dK_nt SD'.at_)
                  have K5 := K4.load lenW fun i d h => by
                    obtain ⟨u, h1, h2⟩ := lookW i d h
                    exact ⟨u, h1, List.mem_cons_of_mem _ (List.mem_cons_of_mem _ (List.mem_append_right _ (zipT_sub _ _ _ _ (List.mem_append_left _ h2))))⟩
                  refine ⟨s4.M, putD aD k y, putK aV k v, F', α', K5.temps fun q hq => K5.tmp q ?_, put_keys hal, ⟨upd_same, SD'.nα, SD'.nF, SD'.old⟩, chkP_view hc.1, hw⟩
                  rcases List.mem_append.mp hq with h | h
                  · exact List.mem_cons_of_mem _ (List.mem_cons_of_mem _ (List.mem_append_left _ h))
                  · rcases zipT_at h with h | ⟨j, h1, h2⟩
                    · exact List.mem_cons_of_mem _ (List.mem_cons_of_mem _ (List.mem_append_right _ (zipT_sub _ _ _ _ h)))
                    · rcases put_at hal h1 h2 with h | ⟨h1, h2⟩
                      · exact h ▸ List.mem_cons_self ..
                      · exact List.mem_cons_of_mem _ (List.mem_cons_of_mem _ (List.mem_append_right _ (zipT_mem h1 h2)))
                · rw [if_neg hc] at hw; exact absurd hw.symm hne
  · have hi' : i = ds.length := by omega
    subst hi'
    have d1 := dr c H (wipe σ vs) ⟨wipeE s.env vs, M⟩ (Z aD aV) ds.length ds ⟨F, α, I⟩ e1
    refine .inl ⟨d1.2 (Nat.le_refl _), ?_⟩
    rw [List.drop_length] at hw
    have I5 := I.load (σ0 := σ) (env := s.env) hel fun i d h => by
      obtain ⟨v, h1, h2⟩ := lookL i d h
      exact ⟨v, h1, List.mem_append_right _ (zipT_sub _ _ _ _ (List.mem_append_left _ h2))⟩
    have rl : RepK K cl H F α aD aV := RepK.of hal (SIx.repL (s := s) (by simp [hlen]) fun j d v h1 h2 => I.tmp (d, v) (List.mem_append_right _ (zipT_mem h1 h2)))
    exact w aD ⟨wipeE s.env vs, M⟩ hw.symm H F α aV (I5.temps fun q hq => I5.tmp q (List.mem_append_right _ (zipT_sub _ _ _ _ (List.mem_append_right _ hq)))) SD rl
end
section
variable {X : Cx} {cl : Str → Addr} {W : WX}
structure BlkD (X : Cx) (cl : Str → Addr) (scope : Scope) (tg : Expr) (ifs : List Expr) (kx vx : Expr) (is : List Nat) (g : D → S → Option S) (tt : M Bool) (fk fv : M D) : Prop where
  g_ : ∀ (s : Shared) (H : Hp) (C : Addr) (cc : List (Str × Addr)) (fp : List Addr), DG (X.blk s H scope (compEnvC scope cc C X.env) fp) cl tg is g
  t_ : ∀ (s : Shared) (H : Hp) (C : Addr) (cc : List (Str × Addr)) (fp : List Addr), DTs (X.blk s H scope (compEnvC scope cc C X.env) fp) cl (fun _ _ _ _ => False) ifs tt
  k_ : ∀ (s : Shared) (H : Hp) (C : Addr) (cc : List (Str × Addr)) (fp : List Addr), DE (X.blk s H scope (compEnvC scope cc C X.env) fp) cl (fun _ _ _ _ => False) kx fk
  v_ : ∀ (s : Shared) (H : Hp) (C : Addr) (cc : List (Str × Addr)) (fp : List Addr), DE (X.blk s H scope (compEnvC scope cc C X.env) fp) cl (fun _ _ _ _ => False) vx fv
theorem BlkD.of {k : Nat} {scope : Scope} {tg : Expr} {ifs : List Expr} {kx vx : Expr} {is : List Nat} {g : D → S → Option S} {tt : M Bool} {fk fv : M D} (hk : Cok X W k)
    (hg : ∀ (s : Shared) (H : Hp) (C : Addr) (cc : List (Str × Addr)) (fp : List Addr), Cok (X.blk s H scope (compEnvC scope cc C X.env) fp) (fun _ _ _ _ => False) k → DG (X.blk s H scope (compEnvC scope cc C X.env) fp) cl tg is g)
    (ht : ∀ (s : Shared) (H : Hp) (C : Addr) (cc : List (Str × Addr)) (fp : List Addr), Cok (X.blk s H scope (compEnvC scope cc C X.env) fp) (fun _ _ _ _ => False) k → DTs (X.blk s H scope (compEnvC scope cc C X.env) fp) cl (fun _ _ _ _ => False) ifs tt)
    (hx : ∀ (s : Shared) (H : Hp) (C : Addr) (cc : List (Str × Addr)) (fp : List Addr), Cok (X.blk s H scope (compEnvC scope cc C X.env) fp) (fun _ _ _ _ => False) k → DE (X.blk s H scope (compEnvC scope cc C X.env) fp) cl (fun _ _ _ _ => False) kx fk)
    (hv : ∀ (s : Shared) (H : Hp) (C : Addr) (cc : List (Str × Addr)) (fp : List Addr), Cok (X.blk s H scope (compEnvC scope cc C X.env) fp) (fun _ _ _ _ => False) k → DE (X.blk s H scope (compEnvC scope cc C X.env) fp) cl (fun _ _ _ _ => False) vx fv) : BlkD X cl scope tg ifs kx vx is g tt fk fv :=
  ⟨fun s H C cc fp => hg s H C cc fp (hk.blk s H scope _ fp), fun s H C cc fp => ht s H C cc fp (hk.blk s H scope _ fp), fun s H C cc fp => hx s H C cc fp (hk.blk s H scope _ fp), fun s H C cc fp => hv s H C cc fp (hk.blk s H scope _ fp)⟩
theorem dcL_noexc : ∀ {d : D} {M0 : List (Option C)} {env0 : List (Option D)} {g : D → S → Option S} {tt : M Bool} {fk fv : M D} {ds : List D} {acc : List (Key × D)} {M : List (Option C)} {n : Str} {fs : List (Str × D)} {s : S}, dcL d M0 env0 g tt fk fv ds acc M ≠ .exc n fs s := by
  intro d M0 env0 g tt fk fv ds
  induction ds with
  | nil => intro acc M n fs s h; cases h
  | cons x r ih =>
    intro acc M n fs s h
    unfold dcL at h
    split at h
    · cases h
    · split at h
      · split at h
        · split at h
          · cases h
          · split at h
            · split at h
              · exact ih h
              · cases h
            · cases h
        · cases h
      · split at h
        · exact ih h
        · cases h
      · cases h
theorem dc_any {kx vx tg iter : Expr} {ifs : List Expr} {scope : Scope} {own : List (Str × Nat)} {pos : Pos} {f : M D} {its : D → Option (List D)} {is : List Nat} {g : D → S → Option S} {tt : M Bool} {fk fv : M D} {k : Nat} {fin : S → List (Key × D) → S → Out D} (hk : Cok X W k) (hi : DI X cl W tg iter f its) (ok : BlkOk X.N X.env.scope scope own)
    (hb : BlkD X cl scope tg ifs kx vx is g tt fk fv) (his : ∀ i ∈ is, i ∈ own.map (·.2)) (hs : ∀ x, foldedSetIterable iter X.env x = pure x)
    (hfin : ∀ (c : Cz) (σ : L2.St) (T : List (D × V)) (Q : VK) (s1 : S) (acc : List (Key × D)) (s2 : S) (H' : Hp) (F : Addr → Prop) (α : List Addr) (vl : List (Key × V)) (Dn : Addr), SIx X.K cl c H' σ { s1 with M := s2.M } T F α → Sid c H' F α Dn (.dK vl) → RepK X.K cl H' F α acc vl → Want X.K cl W c σ T (fin s1 acc s2) Q → Q (.ref Dn) H') :
    DE X cl W (.DictComp kx vx [⟨tg, iter, ifs, 0⟩] scope pos) (fun s => (f s).bind fun d s1 => match its (view s1.M d) with
      | none => .fail
      | some ds => (dcL d s1.M (wipeE s1.env (own.map (·.2))) g tt fk fv ds [] s1.M).bind fun acc s2 => fin s1 acc s2) := by
  obtain ⟨wi, pi, qi⟩ := hi
  refine ⟨_, pe_dc (g := uG X.K cl is g) (tt := uT X.K cl (fun _ _ _ _ => False) tt) (tk := uE X.K cl (fun _ _ _ _ => False) fk) (tv := uE X.K cl (fun _ _ _ _ => False) fv) hk.calm hk.nd pi ok (fun s H C cc fp => (hb.g_ s H C cc fp).pg) (fun s H C cc fp => (hb.t_ s H C cc fp).pts) (fun s H C cc fp => (hb.k_ s H C cc fp).pe) (fun s H C cc fp => (hb.v_ s H C cc fp).pe) hs, fun c σ s T H Q I w => ?_⟩
  have w' : Want X.K cl W c σ T ((f s).bind fun d s1 => match its (view s1.M d) with
    | none => .fail
    | some ds => (dcL d s1.M (wipeE s1.env (own.map (·.2))) g tt fk fv ds [] s1.M).bind fun acc s2 => fin s1 acc s2) Q := w
  refine qi c σ s T H _ I (Want.toI w' fun d s1 hf w1 H1 J P I1 dr Dn hD => ?_) fun d s1 hf => ?_
  · cases e : its (view s1.M d) with
    | none => rw [e] at w1; exact w1.elim
    | some ds =>
      rw [e] at w1
      dsimp only at w1
      refine dc_heart his I1 dr e hD (fun h => by rw [h] at w1; exact w1.elim) fun acc s2 h H' F α vl I' SD r => ?_
      rw [h] at w1
      exact hfin c σ T Q s1 acc s2 H' F α vl Dn I' SD r w1
  · rw [hf] at w'
    cases e : its (view s1.M d) with
    | none =>
      have w' : Want X.K cl W c σ T (match its (view s1.M d) with
        | none => .fail
        | some ds => (dcL d s1.M (wipeE s1.env (own.map (·.2))) g tt fk fv ds [] s1.M).bind fun acc s2 => fin s1 acc s2) Q := w'
      rw [e] at w'; exact w'.elim
    | some ds => rfl
theorem de_dc {kx vx tg iter : Expr} {ifs : List Expr} {scope : Scope} {own : List (Str × Nat)} {pos : Pos} {f : M D} {its : D → Option (List D)} {is : List Nat} {g : D → S → Option S} {tt : M Bool} {fk fv : M D} {k : Nat} (hk : Cok X W k) (hi : DI X cl W tg iter f its) (ok : BlkOk X.N X.env.scope scope own)
    (hb : BlkD X cl scope tg ifs kx vx is g tt fk fv) (his : ∀ i ∈ is, i ∈ own.map (·.2) := by decide) (hs : ∀ x, foldedSetIterable iter X.env x = pure x := by intro _; rfl) :
    DE X cl W (.DictComp kx vx [⟨tg, iter, ifs, 0⟩] scope pos) (eDc f its g tt fk fv (own.map (·.2))) :=
  dc_any hk hi ok hb his hs fun c σ T Q s1 acc s2 H' F α vl Dn I SD r w => by
    obtain ⟨I2, E⟩ := I.freeze SD
    exact w _ H' ⟨_, α, I2.push (.dct SD.at_ (.inr rfl) (RepK.ext E r))⟩
theorem de_dcC {kx vx tg iter : Expr} {ifs : List Expr} {scope : Scope} {own : List (Str × Nat)} {pos : Pos} {f : M D} {its : D → Option (List D)} {is : List Nat} {g : D → S → Option S} {tt : M Bool} {fk fv : M D} {k : Nat} (hk : Cok X W k) (hi : DI X cl W tg iter f its) (ok : BlkOk X.N X.env.scope scope own)
    (hb : BlkD X cl scope tg ifs kx vx is g tt fk fv) (his : ∀ i ∈ is, i ∈ own.map (·.2) := by decide) (hs : ∀ x, foldedSetIterable iter X.env x = pure x := by intro _; rfl) :
    DE X cl W (.DictComp kx vx [⟨tg, iter, ifs, 0⟩] scope pos) (eDcC f its g tt fk fv (own.map (·.2))) :=
  dc_any (fin := fun s1 acc s2 => .ok (.ptr s2.M.length) { s1 with M := s2.M ++ [some (.dct acc)] }) hk hi ok hb his hs fun c σ T Q s1 acc s2 H' F α vl Dn I SD r w =>
    w _ H' (I.addCell (x := .dct acc) ⟨vl, SD.at_, r⟩ SD.nα SD.nF SD.old ⟨_, SD.at_⟩)
end
end DL

/-! DlXc: defs with a star parameter, starred arguments. -/
namespace DL
open PySem PySem.Spec PyProof.Rows L2 StX
structure FnS (P : Program) (w : World) (K : PySem.W.Frag) (mg : Str → Option Value) (base : Heap) (cl : Str → Addr) (k : Nat) (f : Addr) (sem : Sem) : Prop where
  run : ∀ (A : Around) (outer : List Env) (s : Shared) (H : Hp) (us : List Value) (vs : List V) (Q : VK) (E : XK), Room k A → A.guards = some [] → Env0 P w K mg base A outer s H → Vals vs us →
    dsp K cl sem vs H Q E → codeAny (model P w) A (.call (.ref f) ⟨us, []⟩) (CR (L2.CX P w) outer P w H s Q E) s
theorem FnS.mono {P : Program} {w : World} {K : PySem.W.Frag} {mg : Str → Option Value} {base : Heap} {cl : Str → Addr} {j k : Nat} {f : Addr} {sem : Sem} (F : FnS P w K mg base cl j f sem) (h : j ≤ k) : FnS P w K mg base cl k f sem :=
  ⟨fun A outer s H us vs Q E hr => F.run A outer s H us vs Q E (hr.mono h)⟩
theorem Want.inner {K : PySem.W.Frag} {cl : Str → Addr} {W : WX} {c : Cz} {σ : L2.St} {T : List (D × V)} {o : Out D} {Q : VK} {H2 : Hp} {σ0 : L2.St} {s0 : S} {T0 : List (D × V)} {F2 : Addr → Prop} {α2 : List Addr} (I : SIx K cl c H2 σ0 s0 T0 F2 α2) (w : Want K cl W c σ T o Q) : Want K cl W ⟨H2, α2, F2⟩ σ T o Q := by
  cases o with
  | fail => exact w
  | ok d s => exact fun v H' ⟨F', α', J⟩ => w v H' ⟨F', α', I.unnest J⟩
  | exc n fs s => exact fun dx H' e ⟨F', α', J⟩ => w dx H' e ⟨F', α', I.unnest J⟩
/-- the arguments behind the first n, as one tuple -/
def starD (n : Nat) (ds : List D) : List D := ds.take n ++ [.kt (ds.drop n)]
def runS (n N : Nat) (f : M Fl) : Sem := fun m ds => if n ≤ ds.length ∧ ds.length ≤ 1000000 then run N f m (starD n ds) else .fail
theorem runS_len (n N : Nat) (f : M Fl) : LenOk (runS n N f) := by
  refine ⟨fun m ds d s h => ?_, fun m ds c fs s h => ?_⟩
  · unfold runS at h
    split at h
    · exact (run_len N f).1 m _ d s h
    · cases h
  · unfold runS at h
    split at h
    · exact (run_len N f).2 m _ c fs s h
    · cases h
section
variable {P : Program} {w : World} {K : PySem.W.Frag} {mg : Str → Option Value} {base : Heap} {cl : Str → Addr}
theorem fn_GS {k : Nat} {f : Addr} {x qual : Str} {params : Arguments} {body : List Stmt} {scope : Scope} {fd : FuncData} {N ps : List Str} {pv : Str} {g : M Fl} (F : FunD K x qual params body scope [] [] f fd) (S : FnScope N (ps ++ [pv]) scope)
    (hb : ∀ (kV doc pm : Value) (an : Option Addr) (cdv ct : Value) (us rest : List Value), us.length = ps.length → bindArgs (PySem.W.fnOf x qual params body scope .none kV doc pm an cdv ct) ⟨us ++ rest, []⟩ = (newTuple rest >>= fun t => pure (ps.zip us ++ [(pv, t)])))
    (hbody : ∀ (cdv : Value) (A : Around) (outer : List Env) (s : Shared) (H : Hp) (E : XK), Cok (cxOf (L2.CX P w) P w K mg base N qual scope f cdv A outer s H E) (fun cls dx _ H' => E cls dx H') k →
      DSs (cxOf (L2.CX P w) P w K mg base N qual scope f cdv A outer s H E) cl (fun cls dx _ H' => E cls dx H') body g) : FnS P w K mg base cl (k + 1) f (runS ps.length N.length g) := by
  obtain ⟨oc, od, dV, kV, doc, pm, an, cdv, ct, osl, rfl, lk, hcd, hD, _⟩ := F.ex
  have edV : dV = Value.none := by
    rcases hD with ⟨_, rfl⟩ | ⟨e, _⟩
    · rfl
    · exact absurd rfl e
  subst edV
  refine ⟨fun A outer s H us vs Q E hr hgd e0 r hsp => ?_⟩
  obtain ⟨G, β, m, ds, hdl, J, wn⟩ := hsp
  have hβ : β.length = m.length := by
    have := J.len
    rw [this]; show (m.map some).length = m.length
    rw [List.length_map]
  unfold runS at wn
  by_cases hc : ps.length ≤ ds.length ∧ ds.length ≤ 1000000
  · rw [if_pos hc] at wn
    have rl := zipT_rev hdl J.tmp
    obtain ⟨u1, u2, eu, r1, r2⟩ := vals_split (ws := vs.take ps.length) (rest := vs.drop ps.length) (by rw [List.take_append_drop]; exact r)
    subst eu
    have hn : H s.heap.objs.size = Option.none := e0.hok.fresh (Nat.le_refl _)
    have hl1 : (vs.take ps.length).length = ps.length := by rw [List.length_take]; omega
    have hu1 : u1.length = ps.length := by rw [← r1.length]; exact hl1
    have hz : (vs.drop ps.length).length ≤ sizeLine := by
      rw [List.length_drop, ← hdl]
      exact line1m (by omega)
    have hl2 : u2.length ≤ sizeLine := by rw [← r2.length]; exact hz
    refine run_bnd lk hcd S hr e0 (G := fun xs H2 => ∃ p, H p = Option.none ∧ xs = vs.take ps.length ++ [V.ref p] ∧ H2 = upd H p (.tup (vs.drop ps.length))) (fun A' Ex Q' h => ?_) fun s2 H2 xs ⟨p, hp, ex, eH⟩ hr' => ?_
    · rw [hb kV doc pm an cdv ct u1 u2 hu1]
      refine wpAny_bind (wpAny_newTuple (wpAny_pure ?_) hl2)
      have new : ObjOk P w (upd H s.heap.objs.size (.tup (vs.drop ps.length))) (s.heap.push ({ cls := .type "tuple", data := .seq u2.toArray } : Obj)) s.heap.objs.size (.tup (vs.drop ps.length)) := ⟨hz, u2, r2, ⟨_, Heap.get?_push_size _ rfl, rfl, _, rfl⟩⟩
      have un := un_laid (fs := frs outer) (s := s) (o := ({ cls := .type "tuple", data := .seq u2.toArray } : Obj)) (u := .tup (vs.drop ps.length)) hn
      have z := h _ _ (vs.take ps.length ++ [V.ref s.heap.objs.size]) (u1 ++ [Value.ref s.heap.objs.size]) (env0_laid e0 new) un rfl (fun e s' => cxUp outer s H _ _ E e s' un (fun b o q => Heap.get?_push_of_some _ q) rfl) (r1.append (.cons rfl .nil))
        (by rw [List.length_append, List.length_append, hl1] <;> rfl) ⟨_, hn, rfl, rfl⟩
      rw [List.zip_append hu1.symm] at z
      exact z
    · subst ex eH
      have cok : Cok (cxOf (L2.CX P w) P w K mg base N qual scope f cdv A outer s2 (upd H p (.tup (vs.drop ps.length))) E) (fun cls dx _ H' => E cls dx H') k :=
        ⟨takes_of rfl rfl rfl rfl, passes_of (X := cxOf (L2.CX P w) P w K mg base N qual scope f cdv A outer s2 (upd H p (.tup (vs.drop ps.length))) E) (K := fun e s'' => L2.CX P w outer (upd H p (.tup (vs.drop ps.length))) s2 E e s'') rfl, S.nd, rfl, hr', guards_deeper hgd⟩
      obtain ⟨ts, pt, hq⟩ := hbody cdv A outer s2 (upd H p (.tup (vs.drop ps.length))) E cok
      refine ⟨ts, pt, ?_⟩
      have J2 := J.newF (o := .tup (vs.drop ps.length)) hp
      have rl2 : RepL K cl (upd H p (.tup (vs.drop ps.length))) (fun b => G b ∨ b = p) β (starD ps.length ds) (vs.take ps.length ++ [V.ref p]) :=
        ((rl.take ps.length).ext (ext_new J hp)).append (.cons (.kt upd_same ((rl.drop ps.length).ext (ext_new J hp))) .nil)
      have hl3 : (starD ps.length ds).length = (vs.take ps.length ++ [V.ref p]).length := rl2.length
      have J3 : SIx K cl ⟨upd H p (.tup (vs.drop ps.length)), β, fun b => G b ∨ b = p⟩ (upd H p (.tup (vs.drop ps.length))) [] ⟨[], m.map some⟩ (zipT (starD ps.length ds) (vs.take ps.length ++ [V.ref p]) []) (fun b => G b ∨ b = p) β :=
        (J2.nest).temps (rl2.zip fun q hq => by simp at hq)
      have w2 := Want.inner J2 wn
      have start_want := body_want hβ w2
      exact hq ⟨_, β, _⟩ (start N (vs.take ps.length ++ [V.ref p])) _ [] _ { nx := fun _ H' => Q .non H', rt := Q } (start_SI hl3 J3) start_want
  · rw [if_neg hc] at wn
    exact wn.elim
end
section
variable {X : Cx} {cl : Str → Addr} {W : WX} {k : Nat}
theorem run_GS {fa : Addr} {sem : Sem} {pins : List (Addr × Obj)} {σ : L2.St} {H : Hp} {s : Shared} {Q : VK} {us : List Value} {vs : List V} (F : FnS X.prog X.w X.K X.mg X.base cl k fa sem) (hc : Cok X W k) (I : Inv X pins σ H s) (r : Vals vs us)
    (h : dsp X.K cl sem vs H Q (fun cls dx H' => W cls dx σ H')) : wpAny (model X.prog X.w) X.A (call (.ref fa) us) (EP X pins σ Q) X.xe s := by
  refine wpAny_call (codeAny_mono (F.run X.A X.stack s H us vs Q _ hc.room hc.gd I.env0 r h) fun res s' hq => ?_)
  cases res with
  | error e => exact passAt hc.tk σ pins H s e s' I hq
  | ok fl =>
    cases fl with
    | ret u => exact I.after hq
    | next => exact False.elim hq
    | brk => exact False.elim hq
    | cont => exact False.elim hq
def eCallV (sem : Sem) (f : M (List D)) : M D := fun s => (f s).bind fun ds s => callS (List.replicate ds.length false) sem ds s
/-- f(e, ..), f with a star parameter -/
theorem de_callV {x : Str} {fa : Addr} {sem : Sem} {e : Expr} {es : List Expr} {f : M (List D)} {p pos : Pos} (F : FnS X.prog X.w X.K X.mg X.base cl k fa sem) (hn : LenOk sem) (hc : Cok X W k)
    (hm : X.mg x = some (.ref fa)) (hk : PySem.W.keepIn X.K (.ref fa) = true) (ha : DA X cl W (e :: es) f) (hg : Gl X x := by rfl)
    (hdb : (x == ("__debug__" : Str)) = false := by decide) (he : starEach (e :: es) X.env = (false, eval e X.env) :: starEach es X.env := by rfl) (hpl : (backTo pos (starEach es X.env)).any (·.1) = false := by rfl) :
    DE X cl W (.Call (.Name x p) (e :: es) [] pos) (eCallV sem f) := by
  obtain ⟨ta, pa, qa⟩ := ha
  refine ⟨fun σ H Q => ta σ H fun vs H1 => dsp X.K cl sem vs H1 Q (fun cls dx H' => W cls dx σ H'), ⟨fun pins s σ H Q I h => ?_⟩, fun c σ s T H Q I w => ?_⟩
  · refine wpAny_Call_Name_kw (ld_glob I hg hm ?_ hdb)
    refine PySem.W.callWith_K (h₀ := X.base) I.ok.mod.kin hk (thn (pa.run pos pins s σ H _ I h) fun us s1 ⟨vs, H1, I1, r, q⟩ => ⟨I1.kIn, ?_⟩) he hpl
    exact run_GS F hc I1 r q
  · refine qa c σ s T H _ I (w.bindA fun ds s1 _ w1 vs H1 hl I1 => ?_)
    obtain ⟨G, α, J⟩ := I1
    exact call_dsp J hl w1 hn.1 hn.2
/-- f(e, .., *xs) -/
theorem de_callV2 {x : Str} {fa : Addr} {sem : Sem} {e : Expr} {es : List Expr} {f : M (List D)} {p pos : Pos} (F : FnS X.prog X.w X.K X.mg X.base cl k fa sem) (hn : LenOk sem) (hc : Cok X W k)
    (hm : X.mg x = some (.ref fa)) (hk : PySem.W.keepIn X.K (.ref fa) = true) (ha : DA X cl W (e :: es) f) (hg : Gl X x := by rfl)
    (hdb : (x == ("__debug__" : Str)) = false := by decide) (he : starEach (e :: es) X.env = (false, eval e X.env) :: starEach es X.env := by rfl) (hst : (backTo pos (starEach es X.env)).any (·.1) = true := by rfl) :
    DE X cl W (.Call (.Name x p) (e :: es) [] pos) (eCallV sem f) := by
  obtain ⟨ta, pa, qa⟩ := ha
  refine ⟨fun σ H Q => ta σ H fun vs H1 => dsp X.K cl sem vs H1 Q (fun cls dx H' => W cls dx σ H'), ⟨fun pins s σ H Q I h => ?_⟩, fun c σ s T H Q I w => ?_⟩
  · refine wpAny_Call_Name_kw (ld_glob I hg hm ?_ hdb)
    refine PySem.W.callWith_S2 (h₀ := X.base) I.ok.mod.kin hk (thn (pa.run pos pins s σ H _ I h) fun us s1 ⟨vs, H1, I1, r, q⟩ => ⟨I1.kIn, ?_⟩) he hst
    exact run_GS F hc I1 r q
  · refine qa c σ s T H _ I (w.bindA fun ds s1 _ w1 vs H1 hl I1 => ?_)
    obtain ⟨G, α, J⟩ := I1
    exact call_dsp J hl w1 hn.1 hn.2
/-- *e, .. -/
def aStar (f : M D) (g : M (List D)) : M (List D) := fun s => (f s).bind fun d s => match seqD (view s.M d) with
  | some es => (g s).bind fun ds s => .ok (es ++ ds) s
  | none => .fail
theorem zipT_app : ∀ {es : List D} {xs : List V} {ds : List D} {vs : List V} {T : List (D × V)}, es.length = xs.length → zipT (es ++ ds) (xs ++ vs) T = zipT ds vs (zipT es xs T)
  | [], [], _, _, _, _ => rfl
  | d :: es, x :: xs, ds, vs, T, h => zipT_app (es := es) (xs := xs) (T := (d, x) :: T) (by simpa using h)
  | [], _ :: _, _, _, _, h => by simp at h
  | _ :: _, [], _, _, _, h => by simp at h
theorem da_star {e : Expr} {es : List Expr} {f : M D} {g : M (List D)} {p : Pos} (h : DE X cl W e f) (hr : DA X cl W es g) (hs : starEach (.Starred e p :: es) X.env = (true, eval e X.env) :: starEach es X.env := by rfl) : DA X cl W (.Starred e p :: es) (aStar f g) := by
  obtain ⟨te, pe, q⟩ := h
  obtain ⟨ta, pa, qa⟩ := hr
  refine ⟨_, pa_star pe pa hs, fun c σ s T H Q I w => ?_⟩
  refine q c σ s T H _ I (WantA.bind w fun d s1 _ w1 v H1 I1 => ?_)
  split at w1
  · rename_i es' he
    obtain ⟨F, α, J⟩ := _root_.id I1
    obtain ⟨a, xs, ev, h1, rl⟩ := J.vSeq (J.tmp (d, v) (List.mem_cons_self ..)) he
    have ev : v = .ref a := ev
    refine ⟨a, xs, ev, h1.symm, ?_⟩
    have I2 : SI X.K cl c H1 σ s1 (zipT es' xs T) := ⟨F, α, J.temps (rl.zip fun q hq => J.tmp q (List.mem_cons_of_mem _ hq))⟩
    refine qa c σ s1 _ H1 _ I2 ?_
    cases hg : g s1 with
    | fail => rw [hg] at w1; exact w1
    | exc n fs s2 => rw [hg] at w1; exact fun dx H e i => w1 dx H e (i.xt fun p hp => zipT_sub _ _ _ _ hp)
    | ok ds s2 =>
      rw [hg] at w1
      exact fun vs H2 hl I2 => w1 (xs ++ vs) H2 (by rw [List.length_append, List.length_append, hl, rl.length]) (by rw [zipT_app rl.length]; exact I2)
  · exact w1.elim
end
end DL

set_option pp.maxSteps 300
/-! DmC: instances: fields, properties, methods, making. -/
namespace DL
open PySem PySem.Spec PyProof.Rows L2
def putFD (f : Str) (v : D) : List (Str × D) → List (Str × D)
  | [] => [(f, v)]
  | (g, x) :: r => if g = f then (g, v) :: r else (g, x) :: putFD f v r
section
variable {K : PySem.W.Frag} {cl : Str → Addr} {H : Hp} {F : Addr → Prop} {α : List Addr}
theorem RepF.look : ∀ {fs : List (Str × D)} {vs : List (Str × V)} {f : Str} {d : D}, RepF K cl H F α fs vs → fs.lookup f = some d → ∃ v, vs.lookup f = some v ∧ Rep K cl H F α d v
  | _, _, f, d, .nil, h => by cases h
  | (g, x) :: fs, (_, u) :: vs, f, d, .cons h r, e => by
    rw [List.lookup_cons] at e ⊢
    cases q : f == g with
    | true => rw [q] at e; cases e; exact ⟨u, rfl, h⟩
    | false => rw [q] at e; exact r.look e
theorem RepF.none : ∀ {fs : List (Str × D)} {vs : List (Str × V)} {f : Str}, RepF K cl H F α fs vs → fs.lookup f = Option.none → vs.lookup f = Option.none
  | _, _, f, .nil, h => rfl
  | (g, x) :: fs, (_, u) :: vs, f, .cons h r, e => by
    rw [List.lookup_cons] at e ⊢
    cases q : f == g with
    | true => rw [q] at e; cases e
    | false => rw [q] at e; exact r.none e
theorem RepF.put {f : Str} {d : D} {v : V} (h : Rep K cl H F α d v) : ∀ {fs : List (Str × D)} {vs : List (Str × V)}, RepF K cl H F α fs vs → RepF K cl H F α (putFD f d fs) (putF f v vs)
  | _, _, .nil => .cons h .nil
  | (g, x) :: fs, (_, u) :: vs, .cons h1 r => by
    unfold putFD putF
    by_cases q : g = f
    · rw [if_pos q, if_pos q]; exact .cons h r
    · rw [if_neg q, if_neg q]; exact .cons h1 (r.put h)
theorem RepF.len : ∀ {fs : List (Str × D)} {vs : List (Str × V)}, RepF K cl H F α fs vs → fs.length = vs.length
  | _, _, .nil => rfl
  | _, _, .cons _ r => by rw [List.length_cons, List.length_cons, r.len]
theorem RepF.npc {F' : Addr → Prop} {α' : List Addr} (hF : ∀ b, F b → F' b) : ∀ {fs : List (Str × D)} {vs : List (Str × V)}, RepF K cl H F α fs vs → npF fs = true → RepF K cl H F' α' fs vs
  | _, _, .nil, _ => .nil
  | _, _, .cons h r, e => by
    simp only [npF, Bool.and_eq_true] at e
    exact .cons (h.np hF e.1) (r.npc hF e.2)
theorem SIx.vObj {c : Cz} {σ : L2.St} {s : S} {T : List (D × V)} {d : D} {v : V} {x : Str} {fs : List (Str × D)} (I : SIx K cl c H σ s T F α) (r : Rep K cl H F α d v) (h : DL.view s.M d = .obj x fs) :
    ∃ a dx vs, v = .ref a ∧ H a = some (.ins (cl x) dx vs) ∧ RepF K cl H F α fs vs := by
  rcases I.view r with r | ⟨k, y, a, _, rfl, _, _, e2, rc⟩
  · rw [h] at r
    cases r with
    | obj h1 _ h2 => exact ⟨_, _, _, rfl, h1, h2⟩
  · rw [e2] at h
    cases y with
    | obj c' fs' =>
      cases h
      obtain ⟨dx, vs, h1, h2⟩ := rc
      exact ⟨a, dx, vs, rfl, h1, h2⟩
    | _ => cases h
end
/-- e.f -/
def eFld (x f : Str) (fe : M D) : M D := fun s => (fe s).bind fun d s1 => match view s1.M d with
  | .obj y fs => if y = x then oOf (fs.lookup f) s1 else .fail
  | _ => .fail
/-- e.f = .., of a cell -/
def cFld (x f : Str) (k : Nat) (y : D) (s : S) : Out Fl := match s.M[k]? with
  | some (some (.obj z fs)) => if z = x ∧ fs.length < 1000 then .ok .nx { s with M := s.M.set k (some (.obj z (putFD f y fs))) } else .fail
  | _ => .fail
def sFldS (x f : Str) (fo fv : M D) : M Fl := fun s => (fv s).bind fun y s1 => (fo s1).bind fun o s2 => match o with
  | .ptr k => cFld x f k y s2
  | _ => .fail
def noX {α : Type} : Out α → Out α
  | .exc _ _ _ => .fail
  | o => o
/-- e.f, a property -/
def eProp (x : Str) (sem : Sem) (fe : M D) : M D := fun s => (fe s).bind fun d s1 => match view s1.M d with
  | .obj y _ => if y = x then noX (callS [false] sem [d] s1) else .fail
  | _ => .fail
/-- e.m(..) -/
def eMeth (x m : Str) (io : List Bool) (sem : Sem) (fo : M D) (fa : M (List D)) : M D := fun s => (fo s).bind fun d s1 => match view s1.M d with
  | .obj y fs => if y = x ∧ fs.lookup m = none then (fa s1).bind fun ds s2 => callS io sem (d :: ds) s2 else .fail
  | _ => .fail
/-- X(..), frozen when it is made -/
def makeS (x : Str) (io : List Bool) (sem : Sem) (ds : List D) (s : S) : Out D := match prep s.M io ds 0 with
  | none => .fail
  | some p => if p.ks = [] ∧ p.ls = [] then (match sem [.obj x []] (.ptr 0 :: p.ds) with
    | .fail => .fail
    | .ok .non s' => (match s'.M with
      | [some (.obj y fs)] => if (decide (y = x) && npF fs) = true then .ok (.obj y fs) s else .fail
      | _ => .fail)
    | .ok _ _ => .fail
    | .exc n fs s' => if npF fs = true then .exc n fs s else .fail) else .fail
def eMake (x : Str) (io : List Bool) (sem : Sem) (fa : M (List D)) : M D := fun s => (fa s).bind fun ds s1 => makeS x io sem ds s1
section
variable {X : Cx} {cl : Str → Addr} {W : WX} {k : Nat}
theorem de_fld {x f : Str} {e : Expr} {fe : M D} {pos : Pos} (hc : Cls X.K (cl x)) (n : NoAttr X.K (cl x) f) (he : DE X cl W e fe) (hb : attributeBase e f X.env (eval e X.env) = eval e X.env := by rfl) : DE X cl W (.Attribute e f pos) (eFld x f fe) := by
  obtain ⟨te, pe, qe⟩ := he
  refine ⟨_, pe_fld pe hb, fun c σ s T H Q I w => ?_⟩
  refine qe c σ s T H _ I (w.bind fun d s1 _ w1 v H1 I1 => ?_)
  cases e : view s1.M d with
  | obj y fs =>
    rw [e] at w1
    dsimp only at w1
    by_cases hy : y = x
    · subst hy
      rw [if_pos rfl] at w1
      obtain ⟨F, α, J⟩ := I1
      obtain ⟨a, dx, vs, ev, ha, r⟩ := J.vObj (J.tmp (d, v) (List.mem_cons_self ..)) e
      have ev : v = .ref a := ev
      subst ev
      cases q : fs.lookup f with
      | none => rw [q] at w1; exact w1.elim
      | some z =>
        rw [q] at w1
        obtain ⟨u, h1, h2⟩ := r.look q
        exact ⟨a, cl y, dx, vs, u, rfl, ha, hc, n, h1, w1 u H1 ⟨F, α, (J.push h2).temps fun p hp => (J.push h2).tmp p (by
          rcases List.mem_cons.mp hp with hp | hp
          · exact hp ▸ List.mem_cons_self ..
          · exact List.mem_cons_of_mem _ (List.mem_cons_of_mem _ hp))⟩⟩
    · rw [if_neg hy] at w1; exact w1.elim
  | _ => rw [e] at w1; exact w1.elim
theorem ds_fld {x f : Str} {o value : Expr} {fo fv : M D} {pos pos' : Pos} (hc : Cls X.K (cl x)) (n : NoAttr X.K (cl x) f) (ho : DE X cl W o fo) (hv : DE X cl W value fv) (hs : swapsWith value (some (.Attribute o f pos')) pos.line X.env = pure false := by rfl) :
    DS X cl W (.Assign [.Attribute o f pos'] value pos) (sFldS x f fo fv) := by
  obtain ⟨to, po, qo⟩ := ho
  obtain ⟨tv, pv, qv⟩ := hv
  refine ⟨_, ps_fld po pv hs, fun c σ s T H E I w => ?_⟩
  refine qv c σ s T H _ I (w.bind fun y s1 _ w1 v H1 I1 => ?_)
  refine qo c σ s1 _ H1 _ I1 ((w1.deeper (T' := (y, v) :: T) fun p hp => List.mem_cons_of_mem _ hp).bind fun d s2 _ w2 u H2 I2 => ?_)
  cases d with
  | ptr j =>
    dsimp only at w2
    unfold cFld at w2
    split at w2
    · rename_i z fs ej
      split at w2
      · rename_i hz
        obtain ⟨rfl, hl⟩ := hz
        obtain ⟨F, α, J⟩ := I2
        have ry := J.tmp (y, v) (List.mem_cons_of_mem _ (List.mem_cons_self ..))
        have rp := J.tmp (.ptr j, u) (List.mem_cons_self ..)
        have rp : Rep X.K cl H2 F α (.ptr j) u := rp
        cases rp with
        | ptr ha =>
          rename_i a
          obtain ⟨⟨dx, vs, h1, h2⟩, _⟩ := J.cel j _ a ej ha
          refine ⟨a, cl z, dx, vs, rfl, h1, hc, n, by rw [← h2.len]; exact hl, w2 _ _ ⟨F, α, ?_⟩⟩
          have J2 := J.setCell (y := .obj z (putFD f y fs)) (o := .ins (cl z) dx (putF f v vs)) ej ha fun E => ⟨dx, putF f v vs, upd_same, (RepF.put ry h2).ext E⟩
          exact J2.temps fun p hp => J2.tmp p (List.mem_cons_of_mem _ hp)
      · exact w2.elim
    · exact w2.elim
  | _ => exact w2.elim
/-- a call without exceptions -/
theorem noX_want {K : PySem.W.Frag} {c : Cz} {σ : L2.St} {T : List (D × V)} {o : Out D} {Q : VK} (w : Want K cl W c σ T (noX o) Q) : Want K cl (fun _ _ _ _ => False) c σ T o Q := by
  cases o with
  | fail => exact w
  | ok d s => exact w
  | exc n fs s => exact w.elim
theorem getprop_G {x f : Str} {p g : Addr} {fd : FuncData} {ps : List Str} {sem : Sem} {pins : List (Addr × Obj)} {σ : L2.St} {H : Hp} {s : Shared} {Q : VK} {b : Bool} {a dx : Addr} {fs : List (Str × V)} (I : Inv X pins σ H s) (ea : H a = some (.ins (cl x) dx fs)) (c : Cls X.K (cl x)) (hp : PropOf X.K (cl x) f p g)
    (F : FnG X.prog X.w X.K X.mg X.base cl k g fd ps sem) (hl : ps.length = 1) (hc : Cok X W (k + 1)) (hb : Binds X.K fd ps []) (h : dsp X.K cl sem [.ref a] H Q (fun _ _ _ => False)) :
    wpAny (model X.prog X.w) X.A (getAttr (.ref a) f b) (EP X pins σ Q) X.xe s := by
  obtain ⟨mA, O, _, _, _, _⟩ := ins_get I.hok ea
  obtain ⟨od, J, _⟩ := O.look
  obtain ⟨rest, hrec⟩ := hp.rec_
  have I1 := I.tok (s.toks + 1)
  have hcs : (PySem.W.clsIn X.K (cl x)).isSome = true := by
    obtain ⟨cd, hc, _⟩ := PySem.W.any_some c.hd
    rw [hc]
    rfl
  have bd := hb { s with toks := s.toks + 1 } [.ref a] I1.kIn (by rw [List.append_nil, hl]; rfl)
  rw [List.append_nil] at bd
  refine PySem.W.get_bind I.kIn J (PySem.W.plainGet_of (c.get f)).1 (PySem.W.findObj_data hcs hp.at_ hp.get hp.tak) (PySem.W.plainGet_of (c.get f)).2 (wpAny_call (PySem.W.prop_get (s := { s with toks := s.toks + 1 }) I.kIn hrec ?_))
  refine codeAny_mono (F.run X.A.in1 X.stack { s with toks := s.toks + 1 } H ⟨[.ref a], []⟩ [.ref a] [.ref a] Q _ hc.room.in1 hc.gd I1.env0.in1 bd (.cons rfl .nil) hl.symm h) fun r s' hq => ?_
  cases r with
  | error er =>
    obtain ⟨_, _, _, _, _, _, _, _, _, _, _, _, z⟩ := hq
    exact z.elim
  | ok fl =>
    cases fl with
    | ret u =>
      obtain ⟨v, H', I3, rv, q3⟩ := I1.after hq
      show wpAny _ _ (handedOut u) _ _ _
      rw [PySem.W.handedOut_of (handed_of rv)]
      exact wpAny_pure ⟨v, H', I3, rv, q3⟩
    | next => exact False.elim hq
    | brk => exact False.elim hq
    | cont => exact False.elim hq
/-- e.f, a property -/
theorem de_prop {x f : Str} {p g : Addr} {fd : FuncData} {ps : List Str} {sem : Sem} {e : Expr} {fe : M D} {pos : Pos} (F : FnG X.prog X.w X.K X.mg X.base cl k g fd ps sem) (hn : LenOk sem) (hl : ps.length = 1) (hc : Cls X.K (cl x)) (hp : PropOf X.K (cl x) f p g) (hk : Cok X W (k + 1)) (hb : Binds X.K fd ps [])
    (he : DE X cl W e fe) (hab : attributeBase e f X.env (eval e X.env) = eval e X.env := by rfl) : DE X cl W (.Attribute e f pos) (eProp x sem fe) := by
  obtain ⟨te, pe, qe⟩ := he
  refine ⟨fun σ H Q => te σ H fun v H1 => ∃ a dx fs, v = .ref a ∧ H1 a = some (.ins (cl x) dx fs) ∧ dsp X.K cl sem [.ref a] H1 Q (fun _ _ _ => False), ⟨fun pins s σ H Q I h => ?_⟩, fun c σ s T H Q I w => ?_⟩
  · refine attr_of hab (thn (pe.run pins s σ H _ I h) fun u s1 ⟨v, H1, I1, rx, a, dx, fs, ex, ea, q⟩ => ?_)
    subst ex
    obtain rfl : u = Value.ref a := rx
    exact getprop_G I1 ea hc hp F hl hk hb q
  · refine qe c σ s T H _ I (w.bind fun d s1 _ w1 v H1 I1 => ?_)
    cases e : view s1.M d with
    | obj y fs =>
      rw [e] at w1
      dsimp only at w1
      by_cases hy : y = x
      · subst hy
        rw [if_pos rfl] at w1
        obtain ⟨F, α, J⟩ := I1
        obtain ⟨a, dx, vs, ev, ha, r⟩ := J.vObj (J.tmp (d, v) (List.mem_cons_self ..)) e
        have ev : v = .ref a := ev
        subst ev
        exact ⟨a, dx, vs, rfl, ha, call_dsp (W := fun _ _ _ _ => False) (io := [false]) (ds := [d]) (vs := [.ref a]) J rfl (noX_want w1) hn.1 hn.2⟩
      · rw [if_neg hy] at w1; exact w1.elim
    | _ => rw [e] at w1; exact w1.elim
/-- o.m(e, ..) -/
theorem de_meth {x m : Str} {g : Addr} {fd : FuncData} {ps : List Str} {sem : Sem} {io : List Bool} {o e : Expr} {es : List Expr} {fo : M D} {fa : M (List D)} {apos pos : Pos} {pl : PySem.Sem Bool} (F : FnG X.prog X.w X.K X.mg X.base cl k g fd ps sem) (hn : LenOk sem) (hio : io.length = ps.length) (hc : Cls X.K (cl x)) (hm : Meth X.K (cl x) m g) (hk : Cok X W k) (hb : Binds X.K fd ps [])
    (ho : DE X cl W o fo) (ha : DA X cl W (e :: es) fa)
    (hst : starEach (e :: es) X.env = (false, eval e X.env) :: starEach es X.env := by rfl) (hpl : (backTo pos (starEach es X.env)).any (·.1) = false := by rfl)
    (ht : eval (.Call (.Attribute o m apos) (e :: es) [] pos) X.env = (do
      let ov ← eval o X.env
      standAt apos.atName
      let (f, first) ← holding [ov] (getMethod ov m pl)
      callWith pos f first (backTo pos (starEach (e :: es) X.env)) (backToKw pos (keywordEach [] X.env))) := by rfl) :
    DE X cl W (.Call (.Attribute o m apos) (e :: es) [] pos) (eMeth x m io sem fo fa) := by
  obtain ⟨te, pe, qe⟩ := ho
  obtain ⟨ta, pa, qa⟩ := ha
  refine ⟨fun σ H Q => te σ H fun v H1 => ∃ a dx fs, v = .ref a ∧ H1 a = some (.ins (cl x) dx fs) ∧ fs.lookup m = none ∧ ta σ H1 fun vs H2 => (v :: vs).length = ps.length ∧ dsp X.K cl sem (v :: vs) H2 Q (fun cls dx H' => W cls dx σ H'), ⟨fun pins s σ H Q I h => ?_⟩, fun c σ s T H Q I w => ?_⟩
  · refine PySem.W.methodCall_KW (pl := pl) (thn (pe.run pins s σ H _ I h) fun u s1 ⟨v, H1, I1, rx, a, dx, fs, ex, ea, l, q⟩ => ?_) ht
    subst ex
    obtain rfl : u = Value.ref a := rx
    refine getmeth_ok I1 ea hc hm l ?_
    refine PySem.W.callWith_K (first := [.ref a]) (h₀ := X.base) I.ok.mod.kin hm.kp (thn (pa.run pos pins s1 σ H1 _ I1 q) fun us s2 ⟨vs, H2, I2, r, hl, q2⟩ => ⟨I2.kIn, ?_⟩) hst hpl
    exact run_G (dvs := []) (us := .ref a :: us) (vs := .ref a :: vs) F hk hb I2 (.cons rfl r) hl q2
  · refine qe c σ s T H _ I (w.bind fun d s1 _ w1 v H1 I1 => ?_)
    cases e : view s1.M d with
    | obj y fs =>
      rw [e] at w1
      dsimp only at w1
      by_cases hy : y = x ∧ fs.lookup m = none
      · obtain ⟨rfl, hlk⟩ := hy
        rw [if_pos ⟨rfl, hlk⟩] at w1
        obtain ⟨F, α, J⟩ := id I1
        obtain ⟨a, dx, vs, ev, ha, r⟩ := J.vObj (J.tmp (d, v) (List.mem_cons_self ..)) e
        have ev : v = .ref a := ev
        subst ev
        refine ⟨a, dx, vs, rfl, ha, r.none hlk, qa c σ s1 _ H1 _ I1 ?_⟩
        cases hf : fa s1 with
        | fail => rw [hf] at w1; exact w1
        | exc n fs s2 => rw [hf] at w1; exact fun dx H e I => w1 dx H e (I.xt fun p hp => List.mem_cons_of_mem _ hp)
        | ok ds s2 =>
          rw [hf] at w1
          have w2 : Want X.K cl W c σ T (callS io sem (d :: ds) s2) Q := w1
          intro us H2 hl2 I2
          obtain ⟨F, α, J⟩ := I2
          refine ⟨?_, call_dsp (T := T) (ds := d :: ds) (vs := .ref a :: us) J (by rw [List.length_cons, List.length_cons, hl2]) w2 hn.1 hn.2⟩
          have := callS_len w2
          rw [List.length_cons, ← hl2, ← hio, ← this, List.length_cons]
      · rw [if_neg hy] at w1; exact w1.elim
    | _ => rw [e] at w1; exact w1.elim
/-- o.m() -/
theorem de_meth0 {x m : Str} {g : Addr} {fd : FuncData} {ps : List Str} {sem : Sem} {io : List Bool} {o : Expr} {fo : M D} {apos pos : Pos} {pl : PySem.Sem Bool} (F : FnG X.prog X.w X.K X.mg X.base cl k g fd ps sem) (hn : LenOk sem) (hio : io.length = ps.length) (hc : Cls X.K (cl x)) (hm : Meth X.K (cl x) m g) (hk : Cok X W k) (hb : Binds X.K fd ps [])
    (ho : DE X cl W o fo)
    (ht : eval (.Call (.Attribute o m apos) [] [] pos) X.env = (do
      let ov ← eval o X.env
      standAt apos.atName
      let (f, first) ← holding [ov] (getMethod ov m pl)
      callWith pos f first (backTo pos (starEach [] X.env)) (backToKw pos (keywordEach [] X.env))) := by rfl) :
    DE X cl W (.Call (.Attribute o m apos) [] [] pos) (eMeth x m io sem fo aNil) := by
  obtain ⟨te, pe, qe⟩ := ho
  refine ⟨fun σ H Q => te σ H fun v H1 => ∃ a dx fs, v = .ref a ∧ H1 a = some (.ins (cl x) dx fs) ∧ fs.lookup m = none ∧ [v].length = ps.length ∧ dsp X.K cl sem [v] H1 Q (fun cls dx H' => W cls dx σ H'), ⟨fun pins s σ H Q I h => ?_⟩, fun c σ s T H Q I w => ?_⟩
  · refine PySem.W.methodCall_KW (pl := pl) (thn (pe.run pins s σ H _ I h) fun u s1 ⟨v, H1, I1, rx, a, dx, fs, ex, ea, l, hl, q⟩ => ?_) ht
    subst ex
    obtain rfl : u = Value.ref a := rx
    refine getmeth_ok I1 ea hc hm l ?_
    exact PySem.W.callWith_K0 (first := [.ref a]) I1.kIn hm.kp (run_G (dvs := []) (us := [.ref a]) (vs := [.ref a]) F hk hb I1 (.cons rfl .nil) hl q)
  · refine qe c σ s T H _ I (w.bind fun d s1 _ w1 v H1 I1 => ?_)
    cases e : view s1.M d with
    | obj y fs =>
      rw [e] at w1
      dsimp only at w1
      by_cases hy : y = x ∧ fs.lookup m = none
      · obtain ⟨rfl, hlk⟩ := hy
        rw [if_pos ⟨rfl, hlk⟩] at w1
        obtain ⟨F, α, J⟩ := id I1
        obtain ⟨a, dx, vs, ev, ha, r⟩ := J.vObj (J.tmp (d, v) (List.mem_cons_self ..)) e
        have ev : v = .ref a := ev
        subst ev
        have w2 : Want X.K cl W c σ T (callS io sem [d] s1) Q := w1
        refine ⟨a, dx, vs, rfl, ha, r.none hlk, ?_, call_dsp (T := T) (ds := [d]) (vs := [.ref a]) J rfl w2 hn.1 hn.2⟩
        have := callS_len w2
        rw [← hio, ← this]
        rfl
      · rw [if_neg hy] at w1; exact w1.elim
    | _ => rw [e] at w1; exact w1.elim
end
section
variable {K : PySem.W.Frag} {cl : Str → Addr} {W : WX} {c : Cz} {H : Hp} {σ : L2.St} {s : S} {T : List (D × V)} {F : Addr → Prop} {α : List Addr}
/-- the new one's promise, asked of __init__ -/
theorem make_dsp {x : Str} {io : List Bool} {sem : Sem} {ds : List D} {vs : List V} {Q : VK} (I : SIx K cl c H σ s (zipT ds vs T) F α) (hl : ds.length = vs.length) (w : Want K cl W c σ T (makeS x io sem ds s) Q) (hn : LenOk sem)
    {a dx : Addr} (ha : H a = none) (hd : H dx = none) (hne : dx ≠ a) : dsp K cl sem (.ref a :: vs) (upd (upd H dx (.own a)) a (.ins (cl x) dx [])) (fun v H2 => v = .non ∧ Q (.ref a) H2) (fun cls d H' => W cls d σ H') := by
  unfold makeS at w
  cases hp : prep s.M io ds 0 with
  | none => rw [hp] at w; exact w.elim
  | some p =>
    rw [hp] at w
    dsimp only at w
    by_cases hc : p.ks = [] ∧ p.ls = []
    · rw [if_pos hc] at w
      obtain ⟨hks, hls⟩ := hc
      obtain ⟨Fp, hFp, hkl, hlive, pl, hdl, J0, IT⟩ := call_pre I hl hp (by rw [hks]; exact List.nodup_nil) (by rw [hls]; simp)
      have hm : p.m = [] := by
        rw [hks] at pl
        exact List.eq_nil_of_length_eq_zero pl
      have hβ : adrs α p.ks = [] := by rw [hks]; rfl
      rw [hm, hβ] at J0
      have nFx : ∀ b, H b = none → ¬ Fp b := fun b hb hf => by
        obtain ⟨o, e⟩ := J0.domF b hf
        rw [hb] at e; cases e
      have J1 := J0.besideO (o := .own a) (a := dx) (by simp) (nFx dx hd) (.inr hd) (no_nt hd)
      have ha2 : (upd H dx (.own a)) a = none := by rw [upd_ne (Ne.symm hne)]; exact ha
      have J2 := J1.newCell (x := .obj x []) (o := .ins (cl x) dx []) ha2 fun E => ⟨dx, [], upd_same, .nil⟩
      have J3 : SIx K cl ⟨H, [], Fp⟩ (upd (upd H dx (.own a)) a (.ins (cl x) dx [])) [] ⟨[], [some (.obj x [])]⟩ ((.ptr 0, .ref a) :: zipT p.ds vs []) Fp [a] := J2
      have J4 : SIx K cl ⟨upd (upd H dx (.own a)) a (.ins (cl x) dx []), [a], Fp⟩ (upd (upd H dx (.own a)) a (.ins (cl x) dx [])) [] ⟨[], [some (.obj x [])]⟩ (zipT (.ptr 0 :: p.ds) (.ref a :: vs) []) Fp [a] := by
        refine (J3.temps fun q hq => ?_).nest
        have : q ∈ zipT p.ds vs [(.ptr 0, .ref a)] := hq
        rcases zipT_at this with h | ⟨i, h1, h2⟩
        · exact J3.tmp q (List.mem_cons.mpr (.inl (List.mem_singleton.mp h)))
        · have rl : RepL K cl (upd (upd H dx (.own a)) a (.ins (cl x) dx [])) Fp [a] p.ds vs := (J3.temps (T' := zipT p.ds vs []) fun q hq => J3.tmp q (List.mem_cons_of_mem _ hq)).args hdl
          obtain ⟨v, h3, h4⟩ := rl.get h1
          rw [h2] at h3
          cases h3
          exact h4
      refine ⟨Fp, [a], [.obj x []], .ptr 0 :: p.ds, by rw [List.length_cons, List.length_cons, hdl], J4, ?_⟩
      have back1 : ∀ (H' : Hp) (M' : List (Option C)) (T' : List (D × V)), M'.length = 1 → SI K cl ⟨upd (upd H dx (.own a)) a (.ins (cl x) dx []), [a], Fp⟩ H' [] ⟨[], M'⟩ T' →
          ∃ F', SIx K cl ⟨H, [], Fp⟩ H' [] ⟨[], M'⟩ T' F' [a] := fun H' M' T' hlen ⟨F', α', J⟩ => by
        have hα : α' = [a] := by
          have h0 := J.pre 0 a rfl
          have h1 : α'.length = 1 := J.len.trans hlen
          match α', h1, h0 with
          | [b], _, h0 => simpa using h0
        subst hα
        exact ⟨F', J3.unnest J⟩
      cases hs : sem [.obj x []] (.ptr 0 :: p.ds) with
      | fail => rw [hs] at w; exact w.elim
      | ok d s' =>
        rw [hs] at w
        have hlen : s'.M.length = 1 := hn.1 _ _ _ _ hs
        cases d with
        | non =>
          dsimp only at w ⊢
          intro v H' JJ
          obtain ⟨F', J⟩ := back1 _ _ _ hlen JJ
          clear JJ
          have ev : v = .non := by
            have := J.tmp (.non, v) (List.mem_cons_self ..)
            have this : Rep K cl H' F' [a] .non v := this
            cases this; rfl
          refine ⟨ev, ?_⟩
          split at w
          · rename_i y fs eM
            split at w
            · rename_i hcond
              simp only [Bool.and_eq_true, decide_eq_true_eq] at hcond
              obtain ⟨rfl, hnp⟩ := hcond
              obtain ⟨⟨dx', ws, h1, h2⟩, nF⟩ := J.cel 0 (.obj y fs) a (by show s'.M[0]? = _; rw [eM]; rfl) rfl
              have K1 : SIx K cl ⟨H, [], Fp⟩ H' [] ⟨[], []⟩ [] F' [] :=
                ⟨fun i d e => by simp at e, rfl, fun q hq => by simp at hq, rfl, fun k x b e1 e2 => by simp at e1, List.nodup_nil, fun b hb => by simp at hb, fun b hb => by simp at hb, J.domF, J.inF, fun k b e => by simp at e, J.keep, J.tups, J.frzs⟩
              obtain ⟨K2, E2⟩ := K1.freeze (a := a) (o := .ins (cl y) dx' ws) ⟨h1, by simp, nF, .inr ha⟩
              have K3 := K2.push (d := .obj y fs) (v := .ref a) (.obj h1 (.inr rfl) (h2.npc (fun _ h => .inl h) hnp))
              have K4 := back (T' := [(.obj y fs, .ref a)]) (s' := ⟨[], []⟩) IT (by rw [hks]; exact List.nodup_nil) hkl hlive hFp (by rw [hβ]; exact ⟨_, _, K3⟩) (by rw [hks]; exact Nat.le_refl _) (by rw [hks]; rfl) (.inl hls) (fun q hq => by
                rw [List.mem_singleton.mp hq]
                simpa [np] using hnp)
              rw [hks] at K4
              exact w _ _ K4
            · exact w.elim
          · exact w.elim
        | _ => exact w.elim
      | exc n fs s' =>
        rw [hs] at w
        have hlen : s'.M.length = 1 := hn.2 _ _ _ _ _ hs
        dsimp only at w ⊢
        split at w
        · rename_i hnp
          intro dx2 H' hdx JJ
          obtain ⟨F', J⟩ := back1 _ _ _ hlen JJ
          clear JJ
          rw [List.append_nil] at J
          have K1 : SIx K cl ⟨H, [], Fp⟩ H' [] ⟨[], []⟩ (xt fs dx2) F' [] :=
            ⟨fun i d e => by simp at e, rfl, fun q hq => by
              have r := J.tmp q hq
              cases dx2 with
              | none => simp [xt] at hq
              | some b =>
                rw [List.mem_singleton.mp hq] at r ⊢
                exact r.np (fun _ h => h) (by simpa [np] using hnp), rfl, fun k x b e1 e2 => by simp at e1, List.nodup_nil, fun b hb => by simp at hb, fun b hb => by simp at hb, J.domF, J.inF, fun k b e => by simp at e, J.keep, J.tups, J.frzs⟩
          have K4 := back (T' := xt fs dx2) (s' := ⟨[], []⟩) IT (by rw [hks]; exact List.nodup_nil) hkl hlive hFp (by rw [hβ]; exact ⟨_, _, K1⟩) (by rw [hks]; exact Nat.le_refl _) (by rw [hks]; rfl) (.inl hls) (fun q hq => by
            cases dx2 with
            | none => simp [xt] at hq
            | some b =>
              rw [List.mem_singleton.mp hq]
              simpa [np] using hnp)
          rw [hks] at K4
          exact w dx2 H' hdx K4
        · exact w.elim
    · rw [if_neg hc] at w; exact w.elim
end
section
variable {X : Cx} {cl : Str → Addr} {W : WX} {k : Nat}
theorem run_makeG {x : Str} {g : Addr} {fd : FuncData} {ps : List Str} {sem : Sem} {pins : List (Addr × Obj)} {σ : L2.St} {H : Hp} {s : Shared} {Q : VK} {us : List Value} {vs : List V} (Mk0 : Mk X.K (cl x) g) (F : FnG X.prog X.w X.K X.mg X.base cl k g fd ps sem) (hc : Cok X W (k + 1)) (hb : Binds X.K fd ps [])
    (I : Inv X pins σ H s) (r : Vals vs us) (hl : vs.length + 1 = ps.length)
    (h : ∀ a dx, H a = none → H dx = none → dx ≠ a → dsp X.K cl sem (.ref a :: vs) (upd (upd H dx (.own a)) a (.ins (cl x) dx [])) (fun v H2 => v = .non ∧ Q (.ref a) H2) (fun cls d H' => W cls d σ H')) :
    wpAny (model X.prog X.w) X.A (call (.ref (cl x)) us) (EP X pins σ Q) X.xe s := by
  have hq := h (s.heap.objs.size + 1) s.heap.objs.size (I.hok.fresh (Nat.le_succ _)) (I.hok.fresh (Nat.le_refl _)) (Nat.ne_of_lt (Nat.lt_succ_self _))
  have I2 := Inv.made (C := cl x) I
  have r2 : Vals (V.ref (s.heap.objs.size + 1) :: vs) (Value.ref (s.heap.objs.size + 1) :: us) := .cons rfl r
  have hl2 : (V.ref (s.heap.objs.size + 1) :: vs).length = ps.length := hl
  have b := hb _ (Value.ref (s.heap.objs.size + 1) :: us) I2.kIn (by rw [List.append_nil, ← r2.length]; exact hl2)
  rw [List.append_nil] at b
  refine wpAny_call (make_map (f := g) I.kIn Mk0.makes Mk0.init (beq_iff_eq.mp Mk0.fn) (codeAny_mono (F.run _ X.stack _ _ ⟨Value.ref (s.heap.objs.size + 1) :: us, []⟩ _ _ _ _ (hc.room.make (cl x) us [])
    hc.gd (I2.env0.make (cl x) us []) b r2 hl2 hq) fun r s' hq' => ?_))
  cases r with
  | error e => exact passAt hc.tk σ pins _ _ e s' I2 hq'
  | ok fl =>
    cases fl with
    | ret u =>
      obtain ⟨v, H', I3, rv, ev, q3⟩ := I2.after hq'
      subst ev
      exact ⟨rv, ⟨V.ref (s.heap.objs.size + 1), H', I3, rfl, q3⟩⟩
    | next => exact False.elim hq'
    | brk => exact False.elim hq'
    | cont => exact False.elim hq'
/-- X(e, ..) -/
theorem de_make {x y : Str} {g : Addr} {fd : FuncData} {ps : List Str} {sem : Sem} {io : List Bool} {e : Expr} {es : List Expr} {f : M (List D)} {p pos : Pos} (F : FnG X.prog X.w X.K X.mg X.base cl k g fd ps sem) (hn : LenOk sem) (hio : io.length + 1 = ps.length) (Mk0 : Mk X.K (cl x) g) (hc : Cok X W (k + 1))
    (hm : X.mg y = some (.ref (cl x))) (hb : Binds X.K fd ps []) (ha : DA X cl W (e :: es) f) (hg : Gl X y := by rfl)
    (hdb : (y == ("__debug__" : Str)) = false := by decide) (he : starEach (e :: es) X.env = (false, eval e X.env) :: starEach es X.env := by rfl) (hpl : (backTo pos (starEach es X.env)).any (·.1) = false := by rfl) :
    DE X cl W (.Call (.Name y p) (e :: es) [] pos) (eMake x io sem f) := by
  obtain ⟨ta, pa, qa⟩ := ha
  refine ⟨fun σ H Q => ta σ H fun vs H1 => vs.length + 1 = ps.length ∧ ∀ a dx, H1 a = none → H1 dx = none → dx ≠ a → dsp X.K cl sem (.ref a :: vs) (upd (upd H1 dx (.own a)) a (.ins (cl x) dx [])) (fun v H2 => v = .non ∧ Q (.ref a) H2) (fun cls d H' => W cls d σ H'),
    ⟨fun pins s σ H Q I h => ?_⟩, fun c σ s T H Q I w => ?_⟩
  · refine wpAny_Call_Name_kw (ld_glob I hg hm ?_ hdb)
    refine PySem.W.callWith_K (h₀ := X.base) I.ok.mod.kin Mk0.kp (thn (pa.run pos pins s σ H _ I h) fun us s1 ⟨vs, H1, I1, r, hl, q⟩ => ⟨I1.kIn, ?_⟩) he hpl
    exact run_makeG Mk0 F hc hb I1 r hl q
  · refine qa c σ s T H _ I (w.bindA fun ds s1 _ w1 vs H1 hl I1 => ?_)
    obtain ⟨G, α, J⟩ := I1
    refine ⟨?_, fun a dx h1 h2 h3 => make_dsp J hl w1 hn h1 h2 h3⟩
    unfold makeS at w1
    cases hp : prep s1.M io ds 0 with
    | none => rw [hp] at w1; exact w1.elim
    | some p => rw [← hio, ← prep_len hp, hl]
end
end DL

set_option pp.maxSteps 300
/-! DmD: the head with defs at any address; properties. -/
namespace DL
open PySem PySem.Spec PyProof.Rows L2
def propB (K : PySem.W.Frag) (x f : Str) : Bool := He.eqO (PySem.W.findIn K (.ref (He.ga K x)) f) (some (some (.ref (He.ma K (He.ga K x) f)))) && (He.eqO (PySem.W.specialIn K (.ref (He.ma K (He.ga K x) f)) "__get__") (some (some (.builtin "property.__get__"))) &&
  (decide (PySem.W.takesIn K (.ref (He.ma K (He.ga K x) f)) = some true) && (match PySem.W.recIn K (He.ma K (He.ga K x) f) "property" with
    | some (.ref _ :: _) => true
    | _ => false)))
abbrev pf (K : PySem.W.Frag) (x f : Str) : Addr := He5.wf K (He.ga K x) "property" f
theorem propB_ok {K : PySem.W.Frag} {x f : Str} (h : propB K x f = true) : PropOf K (He.ga K x) f (He.ma K (He.ga K x) f) (pf K x f) := by
  unfold propB at h
  obtain ⟨h1, h⟩ := He.ba h
  obtain ⟨h2, h⟩ := He.ba h
  obtain ⟨h3, h4⟩ := He.ba h
  refine ⟨He.eqO_ok h1, He.eqO_ok h2, of_decide_eq_true h3, ?_⟩
  unfold pf He5.wf
  split at h4
  · rename_i g rest e
    exact ⟨rest, by rw [e]⟩
  · cases h4
abbrev AlB : Type := He.AlX × He.AlD
def obsB (n : Nat) (fa : List He.Fa) (fn : List He.DefD) (fp : List He5.DefA) (ex : PySem.W.Frag → Bool) (g : Addr → Option Obj) : AlB := (He.obsX n fa fn [] [] ex g, He5.obsA [] fp (He.frT g (He.asD g n)))
structure SaysB (fa : List He.Fa) (fn : List He.DefD) (fp : List He5.DefA) (ex : PySem.W.Frag → Bool) (w : World) (h : Heap) (K : PySem.W.Frag) : Prop where
  x : He.SaysX fa fn [] [] ex w h K
  a : He5.SaysA [] fp K
def hookB (n : Nat) (fa : List He.Fa) (fn : List He.DefD) (fp : List He5.DefA) (ex : PySem.W.Frag → Bool) : PySem.W.Hook where
  α := AlB
  obs := fun s => obsB n fa fn fp ex s.heap.get?
  val := fun w => (He.valX fn [] w, He5.valA fp)
  says := fun w h => ∃ K : PySem.W.Frag, K.In h ∧ SaysB fa fn fp ex w h K
  of := fun _ _ e => ⟨_, He.frT_in, He.saysX_of (congrArg Prod.fst e), congrArg Prod.snd e⟩
  keeps := fun _ _ _ ⟨K, hK, c⟩ k => ⟨K, PySem.W.Frag.In.keeps hK k, ⟨c.x.t, c.x.more, c.x.hd, c.x.out, fun p hp => k _ _ (c.x.empty p hp)⟩, c.a⟩
theorem obsB_eq {n : Nat} {fa : List He.Fa} {fn : List He.DefD} {fp : List He5.DefA} {ex : PySem.W.Frag → Bool} {g : Addr → Option Obj} {s : Shared} (h : ∀ a, g a = s.heap.get? a) : obsB n fa fn fp ex g = (hookB n fa fn fp ex).obs s := by
  have e : g = s.heap.get? := funext h
  rw [e] <;> rfl
end DL

/-! DlT: list of a text; zip, strict. -/
namespace DL
open PySem L2
open PySem.Spec PyProof.Rows

section
variable {X : Cx} {cl : Str → Addr} {W : WX}
theorem Blk.of {scope : Scope} {tg : Expr} {ifs : List Expr} {elt : Expr} {is : List Nat} {g : D → S → Option S} {tt : M Bool} {fe : M D} {k : Nat} (hk : Cok X W k)
    (g_ : ∀ (s : Shared) (H : Hp) (C : Addr) (cc : List (Str × Addr)) (fp : List Addr), Cok (X.blk s H scope (compEnvC scope cc C X.env) fp) (fun _ _ _ _ => False) k → DG (X.blk s H scope (compEnvC scope cc C X.env) fp) cl tg is g)
    (t_ : ∀ (s : Shared) (H : Hp) (C : Addr) (cc : List (Str × Addr)) (fp : List Addr), Cok (X.blk s H scope (compEnvC scope cc C X.env) fp) (fun _ _ _ _ => False) k → DTs (X.blk s H scope (compEnvC scope cc C X.env) fp) cl (fun _ _ _ _ => False) ifs tt)
    (e_ : ∀ (s : Shared) (H : Hp) (C : Addr) (cc : List (Str × Addr)) (fp : List Addr), Cok (X.blk s H scope (compEnvC scope cc C X.env) fp) (fun _ _ _ _ => False) k → DE (X.blk s H scope (compEnvC scope cc C X.env) fp) cl (fun _ _ _ _ => False) elt fe) : Blk X cl scope tg ifs elt is g tt fe :=
  ⟨fun s H C cc fp => g_ s H C cc fp (hk.blk ..), fun s H C cc fp => t_ s H C cc fp (hk.blk ..), fun s H C cc fp => e_ s H C cc fp (hk.blk ..)⟩
def dIxA : D → D → Option D := orD dIx dIxS
theorem ixd_any : IxD X cl dIxA := ixd_seq.or ixd_str
/-- list(z) -/
def rLstS : List V → Hp → VK → Prop := fun vs H Q => ∃ z, vs = [.str z] ∧ z.length ≤ sizeLine ∧ ∀ p, H p = none → Q (.ref p) (upd H p (.lst ((signs z).map V.str)))
theorem call_list_txt (hc : X.calm = true) : CallR X (.type "list") rLstS := by
  intro pins s σ H vs us Q I r h
  obtain ⟨z, rfl, hz, q⟩ := h
  obtain ⟨u, rfl, ru⟩ := r.one
  obtain ⟨t, rfl⟩ := ru
  refine call_list_str (I.ok.hd hc) z t (fun h' tk acc' c' hk hS hacc => ?_) hz
  have rv := vals_of_strs (strs_of_signs hacc)
  exact ⟨.ref _, _, I.laid (t' := tk) (a := s.heap.objs.size) (o := .lst ((signs z).map V.str)) hk (Nat.le_refl _) ⟨by rw [List.length_map, signs_length]; exact hz, acc'.toList, c', rv, hS⟩, rfl, q _ (I.hok.fresh (Nat.le_refl _))⟩
def lstOf : D → Option (List D)
  | .str z => if le1m z.length = true then some ((signs z).map .str) else none
  | d => seqD d
theorem lstOf_cases {d : D} {z : List D} (h : lstOf d = some z) : (∃ y, d = .str y ∧ le1m y.length = true ∧ z = (signs y).map .str) ∨ seqD d = some z := by
  cases d <;> first | exact .inr h | skip
  simp only [lstOf] at h
  split at h
  · rename_i hl
    cases h
    exact .inl ⟨_, rfl, hl, rfl⟩
  · cases h
theorem cdc_listA (hc : X.calm = true) : CDC X cl (.type "list") (gL1 lstOf) := by
  refine ⟨_, (call_list_txt hc).or call_list_of, fun c σ s T H ds vs z Q hl I hz k => ?_⟩
  match ds, vs, hl with
  | [d], [v], _ =>
    obtain ⟨F, α, J⟩ := _root_.id I
    rcases lstOf_cases (show lstOf (view s.M d) = some z from hz) with ⟨y, e, hl, rfl⟩ | h1
    · exact .inl ⟨y, by rw [J.t1s e], le1m_ok hl, fun p hp => k _ _ (J.cellNew hp (rep_strs _))⟩
    · obtain ⟨a, vs, ev, h2, rl⟩ := J.vSeq (J.tmp (d, v) (List.mem_cons_self ..)) h1
      have ev : v = .ref a := ev
      subst ev
      exact .inr ⟨a, vs, rfl, h2, fun l hl => k _ _ (J.cellNew hl rl)⟩
  | [], [], _ => cases hz
  | _ :: _ :: _, _, _ => cases hz
theorem cd_listA (hc : X.calm = true) : CD X cl (.type "list") (g1 fun d => (lstOf d).map .lst) := by
  refine CDC.cd ((call_list_txt hc).or call_list_of) fun c σ s T H F α d v z Q J hz k => ?_
  rcases lstOf_cases hz with ⟨y, e, hl, rfl⟩ | h1
  · exact .inl ⟨y, by rw [J.t1s e], le1m_ok hl, fun p hp => k _ _ (J.lstNew hp (rep_strs _))⟩
  · obtain ⟨a, vs, ev, h2, rl⟩ := J.vSeq (J.tmp (d, v) (List.mem_cons_self ..)) h1
    have ev : v = .ref a := ev
    subst ev
    exact .inr ⟨a, vs, rfl, h2, fun l hl => k _ _ (J.lstNew hl rl)⟩
/-! ### zip(a, b, strict=True), as long as one another -/
def zipL : List D → List D → List D
  | a :: as, b :: bs => .kt [a, b] :: zipL as bs
  | _, _ => []
def zipO : Option (List D) → Option (List D) → Option (List D)
  | some xs, some ys => if xs.length = ys.length ∧ xs.length ≤ 1000000 then some (zipL xs ys) else none
  | _, _ => none
def itZip : D → Option (List D)
  | .tup [.str x, .str y] => zipO (itSeq (.str x)) (itSeq (.str y))
  | _ => none
def eZip (f : M (List D)) : M D := fun s => (f s).bind fun ds s => match ds with
  | [a, b] => .ok (.tup [view s.M a, view s.M b]) s
  | _ => .fail
theorem zipL_at : ∀ (as bs : List D) (i : Nat) (e : D), (zipL as bs)[i]? = some e → ∃ a b, as[i]? = some a ∧ bs[i]? = some b ∧ e = .kt [a, b]
  | a :: as, b :: bs, 0, e, h => by cases h; exact ⟨a, b, rfl, rfl, rfl⟩
  | a :: as, b :: bs, i + 1, e, h => zipL_at as bs i e (by simpa [zipL] using h)
  | [], _, _, _, h => by simp [zipL] at h
  | _ :: _, [], _, _, h => by simp [zipL] at h
theorem zipL_len : ∀ (as bs : List D), as.length = bs.length → (zipL as bs).length = as.length
  | [], [], _ => rfl
  | a :: as, b :: bs, h => by
    show (zipL as bs).length + 1 = as.length + 1
    rw [zipL_len as bs (by simpa using h)]
theorem drv_zs {K : PySem.W.Frag} {x y : Str} {P : List (D × V)} (hsz : y.cps.size = x.cps.size) : Drv K cl (ItzS x y x.cps.size) P itZip (.tup [.str x, .str y]) := by
  intro c H σ s T i ds I e
  have e1 : zipO (some (x.cps.toList.map fun c => D.str ⟨#[c]⟩)) (some (y.cps.toList.map fun c => D.str ⟨#[c]⟩)) = some ds := e
  unfold zipO at e1
  dsimp only at e1
  split at e1
  · cases e1
    refine ⟨fun g hg => ?_, fun hl => ?_⟩
    · obtain ⟨a, b, h1, h2, rfl⟩ := zipL_at _ _ _ _ hg
      rw [List.getElem?_map] at h1 h2
      obtain ⟨ca, h3, rfl⟩ := Option.map_eq_some_iff.mp h1
      obtain ⟨cb, h4, rfl⟩ := Option.map_eq_some_iff.mp h2
      have h3' : x.cps[i]? = some ca := by rw [← Array.getElem?_toList]; exact h3
      have h4' : y.cps[i]? = some cb := by rw [← Array.getElem?_toList]; exact h4
      refine ⟨(Array.getElem?_eq_some_iff.mp h3').1, fun v H'' hy => ?_⟩
      obtain ⟨q, c1, d1, rfl, hq, rfl, h5, h6⟩ := hy
      rw [h3'] at h5; cases h5
      rw [h4'] at h6; cases h6
      obtain ⟨F, α, J⟩ := I
      exact J.ktNew hq (.cons .str (.cons .str .nil))
    · rename_i hc
      rw [zipL_len _ _ hc.1, List.length_map, Array.length_toList] at hl
      exact hl
  · cases e1
theorem di_zipS {tgs : List Expr} {tk : Nat} {tp : Pos} {a b : Expr} {f : M (List D)} {p q r pos : Pos} {k : Nat} (hc : X.calm = true) (h : DA X cl W [a, b] f) (hm : X.mg "zip" = none) (hg : Gl X "zip" := by rfl)
    (he : backTo pos (starEach [a, b] X.env) = (false, eval a X.env) :: backTo pos (starEach [b] X.env) := by rfl) (hpl : (backTo pos (starEach [a, b] X.env)).any (·.1) = false := by rfl) :
    DI X cl W (.Tuple tgs tk tp) (.Call (.Name "zip" p) [a, b] [⟨some "strict", .Constant (.bool true) k q, r⟩] pos) (eZip f) itZip := by
  obtain ⟨te, pe, qq⟩ := h
  refine ⟨_, pi_zs hm pe hg he hpl, fun c σ s T H R I w hs => ?_⟩
  refine qq c σ s T H _ I (w.bindA fun ds s1 hfs w1 vs H1 hl I1 => ?_)
  match ds, vs, hl with
  | [d1, d2], [v1, v2], _ =>
    have hs1 := hs (.tup [view s1.M d1, view s1.M d2]) s1 (by unfold eZip; rw [hfs]; rfl)
    have w1 : ∀ H J P, SI X.K cl c H σ s1 (P ++ T) → Drv X.K cl J P itZip (.tup [view s1.M d1, view s1.M d2]) → R J H := w1
    obtain ⟨x, y, e1, e2, hsz⟩ : ∃ x y : Str, view s1.M d1 = .str x ∧ view s1.M d2 = .str y ∧ y.cps.size = x.cps.size := by
      have hs2 : (itZip (.tup [view s1.M d1, view s1.M d2])).isSome = true := hs1
      revert hs2
      generalize view s1.M d1 = u1
      generalize view s1.M d2 = u2
      intro hs2
      cases u1 <;> first | (cases hs2; done) | skip
      cases u2 <;> first | (cases hs2; done) | skip
      rename_i x y
      refine ⟨x, y, rfl, rfl, ?_⟩
      have hs3 : (zipO (some (x.cps.toList.map fun c => D.str ⟨#[c]⟩)) (some (y.cps.toList.map fun c => D.str ⟨#[c]⟩))).isSome = true := hs2
      unfold zipO at hs3
      dsimp only at hs3
      split at hs3
      · rename_i hc
        have := hc.1
        rw [List.length_map, List.length_map, Array.length_toList, Array.length_toList] at this
        exact this.symm
      · cases hs3
    obtain ⟨F, α, J⟩ := _root_.id I1
    rw [e1, e2] at w1
    exact ⟨x, y, by rw [J.t2s e1, J.t1s e2], hsz, w1 H1 _ [] (I1.sub fun p hp => zipT_sub [d1, d2] [v1, v2] T p hp) (drv_zs hsz)⟩
  | [], [], _ => exact w1.elim
  | [_], [_], _ => exact w1.elim
  | _ :: _ :: _ :: _, _, _ => exact w1.elim
/-- x[i] of a list, a tuple, a text, a dict -/
def dSub : D → D → Option D := orD dIxA dGet
theorem de_sub {a b : Expr} {fa fb : M D} {pos : Pos} {k : Nat} (hk : Cok X W k) (ha : DE X cl W a fa) (hb : DE X cl W b fb) (h1 : PlainIx b := by intro _ _; rfl) (h2 : NoSl b := by intro _ _; rfl) : DE X cl W (.Subscript a b pos) (eOp dSub fa fb) :=
  DE.orOp (de_ix ixd_any ha hb h1) (de_dget hk ha hb h2)
end
/-- a tuple of the module's top, its object without a dict -/
def tupNB (K : PySem.W.Frag) (x : Str) (vs : List He.Dv) : Bool := He.tupB K x vs && (match K.lookup (He.ga K x) with
  | some o => o.dict.isNone
  | none => false)
theorem tupNB_ok {K : PySem.W.Frag} {x : Str} {vs : List He.Dv} (h : tupNB K x vs = true) (H : Hp) : SqN K H (He.ga K x) (vs.map (He.Dv.v K)) := by
  unfold tupNB at h
  obtain ⟨h1, h2⟩ := Bool.and_eq_true_iff.mp h
  refine ⟨He.tupB_ok h1 H, .inr ?_⟩
  split at h2
  · rename_i o e
    exact ⟨o, e, by simpa using h2⟩
  · cases h2
end DL

set_option pp.maxSteps 300
/-! DmE: dicts written, dict displays. -/
namespace DL
open PySem PySem.Spec PyProof.Rows L2
section
variable {K : PySem.W.Frag} {cl : Str → Addr} {H : Hp} {F : Addr → Prop} {α : List Addr}
theorem RepK.append : ∀ {a : List (Key × D)} {b : List (Key × V)} {a' : List (Key × D)} {b' : List (Key × V)}, RepK K cl H F α a b → RepK K cl H F α a' b' → RepK K cl H F α (a ++ a') (b ++ b')
  | _, _, _, _, .nil, h => h
  | _, _, _, _, .cons h r, h2 => .cons h (r.append h2)
theorem RepK.mapAt {k : Key} {d : D} {v : V} (h : Rep K cl H F α d v) : ∀ {a : List (Key × D)} {b : List (Key × V)}, RepK K cl H F α a b → RepK K cl H F α (a.map fun kv => if kv.1 = k then (kv.1, d) else kv) (b.map fun kv => if kv.1 = k then (kv.1, v) else kv)
  | _, _, .nil => .nil
  | (g, x) :: a, (_, u) :: b, .cons h1 r => by
    rw [List.map_cons, List.map_cons]
    by_cases q : g = k
    · simp only [q, if_true]; exact .cons h (r.mapAt h)
    · simp only [q, if_false]; exact .cons h1 (r.mapAt h)
theorem RepK.put {k : Key} {d : D} {v : V} {a : List (Key × D)} {b : List (Key × V)} (r : RepK K cl H F α a b) (h : Rep K cl H F α d v) : RepK K cl H F α (putD a k d) (putK b k v) := by
  unfold putD putK
  rw [any_keys r.keys]
  split
  · exact r.mapAt h
  · exact r.append (.cons h .nil)
theorem RepK.len {a : List (Key × D)} {b : List (Key × V)} (r : RepK K cl H F α a b) : a.length = b.length := by
  have := congrArg List.length r.keys
  simpa using this
theorem RepK.zip : ∀ {ks : List Key} {ds : List D} {vs : List V}, RepL K cl H F α ds vs → RepK K cl H F α (ks.zip ds) (ks.zip vs)
  | [], _, _, _ => by simp only [List.zip_nil_left]; exact .nil
  | k :: ks, _, _, .nil => by simp only [List.zip_nil_right]; exact .nil
  | k :: ks, _, _, .cons h r => .cons h (RepK.zip r)
end
def cPut : C → D → D → Option C
  | .dct kvs, i, d => (keyD i).bind fun k => if kvs.length < 1000000 then some (.dct (putD kvs k d)) else none
  | _, _, _ => none
def zipKV : List Key → List V → List (V × V)
  | k :: ks, v :: vs => (kV k, v) :: zipKV ks vs
  | _, _ => []
theorem zipKV_eq : ∀ (ks : List Key) (vs : List V), zipKV ks vs = (ks.zip vs).map fun kv => (kV kv.1, kv.2)
  | [], _ => by simp [zipKV]
  | _ :: _, [] => by simp [zipKV]
  | k :: ks, v :: vs => by simp [zipKV, zipKV_eq ks vs]
theorem merge_nd : ∀ (more kvs : List (Key × V)), ((kvs ++ more).map (·.1)).Nodup → mergeK kvs more = kvs ++ more
  | [], kvs, _ => by rw [List.append_nil]; rfl
  | p :: r, kvs, h => by
    have h1 : (kvs.any fun kv => decide (kv.1 = p.1)) = false := by
      rw [List.any_eq_false]
      intro x hx
      rw [List.map_append, List.map_cons, List.nodup_append] at h
      simp only [decide_eq_true_eq]
      exact h.2.2 x.1 (List.mem_map.mpr ⟨x, hx, rfl⟩) p.1 (List.mem_cons_self ..)
    have e : putK kvs p.1 p.2 = kvs ++ [p] := by
      unfold putK
      rw [h1]
      rfl
    show mergeK (putK kvs p.1 p.2) r = _
    rw [e, merge_nd r (kvs ++ [p]) (by rw [List.append_assoc]; exact h), List.append_assoc]
    rfl
theorem zip_keys {ks : List Key} {vs : List V} (h : ks.length = vs.length) : (ks.zip vs).map (·.1) = ks := List.map_fst_zip (by omega)
section
variable {X : Cx} {cl : Str → Addr} {W : WX} {k : Nat}
theorem set_dct (hu : X.A.units + 1 < cLine) : PSet X (fun o i v H Q => ∃ a H', o = .ref a ∧ DPut H a i v H' ∧ Q H') := by
  intro pins s σ H o i v ov iv u Q I ro ri rv h
  obtain ⟨a, H', rfl, g, q⟩ := h
  obtain rfl : ov = Value.ref a := ro
  exact d_setItem hu I g ri rv fun s' I' => ⟨H', I', q⟩
theorem std_dct (hu : X.A.units + 64 < cLine) : StD X cl cPut := by
  refine ⟨_, set_dct (by omega), fun c σ s T H k x v e u d w y Q I hk hg wn => ?_⟩
  cases x with
  | dct kvs =>
    obtain ⟨key, h1, h2⟩ := Option.bind_eq_some_iff.mp (show ((keyD e).bind fun k => if kvs.length < 1000000 then some (C.dct (putD kvs k d)) else none) = some y from hg)
    split at h2
    · rename_i hz
      cases h2
      obtain ⟨F, α, J⟩ := I
      have rp : Rep X.K cl H F α (.ptr k) v := J.tmp (.ptr k, v) (List.mem_cons_of_mem _ (List.mem_cons_self ..))
      have re : Rep X.K cl H F α e u := J.tmp (e, u) (List.mem_cons_self ..)
      have rd : Rep X.K cl H F α d w := J.tmp (d, w) (List.mem_cons_of_mem _ (List.mem_cons_of_mem _ (List.mem_cons_self ..)))
      have eu := keyD_rep re h1
      subst eu
      cases rp with
      | ptr ha =>
        rename_i a
        obtain ⟨⟨vs, h3, h4⟩, nF⟩ := J.cel k _ a hk ha
        refine ⟨a, _, rfl, DPut.k h3 (by rw [← h4.len, sizeLine_eq]; omega), wn _ ⟨F, α, ?_⟩⟩
        have J2 := J.setCell (y := .dct (putD kvs key d)) (o := .dK (putK vs key w)) hk ha fun E => ⟨putK vs key w, upd_same, (h4.put rd).ext E⟩
        exact J2.temps fun p hp => J2.tmp p (List.mem_cons_of_mem _ (List.mem_cons_of_mem _ (List.mem_cons_of_mem _ hp)))
    · cases h2
  | _ => cases hg
/-- the pairs of a display, its keys constants -/
structure DPs (X : Cx) (cl : Str → Addr) (W : WX) (pos : Pos) (keys : List (Option Expr)) (values : List Expr) (ks : List Key) (f : M (List D)) : Prop where
  ex : ∃ trs, PPs X pos keys values trs ∧ ∀ c σ s T H (Q : List (V × V) → Hp → Prop), SI X.K cl c H σ s T → WantA X.K cl W c σ T (f s) (fun vs H' => Q (zipKV ks vs) H') → tPairs trs σ H Q
theorem dp_nil {pos : Pos} : DPs X cl W pos [] [] [] aNil := by
  refine ⟨[], pps_nil, fun c σ s T H Q I w => ?_⟩
  exact w [] H rfl I
theorem dp_cons {pos : Pos} {kx vx : Expr} {keys : List (Option Expr)} {values : List Expr} {key : Key} {ks : List Key} {f : M D} {g : M (List D)} (hk : PE X kx (tC (kV key))) (hv : DE X cl W vx f) (hr : DPs X cl W pos keys values ks g) :
    DPs X cl W pos (some kx :: keys) (vx :: values) (key :: ks) (aCons f g) := by
  obtain ⟨tv, pv, qv⟩ := hv
  obtain ⟨trs, pr, qr⟩ := hr
  refine ⟨_, pps_cons hk pv pr, fun c σ s T H Q I w => ?_⟩
  show tv σ H fun y H2 => tPairs trs σ H2 fun ps H3 => Q ((kV key, y) :: ps) H3
  refine qv c σ s T H _ I (w.bind fun d s1 _ w1 v H1 I1 => ?_)
  refine qr c σ s1 _ H1 (fun ps H3 => Q ((kV key, v) :: ps) H3) I1 ?_
  cases hg : g s1 with
  | fail => rw [hg] at w1; exact w1
  | exc n fs s2 => rw [hg] at w1; exact fun dx H e i => w1 dx H e (i.xt fun p hp => List.mem_cons_of_mem _ hp)
  | ok ds s2 =>
    rw [hg] at w1
    exact fun vs H2 hl I2 => w1 (v :: vs) H2 (by rw [List.length_cons, List.length_cons, hl]) I2
theorem disp_any {pos : Pos} {keys : List (Option Expr)} {values : List Expr} {ks : List Key} {f : M (List D)} {fin : List D → S → Out D} (h : DPs X cl W pos keys values ks f) (hall : keys.all (·.isSome) = true) (hl : keys.length = values.length) (h0 : keys ≠ []) (h15 : keys.length ≤ 15) (hk15 : ks.length ≤ 15) (hnd : ks.Nodup)
    (hfin : ∀ (c : Cz) (σ : L2.St) (T : List (D × V)) (Q : VK) (ds : List D) (s2 : S) (H' : Hp) (F : Addr → Prop) (α : List Addr) (vs : List V) (p : Addr), ks.length = ds.length → SIx X.K cl c H' σ s2 T F α → Sid c H' F α p (.dK (ks.zip vs)) → RepK X.K cl H' F α (ks.zip ds) (ks.zip vs) → Want X.K cl W c σ T (fin ds s2) Q → Q (.ref p) H') :
    DE X cl W (.Dict keys values pos) (fun s => (f s).bind fun ds s1 => if ks.length = ds.length then fin ds s1 else .fail) := by
  obtain ⟨trs, pp, qq⟩ := h
  refine ⟨_, pe_disp pp hall hl h0 h15, fun c σ s T H Q I w p hp => ?_⟩
  obtain ⟨F, α, J⟩ := I
  have nα : p ∉ α := fun hm => by
    obtain ⟨o, e⟩ := J.dom p hm
    rw [hp] at e; cases e
  have nF : ¬ F p := fun hm => by
    obtain ⟨o, e⟩ := J.domF p hm
    rw [hp] at e; cases e
  have old : p ∈ c.β ∨ c.H0 p = none := by
    cases q : c.H0 p with
    | none => exact .inr rfl
    | some u =>
      by_cases hm : p ∈ c.β
      · exact .inl hm
      · have := J.keep p u q hm
        rw [hp] at this; cases this
  have J1 := J.besideO (o := .dK []) nα nF old (no_nt hp)
  refine qq ⟨upd H p (.dK []), α, F⟩ σ s T _ _ ⟨F, α, J1.nest⟩ ?_
  have w : Want X.K cl W c σ T ((f s).bind fun ds s1 => if ks.length = ds.length then fin ds s1 else .fail) Q := w
  cases hf : f s with
  | fail => rw [hf] at w; exact w
  | exc n fs s2 => rw [hf] at w; exact fun dx H' e ⟨F', α', J'⟩ => w dx H' e ⟨F', α', J1.unnest J'⟩
  | ok ds s2 =>
    rw [hf] at w
    intro vs H2 hl2 ⟨F2, α2, J3⟩
    have w : Want X.K cl W c σ T (if ks.length = ds.length then fin ds s2 else .fail) Q := w
    by_cases hkl : ks.length = ds.length
    · rw [if_pos hkl] at w
      have S : Sid c (upd H p (.dK [])) F α p (.dK []) := ⟨upd_same, nα, nF, old⟩
      have S2 := S.after J3
      have J4 := J1.unnest J3
      have J5 := J4.besideO (o := .dK (ks.zip vs)) S2.nα S2.nF S2.old (dK_nt S2.at_)
      have rl := J5.args hl2
      have hz : (ks.zip vs).map (·.1) = ks := zip_keys (by rw [hkl, hl2])
      refine ⟨S2.at_, ks.zip vs, zipKV_eq ks vs, by rw [List.length_zip]; omega, ?_⟩
      rw [merge_nd (ks.zip vs) [] (by rw [List.nil_append, hz]; exact hnd), List.nil_append]
      exact hfin c σ T Q ds s2 _ F2 α2 vs p hkl (J5.temps fun q hq => J5.tmp q (zipT_sub ds vs T q hq)) ⟨upd_same, S2.nα, S2.nF, S2.old⟩ (RepK.zip rl) w
    · rw [if_neg hkl] at w; exact w.elim
def eDisp (ks : List Key) (f : M (List D)) : M D := fun s => (f s).bind fun ds s1 => if ks.length = ds.length then .ok (.dct (ks.zip ds)) s1 else .fail
def eDispC (ks : List Key) (f : M (List D)) : M D := fun s => (f s).bind fun ds s1 => if ks.length = ds.length then .ok (.ptr s1.M.length) { s1 with M := s1.M ++ [some (.dct (ks.zip ds))] } else .fail
theorem de_disp {pos : Pos} {keys : List (Option Expr)} {values : List Expr} {ks : List Key} {f : M (List D)} (h : DPs X cl W pos keys values ks f) (hall : keys.all (·.isSome) = true := by rfl) (hl : keys.length = values.length := by rfl) (h0 : keys ≠ [] := by intro h; cases h) (h15 : decide (keys.length ≤ 15) = true := by rfl) (hk15 : decide (ks.length ≤ 15) = true := by rfl) (hnd : ks.Nodup := by decide +kernel) :
    DE X cl W (.Dict keys values pos) (eDisp ks f) :=
  disp_any (fin := fun ds s1 => .ok (.dct (ks.zip ds)) s1) h hall hl h0 (of_decide_eq_true h15) (of_decide_eq_true hk15) hnd fun c σ T Q ds s2 H' F α vs p hkl I SD r w => by
    obtain ⟨I2, E⟩ := I.freeze SD
    exact w _ H' ⟨_, α, I2.push (.dct SD.at_ (.inr rfl) (RepK.ext E r))⟩
theorem de_dispC {pos : Pos} {keys : List (Option Expr)} {values : List Expr} {ks : List Key} {f : M (List D)} (h : DPs X cl W pos keys values ks f) (hall : keys.all (·.isSome) = true := by rfl) (hl : keys.length = values.length := by rfl) (h0 : keys ≠ [] := by intro h; cases h) (h15 : decide (keys.length ≤ 15) = true := by rfl) (hk15 : decide (ks.length ≤ 15) = true := by rfl) (hnd : ks.Nodup := by decide +kernel) :
    DE X cl W (.Dict keys values pos) (eDispC ks f) :=
  disp_any (fin := fun ds s1 => .ok (.ptr s1.M.length) { s1 with M := s1.M ++ [some (.dct (ks.zip ds))] }) h hall hl h0 (of_decide_eq_true h15) (of_decide_eq_true hk15) hnd fun c σ T Q ds s2 H' F α vs p hkl I SD r w =>
    w _ H' (I.addCell (x := .dct (ks.zip ds)) ⟨ks.zip vs, SD.at_, r⟩ SD.nα SD.nF SD.old ⟨_, SD.at_⟩)
end
end DL

/-! DmA: texts, lists and tuples times an int; the empty dict; repr of a bool. -/
namespace DL
open PySem PySem.Spec PyProof.Rows L2
theorem tuple_mul1 (l : Addr) (items : Array Value) (n : Nat) (dd : Option Addr) (sl : Array (Option Value)) (u : Tok) :
    Meets (Builtin.«tuple.__mul__» ⟨[.ref l, .int 1 u], []⟩) (fun _ R s => s.heap.get? l = some { cls := .type "tuple", dict := dd, data := .seq items n, slots := sl } ∧ R (.ok (.ret (Value.ref l))) s) :=
  .of_wp fun prog w A R s h => by
    obtain ⟨hp, g, d, tk, os⟩ := s
    obtain ⟨hl, h⟩ := h
    have f1 := AutoSeq1.idx_int
    have c1 : (items.isEmpty || (1 : Int) == 1) = true := by simp
    wp_walk using wpAny_loadPart' hl
    repeat (first
      | (refine wpAny_ite_true (decide_eq_true (by rw [c1])) ?_; wp_walk using wpAny_loadPart' hl)
      | (refine wpAny_ite_true (decide_eq_true c1) ?_; wp_walk using wpAny_loadPart' hl))
    exact ⟨_, rfl, h⟩
theorem tuple_mul0 (l : Addr) (items : Array Value) (n : Nat) (dd : Option Addr) (sl : Array (Option Value)) (u : Tok) (c1 : (items.isEmpty || (0 : Int) == 1) = false) :
    Meets (Builtin.«tuple.__mul__» ⟨[.ref l, .int 0 u], []⟩) (fun _ R s => s.heap.get? l = some { cls := .type "tuple", dict := dd, data := .seq items n, slots := sl } ∧
      R (.ok (.ret (Value.ref s.heap.objs.size))) { s with heap := s.heap.push { cls := Value.type "tuple", data := Data.seq #[] }, toks := s.toks }) :=
  .of_wp fun prog w A R s h => by
    obtain ⟨hp, g, d, tk, os⟩ := s
    obtain ⟨hl, h⟩ := h
    have f1 := AutoSeq1.idx_int
    have c2 : (decide ((0 : Int) ≤ 0) || items.isEmpty) = true := by simp
    wp_walk using wpAny_loadPart' hl
    repeat (first
      | (refine wpAny_ite_false (decide_eq_false (by rw [c1]; exact Bool.false_ne_true)) ?_; wp_walk using wpAny_loadPart' hl)
      | (refine wpAny_ite_true (decide_eq_true (by rw [c2])) ?_; wp_walk using wpAny_loadPart' hl)
      | (refine wpAny_ite_true (decide_eq_true c2) ?_; wp_walk using wpAny_loadPart' hl))
    exact ⟨_, rfl, h⟩
/-- t * n -/
def rRepN (K : PySem.W.Frag) : R2 := fun x y H Q => ∃ l k xs, x = .ref l ∧ y = .int k ∧ SqT K H l xs ∧ xs ≠ [] ∧ 0 ≤ k ∧ k ≤ 1000 ∧ xs.length ≤ 1000 ∧ (k = 1 → Q (.ref l) H) ∧ (k ≠ 1 → NewN H (List.replicate k.toNat xs).flatten Q)
section
variable {X : Cx}
theorem op_repN : OpR X (binaryOp .Mult) (rRepN X.K) := by
  intro pins s σ H x y v u Q I rx ry h
  obtain ⟨l, k, xs, rfl, rfl, hT, hne, h1, h2, hz, q1, q2⟩ := h
  cases rx
  obtain ⟨t, rfl⟩ := ry
  obtain ⟨its, r, ⟨⟨cls, dd, data, sl⟩, ho, hc, n, hd⟩, hs⟩ := I.tuple hT
  simp only at hc hd
  subst hc hd
  have hle : its.length = xs.length := r.length.symm
  have hn : its ≠ [] := fun e => hne (by
    rw [e] at hle
    exact List.eq_nil_of_length_eq_zero hle.symm)
  have hi : its.toArray.isEmpty = false := by
    cases its with
    | nil => exact absurd rfl hn
    | cons a b => rfl
  have hsz0 : its.toArray.size = xs.length := by rw [List.size_toArray, hle]
  by_cases k1 : k = 1
  · subst k1
    exact wpAny_binaryOp_repeat_ref (T := "tuple") (U := "int") (by decide) ⟨_, ho, rfl⟩ (fun s' => typeIs_int s' 1 t) noFill_tuple_mul F.fills_int_mul F.slot_int_rmul repeat_tuple F.slot_int_index.lookup
      (call_meets F.slot_int_rmul (typeIs_int s 1 t) F.entry_int_rmul (F.args_int_rmul_2 _ _) (int_rmul_tuple 1 t l its.toArray n dd sl)
        ⟨ho, rfl, ⟨_, ho, rfl⟩, call_meets F.slot_tuple_mul ⟨_, ho, rfl⟩ F.entry_tuple_mul (F.args_tuple_mul_2 _ _) (tuple_mul1 l its.toArray n dd sl t) ⟨ho, ⟨.ref l, H, I, rfl, q1 rfl⟩⟩⟩)
  · have q := q2 k1
    have flen : (List.replicate k.toNat its).flatten.length ≤ sizeLine := by
      rw [PyProof.Rows.lm_len_rep_flat, hle, sizeLine_eq]
      have a1 : k.toNat * xs.length ≤ 1000 * 1000 := Nat.mul_le_mul (by omega) hz
      omega
    have fin : ∀ s', Inv X pins σ H s' → ∀ a, a = (List.replicate k.toNat its).flatten.toArray → (∃ z H', Inv X pins σ H' { s' with heap := s'.heap.push { cls := Value.type "tuple", data := Data.seq a } } ∧ RelV z (Value.ref s'.heap.objs.size) ∧ Q z H') := fun s' I' a ha => by
      subst ha
      refine ⟨.ref _, _, new_frz (t' := s'.toks) I' (r.rep k.toNat) (by rw [PyProof.Rows.lm_len_rep_flat, ← hle, ← PyProof.Rows.lm_len_rep_flat]; exact flen), rfl, q _ (I'.hok.fresh (Nat.le_refl _)) _ rfl⟩
    by_cases k0 : k = 0
    · subst k0
      exact wpAny_binaryOp_repeat_ref (T := "tuple") (U := "int") (by decide) ⟨_, ho, rfl⟩ (fun s' => typeIs_int s' 0 t) noFill_tuple_mul F.fills_int_mul F.slot_int_rmul repeat_tuple F.slot_int_index.lookup
        (call_meets F.slot_int_rmul (typeIs_int s 0 t) F.entry_int_rmul (F.args_int_rmul_2 _ _) (int_rmul_tuple 0 t l its.toArray n dd sl)
          ⟨ho, rfl, ⟨_, ho, rfl⟩, call_meets F.slot_tuple_mul ⟨_, ho, rfl⟩ F.entry_tuple_mul (F.args_tuple_mul_2 _ _) (tuple_mul0 l its.toArray n dd sl t (by rw [hi]; rfl)) ⟨ho, fin s I _ rfl⟩⟩)
    have hm : ((its.toArray.size : Nat) : Int) * k ≤ 1000000 := by
      rw [hsz0]
      have a1 : ((xs.length : Nat) : Int) * k ≤ 1000 * k := Int.mul_le_mul_of_nonneg_right (by omega) (by omega)
      omega
    have c0 : (decide (k < -(2 ^ 63)) || decide (k ≥ 2 ^ 63)) = false := by
      rw [decide_eq_false (by omega), decide_eq_false (by omega)] <;> rfl
    have c1 : (its.toArray.isEmpty || k == 1) = false := by
      rw [hi, Bool.false_or]
      exact beq_eq_false_iff_ne.mpr (by omega)
    have c2 : (decide (k ≤ 0) || its.toArray.isEmpty) = false := by
      rw [hi, Bool.or_false]
      exact decide_eq_false (by omega)
    have c4 : Builtin.Tuple.tupleTooMany (((its.toArray.size : Nat) : Int) * k) = false := by
      unfold Builtin.Tuple.tupleTooMany
      rw [sizeLine_eq]
      exact decide_eq_false (by omega)
    exact wpAny_binaryOp_repeat_ref (T := "tuple") (U := "int") (by decide) ⟨_, ho, rfl⟩ (fun s' => typeIs_int s' k t) noFill_tuple_mul F.fills_int_mul F.slot_int_rmul repeat_tuple F.slot_int_index.lookup
      (call_meets F.slot_int_rmul (typeIs_int s k t) F.entry_int_rmul (F.args_int_rmul_2 _ _) (int_rmul_tuple k t l its.toArray n dd sl)
        ⟨ho, rfl, ⟨_, ho, rfl⟩, call_meets F.slot_tuple_mul ⟨_, ho, rfl⟩ F.entry_tuple_mul (F.args_tuple_mul_2 _ _) (tuple_mulW l its.toArray n dd sl k t c0 c1 c2 (by omega) c4 (by rw [size_rep, List.size_toArray]; exact flen)) ⟨ho, fin s I _ (size_rep its k.toNat)⟩⟩)
theorem op_repS : OpR X (binaryOp .Mult) (fun x y H Q => ∃ z k, x = .str z ∧ y = .int k ∧ z.length ≤ 16 ∧ -(2 ^ 63) ≤ k ∧ k ≤ 1000000 ∧ Q (.str (Txt.mul z k)) H) := by
  intro pins s σ H x y v u Q I rx ry h
  obtain ⟨z, k, rfl, rfl, hz, h1, h2, q⟩ := h
  obtain ⟨t, rfl⟩ := rx
  obtain ⟨t2, rfl⟩ := ry
  exact SB.mul (mulOk_of 16 1000000 hz h2 h1 (by decide) (by decide)) fun t' k' => ⟨.str _, H, I.tok _, ⟨_, rfl⟩, q⟩
end
section
variable {X : Cx} {cl : Str → Addr} {W : WX}
def dRepS : D → D → Option D
  | .str z, .int k => if decide (z.length ≤ 16) && decide (-(2 ^ 63) ≤ k) && decide (k ≤ 1000000) then some (.str (Txt.mul z k)) else none
  | _, _ => none
theorem od_repS : OpD X cl (binaryOp .Mult) dRepS := by
  refine ⟨_, op_repS, fun c σ s T H d x e y z Q ⟨F, α, I⟩ hz k => ?_⟩
  unfold dRepS at hz
  split at hz
  · rename_i w i e1 e2
    split at hz
    · rename_i hl
      cases hz
      simp only [Bool.and_eq_true, decide_eq_true_eq] at hl
      exact ⟨w, i, I.vStr (I.tmp (d, x) (List.mem_cons_of_mem _ (List.mem_cons_self ..))) e1, I.vInt (I.tmp (e, y) (List.mem_cons_self ..)) e2, hl.1.1, hl.1.2, hl.2, k _ H (SI.flat rfl ⟨F, α, I⟩)⟩
    · cases hz
  · cases hz
theorem RepL.rep {K : PySem.W.Frag} {H : Hp} {F : Addr → Prop} {α : List Addr} {ds : List D} {vs : List V} (r : RepL K cl H F α ds vs) : ∀ k : Nat, RepL K cl H F α (List.replicate k ds).flatten (List.replicate k vs).flatten
  | 0 => .nil
  | k + 1 => by
    rw [List.replicate_succ, List.flatten_cons, List.replicate_succ, List.flatten_cons]
    exact r.append (RepL.rep r k)
def dRepL : D → D → Option D
  | .lst a, .int k => if decide (0 ≤ k) && decide (k ≤ 1000) && decide (a.length ≤ 1000) then some (.lst (List.replicate k.toNat a).flatten) else none
  | _, _ => none
theorem od_repL : OpD X cl (binaryOp .Mult) dRepL := by
  refine ⟨_, op_rep, fun c σ s T H d x e y z Q ⟨F, α, I⟩ hz k => ?_⟩
  have r1 := I.tmp (d, x) (List.mem_cons_of_mem _ (List.mem_cons_self ..))
  have r2 := I.tmp (e, y) (List.mem_cons_self ..)
  unfold dRepL at hz
  split at hz
  · rename_i a i e1 e2
    split at hz
    · rename_i hl
      cases hz
      simp only [Bool.and_eq_true, decide_eq_true_eq] at hl
      obtain ⟨p, vs, e3, h1, q1⟩ := I.vLst r1 e1
      have e3 : x = .ref p := e3
      have e4 : y = .int i := I.vInt r2 e2
      subst e3 e4
      refine ⟨p, i, vs, rfl, rfl, h1, by omega, by omega, ?_, fun q hq => ?_⟩
      · rw [← q1.length, sizeLine_eq]
        have a1 : a.length * i.toNat ≤ 1000 * 1000 := Nat.mul_le_mul hl.2 (by omega)
        omega
      · have e := ext_new (o := .lst (List.replicate i.toNat vs).flatten) I hq
        exact k _ _ (((I.newF hq).push (.lst upd_same (.inr rfl) ((q1.rep i.toNat).ext e))).si)
    · cases hz
  · cases hz
def dRepT : D → D → Option D
  | .tup a, .int k => if decide (0 ≤ k) && decide (k ≤ 1000) && decide (a.length ≤ 1000) && decide (0 < a.length) then some (.tup (List.replicate k.toNat a).flatten) else none
  | _, _ => none
theorem od_repT : OpD X cl (binaryOp .Mult) dRepT := by
  refine ⟨_, op_repN, fun c σ s T H d x e y z Q ⟨F, α, I⟩ hz k => ?_⟩
  have r1 := I.tmp (d, x) (List.mem_cons_of_mem _ (List.mem_cons_self ..))
  have r2 := I.tmp (e, y) (List.mem_cons_self ..)
  unfold dRepT at hz
  split at hz
  · rename_i a i e1 e2
    split at hz
    · rename_i hl
      cases hz
      simp only [Bool.and_eq_true, decide_eq_true_eq] at hl
      obtain ⟨p, vs, e3, h1, q1⟩ := I.vTupN r1 e1
      have e3 : x = .ref p := e3
      have e4 : y = .int i := I.vInt r2 e2
      subst e3 e4
      refine ⟨p, i, vs, rfl, rfl, h1.1, fun h => ?_, by omega, by omega, by rw [← q1.length]; omega, fun h => ?_, fun h q hq ob hd => ?_⟩
      · have := q1.nil_iff.mp h
        subst this
        simp at hl
      · subst h
        exact k _ _ ((I.push (d := .tup (List.replicate (1 : Int).toNat a).flatten) (.tup h1 (by show RepL _ _ _ _ _ [a].flatten _; rw [List.flatten_cons, List.flatten_nil, List.append_nil]; exact q1))).si)
      · have e := ext_new (o := .frz ob (.tup (List.replicate i.toNat vs).flatten)) I hq
        exact k _ _ (((I.newF hq).push (.tup (SqN.of upd_same hd) ((q1.rep i.toNat).ext e))).si)
    · cases hz
  · cases hz
def dMul : D → D → Option D := orD dMulI (orD dRepS (orD dRepL dRepT))
theorem od_mul : OpD X cl (binaryOp .Mult) dMul := od_mulI.or (od_repS.or (od_repL.or od_repT))
/-- {} -/
theorem de_dnew {pos : Pos} : DE X cl W (.Dict [] [] pos) (eC (.dct [])) :=
  ⟨_, pe_dnewK, fun c σ s T H Q ⟨F, α, I⟩ w p hp => w _ _ ⟨_, α, (I.newF hp).push (.dct upd_same (.inr rfl) .nil)⟩⟩
end
end DL

/-! DlU: reckoning with the readings. -/
namespace DL
open PySem L2
open PySem.Spec PyProof.Rows
@[simp] theorem eVar_eq (i : Nat) (s : S) : DL.eVar i s = (match s.env[i]? with
  | some (some d) => .ok d s
  | _ => .fail) := (rfl)
@[simp] theorem eC_eq (d : D) (s : S) : DL.eC d s = (.ok d s) := (rfl)
@[simp] theorem eOp_eq (g : D → D → Option D) (fa fb : M D) (s : S) : DL.eOp g fa fb s = ((fa s).bind fun x s => (fb s).bind fun y s => oOf (g (view s.M x) (view s.M y)) s) := (rfl)
@[simp] theorem oOf_eq (o : Option D) (s : S) : DL.oOf o s = (match o with
  | some d => .ok d s
  | none => .fail) := (rfl)
@[simp] theorem eCB_eq (g : List D → Option D) (f : M (List D)) (s : S) : DL.eCB g f s = ((f s).bind fun ds s => oOf (g (ds.map (view s.M))) s) := (rfl)
@[simp] theorem eCBC_eq (g : List D → Option (List D)) (f : M (List D)) (s : S) : DL.eCBC g f s = ((f s).bind fun ds s => match g (ds.map (view s.M)) with
  | some xs => .ok (.ptr s.M.length) { s with M := s.M ++ [some (.lst xs)] }
  | none => .fail) := (rfl)
@[simp] theorem eTup_eq (f : M (List D)) (s : S) : DL.eTup f s = ((f s).bind fun ds s => if ds.length ≤ 1000000 then .ok (.tup ds) s else .fail) := (rfl)
@[simp] theorem eLst_eq (f : M (List D)) (s : S) : DL.eLst f s = ((f s).bind fun ds s => if ds.length ≤ 1000000 then .ok (.lst ds) s else .fail) := (rfl)
@[simp] theorem eLstC_eq (f : M (List D)) (s : S) : DL.eLstC f s = ((f s).bind fun ds s => if ds.length ≤ 1000000 then .ok (.ptr s.M.length) { s with M := s.M ++ [some (.lst ds)] } else .fail) := (rfl)
@[simp] theorem aNil_eq (s : S) : DL.aNil  s = (.ok [] s) := (rfl)
@[simp] theorem aCons_eq (f : M D) (g : M (List D)) (s : S) : DL.aCons f g s = ((f s).bind fun d s => (g s).bind fun ds s => .ok (d :: ds) s) := (rfl)
@[simp] theorem tOf_eq (f : M D) (s : S) : DL.tOf f s = ((f s).bind bOf) := (rfl)
@[simp] theorem bOf_eq (d : D) (s : S) : DL.bOf d s = (match d with
  | .bl b => .ok b s
  | _ => .fail) := (rfl)
@[simp] theorem tAndM_eq (f g : M Bool) (s : S) : DL.tAndM f g s = ((f s).bind fun b s => if b = true then g s else .ok false s) := (rfl)
@[simp] theorem tOrM_eq (f g : M Bool) (s : S) : DL.tOrM f g s = ((f s).bind fun b s => if b = true then .ok true s else g s) := (rfl)
@[simp] theorem tNotM_eq (f : M Bool) (s : S) : DL.tNotM f s = ((f s).bind fun b s => .ok (!b) s) := (rfl)
@[simp] theorem eAnd_eq (f g : M D) (s : S) : DL.eAnd f g s = ((f s).bind fun d s => match d with
  | .bl true => g s
  | .bl false => .ok (.bl false) s
  | _ => .fail) := (rfl)
@[simp] theorem eOr_eq (f g : M D) (s : S) : DL.eOr f g s = ((f s).bind fun d s => match d with
  | .bl true => .ok (.bl true) s
  | .bl false => g s
  | _ => .fail) := (rfl)
@[simp] theorem eNot_eq (f : M D) (s : S) : DL.eNot f s = ((f s).bind fun d s => match d with
  | .bl b => .ok (.bl (!b)) s
  | _ => .fail) := (rfl)
@[simp] theorem eIf_eq (t : M Bool) (f g : M D) (s : S) : DL.eIf t f g s = ((t s).bind fun b s => if b = true then f s else g s) := (rfl)
@[simp] theorem eNeg_eq (f : M D) (s : S) : DL.eNeg f s = ((f s).bind fun d s => match d with
  | .int i => .ok (.int (-i)) s
  | _ => .fail) := (rfl)
@[simp] theorem sNx_eq (s : S) : DL.sNx  s = (.ok .nx s) := (rfl)
@[simp] theorem sSeq_eq (f g : M Fl) (s : S) : DL.sSeq f g s = ((f s).bind fun r s => match r with
  | .nx => g s
  | r => .ok r s) := (rfl)
@[simp] theorem sBrk_eq (s : S) : DL.sBrk  s = (.ok .brk s) := (rfl)
@[simp] theorem sCt_eq (s : S) : DL.sCt  s = (.ok .ct s) := (rfl)
@[simp] theorem sExpr_eq (f : M D) (s : S) : DL.sExpr f s = ((f s).bind fun _ s => .ok .nx s) := (rfl)
@[simp] theorem sRet_eq (f : M D) (s : S) : DL.sRet f s = ((f s).bind fun d s => .ok (.ret d) s) := (rfl)
@[simp] theorem sIf_eq (t : M Bool) (f g : M Fl) (s : S) : DL.sIf t f g s = ((t s).bind fun b s => if b = true then f s else g s) := (rfl)
@[simp] theorem sSet_eq (i : Nat) (f : M D) (s : S) : DL.sSet i f s = ((f s).bind fun d s => setV i d s) := (rfl)
@[simp] theorem setV_eq (i : Nat) (d : D) (s : S) : DL.setV i d s = (if i < s.env.length then .ok .nx { s with env := s.env.set i (some d) } else .fail) := (rfl)
@[simp] theorem sAsg_eq (f : M D) (g : D → M Unit) (s : S) : DL.sAsg f g s = ((f s).bind fun d s => (g d s).bind fun _ s => .ok .nx s) := (rfl)
@[simp] theorem sPar_eq (i j : Nat) (f : M (List D)) (s : S) : DL.sPar i j f s = ((f s).bind fun ds s => match ds with
  | [d, e] => if i < s.env.length ∧ j < s.env.length then .ok .nx { s with env := (s.env.set i (some d)).set j (some e) } else .fail
  | _ => .fail) := (rfl)
@[simp] theorem sAug_eq (i : Nat) (g : D → D → Option D) (f : M D) (s : S) : DL.sAug i g f s = (match s.env[i]? with
  | some (some d) => (f s).bind fun e s1 => match g (view s1.M d) (view s1.M e) with
    | some z => setV i z s1
    | none => .fail
  | _ => .fail) := (rfl)
@[simp] theorem hVar_eq (i : Nat) (d : D) (s : S) : DL.hVar i d s = (if i < s.env.length then .ok () { s with env := s.env.set i (some d) } else .fail) := (rfl)
@[simp] theorem hSub_eq (g : C → D → D → Option C) (fo fi : M D) (d : D) (s : S) : DL.hSub g fo fi d s = ((fo s).bind fun o s => (fi s).bind fun i s => stC g o i d s) := (rfl)
@[simp] theorem stC_eq (g : C → D → D → Option C) (o i d : D) (s : S) : DL.stC g o i d s = (match o with
  | .ptr k => match s.M[k]? with
    | some (some x) => match g x i d with
      | some y => .ok () { s with M := s.M.set k (some y) }
      | none => .fail
    | _ => .fail
  | _ => .fail) := (rfl)
@[simp] theorem eSl_eq (g : D → Option Int → Option Int → Option D) (f : M D) (lo hi : M (Option Int)) (s : S) : DL.eSl g f lo hi s = ((f s).bind fun d s => (lo s).bind fun l s => (hi s).bind fun h s => oOf (g (view s.M d) l h) s) := (rfl)
@[simp] theorem oNone_eq (s : S) : DL.oNone  s = (.ok none s) := (rfl)
@[simp] theorem oSome_eq (f : M D) (s : S) : DL.oSome f s = ((f s).bind fun d s => match view s.M d with
  | .int i => .ok (some i) s
  | _ => .fail) := (rfl)
@[simp] theorem eUn_eq (g : D → Option D) (f : M D) (s : S) : DL.eUn g f s = ((f s).bind fun d s => oOf (g (view s.M d)) s) := (rfl)
@[simp] theorem eBM_eq (t : String) (g : D → List D → Option D) (fo : M D) (fa : M (List D)) (s : S) : DL.eBM t g fo fa s = ((fo s).bind fun d s1 => if tyN (view s1.M d) = some t then (fa s1).bind fun ds s2 => oOf (g (view s2.M d) (ds.map (view s2.M))) s2 else .fail) := (rfl)
@[simp] theorem eBM0_eq (t : String) (g : D → List D → Option D) (fo : M D) (s : S) : DL.eBM0 t g fo s = ((fo s).bind fun d s1 => if tyN (view s1.M d) = some t then oOf (g (view s1.M d) []) s1 else .fail) := (rfl)
@[simp] theorem eCM_eq (t : String) (g : C → List D → Option (D × C)) (fo : M D) (fa : M (List D)) (s : S) : DL.eCM t g fo fa s = ((fo s).bind fun d s1 => if tyN (view s1.M d) = some t then (fa s1).bind fun ds s2 => onC g d ds s2 else .fail) := (rfl)
@[simp] theorem eCM0_eq (t : String) (g : C → List D → Option (D × C)) (fo : M D) (s : S) : DL.eCM0 t g fo s = ((fo s).bind fun d s1 => if tyN (view s1.M d) = some t then onC g d [] s1 else .fail) := (rfl)
@[simp] theorem onC_eq (g : C → List D → Option (D × C)) (d : D) (ds : List D) (s : S) : DL.onC g d ds s = (match d with
  | .ptr k => match s.M[k]? with
    | some (some x) => oC k (g x ds) s
    | _ => .fail
  | _ => .fail) := (rfl)
@[simp] theorem oC_eq (k : Nat) (o : Option (D × C)) (s : S) : DL.oC k o s = (match o with
  | some (z, y) => .ok z { s with M := s.M.set k (some y) }
  | none => .fail) := (rfl)
@[simp] theorem eCall_eq (io : List Bool) (sem : Sem) (f : M (List D)) (s : S) : DL.eCall io sem f s = ((f s).bind fun ds s => callS io sem ds s) := (rfl)
@[simp] theorem eCallC_eq (io : List Bool) (sem : Sem) (f : M (List D)) (s : S) : DL.eCallC io sem f s = ((f s).bind fun ds s => callSC io sem ds s) := (rfl)
@[simp] theorem eCallK_eq (io : List Bool) (sem : Sem) (n m : Nat) (ix : List Nat) (f fk : M (List D)) (s : S) : DL.eCallK io sem n m ix f fk s = ((f s).bind fun ds s => (fk s).bind fun es s => if ds.length = n ∧ es.length = m then callS io sem (pick ix (ds ++ es)) s else .fail) := (rfl)
@[simp] theorem eRng1_eq (f : M (List D)) (s : S) : DL.eRng1 f s = ((f s).bind fun ds s => match ds with
  | [.int n] => if rngOk n then .ok (.tup [.int 0, .int n]) s else .fail
  | _ => .fail) := (rfl)
@[simp] theorem eRng2_eq (f : M (List D)) (s : S) : DL.eRng2 f s = ((f s).bind fun ds s => match ds with
  | [.int a, .int b] => if rngOk a && rngOk b then .ok (.tup [.int a, .int b]) s else .fail
  | _ => .fail) := (rfl)
@[simp] theorem eZip_eq (f : M (List D)) (s : S) : DL.eZip f s = ((f s).bind fun ds s => match ds with
  | [a, b] => .ok (.tup [view s.M a, view s.M b]) s
  | _ => .fail) := (rfl)
@[simp] theorem tYesM_eq (s : S) : DL.tYesM  s = (.ok true s) := (rfl)
@[simp] theorem gVar_eq (i : Nat) (d : D) (s : S) : DL.gVar i d s = (if i < s.env.length then some { s with env := s.env.set i (some d) } else none) := (rfl)
@[simp] theorem eFail_eq {α : Type} (s : S) : (DL.eFail : M α) s = (.fail) := (rfl)
@[simp] theorem sFor_eq (f : M D) (its : D → Option (List D)) (g : D → S → Option S) (body els : M Fl) (s : S) : DL.sFor f its g body els s = ((f s).bind fun d s => match its (view s.M d) with
  | none => .fail
  | some ds => forL d s.M g body els ds s) := (rfl)
@[simp] theorem eLc_eq (f : M D) (its : D → Option (List D)) (g : D → S → Option S) (tt : M Bool) (fe : M D) (vs : List Nat) (s : S) : DL.eLc f its g tt fe vs s = ((f s).bind fun d s1 => match its (view s1.M d) with
  | none => .fail
  | some ds => (lcL d s1.M (wipeE s1.env vs) g tt fe ds [] s1.M).bind fun acc s2 => .ok (.lst acc) { s1 with M := s2.M }) := (rfl)
@[simp] theorem eChain_eq (g h : D → D → Option D) (fa fb fc : M D) (s : S) : DL.eChain g h fa fb fc s = ((fa s).bind fun x s => (fb s).bind fun y s => match g (view s.M x) (view s.M y) with
  | some (.bl true) => (fc s).bind fun z s => oOf (h (view s.M y) (view s.M z)) s
  | some (.bl false) => .ok (.bl false) s
  | _ => .fail) := (rfl)
@[simp] theorem eIndex_eq (fo : M D) (fa : M (List D)) (s : S) : DL.eIndex fo fa s = ((fo s).bind fun d s1 => if isSeqIx (view s1.M d) = true then (fa s1).bind fun ds s2 => oOf (g1m dIndex (view s2.M d) (ds.map (view s2.M))) s2 else .fail) := (rfl)
@[simp] theorem isSeqIx_tup (xs : List D) : isSeqIx (.tup xs) = true := (rfl)
@[simp] theorem isSeqIx_lst (xs : List D) : isSeqIx (.lst xs) = true := (rfl)
@[simp] theorem eCallV_eq (sem : Sem) (f : M (List D)) (s : S) : DL.eCallV sem f s = ((f s).bind fun ds s => callS (List.replicate ds.length false) sem ds s) := (rfl)
@[simp] theorem aStar_eq (f : M D) (g : M (List D)) (s : S) : DL.aStar f g s = ((f s).bind fun d s => match seqD (view s.M d) with
  | some es => (g s).bind fun ds s => .ok (es ++ ds) s
  | none => .fail) := (rfl)
@[simp] theorem runS_eq (n N : Nat) (f : M Fl) (m : List C) (ds : List D) : DL.runS n N f m ds = if n ≤ ds.length ∧ ds.length ≤ 1000000 then DL.run N f m (starD n ds) else .fail := (rfl)
@[simp] theorem eDc_eq (f : M D) (its : D → Option (List D)) (g : D → S → Option S) (tt : M Bool) (fk fv : M D) (vs : List Nat) (s : S) : DL.eDc f its g tt fk fv vs s = ((f s).bind fun d s1 => match its (view s1.M d) with
  | none => .fail
  | some ds => (dcL d s1.M (wipeE s1.env vs) g tt fk fv ds [] s1.M).bind fun acc s2 => .ok (.dct acc) { s1 with M := s2.M }) := (rfl)
@[simp] theorem eDcC_eq (f : M D) (its : D → Option (List D)) (g : D → S → Option S) (tt : M Bool) (fk fv : M D) (vs : List Nat) (s : S) : DL.eDcC f its g tt fk fv vs s = ((f s).bind fun d s1 => match its (view s1.M d) with
  | none => .fail
  | some ds => (dcL d s1.M (wipeE s1.env vs) g tt fk fv ds [] s1.M).bind fun acc s2 => .ok (.ptr s2.M.length) { s1 with M := s2.M ++ [some (.dct acc)] }) := (rfl)
@[simp] theorem view_kt (M : List (Option C)) (xs : List D) : view M (.kt xs) = .kt xs := (rfl)
@[simp] theorem view_dct (M : List (Option C)) (xs : List (Key × D)) : view M (.dct xs) = .dct xs := (rfl)
@[simp] theorem dat_dct (xs : List (Key × D)) : (C.dct xs).dat = .dct xs := (rfl)
@[simp] theorem seqD_kt (z : List D) : seqD (.kt z) = some z := (rfl)
@[simp] theorem itSeq_kt (z : List D) : itSeq (.kt z) = some z := (rfl)
@[simp] theorem gTupD_kt (g : List D → S → Option S) (ds : List D) (s : S) : gTupD g (.kt ds) s = g ds s := (rfl)
@[simp] theorem np_kt (xs : List D) : np (.kt xs) = npL xs := by simp [np]
@[simp] theorem nm_kt (xs : List D) : nm (.kt xs) = nmL xs := by simp [nm]
@[simp] theorem chkP_kt (xs : List D) (M0 M1 : List (Option C)) : chkP (.kt xs) M0 M1 = true := (rfl)
@[simp] theorem chkP_dct (xs : List (Key × D)) (M0 M1 : List (Option C)) : chkP (.dct xs) M0 M1 = true := (rfl)
@[simp] theorem np_dct (xs : List (Key × D)) : np (.dct xs) = npK xs := by simp [np]
@[simp] theorem dLen_kt (xs : List D) : dLen (.kt xs) = some (.int xs.length) := (rfl)
@[simp] theorem itEnum_seq {d : D} {xs : List D} (h : itSeq d = some xs) : itEnum d = some (enumL 0 xs) := by simp [itEnum, h]
@[simp] theorem bind_ok {α β : Type} (a : α) (s : S) (f : α → S → Out β) : (Out.ok a s).bind f = f a s := (rfl)
@[simp] theorem bind_fail {α β : Type} (f : α → S → Out β) : (Out.fail : Out α).bind f = .fail := (rfl)
@[simp] theorem bind_exc {α β : Type} (n : Str) (fs : List (Str × D)) (s : S) (f : α → S → Out β) : (Out.exc n fs s : Out α).bind f = .exc n fs s := (rfl)
@[simp] theorem hNone_nil (s : S) : hNone [] s = .ok () s := (rfl)
@[simp] theorem hMore_cons (g : D → M Unit) (h : List D → M Unit) (d : D) (ds : List D) (s : S) : hMore g h (d :: ds) s = (g d s).bind fun _ s => h ds s := (rfl)
@[simp] theorem hTup_tup (n : Nat) (g : List D → M Unit) (ds : List D) (s : S) : hTup n g (.tup ds) s = if ds.length = n then g ds s else .fail := (rfl)
@[simp] theorem gNone_nil (s : S) : gNone [] s = some s := (rfl)
@[simp] theorem gMore_cons (g : D → S → Option S) (h : List D → S → Option S) (d : D) (ds : List D) (s : S) : gMore g h (d :: ds) s = (g d s).bind (h ds) := (rfl)
@[simp] theorem gTupD_tup (g : List D → S → Option S) (ds : List D) (s : S) : gTupD g (.tup ds) s = g ds s := (rfl)
@[simp] theorem g1_one (g : D → Option D) (d : D) : g1 g [d] = g d := (rfl)
@[simp] theorem g2_two (g : D → D → Option D) (d e : D) : g2 g [d, e] = g d e := (rfl)
@[simp] theorem g1m_one (g : D → D → Option D) (d e : D) : g1m g d [e] = g d e := (rfl)
@[simp] theorem g0_nil (g : D → Option D) (d : D) : g0 g d [] = g d := (rfl)
@[simp] theorem gL1_one (g : D → Option (List D)) (d : D) : gL1 g [d] = g d := (rfl)
@[simp] theorem view_int (M : List (Option C)) (i : Int) : view M (.int i) = .int i := (rfl)
@[simp] theorem view_bl (M : List (Option C)) (i : Bool) : view M (.bl i) = .bl i := (rfl)
@[simp] theorem view_strs (M : List (Option C)) (i : Str) : view M (.str i) = .str i := (rfl)
@[simp] theorem view_non (M : List (Option C)) : view M .non = .non := (rfl)
@[simp] theorem view_lst (M : List (Option C)) (xs : List D) : view M (.lst xs) = .lst xs := (rfl)
@[simp] theorem view_slst (M : List (Option C)) (xs : List D) : view M (.slst xs) = .slst xs := (rfl)
@[simp] theorem view_tups (M : List (Option C)) (xs : List D) : view M (.tup xs) = .tup xs := (rfl)
@[simp] theorem view_raw (M : List (Option C)) (v : V) : view M (.raw v) = .raw v := (rfl)
theorem view_ptr {M : List (Option C)} {k : Nat} {c : C} (h : M[k]? = some (some c)) : view M (.ptr k) = c.dat := by simp [view, h]
@[simp] theorem view_ptr0 (c : C) (M : List (Option C)) : view (some c :: M) (.ptr 0) = c.dat := (rfl)
@[simp] theorem view_ptrS (c : Option C) (M : List (Option C)) (k : Nat) : view (c :: M) (.ptr (k + 1)) = match view M (.ptr k) with
  | .ptr _ => .ptr (k + 1)
  | d => d := by
  unfold view
  dsimp only
  rw [List.getElem?_cons_succ]
  cases M[k]? with
  | none => rfl
  | some o =>
    cases o with
    | none => rfl
    | some c => cases c <;> rfl
@[simp] theorem view_ptr1 (c : C) (o : Option C) (M : List (Option C)) : view (o :: some c :: M) (.ptr 1) = c.dat := (rfl)
@[simp] theorem view_ptr2 (c : C) (o o2 : Option C) (M : List (Option C)) : view (o :: o2 :: some c :: M) (.ptr 2) = c.dat := (rfl)
@[simp] theorem dat_lst (xs : List D) : (C.lst xs).dat = .lst xs := (rfl)
@[simp] theorem tyN_str (z : Str) : tyN (.str z) = some "str" := (rfl)
@[simp] theorem tyN_lst (z : List D) : tyN (.lst z) = some "list" := (rfl)
@[simp] theorem tyN_slst (z : List D) : tyN (.slst z) = some "list" := (rfl)
@[simp] theorem seqD_tup (z : List D) : seqD (.tup z) = some z := (rfl)
@[simp] theorem seqD_lst (z : List D) : seqD (.lst z) = some z := (rfl)
@[simp] theorem seqD_slst (z : List D) : seqD (.slst z) = some z := (rfl)
@[simp] theorem seqD_str (z : Str) : seqD (.str z) = none := (rfl)
@[simp] theorem itSeq_str (z : Str) : itSeq (.str z) = some (z.cps.toList.map fun c => .str ⟨#[c]⟩) := (rfl)
@[simp] theorem itSeq_lst (z : List D) : itSeq (.lst z) = some z := (rfl)
@[simp] theorem itSeq_slst (z : List D) : itSeq (.slst z) = some z := (rfl)
@[simp] theorem itSeq_tup (z : List D) : itSeq (.tup z) = some z := (rfl)
@[simp] theorem dAdd_int (i j : Int) : dAdd (.int i) (.int j) = some (.int (i + j)) := (rfl)
@[simp] theorem dSub_int (i j : Int) : dSubI (.int i) (.int j) = some (.int (i - j)) := (rfl)
@[simp] theorem dAddI_int (i j : Int) : dAddI (.int i) (.int j) = some (.int (i + j)) := (rfl)
@[simp] theorem dMul_int (i j : Int) : dMulI (.int i) (.int j) = if (small64 i || small64 j) = true then some (.int (i * j)) else none := by
  simp only [dMulI, gI, gIf]
  cases (small64 i || small64 j) <;> rfl
@[simp] theorem dMod_int (i j : Int) : dModI (.int i) (.int j) = if 0 < j then some (.int (i % j)) else none := by
  simp only [dModI, gI, gIf]
  by_cases h : 0 < j <;> simp [h]
@[simp] theorem dDiv_int (i j : Int) : dDivI (.int i) (.int j) = if 0 < j ∧ j < 1073741824 then some (.int (i / j)) else none := by
  simp only [dDivI, gI, gIf]
  by_cases h : 0 < j <;> by_cases h2 : j < 1073741824 <;> simp [h, h2]
@[simp] theorem dLt_int (i j : Int) : dLtI (.int i) (.int j) = some (.bl (decide (i < j))) := (rfl)
@[simp] theorem dLe_int (i j : Int) : dLeI (.int i) (.int j) = some (.bl (decide (i ≤ j))) := (rfl)
@[simp] theorem dGt_int (i j : Int) : dGtI (.int i) (.int j) = some (.bl (decide (j < i))) := (rfl)
@[simp] theorem dGe_int (i j : Int) : dGeI (.int i) (.int j) = some (.bl (decide (j ≤ i))) := (rfl)
@[simp] theorem dEq_int (i j : Int) : dEq (.int i) (.int j) = some (.bl (decide (i = j))) := by simp [dEq, orD, dEqF, eqF]
@[simp] theorem dEq_str (i j : Str) : dEq (.str i) (.str j) = some (.bl (decide (i = j))) := by simp [dEq, orD, dEqF, eqF]
@[simp] theorem dNe_str (i j : Str) : dNe (.str i) (.str j) = some (.bl (!decide (i = j))) := by simp [dNe, orD, dNeF, eqF]
@[simp] theorem dNe_int (i j : Int) : dNe (.int i) (.int j) = some (.bl (!decide (i = j))) := by simp [dNe, orD, dNeF, eqF]
@[simp] theorem itRng_tup (a b : Int) : itRng (.tup [.int a, .int b]) = some ((List.range (b - a).toNat).map fun i => .int (a + (i : Nat))) := (rfl)
@[simp] theorem dInt_bl (b : Bool) : dInt (.bl b) = some (.int (if b then 1 else 0)) := (rfl)
@[simp] theorem dInt_int (b : Int) : dInt (.int b) = some (.int b) := (rfl)
@[simp] theorem dAbs_int (i : Int) : dAbs (.int i) = some (.int (if i < 0 then -i else i)) := (rfl)
@[simp] theorem dLen_lst (xs : List D) : dLen (.lst xs) = some (.int xs.length) := (rfl)
@[simp] theorem dLen_slst (xs : List D) : dLen (.slst xs) = some (.int xs.length) := (rfl)
@[simp] theorem dLen_tup (xs : List D) : dLen (.tup xs) = some (.int xs.length) := (rfl)
@[simp] theorem dLen_str (z : Str) : dLen (.str z) = if z.length ≤ 1000000 then some (.int z.length) else none := (rfl)
@[simp] theorem dIxA_lst (xs : List D) (i : Int) : dIxA (.lst xs) (.int i) = atI xs i := by
  show (match atI xs i with | some z => some z | none => dIxS (.lst xs) (.int i)) = _
  cases atI xs i <;> rfl
@[simp] theorem dIxA_slst (xs : List D) (i : Int) : dIxA (.slst xs) (.int i) = atI xs i := by
  show (match atI xs i with | some z => some z | none => dIxS (.slst xs) (.int i)) = _
  cases atI xs i <;> rfl
@[simp] theorem dSub_lst (xs : List D) (i : Int) : dSub (.lst xs) (.int i) = atI xs i := by
  have e : dIx (.lst xs) (.int i) = atI xs i := rfl
  simp only [dSub, dIxA, orD, e]
  cases atI xs i <;> rfl
@[simp] theorem dSub_slst (xs : List D) (i : Int) : dSub (.slst xs) (.int i) = atI xs i := by
  have e : dIx (.slst xs) (.int i) = atI xs i := rfl
  simp only [dSub, dIxA, orD, e]
  cases atI xs i <;> rfl
@[simp] theorem dSub_tup (xs : List D) (i : Int) : dSub (.tup xs) (.int i) = atI xs i := by
  have e : dIx (.tup xs) (.int i) = atI xs i := rfl
  simp only [dSub, dIxA, orD, e]
  cases atI xs i <;> rfl
@[simp] theorem dSub_kt (xs : List D) (i : Int) : dSub (.kt xs) (.int i) = atI xs i := by
  have e : dIx (.kt xs) (.int i) = atI xs i := rfl
  simp only [dSub, dIxA, orD, e]
  cases atI xs i <;> rfl
@[simp] theorem dSub_dct (kvs : List (Key × D)) (z : Str) : dSub (.dct kvs) (.str z) = valD kvs (.inr z) := by
  simp only [dSub, dIxA, orD, dIx, seqD, dIxS, dGet, keyD]
  rfl
@[simp] theorem dSub_dctI (kvs : List (Key × D)) (z : Int) : dSub (.dct kvs) (.int z) = valD kvs (.inl z) := by
  simp only [dSub, dIxA, orD, dIx, seqD, dIxS, dGet, keyD]
  rfl
@[simp] theorem dIxA_tup (xs : List D) (i : Int) : dIxA (.tup xs) (.int i) = atI xs i := by
  show (match atI xs i with | some z => some z | none => dIxS (.tup xs) (.int i)) = _
  cases atI xs i <;> rfl
@[simp] theorem dMax2_int (i j : Int) : dMax2 (.int i) (.int j) = some (.int (if j > i then j else i)) := (rfl)
@[simp] theorem dMin2_int (i j : Int) : dMin2 (.int i) (.int j) = some (.int (if j < i then j else i)) := (rfl)
@[simp] theorem cSet_lst (xs : List D) (i : Int) (d : D) : cSet (.lst xs) (.int i) d = (ixN xs.length i).map fun j => .lst (xs.set j d) := (rfl)
theorem ixN_nat {n i : Nat} (h : i < n) : ixN n (i : Int) = some i := by
  unfold ixN
  rw [if_pos (by omega), if_pos (by omega)]
  simp
theorem atI_nat {α : Type} {xs : List α} {i : Nat} (h : i < xs.length) : atI xs (i : Int) = xs[i]? := by
  unfold atI
  rw [ixN_nat h]; rfl
@[simp] theorem run_eq (N : Nat) (f : M Fl) (m : List C) (ds : List D) : DL.run N f m ds = fin m.length (f ⟨ds.map some ++ List.replicate (N - ds.length) none, m.map some⟩) := (rfl)
@[simp] theorem runC_eq (N : Nat) (f : M Fl) (m : List C) (ds : List D) : DL.runC N f m ds = finC m.length (f ⟨ds.map some ++ List.replicate (N - ds.length) none, m.map some⟩) := (rfl)
@[simp] theorem fin_fail (n : Nat) : fin n .fail = .fail := (rfl)
@[simp] theorem fin_nx (n : Nat) (s : S) : fin n (.ok .nx s) = if okM n s then .ok .non ⟨[], s.M.take n⟩ else .fail := (rfl)
@[simp] theorem fin_int (n : Nat) (s : S) (i : Int) : fin n (.ok (.ret (.int i)) s) = if okM n s then .ok (.int i) ⟨[], s.M.take n⟩ else .fail := (rfl)
@[simp] theorem fin_bl (n : Nat) (s : S) (i : Bool) : fin n (.ok (.ret (.bl i)) s) = if okM n s then .ok (.bl i) ⟨[], s.M.take n⟩ else .fail := (rfl)
@[simp] theorem fin_str (n : Nat) (s : S) (i : Str) : fin n (.ok (.ret (.str i)) s) = if okM n s then .ok (.str i) ⟨[], s.M.take n⟩ else .fail := (rfl)
@[simp] theorem fin_non (n : Nat) (s : S) : fin n (.ok (.ret .non) s) = if okM n s then .ok .non ⟨[], s.M.take n⟩ else .fail := (rfl)
@[simp] theorem fin_lst (n : Nat) (s : S) (xs : List D) : fin n (.ok (.ret (.lst xs)) s) = if npL xs = true then (if okM n s then .ok (.lst xs) ⟨[], s.M.take n⟩ else .fail) else .fail := by
  show (match (if np (.lst xs) then some (D.lst xs) else none) with
    | some d => if okM n s then Out.ok d ⟨[], s.M.take n⟩ else .fail
    | none => .fail) = _
  have e : np (.lst xs) = npL xs := by simp [np]
  rw [e]
  cases npL xs <;> rfl
@[simp] theorem fin_tup (n : Nat) (s : S) (xs : List D) : fin n (.ok (.ret (.tup xs)) s) = if npL xs = true then (if okM n s then .ok (.tup xs) ⟨[], s.M.take n⟩ else .fail) else .fail := by
  show (match (if np (.tup xs) then some (D.tup xs) else none) with
    | some d => if okM n s then Out.ok d ⟨[], s.M.take n⟩ else .fail
    | none => .fail) = _
  have e : np (.tup xs) = npL xs := by simp [np]
  rw [e]
  cases npL xs <;> rfl
@[simp] theorem fin_ptr (n : Nat) (s : S) (k : Nat) : fin n (.ok (.ret (.ptr k)) s) = match outD n s (.ptr k) with
    | some d => if okM n s then .ok d ⟨[], s.M.take n⟩ else .fail
    | none => .fail := (rfl)
@[simp] theorem finC_ptr (n : Nat) (s : S) (k : Nat) : finC n (.ok (.ret (.ptr k)) s) = match s.M[k]? with
    | some (some x) => if decide (n ≤ k) && cNp (s.M.take n) && x.np then .ok (.ptr n) ⟨[], s.M.take n ++ [some x]⟩ else .fail
    | _ => .fail := (rfl)
@[simp] theorem okM_eq (n : Nat) (s : S) : okM n s = (decide (n ≤ s.M.length) && cNp (s.M.take n)) := (rfl)
@[simp] theorem np_int (i : Int) : np (.int i) = true := (rfl)
@[simp] theorem np_bl (i : Bool) : np (.bl i) = true := (rfl)
@[simp] theorem np_str (i : Str) : np (.str i) = true := (rfl)
@[simp] theorem np_non : np .non = true := (rfl)
@[simp] theorem np_lst (xs : List D) : np (.lst xs) = npL xs := by simp [np]
@[simp] theorem np_slst (xs : List D) : np (.slst xs) = npL xs := by simp [np]
@[simp] theorem np_tup (xs : List D) : np (.tup xs) = npL xs := by simp [np]
@[simp] theorem npL_nil : npL [] = true := by simp [npL]
@[simp] theorem npL_cons (d : D) (ds : List D) : npL (d :: ds) = (np d && npL ds) := by simp [npL]
@[simp] theorem Cnp_lst (xs : List D) : (C.lst xs).np = npL xs := (rfl)
@[simp] theorem cNp_nil : cNp [] = true := (rfl)
@[simp] theorem cNp_some (c : C) (cs : List (Option C)) : cNp (some c :: cs) = (c.np && cNp cs) := (rfl)
@[simp] theorem cNp_none (cs : List (Option C)) : cNp (none :: cs) = cNp cs := (rfl)
@[simp] theorem nm_int (i : Int) : nm (.int i) = true := (rfl)
@[simp] theorem nm_bl (i : Bool) : nm (.bl i) = true := (rfl)
@[simp] theorem nm_str (i : Str) : nm (.str i) = true := (rfl)
@[simp] theorem nm_non : nm .non = true := (rfl)
@[simp] theorem nm_tup (xs : List D) : nm (.tup xs) = nmL xs := by simp [nm]
@[simp] theorem nmL_nil : nmL [] = true := by simp [nmL]
@[simp] theorem nmL_cons (d : D) (ds : List D) : nmL (d :: ds) = (nm d && nmL ds) := by simp [nmL]
@[simp] theorem Cnm_lst (xs : List D) : (C.lst xs).nm = nmL xs := (rfl)
@[simp] theorem cNm_nil : cNm [] = true := (rfl)
@[simp] theorem cNm_some (c : C) (cs : List (Option C)) : cNm (some c :: cs) = (c.nm && cNm cs) := (rfl)
@[simp] theorem cNm_none (cs : List (Option C)) : cNm (none :: cs) = cNm cs := (rfl)
theorem npL_iff {xs : List D} : npL xs = true ↔ ∀ x ∈ xs, np x = true := by
  induction xs with
  | nil => simp
  | cons x xs ih => simp [ih]
theorem nmL_iff {xs : List D} : nmL xs = true ↔ ∀ x ∈ xs, nm x = true := by
  induction xs with
  | nil => simp
  | cons x xs ih => simp [ih]
@[simp] theorem npL_strs (zs : List Str) : npL (zs.map D.str) = true := npL_iff.mpr fun x hx => by obtain ⟨z, _, rfl⟩ := List.mem_map.mp hx; rfl
@[simp] theorem npL_ints (zs : List Int) : npL (zs.map D.int) = true := npL_iff.mpr fun x hx => by obtain ⟨z, _, rfl⟩ := List.mem_map.mp hx; rfl
@[simp] theorem nmL_strs (zs : List Str) : nmL (zs.map D.str) = true := nmL_iff.mpr fun x hx => by obtain ⟨z, _, rfl⟩ := List.mem_map.mp hx; rfl
@[simp] theorem nmL_ints (zs : List Int) : nmL (zs.map D.int) = true := nmL_iff.mpr fun x hx => by obtain ⟨z, _, rfl⟩ := List.mem_map.mp hx; rfl
@[simp] theorem strsD_map (zs : List Str) : strsD (zs.map D.str) = some zs := by
  induction zs with
  | nil => rfl
  | cons z zs ih => simp [strsD, ih]
@[simp] theorem intsD_map (zs : List Int) : intsD (zs.map D.int) = some zs := by
  induction zs with
  | nil => rfl
  | cons z zs ih => simp [intsD, ih]
/-! ### prep -/
@[simp] theorem prep_nil (M : List (Option C)) (j : Nat) : prep M [] [] j = some ⟨[], [], [], []⟩ := (rfl)
@[simp] theorem prep_t (M : List (Option C)) (io : List Bool) (k : Nat) (ds : List D) (j : Nat) : prep M (true :: io) (.ptr k :: ds) j = match M[k]? with
    | some (some x) => if x.np then (prep M io ds (j + 1)).map fun p => ⟨k :: p.ks, x :: p.m, .ptr j :: p.ds, p.ls⟩ else none
    | _ => none := by
  first | (simp only [prep]; done) | (simp only [prep]; rfl)
@[simp] theorem prep_fp (M : List (Option C)) (io : List Bool) (k : Nat) (ds : List D) (j : Nat) : prep M (false :: io) (.ptr k :: ds) j = match M[k]? with
    | some (some x) => if x.np then (prep M io ds j).map fun p => ⟨p.ks, p.m, x.dat :: p.ds, k :: p.ls⟩ else none
    | _ => none := by
  first | (simp only [prep]; done) | (simp only [prep]; rfl)
theorem prep_fv {M : List (Option C)} {io : List Bool} {d : D} {ds : List D} {j : Nat} (h : ∀ k, d ≠ .ptr k) : prep M (false :: io) (d :: ds) j = if np d then (prep M io ds j).map fun p => (⟨p.ks, p.m, d :: p.ds, p.ls⟩ : Prep) else none := by
  cases d <;> first | exact absurd rfl (h _) | simp [prep]
@[simp] theorem prep_fi (M : List (Option C)) (io : List Bool) (i : Int) (ds : List D) (j : Nat) : prep M (false :: io) (.int i :: ds) j = (prep M io ds j).map fun p => (⟨p.ks, p.m, .int i :: p.ds, p.ls⟩ : Prep) := by rw [prep_fv (by simp)]; rfl
@[simp] theorem prep_fs (M : List (Option C)) (io : List Bool) (i : Str) (ds : List D) (j : Nat) : prep M (false :: io) (.str i :: ds) j = (prep M io ds j).map fun p => (⟨p.ks, p.m, .str i :: p.ds, p.ls⟩ : Prep) := by rw [prep_fv (by simp)]; rfl
@[simp] theorem prep_fb (M : List (Option C)) (io : List Bool) (i : Bool) (ds : List D) (j : Nat) : prep M (false :: io) (.bl i :: ds) j = (prep M io ds j).map fun p => (⟨p.ks, p.m, .bl i :: p.ds, p.ls⟩ : Prep) := by rw [prep_fv (by simp)]; rfl
@[simp] theorem prep_fn (M : List (Option C)) (io : List Bool) (ds : List D) (j : Nat) : prep M (false :: io) (.non :: ds) j = (prep M io ds j).map fun p => (⟨p.ks, p.m, .non :: p.ds, p.ls⟩ : Prep) := by rw [prep_fv (by simp)]; rfl
@[simp] theorem prep_fl (M : List (Option C)) (io : List Bool) (xs : List D) (ds : List D) (j : Nat) : prep M (false :: io) (.lst xs :: ds) j = if npL xs = true then (prep M io ds j).map fun p => (⟨p.ks, p.m, .lst xs :: p.ds, p.ls⟩ : Prep) else none := by rw [prep_fv (by simp)]; simp
@[simp] theorem prep_fsl (M : List (Option C)) (io : List Bool) (xs : List D) (ds : List D) (j : Nat) : prep M (false :: io) (.slst xs :: ds) j = if npL xs = true then (prep M io ds j).map fun p => (⟨p.ks, p.m, .slst xs :: p.ds, p.ls⟩ : Prep) else none := by rw [prep_fv (by simp)]; simp
@[simp] theorem prep_ft (M : List (Option C)) (io : List Bool) (xs : List D) (ds : List D) (j : Nat) : prep M (false :: io) (.tup xs :: ds) j = if npL xs = true then (prep M io ds j).map fun p => (⟨p.ks, p.m, .tup xs :: p.ds, p.ls⟩ : Prep) else none := by rw [prep_fv (by simp)]; simp
@[simp] theorem putC_nil (M cs : List (Option C)) : putC M [] cs = M := by cases cs <;> rfl
@[simp] theorem putC_cons (M : List (Option C)) (k : Nat) (ks : List Nat) (x : Option C) (cs : List (Option C)) : putC M (k :: ks) (x :: cs) = putC (M.set k x) ks cs := (rfl)
/-! ### loops -/
/-- a for: each turn goes on, or hands back -/
theorem forL_gen {d : D} {M0 : List (Option C)} {g : D → S → Option S} {body els : M Fl} {ds : List D} (I : Nat → S → Prop) (R : Out Fl → Prop)
    (hs : ∀ (i : Nat) (x : D) (s : S), ds[i]? = some x → I i s → ∃ s1, g x s = some s1 ∧ ((∃ s2, (body s1 = .ok .nx s2 ∨ body s1 = .ok .ct s2) ∧ chkP d M0 s2.M = true ∧ I (i + 1) s2) ∨ (∃ e s2, body s1 = .ok (.ret e) s2 ∧ R (.ok (.ret e) s2)))) {s : S} (h0 : I 0 s)
    (hd : ∀ s', I ds.length s' → R (els s')) : R (forL d M0 g body els ds s) := by
  have key : ∀ (r p : List D) (s : S), ds = p ++ r → I p.length s → R (forL d M0 g body els r s) := by
    intro r
    induction r with
    | nil =>
      intro p s e h
      rw [List.append_nil] at e
      subst e
      exact hd s h
    | cons x r ih =>
      intro p s e h
      obtain ⟨s1, h1, h2⟩ := hs p.length x s (by rw [e]; simp) h
      unfold forL
      rw [h1]
      dsimp only
      rcases h2 with ⟨s2, h3, h4, h5⟩ | ⟨v, s2, h3, h4⟩
      · have := ih (p ++ [x]) s2 (by rw [e, List.append_assoc]; rfl) (by rw [List.length_append]; exact h5)
        rcases h3 with h3 | h3 <;> rw [h3] <;> dsimp only <;> rw [if_pos h4] <;> exact this
      · rw [h3]
        exact h4
  exact key ds [] s rfl h0
theorem forL_inv {d : D} {M0 : List (Option C)} {g : D → S → Option S} {body els : M Fl} {ds : List D} (I : Nat → S → Prop)
    (hs : ∀ (i : Nat) (x : D) (s : S), ds[i]? = some x → I i s → ∃ s1 s2, g x s = some s1 ∧ (body s1 = .ok .nx s2 ∨ body s1 = .ok .ct s2) ∧ chkP d M0 s2.M = true ∧ I (i + 1) s2) {s : S} (h0 : I 0 s) : ∃ s', I ds.length s' ∧ forL d M0 g body els ds s = els s' := by
  refine forL_gen I (fun o => ∃ s', I ds.length s' ∧ o = els s') (fun i x s e h => ?_) h0 fun s' h => ⟨s', h, rfl⟩
  obtain ⟨s1, s2, h1, h2, h3, h4⟩ := hs i x s e h
  exact ⟨s1, h1, .inl ⟨s2, h2, h3, h4⟩⟩
/-- a comprehension that keeps all: its items one by one -/
theorem lcL_all {d : D} {M0 : List (Option C)} {env0 : List (Option D)} {g : D → S → Option S} {tt : M Bool} {fe : M D} {ds : List D} (I : Nat → List D → List (Option C) → Prop)
    (hs : ∀ (i : Nat) (x : D) (acc : List D) (M : List (Option C)), ds[i]? = some x → I i acc M → ∃ s1 s2 e s3, g x ⟨env0, M⟩ = some s1 ∧ tt s1 = .ok true s2 ∧ fe s2 = .ok e s3 ∧ chkP d M0 s3.M = true ∧ I (i + 1) (acc ++ [e]) s3.M)
    (hl : ds.length < 1000000) {M : List (Option C)} (h0 : I 0 [] M) : ∃ acc M', I ds.length acc M' ∧ acc.length = ds.length ∧ lcL d M0 env0 g tt fe ds [] M = .ok acc ⟨env0, M'⟩ := by
  have key : ∀ (r p acc : List D) (M : List (Option C)), ds = p ++ r → acc.length = p.length → I p.length acc M → ∃ acc' M', I ds.length acc' M' ∧ acc'.length = ds.length ∧ lcL d M0 env0 g tt fe r acc M = .ok acc' ⟨env0, M'⟩ := by
    intro r
    induction r with
    | nil =>
      intro p acc M e hla h
      rw [List.append_nil] at e
      subst e
      exact ⟨acc, M, h, hla, rfl⟩
    | cons x r ih =>
      intro p acc M e hla h
      obtain ⟨s1, s2, y, s3, h1, h2, h3, h4, h5⟩ := hs p.length x acc M (by rw [e]; simp) h
      have hlt : acc.length < 1000000 := by
        have := congrArg List.length e
        rw [List.length_append, List.length_cons] at this
        omega
      obtain ⟨acc', M', r1, r2, r3⟩ := ih (p ++ [x]) (acc ++ [y]) s3.M (by rw [e, List.append_assoc]; rfl) (by rw [List.length_append, List.length_append, hla]; rfl) (by rw [List.length_append]; exact h5)
      refine ⟨acc', M', r1, r2, ?_⟩
      unfold lcL
      rw [h1]
      dsimp only
      rw [h2]
      dsimp only
      rw [h3]
      dsimp only
      rw [if_pos ⟨h4, hlt⟩]
      exact r3
  exact key ds [] [] M rfl rfl h0
/-- .. each item by a function, nothing written -/
theorem lcL_map {d : D} {M0 : List (Option C)} {env0 : List (Option D)} {g : D → S → Option S} {tt : M Bool} {fe : M D} {ds : List D} {M : List (Option C)} (f : D → D) (hd : chkP d M0 M = true)
    (hs : ∀ x ∈ ds, ∃ s1 s2 s3, g x ⟨env0, M⟩ = some s1 ∧ tt s1 = .ok true s2 ∧ fe s2 = .ok (f x) s3 ∧ s3.M = M)
    (hl : ds.length < 1000000) : lcL d M0 env0 g tt fe ds [] M = .ok (ds.map f) ⟨env0, M⟩ := by
  obtain ⟨acc, M', ⟨h1, h2⟩, _, h3⟩ := lcL_all (d := d) (M0 := M0) (env0 := env0) (g := g) (tt := tt) (fe := fe) (ds := ds) (fun i acc M' => M' = M ∧ acc = (ds.take i).map f) (fun i x acc M' e ⟨e1, e2⟩ => by
    subst e1 e2
    obtain ⟨s1, s2, s3, h1, h2, h3, h4⟩ := hs x (List.mem_of_getElem? e)
    refine ⟨s1, s2, f x, s3, h1, h2, h3, by rw [h4]; exact hd, h4, ?_⟩
    rw [List.take_add_one, e, List.map_append]; rfl) hl ⟨rfl, rfl⟩
  rw [h3, h1, h2, List.take_length]
@[simp] theorem chkP_lst (xs : List D) (M0 M1 : List (Option C)) : chkP (.lst xs) M0 M1 = true := (rfl)
@[simp] theorem chkP_slst (xs : List D) (M0 M1 : List (Option C)) : chkP (.slst xs) M0 M1 = true := (rfl)
@[simp] theorem chkP_tup (xs : List D) (M0 M1 : List (Option C)) : chkP (.tup xs) M0 M1 = true := (rfl)
@[simp] theorem chkP_str (xs : Str) (M0 M1 : List (Option C)) : chkP (.str xs) M0 M1 = true := (rfl)
theorem chkP_ptr {k : Nat} {M0 M1 : List (Option C)} (h : M1[k]? = M0[k]?) : chkP (.ptr k) M0 M1 = true := @decide_eq_true _ (Classical.propDecidable _) h
@[simp] theorem wipeE_nil (env : List (Option D)) : wipeE env [] = env := (rfl)
@[simp] theorem wipeE_cons (env : List (Option D)) (v : Nat) (vs : List Nat) : wipeE env (v :: vs) = (wipeE env vs).set v none := (rfl)
theorem small64_of {i : Int} (h1 : 0 ≤ i) (h2 : i < 18446744073709551616) : small64 i = true := by
  unfold small64
  rw [decide_eq_true (by omega : -(2 ^ 64 : Int) < i), decide_eq_true (by omega : i < 2 ^ 64)]; rfl
end DL

/-! DlUb: more reckoning: comprehensions and loops by their turns; comparisons; calls. -/
namespace DL
open PySem L2
open PySem.Spec PyProof.Rows
/-- one turn of a list comprehension -/
noncomputable def lcS (g : D → S → Option S) (tt : M Bool) (fe : M D) (x : D) (s : S) : Option (Option D × List (Option C)) := match g x s with
  | none => none
  | some s1 => match tt s1 with
    | .ok true s2 => (match fe s2 with
      | .ok e s3 => some (some e, s3.M)
      | _ => none)
    | .ok false s2 => some (none, s2.M)
    | _ => none
/-- what it makes, whatever is written, by what holds after each turn -/
theorem lcL_inv {α : Type} {d : D} {M0 : List (Option C)} {env0 : List (Option D)} {g : D → S → Option S} {tt : M Bool} {fe : M D} (en : α → D) (l : List α) (I : List α → List D → List (Option C) → Prop)
    (hs : ∀ (p : List α) (a : α) (r : List α) (acc : List D) (M : List (Option C)), l = p ++ a :: r → I p acc M → ∃ o M', lcS g tt fe (en a) ⟨env0, M⟩ = some (o, M') ∧ chkP d M0 M' = true ∧ I (p ++ [a]) (acc ++ o.toList) M')
    (hl : l.length < 1000000) {M : List (Option C)} (h0 : I [] [] M) : ∃ acc M', I l acc M' ∧ acc.length ≤ l.length ∧ lcL d M0 env0 g tt fe (l.map en) [] M = .ok acc ⟨env0, M'⟩ := by
  have key : ∀ (r p : List α) (acc : List D) (M : List (Option C)), l = p ++ r → acc.length ≤ p.length → I p acc M → ∃ acc' M', I l acc' M' ∧ acc'.length ≤ l.length ∧ lcL d M0 env0 g tt fe (r.map en) acc M = .ok acc' ⟨env0, M'⟩ := by
    intro r
    induction r with
    | nil =>
      intro p acc M e hla h
      rw [List.append_nil] at e
      subst e
      exact ⟨acc, M, h, hla, rfl⟩
    | cons x r ih =>
      intro p acc M e hla h
      obtain ⟨o, M', h1, h2, h3⟩ := hs p x r acc M e h
      have hlt : acc.length < 1000000 := by
        have := congrArg List.length e
        rw [List.length_append, List.length_cons] at this
        omega
      have hla2 : (acc ++ o.toList).length ≤ (p ++ [x]).length := by
        cases o <;> simp <;> omega
      obtain ⟨acc', M2, r1, r2, r3⟩ := ih (p ++ [x]) (acc ++ o.toList) M' (by rw [e, List.append_assoc]; rfl) hla2 h3
      refine ⟨acc', M2, r1, r2, ?_⟩
      rw [List.map_cons]
      unfold lcL
      unfold lcS at h1
      cases hg : g (en x) ⟨env0, M⟩ with
      | none => rw [hg] at h1; cases h1
      | some s1 =>
        rw [hg] at h1
        dsimp only at h1 ⊢
        cases ht : tt s1 with
        | fail => rw [ht] at h1; cases h1
        | exc n fs s2 => rw [ht] at h1; cases h1
        | ok b s2 =>
          rw [ht] at h1
          cases b with
          | false =>
            dsimp only at h1 ⊢
            cases h1
            rw [if_pos h2]
            rw [Option.toList_none, List.append_nil] at r3
            exact r3
          | true =>
            dsimp only at h1 ⊢
            cases hf : fe s2 with
            | fail => rw [hf] at h1; cases h1
            | exc n fs s3 => rw [hf] at h1; cases h1
            | ok y s3 =>
              rw [hf] at h1
              dsimp only at h1 ⊢
              cases h1
              rw [if_pos ⟨h2, hlt⟩]
              exact r3
  exact key l [] [] M rfl (Nat.le_refl _) h0
/-- .. nothing written: the kept items, each by f -/
theorem lcL_pure {α : Type} {d : D} {M0 : List (Option C)} {env0 : List (Option D)} {g : D → S → Option S} {tt : M Bool} {fe : M D} {M : List (Option C)} (en : α → D) (l : List α) (p : α → Bool) (f : α → D) (hd : chkP d M0 M = true)
    (hs : ∀ a ∈ l, lcS g tt fe (en a) ⟨env0, M⟩ = some (if p a = true then some (f a) else none, M)) (hl : l.length < 1000000) : lcL d M0 env0 g tt fe (l.map en) [] M = .ok ((l.filter p).map f) ⟨env0, M⟩ := by
  obtain ⟨acc, M', ⟨e1, e2⟩, _, h⟩ := lcL_inv (d := d) (M0 := M0) (env0 := env0) (g := g) (tt := tt) (fe := fe) en l (fun q acc M' => M' = M ∧ acc = (q.filter p).map f) (fun q a r acc M' e ⟨e1, e2⟩ => by
    subst e1 e2
    refine ⟨_, _, hs a (by rw [e]; simp), hd, rfl, ?_⟩
    rw [List.filter_append, List.map_append]
    cases hp : p a <;> simp [hp]) hl ⟨rfl, rfl⟩
  rw [h, e1, e2]
theorem lcL_each {α : Type} {d : D} {M0 : List (Option C)} {env0 : List (Option D)} {g : D → S → Option S} {tt : M Bool} {fe : M D} {M : List (Option C)} (en : α → D) (l : List α) (f : α → D) (hd : chkP d M0 M = true)
    (hs : ∀ a ∈ l, lcS g tt fe (en a) ⟨env0, M⟩ = some (some (f a), M)) (hl : l.length < 1000000) : lcL d M0 env0 g tt fe (l.map en) [] M = .ok (l.map f) ⟨env0, M⟩ := by
  have := lcL_pure (d := d) (M0 := M0) (env0 := env0) (g := g) (tt := tt) (fe := fe) (M := M) en l (fun _ => true) f hd (fun a ha => by rw [hs a ha]; rfl) hl
  rw [this, List.filter_eq_self.mpr fun _ _ => rfl]
/-- one turn of a dict comprehension -/
noncomputable def dcS (g : D → S → Option S) (tt : M Bool) (fk fv : M D) (x : D) (s : S) : Option (Option (Key × D) × List (Option C)) := match g x s with
  | none => none
  | some s1 => match tt s1 with
    | .ok true s2 => (match fk s2 with
      | .ok kd s3 => (match keyD kd with
        | none => none
        | some k => (match fv s3 with
          | .ok e s4 => some (some (k, e), s4.M)
          | _ => none))
      | _ => none)
    | .ok false s2 => some (none, s2.M)
    | _ => none
theorem putD_len {κ α : Type} [DecidableEq κ] (kvs : List (κ × α)) (k : κ) (d : α) : (putD kvs k d).length ≤ kvs.length + 1 := by
  unfold putD
  split <;> simp
theorem dcL_each {α : Type} {d : D} {M0 : List (Option C)} {env0 : List (Option D)} {g : D → S → Option S} {tt : M Bool} {fk fv : M D} {M : List (Option C)} (en : α → D) (l : List α) (kf : α → Key) (f : α → D) (hd : chkP d M0 M = true)
    (hs : ∀ a ∈ l, dcS g tt fk fv (en a) ⟨env0, M⟩ = some (some (kf a, f a), M)) (hl : l.length < 1000000) : dcL d M0 env0 g tt fk fv (l.map en) [] M = .ok (l.foldl (fun acc a => putD acc (kf a) (f a)) []) ⟨env0, M⟩ := by
  have key : ∀ (r p : List α) (acc : List (Key × D)), l = p ++ r → acc.length ≤ p.length → dcL d M0 env0 g tt fk fv (r.map en) acc M = .ok (r.foldl (fun acc a => putD acc (kf a) (f a)) acc) ⟨env0, M⟩ := by
    intro r
    induction r with
    | nil => intro p acc e hla; rfl
    | cons x r ih =>
      intro p acc e hla
      have h1 := hs x (by rw [e]; simp)
      have hlt : acc.length < 1000000 := by
        have := congrArg List.length e
        rw [List.length_append, List.length_cons] at this
        omega
      have hla2 : (putD acc (kf x) (f x)).length ≤ (p ++ [x]).length := by
        have := putD_len acc (kf x) (f x)
        simp; omega
      have r3 := ih (p ++ [x]) (putD acc (kf x) (f x)) (by rw [e, List.append_assoc]; rfl) hla2
      rw [List.map_cons]
      unfold dcL
      unfold dcS at h1
      cases hg : g (en x) ⟨env0, M⟩ with
      | none => rw [hg] at h1; cases h1
      | some s1 =>
        rw [hg] at h1
        dsimp only at h1 ⊢
        cases ht : tt s1 with
        | fail => rw [ht] at h1; cases h1
        | exc n fs s2 => rw [ht] at h1; cases h1
        | ok b s2 =>
          rw [ht] at h1
          cases b with
          | false => cases h1
          | true =>
            dsimp only at h1 ⊢
            cases hf : fk s2 with
            | fail => rw [hf] at h1; cases h1
            | exc n fs s3 => rw [hf] at h1; cases h1
            | ok y s3 =>
              rw [hf] at h1
              dsimp only at h1 ⊢
              cases hk : keyD y with
              | none => rw [hk] at h1; cases h1
              | some k =>
                rw [hk] at h1
                dsimp only at h1 ⊢
                cases hv : fv s3 with
                | fail => rw [hv] at h1; cases h1
                | exc n fs s4 => rw [hv] at h1; cases h1
                | ok e s4 =>
                  rw [hv] at h1
                  dsimp only at h1 ⊢
                  cases h1
                  rw [if_pos ⟨hd, hlt⟩]
                  exact r3
  exact key l [] [] rfl (Nat.le_refl _)
/-- keys that are all different: the pairs in their order -/
theorem fold_put {α : Type} (kf : α → Key) (f : α → D) : ∀ (l : List α) (acc : List (Key × D)), (acc.map (·.1) ++ l.map kf).Nodup → l.foldl (fun acc a => putD acc (kf a) (f a)) acc = acc ++ l.map fun a => (kf a, f a)
  | [], acc, _ => by simp
  | a :: l, acc, h => by
    have hn : kf a ∉ acc.map (·.1) := fun hm => by
      rw [List.nodup_append] at h
      exact h.2.2 _ hm _ (List.mem_map.mpr ⟨a, List.mem_cons_self .., rfl⟩) rfl
    have e : putD acc (kf a) (f a) = acc ++ [(kf a, f a)] := by
      unfold putD
      rw [if_neg]
      intro q
      obtain ⟨x, hx, e⟩ := List.any_eq_true.mp q
      exact hn (List.mem_map.mpr ⟨x, hx, by simpa using e⟩)
    rw [List.foldl_cons, e, fold_put kf f l _ (by
      rw [List.map_append, List.append_assoc]
      exact h), List.append_assoc]
    rfl
theorem valD_map {α : Type} (kf : α → Key) (f : α → D) : ∀ (l : List α) (a : α), (l.map kf).Nodup → a ∈ l → valD (l.map fun a => (kf a, f a)) (kf a) = some (f a)
  | [], a, _, h => by cases h
  | b :: l, a, hn, h => by
    rw [List.map_cons, List.nodup_cons] at hn
    by_cases e : kf b = kf a
    · have : b = a := by
        rcases List.mem_cons.mp h with q | q
        · exact q.symm
        · exact absurd (List.mem_map.mpr ⟨a, q, e.symm⟩) hn.1
      subst this
      simp [valD, List.find?_cons]
    · have ha : a ∈ l := (List.mem_cons.mp h).resolve_left fun q => e (by rw [q])
      have := valD_map kf f l a hn.2 ha
      simpa [valD, List.find?_cons, e] using this
/-- a for over the items of a list: each turn goes on -/
theorem forL_each {α : Type} {d : D} {M0 : List (Option C)} {g : D → S → Option S} {body els : M Fl} (en : α → D) (l : List α) (I : List α → S → Prop)
    (hs : ∀ (p : List α) (a : α) (r : List α) (s : S), l = p ++ a :: r → I p s → ∃ s1 s2, g (en a) s = some s1 ∧ (body s1 = .ok .nx s2 ∨ body s1 = .ok .ct s2) ∧ chkP d M0 s2.M = true ∧ I (p ++ [a]) s2) {s : S} (h0 : I [] s) : ∃ s', I l s' ∧ forL d M0 g body els (l.map en) s = els s' := by
  have key : ∀ (r p : List α) (s : S), l = p ++ r → I p s → ∃ s', I l s' ∧ forL d M0 g body els (r.map en) s = els s' := by
    intro r
    induction r with
    | nil =>
      intro p s e h
      rw [List.append_nil] at e
      subst e
      exact ⟨s, h, rfl⟩
    | cons x r ih =>
      intro p s e h
      obtain ⟨s1, s2, h1, h2, h3, h4⟩ := hs p x r s e h
      obtain ⟨s', r1, r2⟩ := ih (p ++ [x]) s2 (by rw [e, List.append_assoc]; rfl) h4
      refine ⟨s', r1, ?_⟩
      rw [List.map_cons]
      unfold forL
      rw [h1]
      dsimp only
      rcases h2 with h2 | h2 <;> rw [h2] <;> dsimp only <;> rw [if_pos h3] <;> exact r2
  exact key l [] s rfl h0
/-- .. or ends with a value -/
theorem forL_find {α : Type} {d : D} {M0 : List (Option C)} {g : D → S → Option S} {body els : M Fl} (en : α → D) (l : List α) (I : List α → S → Prop) (R : Out Fl → Prop)
    (hs : ∀ (p : List α) (a : α) (r : List α) (s : S), l = p ++ a :: r → I p s → ∃ s1, g (en a) s = some s1 ∧ ((∃ s2, (body s1 = .ok .nx s2 ∨ body s1 = .ok .ct s2) ∧ chkP d M0 s2.M = true ∧ I (p ++ [a]) s2) ∨ ∃ e s2, body s1 = .ok (.ret e) s2 ∧ R (.ok (.ret e) s2)))
    {s : S} (h0 : I [] s) (hd : ∀ s', I l s' → R (els s')) : R (forL d M0 g body els (l.map en) s) := by
  have key : ∀ (r p : List α) (s : S), l = p ++ r → I p s → R (forL d M0 g body els (r.map en) s) := by
    intro r
    induction r with
    | nil =>
      intro p s e h
      rw [List.append_nil] at e
      subst e
      exact hd s h
    | cons x r ih =>
      intro p s e h
      obtain ⟨s1, h1, h2⟩ := hs p x r s e h
      rw [List.map_cons]
      unfold forL
      rw [h1]
      dsimp only
      rcases h2 with ⟨s2, h2, h3, h4⟩ | ⟨v, s2, h2, h3⟩
      · have r2 := ih (p ++ [x]) s2 (by rw [e, List.append_assoc]; rfl) h4
        rcases h2 with h2 | h2 <;> rw [h2] <;> dsimp only <;> rw [if_pos h3] <;> exact r2
      · rw [h2]; exact h3
  exact key l [] s rfl h0
/-! ### ==, != of plain data -/
theorem dEq_pd {d e : D} {p q : PyData} (h1 : pd d = some p) (h2 : pd e = some q) (s1 : SeqAt.shaped p = true) (s2 : SeqAt.shaped q = true) (hf : eqF d e = none) : dEq d e = some (.bl (PyData.eqv p q)) := by
  have e1 : eqP d e = some (PyData.eqv p q) := by simp only [eqP, h1, h2, s1, s2, Bool.and_self, if_true]
  have e0 : dEqF d e = none := by unfold dEqF; rw [hf]; rfl
  simp only [dEq, orD, e0, dEqP, e1, Option.map_some]
theorem dNe_pd {d e : D} {p q : PyData} (h1 : pd d = some p) (h2 : pd e = some q) (s1 : SeqAt.shaped p = true) (s2 : SeqAt.shaped q = true) (hf : eqF d e = none) : dNe d e = some (.bl (!PyData.eqv p q)) := by
  have e1 : eqP d e = some (PyData.eqv p q) := by simp only [eqP, h1, h2, s1, s2, Bool.and_self, if_true]
  have e0 : dNeF d e = none := by unfold dNeF; rw [hf]; rfl
  simp only [dNe, orD, e0, dNeP, e1, Option.map_some]
theorem pdL_strs (zs : List Str) : pdL (zs.map D.str) = some (zs.map PyData.str) := by
  induction zs with
  | nil => rfl
  | cons z zs ih =>
    show (match pd (.str z) with | none => none | some p => (pdL (zs.map D.str)).map (p :: ·)) = _
    rw [ih]; rfl
theorem can_strs {zs : List Str} (h : ∀ z ∈ zs, PyData.strOk z = true) : PyData.canLayAll0 (zs.map PyData.str) = true := by
  induction zs with
  | nil => rfl
  | cons z zs ih =>
    rw [List.map_cons]
    simp only [PyData.canLayAll0, PyData.canLay0, h z (List.mem_cons_self ..), ih fun y hy => h y (List.mem_cons_of_mem _ hy), Bool.and_self]
theorem depth_strs (zs : List Str) : PyData.depthAll (zs.map PyData.str) ≤ 1 := by
  induction zs with
  | nil => simp [PyData.depthAll]
  | cons z zs ih =>
    rw [List.map_cons]
    simp only [PyData.depthAll, PyData.depth]
    omega
theorem shaped_tup {zs : List Str} (h : ∀ z ∈ zs, PyData.strOk z = true) : SeqAt.shaped (.tuple (zs.map PyData.str)) = true := by
  have h1 : PyData.canLay0 (.tuple (zs.map PyData.str)) = true := by simp only [PyData.canLay0]; exact can_strs h
  have h2 : (PyData.tuple (zs.map PyData.str)).depth ≤ 64 := by
    have := depth_strs zs
    simp only [PyData.depth]
    omega
  unfold SeqAt.shaped
  rw [h1, decide_eq_true h2]; rfl
theorem shaped_lst {zs : List Str} (h : ∀ z ∈ zs, PyData.strOk z = true) : SeqAt.shaped (.list (zs.map PyData.str)) = true := by
  have h1 : PyData.canLay0 (.list (zs.map PyData.str)) = true := by simp only [PyData.canLay0]; exact can_strs h
  have h2 : (PyData.list (zs.map PyData.str)).depth ≤ 64 := by
    have := depth_strs zs
    simp only [PyData.depth]
    omega
  unfold SeqAt.shaped
  rw [h1, decide_eq_true h2]; rfl
theorem eqvAll_strs : ∀ zs ws : List Str, PyData.eqvAll (zs.map PyData.str) (ws.map PyData.str) = decide (zs = ws)
  | [], [] => rfl
  | [], _ :: _ => rfl
  | _ :: _, [] => rfl
  | z :: zs, w :: ws => by
    rw [List.map_cons, List.map_cons]
    simp only [PyData.eqvAll, PyData.eqv, eqvAll_strs zs ws]
    by_cases h1 : z = w <;> by_cases h2 : zs = ws <;> simp [h1, h2]
abbrev T (zs : List Str) : D := .tup (zs.map .str)
abbrev Ok (zs : List Str) : Prop := ∀ z ∈ zs, PyData.strOk z = true
theorem dEq_T {zs ws : List Str} (h1 : Ok zs) (h2 : Ok ws) : dEq (T zs) (T ws) = some (.bl (decide (zs = ws))) := by
  rw [dEq_pd (p := .tuple (zs.map .str)) (q := .tuple (ws.map .str)) (by simp only [pd, pdL_strs, Option.map_some]) (by simp only [pd, pdL_strs, Option.map_some]) (shaped_tup h1) (shaped_tup h2) rfl]
  simp only [PyData.eqv, eqvAll_strs]
theorem dNe_T {zs ws : List Str} (h1 : Ok zs) (h2 : Ok ws) : dNe (T zs) (T ws) = some (.bl (!decide (zs = ws))) := by
  rw [dNe_pd (p := .tuple (zs.map .str)) (q := .tuple (ws.map .str)) (by simp only [pd, pdL_strs, Option.map_some]) (by simp only [pd, pdL_strs, Option.map_some]) (shaped_tup h1) (shaped_tup h2) rfl]
  simp only [PyData.eqv, eqvAll_strs]
/-! ### in -/
theorem flatsO_strs (zs : List Str) : flatsO (zs.map D.str) = some (zs.map V.str) := by
  induction zs with
  | nil => rfl
  | cons z zs ih =>
    rw [List.map_cons]
    simp only [flatsO, flatO, ih, Option.map_some]
    rfl
theorem inV_strs (z : Str) (zs : List Str) : inV (.str z) (zs.map V.str) = decide (z ∈ zs) := by
  induction zs with
  | nil => rfl
  | cons y zs ih =>
    have e : inV (.str z) (V.str y :: zs.map V.str) = (eqV (.str y) (.str z) || inV (.str z) (zs.map V.str)) := rfl
    rw [List.map_cons, e, ih]
    have e2 : eqV (.str y) (.str z) = (y == z) := rfl
    rw [e2]
    by_cases h : y = z
    · subst h; simp
    · have h' : ¬ z = y := fun q => h q.symm
      simp [h, h']
theorem inSeq_strs {e : D} {zs : List Str} (z : Str) (h : seqD e = some (zs.map D.str)) : inSeq (.str z) e = some (decide (z ∈ zs)) := by
  simp only [inSeq, flatO, h, Option.bind_some, flatsO_strs, Option.map_some, inV_strs]
theorem dIn_T (z : Str) (zs : List Str) : dIn (.str z) (T zs) = some (.bl (decide (z ∈ zs))) := by
  simp only [dIn, orD, dInS, dInQ, inSeq_strs z (show seqD (T zs) = some (zs.map D.str) from rfl), Option.map_some]
theorem dNotIn_T (z : Str) (zs : List Str) : dNotIn (.str z) (T zs) = some (.bl (!decide (z ∈ zs))) := by
  simp only [dNotIn, orD, dNotInS, dNotInQ, inSeq_strs z (show seqD (T zs) = some (zs.map D.str) from rfl), Option.map_some]
theorem dIn_L (z : Str) (zs : List Str) : dIn (.str z) (.lst (zs.map .str)) = some (.bl (decide (z ∈ zs))) := by
  simp only [dIn, orD, dInS, dInQ, inSeq_strs z (show seqD (.lst (zs.map .str)) = some (zs.map D.str) from rfl), Option.map_some]
theorem dNotIn_L (z : Str) (zs : List Str) : dNotIn (.str z) (.lst (zs.map .str)) = some (.bl (!decide (z ∈ zs))) := by
  simp only [dNotIn, orD, dNotInS, dNotInQ, inSeq_strs z (show seqD (.lst (zs.map .str)) = some (zs.map D.str) from rfl), Option.map_some]
theorem dIn_sign (c : Nat) (y : Str) : dIn (.str ⟨#[c]⟩) (.str y) = some (.bl (decide (c ∈ y.cps.toList))) := by
  simp only [dIn, orD, dInS, found, Option.map_some]
  rw [StrLaws.found_one]
@[simp] theorem view_dcu (M : List (Option C)) (xs : List (List Key × D)) : view M (.dcu xs) = .dcu xs := (rfl)
@[simp] theorem view_obj (M : List (Option C)) (c : Str) (xs : List (Str × D)) : view M (.obj c xs) = .obj c xs := (rfl)
@[simp] theorem view_xd (M : List (Option C)) (xs : List (Str × D)) : view M (.xd xs) = .xd xs := (rfl)
@[simp] theorem fin_dct (n : Nat) (s : S) (xs : List (Key × D)) : fin n (.ok (.ret (.dct xs)) s) = if npK xs = true then (if okM n s then .ok (.dct xs) ⟨[], s.M.take n⟩ else .fail) else .fail := by
  have e : outD n s (.dct xs) = if npK xs = true then some (.dct xs) else none := by
    show (if np (.dct xs) = true then some (D.dct xs) else none) = _
    rw [np_dct]
  show (match outD n s (.dct xs) with | some d => if okM n s then Out.ok d ⟨[], s.M.take n⟩ else .fail | none => .fail) = _
  rw [e]
  by_cases h : npK xs = true
  · rw [if_pos h, if_pos h]
  · rw [if_neg h, if_neg h]
@[simp] theorem fin_kt (n : Nat) (s : S) (xs : List D) : fin n (.ok (.ret (.kt xs)) s) = if npL xs = true then (if okM n s then .ok (.kt xs) ⟨[], s.M.take n⟩ else .fail) else .fail := by
  have e : outD n s (.kt xs) = if npL xs = true then some (.kt xs) else none := by
    show (if np (.kt xs) = true then some (D.kt xs) else none) = _
    rw [np_kt]
  show (match outD n s (.kt xs) with | some d => if okM n s then Out.ok d ⟨[], s.M.take n⟩ else .fail | none => .fail) = _
  rw [e]
  by_cases h : npL xs = true
  · rw [if_pos h, if_pos h]
  · rw [if_neg h, if_neg h]
/-! ### calls -/
theorem call_any {io : List Bool} {sem : Sem} {ds : List D} {r : D} (hio : ∀ b ∈ io, b = false) (hl : ds.length = io.length) (hd : npL ds = true) (hr : DL.np r = true) (hs : sem [] ds = .ok r ⟨[], []⟩) (env : List (Option D)) (M : List (Option C)) : callS io sem ds ⟨env, M⟩ = .ok r ⟨env, M⟩ := by
  have key : ∀ (io : List Bool) (ds : List D) (j : Nat), (∀ b ∈ io, b = false) → ds.length = io.length → npL ds = true → prep M io ds j = some ⟨[], [], ds, []⟩ := by
    intro io
    induction io with
    | nil =>
      intro ds j _ hl _
      cases ds with
      | nil => rfl
      | cons _ _ => simp at hl
    | cons b io ih =>
      intro ds j hio hl hd
      cases ds with
      | nil => simp at hl
      | cons d ds =>
        have eb := hio b (List.mem_cons_self ..)
        subst eb
        simp only [npL_cons, Bool.and_eq_true] at hd
        have nd : ∀ k, d ≠ .ptr k := fun k e => by subst e; cases hd.1
        rw [prep_fv nd, if_pos hd.1, ih ds j (fun b hb => hio b (List.mem_cons_of_mem _ hb)) (by simpa using hl) hd.2]
        rfl
  unfold callS
  rw [key io ds 0 hio hl hd]
  dsimp only
  rw [if_pos ⟨by simp, by simp⟩, hs]
  simp [hr]
theorem call_1 {sem : Sem} {d r : D} (hs : sem [] [d] = .ok r ⟨[], []⟩) (hd : DL.np d = true) (hr : DL.np r = true) (env : List (Option D)) (M : List (Option C)) : callS [false] sem [d] ⟨env, M⟩ = .ok r ⟨env, M⟩ :=
  call_any (by simp) rfl (by simp [hd]) hr hs env M
theorem call_2 {sem : Sem} {d e r : D} (hs : sem [] [d, e] = .ok r ⟨[], []⟩) (hd : DL.np d = true) (he : DL.np e = true) (hr : DL.np r = true) (env : List (Option D)) (M : List (Option C)) : callS [false, false] sem [d, e] ⟨env, M⟩ = .ok r ⟨env, M⟩ :=
  call_any (by simp) rfl (by simp [hd, he]) hr hs env M
theorem call_3 {sem : Sem} {d e f r : D} (hs : sem [] [d, e, f] = .ok r ⟨[], []⟩) (hd : DL.np d = true) (he : DL.np e = true) (hf : DL.np f = true) (hr : DL.np r = true) (env : List (Option D)) (M : List (Option C)) : callS [false, false, false] sem [d, e, f] ⟨env, M⟩ = .ok r ⟨env, M⟩ :=
  call_any (by simp) rfl (by simp [hd, he, hf]) hr hs env M
theorem call_4 {sem : Sem} {d e f g r : D} (hs : sem [] [d, e, f, g] = .ok r ⟨[], []⟩) (hd : DL.np d = true) (he : DL.np e = true) (hf : DL.np f = true) (hg : DL.np g = true) (hr : DL.np r = true) (env : List (Option D)) (M : List (Option C)) : callS [false, false, false, false] sem [d, e, f, g] ⟨env, M⟩ = .ok r ⟨env, M⟩ :=
  call_any (by simp) rfl (by simp [hd, he, hf, hg]) hr hs env M
end DL

/-! DmB: repr of a bool, a dict of one key, while loops reckoned, data compared with the empty list. -/
namespace DL
open PySem PySem.Spec PyProof.Rows L2
section
variable {X : Cx} {cl : Str → Addr} {W : WX}
theorem cr_reprB : CallR X (.builtin "repr") (fun xs H Q => ∃ b, xs = [.bl b] ∧ Q (.str (if b then "True" else "False")) H) := by
  intro pins s σ H xs us Q I r h
  obtain ⟨b, rfl, q⟩ := h
  obtain ⟨u, rfl, rfl⟩ := vals1 r
  exact PySem.P.repr_of_bool ⟨.str _, H, I.tok _, ⟨_, rfl⟩, q⟩
def dReprB : D → Option D
  | .bl b => some (.str (if b then "True" else "False"))
  | _ => none
theorem cd_reprB : CD X cl (.builtin "repr") (g1 dReprB) := by
  refine CD.one cr_reprB fun c σ s T H F α d v z Q J hz k => ?_
  unfold dReprB at hz
  split at hz
  · rename_i b e
    cases hz
    have e1 : v = .bl b := J.vBl (J.tmp (d, v) (List.mem_cons_self ..)) e
    exact ⟨b, by rw [e1], k _ H (SI.flat rfl ⟨F, α, J⟩)⟩
  · cases hz
def dReprX : List D → Option D := orC (g1 dReprB) (g1 dRepr)
theorem cd_reprX (hg : X.A.guards = some []) (hu : X.A.units + 64 < cLine) : CD X cl (.builtin "repr") dReprX := cd_reprB.or (cd_repr hg hu)
@[simp] theorem dReprX_bl (b : Bool) : dReprX [.bl b] = some (.str (if b then "True" else "False")) := (rfl)
/-- {k: i} -/
theorem de_dict1 {k : Str} {i : Int} {a b p q pos} : DE X cl W (.Dict [some (.Constant (.str k) a p)] [.Constant (.int i) b q] pos) (eC (.dct [(.inr k, .int i)])) := by
  refine ⟨_, pe_disp (pps_cons pe_str pe_int pps_nil) rfl rfl (by simp) (by simp), fun c σ s T H Q ⟨F, α, I⟩ w p' hp => ?_⟩
  refine ⟨upd_same, [(.inr k, .int i)], rfl, by simp, ?_⟩
  have e : upd (upd H p' (.dK [])) p' (.dK (mergeK [] [(.inr k, .int i)])) = upd H p' (.dK [(.inr k, .int i)]) := by
    funext b
    by_cases hb : b = p'
    · subst hb; rw [upd_same, upd_same]; rfl
    · rw [upd_ne hb, upd_ne hb, upd_ne hb]
  rw [e]
  exact w _ _ ⟨_, α, (I.newF hp).push (.dct upd_same (.inr rfl) (.cons .int .nil))⟩
end
theorem whileL_inv {t : M Bool} {fb : M Fl} (I : Nat → S → Prop) (E : S → Prop) (h : ∀ m s, I (m + 1) s → ∃ s1 s2, t s = .ok true s1 ∧ (fb s1 = .ok .nx s2 ∨ fb s1 = .ok .ct s2) ∧ I m s2) (h0 : ∀ s, I 0 s → ∃ s1, t s = .ok false s1 ∧ E s1) :
    ∀ (m n : Nat) (s : S), m < n → I m s → ∃ s', E s' ∧ whileL t fb n s = .ok .nx s'
  | 0, n + 1, s, _, hI => by
    obtain ⟨s1, h1, h2⟩ := h0 s hI
    refine ⟨s1, h2, ?_⟩
    unfold whileL
    rw [h1]
    rfl
  | m + 1, n + 1, s, hn, hI => by
    obtain ⟨s1, s2, h1, h2, h3⟩ := h m s hI
    obtain ⟨s', e1, e2⟩ := whileL_inv I E h h0 m n s2 (by omega) h3
    refine ⟨s', e1, ?_⟩
    unfold whileL
    rw [h1]
    unfold Out.bind
    dsimp only
    rw [if_pos rfl]
    rcases h2 with h2 | h2
    · rw [h2]; exact e2
    · rw [h2]; exact e2
  | _, 0, _, hn, _ => absurd hn (by omega)
/-! ### simp -/
theorem dMulX_int (i j : Int) : dMul (.int i) (.int j) = if (small64 i || small64 j) = true then some (.int (i * j)) else none := by
  unfold dMul orD dMulI gI gIf
  cases h : (small64 i || small64 j) <;> simp [h, dRepS, dRepL, dRepT]
theorem dMulX_str {z : Str} {k : Int} (h1 : z.length ≤ 16) (h2 : 0 ≤ k) (h3 : k ≤ 1000000) : dMul (.str z) (.int k) = some (.str (Txt.mul z k)) := by
  have e : dRepS (.str z) (.int k) = some (.str (Txt.mul z k)) := by
    unfold dRepS
    dsimp only
    rw [if_pos]
    rw [decide_eq_true h1, decide_eq_true h3, decide_eq_true (by omega)]
    rfl
  show (match dRepS (.str z) (.int k) with | some z' => some z' | none => none) = _
  rw [e]
theorem dMulX_lst (a : List D) (k : Int) : dMul (.lst a) (.int k) = if (decide (0 ≤ k) && decide (k ≤ 1000) && decide (a.length ≤ 1000)) = true then some (.lst (List.replicate k.toNat a).flatten) else none := by
  unfold dMul orD dMulI gI gIf dRepL
  cases h : (decide (0 ≤ k) && decide (k ≤ 1000) && decide (a.length ≤ 1000)) <;> simp [h, dRepS, dRepT]
theorem dMulX_tup (a : List D) (k : Int) : dMul (.tup a) (.int k) = if (decide (0 ≤ k) && decide (k ≤ 1000) && decide (a.length ≤ 1000) && decide (0 < a.length)) = true then some (.tup (List.replicate k.toNat a).flatten) else none := by
  unfold dMul orD dMulI gI gIf dRepT
  cases h : (decide (0 ≤ k) && decide (k ≤ 1000) && decide (a.length ≤ 1000) && decide (0 < a.length)) <;> simp [h, dRepS, dRepL]
/-- data that kit can compare -/
def Pdo (d : D) : Prop := ∃ p, pd d = some p ∧ p.canLay0 = true ∧ p.depth ≤ 8
theorem Pdo.list : ∀ {ds : List D}, (∀ d ∈ ds, Pdo d) → ∃ ps, pdL ds = some ps ∧ PyData.canLayAll0 ps = true ∧ PyData.depthAll ps ≤ 9 ∧ (ps = [] ↔ ds = [])
  | [], _ => ⟨[], rfl, rfl, by decide, by simp⟩
  | d :: ds, h => by
    obtain ⟨p, h1, h2, h3⟩ := h d (List.mem_cons_self ..)
    obtain ⟨ps, e1, e2, e3, _⟩ := Pdo.list fun x hx => h x (List.mem_cons_of_mem _ hx)
    refine ⟨p :: ps, by simp only [pdL, h1, e1, Option.map_some], ?_, ?_, by simp⟩
    · simp only [PyData.canLayAll0, h2, e2, Bool.and_self]
    · simp only [PyData.depthAll]
      omega
theorem cmp_nil {ds : List D} (h : ∀ d ∈ ds, Pdo d) : dEq (.lst ds) (.lst []) = some (.bl (decide (ds = []))) ∧ dNe (.lst ds) (.lst []) = some (.bl (!decide (ds = []))) := by
  obtain ⟨ps, e1, e2, e3, e4⟩ := Pdo.list h
  have s1 : SeqAt.shaped (.list ps) = true := by
    unfold SeqAt.shaped
    have h1 : (PyData.list ps).canLay0 = true := by simp only [PyData.canLay0, e2]
    have h2 : (PyData.list ps).depth ≤ 64 := by simp only [PyData.depth]; omega
    rw [h1, decide_eq_true h2]; rfl
  have s2 : SeqAt.shaped (.list []) = true := by decide +kernel
  have e : PyData.eqv (.list ps) (.list []) = decide (ds = []) := by
    simp only [PyData.eqv]
    cases ps with
    | nil => rw [e4.mp rfl]; rfl
    | cons p ps =>
      have : ds ≠ [] := fun q => by cases e4.mpr q
      simp only [PyData.eqvAll, this, decide_false]
  have p1 : pd (.lst ds) = some (.list ps) := by simp only [pd, e1, Option.map_some]
  exact ⟨by rw [dEq_pd p1 (q := .list []) rfl s1 s2 rfl, e], by rw [dNe_pd p1 (q := .list []) rfl s1 s2 rfl, e]⟩
theorem Pdo.str {z : Str} (h : PyData.strOk z = true) : Pdo (.str z) := ⟨.str z, rfl, by simpa [PyData.canLay0] using h, by simp [PyData.depth]⟩
end DL

set_option pp.maxSteps 300
/-! DmJ: None, an int, a text shown; in a tuple of plain data; a text or another. -/
namespace DL
open PySem PySem.Spec PyProof.Rows L2
section
variable {X : Cx} {cl : Str → Addr} {W : WX}
theorem cr_reprF : CallR X (.builtin "repr") (fun xs H Q => (∃ i, xs = [.int i] ∧ i.natAbs.log2 < 1920 ∧ Q (.str (toString i)) H) ∨ (xs = [.non] ∧ Q (.str "None") H) ∨ ∃ z, xs = [.str z] ∧ (reprText z).length ≤ sizeLine ∧ Q (.str (reprText z)) H) := by
  intro pins s σ H xs us Q I r h
  rcases h with ⟨i, rfl, hz, q⟩ | ⟨rfl, q⟩ | ⟨z, rfl, hz, q⟩
  · obtain ⟨u, rfl, t, rfl⟩ := vals1 r
    exact PySem.P.repr_of_int hz ⟨.str _, H, I.tok _, ⟨_, rfl⟩, q⟩
  · obtain ⟨u, rfl, rfl⟩ := vals1 r
    exact PySem.P.repr_of_none ⟨.str _, H, I.tok _, ⟨_, rfl⟩, q⟩
  · obtain ⟨u, rfl, t, rfl⟩ := vals1 r
    exact PySem.P.repr_of_str (hsz := hz) ⟨.str _, H, I.tok _, ⟨_, rfl⟩, q⟩
def dReprF : D → Option D
  | .int i => if i.natAbs.log2 < 1920 then some (.str (toString i)) else none
  | .non => some (.str "None")
  | .str z => if le1m (reprText z).length = true then some (.str (reprText z)) else none
  | _ => none
theorem cd_reprF : CD X cl (.builtin "repr") (g1 dReprF) := by
  refine CD.one cr_reprF fun c σ s T H F α d v z Q J hz k => ?_
  have hz' := hz
  cases e : view s.M d with
  | int i =>
    rw [e] at hz
    simp only [dReprF] at hz
    split at hz
    · rename_i hl
      cases hz
      have ev : v = .int i := J.vInt (J.tmp (d, v) (List.mem_cons_self ..)) e
      exact .inl ⟨i, by rw [ev], hl, k _ H (SI.flat rfl ⟨F, α, J⟩)⟩
    · cases hz
  | non =>
    rw [e] at hz
    cases hz
    have ev : v = .non := J.vNon (J.tmp (d, v) (List.mem_cons_self ..)) e
    exact .inr (.inl ⟨by rw [ev], k _ H (SI.flat rfl ⟨F, α, J⟩)⟩)
  | str y =>
    rw [e] at hz
    simp only [dReprF] at hz
    split at hz
    · rename_i hl
      cases hz
      have ev : v = .str y := J.vStr (J.tmp (d, v) (List.mem_cons_self ..)) e
      exact .inr (.inr ⟨y, by rw [ev], le1m_ok hl, k _ H (SI.flat rfl ⟨F, α, J⟩)⟩)
    · cases hz
  | _ => rw [e] at hz; cases hz
/-! ### in a tuple of plain data -/
def rInT (K : PySem.W.Frag) : R2 := fun x y H Q => ∃ d ds, Dp K H x d ∧ Dp K H y (.tuple ds) ∧ SeqAt.shaped d = true ∧ SeqAt.shaped (.tuple ds) = true ∧ Q (.bl (ds.any fun z => PyData.eqv z d)) H
theorem op_inT (hu : X.A.units + 65 < cLine) : OpR X (compareOp .In) (rInT X.K) := by
  intro pins s σ H x y v u Q I rx ry h
  obtain ⟨d, ds, hd, he, sd, se, q⟩ := h
  obtain ⟨as, r1⟩ := Dp.reads I d x v hd rx
  obtain ⟨bs, r2⟩ := Dp.reads I (.tuple ds) y u he ry
  refine SeqAt.in_tuple_reads r2 r1 (SeqAt.canLay_of_shaped se) (SeqAt.canLay_of_shaped sd) ?_ ⟨.bl _, H, I, rfl, q⟩
  have h1 := SeqAt.depth_of_shaped sd
  have h2 : min (PyData.depthAll ds) d.depth ≤ d.depth := Nat.min_le_right _ _
  omega
def inP (d e : D) : Option Bool := match pd d, pd e with
  | some p, some (.tuple qs) => if SeqAt.shaped p && SeqAt.shaped (.tuple qs) then some (qs.any fun z => PyData.eqv z p) else none
  | _, _ => none
def dInP (d e : D) : Option D := (inP d e).map .bl
theorem od_inP (hu : X.A.units + 65 < cLine) : OpD X cl (compareOp .In) dInP := by
  refine ⟨_, op_inT hu, fun c σ s T H d x e y z Q ⟨F, α, I⟩ hz k => ?_⟩
  unfold dInP at hz
  cases q : inP (view s.M d) (view s.M e) with
  | none => rw [q] at hz; cases hz
  | some b =>
    rw [q] at hz; cases hz
    unfold inP at q
    split at q
    · rename_i p qs e1 e2
      split at q
      · rename_i hs
        obtain ⟨h3, h4⟩ := Bool.and_eq_true_iff.mp hs
        cases q
        exact ⟨p, qs, I.vDp (I.tmp (d, x) (List.mem_cons_of_mem _ (List.mem_cons_self ..))) e1, I.vDp (I.tmp (e, y) (List.mem_cons_self ..)) e2, h3, h4, k _ H (SI.flat rfl ⟨F, α, I⟩)⟩
      · cases q
    · cases q
def dInX : D → D → Option D := orD dIn dInP
theorem od_inX (hu : X.A.units + 65 < cLine) : OpD X cl (compareOp .In) dInX := od_in.or (od_inP hu)
/-! ### a text or another -/
def tOrS (ta tb : TE) : TE := fun σ H Q => ta σ H fun x H1 => ∃ z : Str, x = .str z ∧ z.length ≤ 1000000 ∧ if z.length = 0 then tb σ H1 Q else Q (.str z) H1
theorem pe_orS {a b : Expr} {rest : List Expr} {pos : Pos} {ta tb : TE} (ha : PE X a ta) (hb : PE X (.BoolOp .Or (b :: rest) pos) tb) : PE X (.BoolOp .Or (a :: b :: rest) pos) (tOrS ta tb) := by
  refine ⟨fun pins s σ H Q I h => ?_⟩
  refine BoolOp_or (thn (ha.run pins s σ H _ I h) fun v s1 ⟨x, H1, I1, r1, q1⟩ => ?_)
  obtain ⟨z, rfl, hz, q1⟩ := q1
  obtain ⟨t, rfl⟩ := r1
  refine PySem.P.truthy_str (by omega) ?_
  have I2 : Inv X pins σ H1 { s1 with toks := s1.toks + 1 + 1 } := I1.tok _
  by_cases h0 : z.length = 0
  · rw [if_pos h0] at q1
    have e : ((z.length : Int) != 0) = false := by rw [h0]; rfl
    rw [e]
    exact hb.run pins _ σ H1 Q I2 q1
  · rw [if_neg h0] at q1
    have e : ((z.length : Int) != 0) = true := by
      simp only [bne_iff_ne, ne_eq]
      omega
    rw [e]
    exact ⟨.str z, H1, I2, ⟨t, rfl⟩, q1⟩
def eOrS (f g : M D) : M D := fun s => (f s).bind fun d s1 => match view s1.M d with
  | .str z => if z.length ≤ 1000000 then (if z.length = 0 then g s1 else .ok (.str z) s1) else .fail
  | _ => .fail
theorem de_orS {a b : Expr} {rest : List Expr} {f g : M D} {pos : Pos} (h : DE X cl W a f) (h2 : DE X cl W (.BoolOp .Or (b :: rest) pos) g) : DE X cl W (.BoolOp .Or (a :: b :: rest) pos) (eOrS f g) := by
  obtain ⟨te, pe, q⟩ := h
  obtain ⟨te2, pe2, q2⟩ := h2
  refine ⟨_, pe_orS pe pe2, fun c σ s T H Q I w => ?_⟩
  refine q c σ s T H _ I (w.bind fun d s1 _ w1 v H1 I1 => ?_)
  cases e : view s1.M d with
  | str z =>
    rw [e] at w1
    dsimp only at w1
    by_cases hz : z.length ≤ 1000000
    · rw [if_pos hz] at w1
      obtain ⟨F, α, J⟩ := id I1
      have ev : v = .str z := J.vStr (J.tmp (d, v) (List.mem_cons_self ..)) e
      refine ⟨z, ev, hz, ?_⟩
      by_cases h0 : z.length = 0
      · rw [if_pos h0] at w1 ⊢
        exact q2 c σ s1 T H1 Q I1.pop w1
      · rw [if_neg h0] at w1 ⊢
        exact w1 _ H1 (SI.flat rfl I1.pop)
    · rw [if_neg hz] at w1; exact w1.elim
  | _ => rw [e] at w1; exact w1.elim
end
section
variable {X : Cx} {cl : Str → Addr} {W : WX}
def dReprY : List D → Option D := orC (orC (g1 dReprB) (g1 dReprF)) (g1 dRepr)
theorem cd_reprB2 : CD X cl (.builtin "repr") (g1 dReprB) := cd_reprB
theorem cd_reprY (hg : X.A.guards = some []) (hu : X.A.units + 64 < cLine) : CD X cl (.builtin "repr") dReprY := (cd_reprB.or cd_reprF).or (cd_repr hg hu)
end
@[simp] theorem dReprY_bl (b : Bool) : dReprY [.bl b] = some (.str (if b then "True" else "False")) := (rfl)
@[simp] theorem dReprY_non : dReprY [.non] = some (.str "None") := (rfl)
end DL

set_option pp.maxSteps 400
/-! DnM: repr of data that hold an empty dict. -/
namespace DL
open PySem L2
open PySem.Spec PyProof.Rows
/-- the known objects are none of the model's own -/
abbrev SmB (base : Heap) : Prop := ∃ o, base.get? sysModules = some o
mutual
inductive De (K : PySem.W.Frag) (H : Hp) : V → PyData → Prop
  | non : De K H .non .none
  | bl (b : Bool) : De K H (.bl b) (.bool b)
  | int (i : Int) : De K H (.int i) (.int i)
  | str (x : Str) : De K H (.str x) (.str x)
  | lst {a : Addr} {xs : List V} {ds : List PyData} : H a = some (.lst xs) → DeAll K H xs ds → De K H (.ref a) (.list ds)
  | tup {a : Addr} {xs : List V} {ds : List PyData} : SqT K H a xs → DeAll K H xs ds → De K H (.ref a) (.tuple ds)
  | dct {a : Addr} : H a = some (.dK []) → De K H (.ref a) (.dict [])
inductive DeAll (K : PySem.W.Frag) (H : Hp) : List V → List PyData → Prop
  | nil : DeAll K H [] []
  | cons {v : V} {vs : List V} {d : PyData} {ds : List PyData} : De K H v d → DeAll K H vs ds → DeAll K H (v :: vs) (d :: ds)
end
section
variable {X : Cx} {pins : List (Addr × Obj)} {σ : L2.St} {H : Hp} {s : Shared}
theorem sm_free (I : Inv X pins σ H s) (hs : SmB X.base) {a : Addr} {o : HO} (h : H a = some o) : sysModules ≠ a := fun e => by
  obtain ⟨ob, hk⟩ := hs
  have := (I.bs sysModules ob hk).2
  rw [e, h] at this
  cases this
mutual
theorem De.reads (I : Inv X pins σ H s) (hs : SmB X.base) : ∀ (d : PyData) (v : V) (u : Value), De X.K H v d → RelV v u → ∃ as, Reads s.heap u d as ∧ sysModules ∉ as
  | .none, _, _, h, r => by
    cases h; cases r
    exact ⟨_, Reads.none, by simp⟩
  | .bool b, _, _, h, r => by
    cases h; cases r
    exact ⟨_, Reads.bool b, by simp⟩
  | .int i, _, _, h, r => by
    cases h
    obtain ⟨t, rfl⟩ := r
    exact ⟨_, Reads.int i t, by simp⟩
  | .str x, _, _, h, r => by
    cases h
    obtain ⟨t, rfl⟩ := r
    exact ⟨_, Reads.str x t, by simp⟩
  | .list ds, _, _, h, r => by
    cases h with
    | lst h1 h2 =>
      cases r
      obtain ⟨_, its, n, rv, e⟩ := I.hok _ _ h1
      obtain ⟨as, hr, hm⟩ := De.readsAll I hs ds _ its h2 rv
      refine ⟨_, Reads.list (vs := its.toArray) e rfl rfl (by simpa using hr), fun z => ?_⟩
      rcases List.mem_cons.mp z with z | z
      · exact sm_free I hs h1 z
      · exact hm z
  | .tuple ds, _, _, h, r => by
    cases h with
    | tup h1 h2 =>
      cases r
      obtain ⟨its, rv, ⟨o, ho, hc, n, hd⟩, _⟩ := I.tuple h1
      obtain ⟨as, hr, hm⟩ := De.readsAll I hs ds _ its h2 rv
      exact ⟨_, Reads.tuple ho hc hd (by simpa using hr), hm⟩
  | .dict kvs, _, _, h, r => by
    cases h with
    | dct h1 =>
      cases r
      obtain ⟨_, _, vs, rel, o, es, ep, ho, hx, hd, _, hp, _⟩ := I.hok _ _ h1
      cases rel
      have e0 : es.toList = [] := by cases hp' : es.toList with
        | nil => rfl
        | cons x y => rw [hp'] at hp; cases hp
      refine ⟨_, Reads.dict (as := []) (bs := []) ho hx.1 hd (by rw [e0]; exact .nil) (by rw [e0]; exact .nil), fun z => ?_⟩
      rw [List.append_nil] at z
      exact sm_free I hs h1 (List.mem_singleton.mp z)
theorem De.readsAll (I : Inv X pins σ H s) (hs : SmB X.base) : ∀ (ds : List PyData) (vs : List V) (us : List Value), DeAll X.K H vs ds → Vals vs us → ∃ as, ReadsAll s.heap us ds as ∧ sysModules ∉ as
  | [], _, _, h, r => by
    cases h; cases r
    exact ⟨_, ReadsAll.nil, by simp⟩
  | d :: ds, _, _, h, r => by
    cases h with
    | cons h1 h2 =>
      cases r with
      | cons r1 r2 =>
        obtain ⟨as, q1, m1⟩ := De.reads I hs d _ _ h1 r1
        obtain ⟨bs, q2, m2⟩ := De.readsAll I hs ds _ _ h2 r2
        exact ⟨_, ReadsAll.cons q1 q2, fun z => (List.mem_append.mp z).elim m1 m2⟩
end
end
mutual
/-- plain data with empty dicts -/
def pe : D → Option PyData
  | .non => some .none
  | .bl b => some (.bool b)
  | .int i => some (.int i)
  | .str s => some (.str s)
  | .tup xs => (peL xs).map .tuple
  | .kt xs => (peL xs).map .tuple
  | .lst xs => (peL xs).map .list
  | .dct [] => some (.dict [])
  | _ => none
def peL : List D → Option (List PyData)
  | [] => some []
  | x :: xs => match pe x with
    | none => none
    | some p => (peL xs).map (p :: ·)
end
section
variable {K : PySem.W.Frag} {cl : Str → Addr} {c : Cz} {H : Hp} {σ : L2.St} {s : S} {T : List (D × V)} {F : Addr → Prop} {α : List Addr}
mutual
theorem Rep.de : ∀ {d : D} {v : V} {p : PyData}, Rep K cl H F α d v → pe d = some p → De K H v p
  | _, _, _, .non, e => by simp [pe] at e; subst e; exact .non
  | _, _, _, .bl, e => by simp [pe] at e; subst e; exact .bl _
  | _, _, _, .int, e => by simp [pe] at e; subst e; exact .int _
  | _, _, _, .str, e => by simp [pe] at e; subst e; exact .str _
  | _, _, _, .tup h r, e => by
    simp only [pe, Option.map_eq_some_iff] at e
    obtain ⟨ps, e1, rfl⟩ := e
    exact .tup h.1 (RepL.de r e1)
  | _, _, _, .kt h r, e => by
    simp only [pe, Option.map_eq_some_iff] at e
    obtain ⟨ps, e1, rfl⟩ := e
    exact .tup (SqT.of h) (RepL.de r e1)
  | _, _, _, .lst h _ r, e => by
    simp only [pe, Option.map_eq_some_iff] at e
    obtain ⟨ps, e1, rfl⟩ := e
    exact .lst h (RepL.de r e1)
  | _, _, _, .slst _ _ _, e => by simp [pe] at e
  | _, _, _, .slstK _ _, e => by simp [pe] at e
  | _, _, _, .dct (kvs := kvs) h _ r, e => by
    cases kvs with
    | nil =>
      simp [pe] at e; subst e
      cases r
      exact .dct h
    | cons _ _ => simp [pe] at e
  | _, _, _, .dcu _ _ _, e => by simp [pe] at e
  | _, _, _, .obj _ _ _, e => by simp [pe] at e
  | _, _, _, .xd _ _ _, e => by simp [pe] at e
  | _, _, _, .ptr _, e => by simp [pe] at e
  | _, _, _, .raw, e => by simp [pe] at e
theorem RepL.de : ∀ {d : List D} {v : List V} {p : List PyData}, RepL K cl H F α d v → peL d = some p → DeAll K H v p
  | _, _, _, .nil, e => by simp [peL] at e; subst e; exact .nil
  | _, _, _, .cons (d := d) h r, e => by
    simp only [peL] at e
    cases q : pe d with
    | none => rw [q] at e; simp at e
    | some p =>
      rw [q] at e
      simp only [Option.map_eq_some_iff] at e
      obtain ⟨ps, e1, rfl⟩ := e
      exact .cons (Rep.de h q) (RepL.de r e1)
end
theorem SIx.vDe {d : D} {v : V} {p : PyData} (h : SIx K cl c H σ s T F α) (r : Rep K cl H F α d v) (e : pe (DL.view s.M d) = some p) : De K H v p := by
  rcases h.view r with r | ⟨k, x, a, _, rfl, _, _, e2, rc⟩
  · exact r.de e
  · rw [e2] at e
    cases x with
    | lst ds =>
      simp only [C.dat, pe, Option.map_eq_some_iff] at e
      obtain ⟨ps, e1, rfl⟩ := e
      obtain ⟨vs, h1, h2⟩ := rc
      exact .lst h1 (RepL.de h2 e1)
    | dct kvs =>
      obtain ⟨vs, h1, h2⟩ := rc
      cases kvs with
      | nil =>
        simp [C.dat, pe] at e; subst e
        cases h2
        exact .dct h1
      | cons _ _ => simp [C.dat, pe] at e
    | dcu _ => simp [C.dat, pe] at e
    | obj _ _ => simp [C.dat, pe] at e
end
section
variable {X : Cx} {cl : Str → Addr} {W : WX}
def sheOk : PyData → Bool
  | .list xs => (PyData.list xs).showable && (decide ((PyData.list xs).depth ≤ 60) && le1m (PyData.list xs).shown.length)
  | .tuple xs => (PyData.tuple xs).showable && (decide ((PyData.tuple xs).depth ≤ 60) && le1m (PyData.tuple xs).shown.length)
  | .dict [] => true
  | _ => false
def rReprE (K : PySem.W.Frag) : List V → Hp → VK → Prop := fun vs H Q => ∃ v p, vs = [v] ∧ De K H v p ∧ sheOk p = true ∧ Q (.str p.shown) H
theorem sheOk_out {p : PyData} (h : sheOk p = true) : p.showable = true ∧ p.depth ≤ 60 ∧ p.shown.length ≤ sizeLine ∧ ((∃ xs, p = .list xs) ∨ (∃ xs, p = .tuple xs) ∨ p = .dict []) := by
  cases p with
  | list xs =>
    simp only [sheOk, Bool.and_eq_true, decide_eq_true_eq] at h
    exact ⟨h.1, h.2.1, le1m_ok h.2.2, .inl ⟨_, rfl⟩⟩
  | tuple xs =>
    simp only [sheOk, Bool.and_eq_true, decide_eq_true_eq] at h
    exact ⟨h.1, h.2.1, le1m_ok h.2.2, .inr (.inl ⟨_, rfl⟩)⟩
  | dict kvs =>
    cases kvs with
    | nil => exact ⟨by decide, by decide, Nat.le_trans (by decide : (PyData.dict []).shown.length ≤ 1000000) (line1m (Nat.le_refl _)), .inr (.inr rfl)⟩
    | cons _ _ => simp [sheOk] at h
  | _ => simp [sheOk] at h
theorem cr_reprE (hm : SmB X.base) (hg : X.A.guards = some []) (hu : X.A.units + 64 < cLine) : CallR X (.builtin "repr") (rReprE X.K) := by
  intro pins s σ H vs us Q I r h
  obtain ⟨v, p, rfl, hd, hs, q⟩ := h
  obtain ⟨u, rfl, ru⟩ := r.one
  obtain ⟨h1, h3, h4, h5⟩ := sheOk_out hs
  obtain ⟨as, hr, hns⟩ := De.reads I hm p v u hd ru
  have : ∃ a, v = .ref a := by
    rcases h5 with ⟨xs, rfl⟩ | ⟨xs, rfl⟩ | rfl <;> cases hd <;> exact ⟨_, rfl⟩
  obtain ⟨a, rfl⟩ := this
  cases ru
  exact repr_of_reads' hr h1 (fun _ => hns) hg (by omega) (fun _ _ e => e) (fun h' u tk hk => ⟨.str _, H, I.kept hk, ⟨_, rfl⟩, q⟩) h4
def dReprE : D → Option D := fun d => match pe d with
  | some p => if sheOk p = true then some (.str p.shown) else none
  | none => none
theorem cd_reprE (hm : SmB X.base) (hg : X.A.guards = some []) (hu : X.A.units + 64 < cLine) : CD X cl (.builtin "repr") (g1 dReprE) := by
  refine CD.one (cr_reprE hm hg hu) fun c σ s T H F α d v z Q J hz k => ?_
  unfold dReprE at hz
  split at hz
  · rename_i p hp
    split at hz
    · rename_i hs
      cases hz
      exact ⟨v, p, rfl, J.vDe (J.tmp (d, v) (List.mem_cons_self ..)) hp, hs, k _ H (SI.flat rfl ⟨F, α, J⟩)⟩
    · cases hz
  · cases hz
def dReprZ : List D → Option D := orC dReprY (g1 dReprE)
theorem cd_reprZ (hm : SmB X.base) (hg : X.A.guards = some []) (hu : X.A.units + 64 < cLine) : CD X cl (.builtin "repr") dReprZ := (cd_reprY hg hu).or (cd_reprE hm hg hu)
@[simp] theorem dReprZ_bl (b : Bool) : dReprZ [.bl b] = some (.str (if b then "True" else "False")) := (rfl)
@[simp] theorem dReprZ_non : dReprZ [.non] = some (.str "None") := (rfl)
end
end DL

set_option pp.maxSteps 400
/-! DnN: the law, called, where sys.modules is known to stand; the head that looks at it. -/
namespace DL
open PySem L2
open PySem.Spec PyProof.Rows
theorem law_GS {P : Program} {w : World} {K : PySem.W.Frag} {cl : Str → Addr} {mg mb : Str → Option Value} {k : Nat} {fa a : Addr} {fd : FuncData} {x : Str} {sem : Sem} {s₁ : Shared} {vs : List Value} {ns : List Int}
    (KX : K.In s₁.heap) (hns : s₁.heap.Ns mainGlobals mg) (hb : s₁.heap.Ns builtinsNs mb) (hbb : ∀ x : Str, x ≠ "__name__" → mb x = bootBuiltins x) (hlim : s₁.heap.NoLimit) (hg : s₁.gens = #[])
    (ha : s₁.heap.get? a = some { cls := .type "list", data := .seq vs.toArray }) (hi : IntsAre vs ns) (hl : ns.length ≤ sizeLine) (hr : Room k callerA)
    (hsm : ∃ o, s₁.heap.get? sysModules = some o ∧ o.cls = .type "dict") (F : ∀ base : Heap, K.In base → base.Ns mainGlobals mg → SmB base → FnG P w K mg base cl k fa fd [x] sem) (hbind : ∀ (s : Shared) (u : Value), BindsTo s fd ⟨[u], []⟩ [(x, u)])
    (hsem : ∃ s', sem [] [.slst (ns.map .int)] = .ok (.bl true) s') :
    codeAny (model P w) callerA (.call (.ref fa) ⟨[.ref a], []⟩) (fun r s' => r = .ok (.ret (.bool true)) ∧ OldK s₁.heap s'.heap ∧ s'.os = s₁.os ∧ AllBare s'.gens) s₁ := by
  have rv := vals_ints hi
  have lenV := hi.length
  have core : ∀ H : Hp, Only H → SqL K H a (ns.map V.int) → HOk P w H s₁.heap → (∀ b, H b ≠ none → b = a) → (H a ≠ none → K.lookup a = none) →
      codeAny (model P w) callerA (.call (.ref fa) ⟨[.ref a], []⟩) (fun r s' => r = .ok (.ret (.bool true)) ∧ OldK s₁.heap s'.heap ∧ s'.os = s₁.os ∧ AllBare s'.gens) s₁ := by
    intro H hO hS hok hA hK
    have only : ∀ {b : Addr}, b ≠ a → H b = none := fun {b} nb => by
      cases q : H b with
      | none => rfl
      | some u => exact absurd (hA b (by rw [q]; simp)) nb
    have ofns : ∀ {b : Addr} {m : Str → Option Value}, s₁.heap.Ns b m → (hidT s₁.heap H).Ns b m := fun {b m} ⟨o, es, ep, e, d, r⟩ => by
      refine ⟨o, es, ep, hidT_get e (only fun q => ?_), d, r⟩
      subst q
      rw [ha] at e; cases e
      exact nomatch (show Data.seq vs.toArray _ = Data.dict es ep from d)
    have inK : K.In (hidT s₁.heap H) := fun b o e => hidT_get (KX b o e) (by
      by_cases q : H a = none
      · by_cases nb : b = a
        · rw [nb]; exact q
        · exact only nb
      · exact only fun nb => by rw [nb, hK q] at e; cases e)
    obtain ⟨mc, h1, h2⟩ := id hlim
    have sm1 : SmB (hidT s₁.heap H) := by
      obtain ⟨o, e, hc⟩ := hsm
      refine ⟨o, hidT_get e (only fun q => ?_)⟩
      rw [← q, e] at ha
      have hc' := congrArg Obj.cls (Option.some.inj ha)
      rw [hc] at hc'
      exact absurd (show Value.type "dict" = Value.type "list" from hc') (by decide)
    have e0 : Env0 P w K mg (hidT s₁.heap H) callerA [] s₁ H := ⟨rfl, ⟨inK, ofns hns, ⟨mb, ofns hb, hbb⟩, ⟨mc, ofns h1, h2⟩⟩, fun b o e => of_hidT e, Nat.le_of_eq (hidT_size _ _), trivial, fun b hb => absurd (show b ∈ ([] : List Addr) from hb) (by simp), hok, .of_eq hg⟩
    have promise : dsp K cl sem [.ref a] H (fun v _ => v = .bl true) (fun _ _ _ => False) := by
      obtain ⟨s2, e2⟩ := hsem
      have live : H a ≠ none → ∃ o, H a = some o := fun q => by
        cases z : H a with
        | none => exact absurd z q
        | some o => exact ⟨o, rfl⟩
      have rp : Rep K cl H (fun b => b = a ∧ H b ≠ none) [] (.slst (ns.map .int)) (.ref a) := by
        rcases hS with h | h
        · refine .slst h ⟨rfl, ?_⟩ (rep_ints ns)
          rcases h with h | ⟨o, h⟩ <;> rw [h] <;> simp
        · exact .slstK (fun H' => .inr h) (rep_ints ns)
      refine ⟨fun b => b = a ∧ H b ≠ none, [], [], [.slst (ns.map .int)], rfl, ?_, ?_⟩
      · exact ⟨fun i d e => by simp at e, rfl, fun q hq => by
          rw [List.mem_singleton.mp (show q ∈ [((D.slst (ns.map .int)), V.ref a)] from hq)]; exact rp, rfl, fun k x b e => by simp at e, List.nodup_nil, fun b hb => by simp at hb, fun b hb => by simp at hb, fun b hb => by
          obtain ⟨rfl, q⟩ := hb
          exact live q, fun b hb => .inr (.inl hb), fun k b e => by simp at e, fun b o e _ => e, fun _ _ e => e, fun _ _ _ e => e⟩
      · rw [e2]
        intro v H' I'
        obtain ⟨F', α', J'⟩ := I'
        cases J'.tmp (.bl true, v) (List.mem_cons_self ..)
        rfl
    refine codeAny_mono ((F _ inK (ofns hns) sm1).run callerA [] s₁ H ⟨[.ref a], []⟩ [.ref a] [.ref a] _ _ hr rfl e0 (hbind s₁ (.ref a)) (.cons rfl .nil) rfl promise) fun r s' h => ?_
    cases r with
    | error e =>
      obtain ⟨_, _, _, _, _, _, _, _, _, _, _, _, z⟩ := h
      exact z.elim
    | ok fl =>
      cases fl with
      | next => exact False.elim h
      | brk => exact False.elim h
      | cont => exact False.elim h
      | ret u =>
        obtain ⟨v, H', os, bare, un, hok', r', q⟩ := h
        have q' : v = .bl true := q
        subst q'
        obtain rfl : u = Value.bool true := r'
        refine ⟨rfl, OldK.of_keep fun b o e => ?_, os, bare⟩
        rcases hO b with z | ⟨ob, xs, z⟩
        · exact un.keep b o e z (by intro z; exact absurd (show b ∈ ([] : List Addr) from z) (by simp)) (by simp)
        · obtain ⟨e1, _⟩ := hok b _ z
          obtain ⟨e2, _⟩ := hok' b _ (un.frzs b ob _ z)
          rw [e] at e1; cases e1
          exact e2
  cases hk : K.lookup a with
  | some o =>
    have e := KX a o hk
    rw [ha] at e
    cases e
    exact core (fun _ => none) (fun _ => .inl rfl) (.inr ⟨_, vs.toArray, _, hk, rfl, rfl, rfl, by rw [List.size_toArray, lenV]; exact hl, by simpa using rv⟩) (fun b u z => by cases z) (fun b z => absurd rfl z) fun z => absurd rfl z
  | none =>
    obtain ⟨H, hH⟩ : ∃ H : Hp, H = fun b => if b = a then some (.frz { cls := .type "list", data := .seq vs.toArray } (.lst (ns.map V.int))) else none := ⟨_, rfl⟩
    have here : H a = some (.frz { cls := .type "list", data := .seq vs.toArray } (.lst (ns.map V.int))) := by rw [hH]; exact if_pos rfl
    have away : ∀ b, b ≠ a → H b = none := fun b nb => by rw [hH]; exact if_neg nb
    refine core H (fun b => ?_) (.inl (.inr ⟨_, here⟩)) (fun b u z => ?_) (fun b z => ?_) fun _ => hk
    · by_cases nb : b = a
      · subst nb; exact .inr ⟨_, _, here⟩
      · exact .inl (away b nb)
    · by_cases nb : b = a
      · subst nb
        rw [here] at z
        cases z
        exact ⟨ha, by rw [List.length_map]; exact hl, vs, _, rv, ha⟩
      · rw [away b nb] at z
        cases z
    · by_cases nb : b = a
      · exact nb
      · exact absurd (away b nb) z
theorem walk_GS {l : PySem.W.OpenLaw} {n k : Nat} {q : Program} {loose : List Str} {XP : (Str → Option Value) → Heap → Prop} {YP : World → Heap → Prop} {d : DefRec} {x : Str}
    (hn : l.most = some n) (hn2 : n ≤ sizeLine) (hdf : d.params.defaults = []) (hr : Room k callerA)
    (F : ∀ (w : World) (mg : Str → Option Value) (fa : Addr) (h : Heap), YP w h → h.Ns mainGlobals mg → mg d.name = some (.ref fa) →
      (∃ o, h.get? sysModules = some o ∧ o.cls = .type "dict") ∧ ∃ (K : PySem.W.Frag) (cl : Str → Addr) (fd : FuncData) (sem : Sem), K.In h ∧ (∀ (s : Shared) (u : Value), BindsTo s fd ⟨[u], []⟩ [(x, u)]) ∧
        (∀ ns : List Int, ns.length ≤ n → ∃ s', sem [] [.slst (ns.map .int)] = .ok (.bl true) s') ∧
        ∀ base : Heap, K.In base → base.Ns mainGlobals mg → SmB base → FnG l.prog w K mg base cl k fa fd [x] sem) :
    PySem.W.WalkO q loose XP YP l.row.toRowW d [] (fun f vs => PySem.call f vs) := by
  refine Att.attach_call hn hdf fun w s₀ s₁ mg mb fa o pm cd doc a vs ns G Y ho hd hcd hmg hobj hints hlen hg => ?_
  obtain ⟨hsm, K, cl, fd, sem, KX, hb, hsem, hF⟩ := F w mg fa _ Y G.T.g hmg
  exact law_GS KX G.T.g G.T.b G.T.builtins G.T.nolimit hg hobj hints (Nat.le_trans hlen hn2) hr hsm hF hb (hsem ns hlen)

/-! ### the head -/
def dictAt (g : Addr → Option Obj) : Bool := match g sysModules with
  | some o => (match o.cls with
    | .type n => n == "dict"
    | _ => false)
  | none => false
theorem dictAt_ok {g : Addr → Option Obj} (h : dictAt g = true) : ∃ o, g sysModules = some o ∧ o.cls = .type "dict" := by
  unfold dictAt at h
  split at h
  · rename_i o e
    split at h
    · rename_i n c
      exact ⟨o, e, by rw [c, eq_of_beq h]⟩
    · cases h
  · cases h
abbrev AlS : Type := AlB × Bool
def obsS (n : Nat) (fa : List He.Fa) (fn : List He.DefD) (fp : List He5.DefA) (ex : PySem.W.Frag → Bool) (g : Addr → Option Obj) : AlS := (obsB n fa fn fp ex g, dictAt g)
def hookS (n : Nat) (fa : List He.Fa) (fn : List He.DefD) (fp : List He5.DefA) (ex : PySem.W.Frag → Bool) : PySem.W.Hook where
  α := AlS
  obs := fun s => obsS n fa fn fp ex s.heap.get?
  val := fun w => ((hookB n fa fn fp ex).val w, true)
  says := fun w h => (∃ o, h.get? sysModules = some o ∧ o.cls = .type "dict") ∧ (hookB n fa fn fp ex).says w h
  of := fun w s e => ⟨dictAt_ok (congrArg Prod.snd e), (hookB n fa fn fp ex).of w s (congrArg Prod.fst e)⟩
  keeps := fun w h h' ⟨⟨o, e, c⟩, y⟩ k => ⟨⟨o, k _ _ e, c⟩, (hookB n fa fn fp ex).keeps w h h' y k⟩
theorem obsS_eq {n : Nat} {fa : List He.Fa} {fn : List He.DefD} {fp : List He5.DefA} {ex : PySem.W.Frag → Bool} {g : Addr → Option Obj} {s : Shared} (h : ∀ a, g a = s.heap.get? a) : obsS n fa fn fp ex g = (hookS n fa fn fp ex).obs s := by
  have e : g = s.heap.get? := funext h
  rw [e] <;> rfl
end DL

set_option pp.maxSteps 400
/-! DnO: a list == [], whatever it holds. -/
namespace DL
open PySem L2
open PySem.Spec PyProof.Rows
section
variable {X : Cx} {cl : Str → Addr} {W : WX}
def rEqN (K : PySem.W.Frag) : R2 := fun x y H Q => ∃ a b xs, x = .ref a ∧ y = .ref b ∧ SqL K H a xs ∧ SqL K H b [] ∧ xs ≠ [] ∧ Q (.bl false) H
theorem op_eqN (hu : X.A.units + 64 < cLine) : OpR X (compareOp .Eq) (rEqN X.K) := by
  intro pins s σ H x y v u Q I rx ry h
  obtain ⟨a, b, xs, rfl, rfl, h1, h2, hn, q⟩ := h
  cases rx
  cases ry
  obtain ⟨its, r1, p1, _⟩ := I.list h1
  obtain ⟨its2, r2, p2, _⟩ := I.list h2
  have l1 := r1.length
  have l2 := r2.length
  have hx : xs.length ≠ 0 := fun z => hn (List.length_eq_zero_iff.mp z)
  refine SeqAt.eq_list_lengthsAt p1.isList p2.isList ?_ (by omega) ⟨.bl false, H, I, rfl, q⟩
  rw [List.size_toArray, List.size_toArray, ← l1, ← l2]
  simpa using hn
def dEqN : D → D → Option D
  | .lst (_ :: _), .lst [] => some (.bl false)
  | _, _ => none
theorem od_eqN (hu : X.A.units + 64 < cLine) : OpD X cl (compareOp .Eq) dEqN := by
  refine ⟨_, op_eqN hu, fun c σ s T H d x e y z Q ⟨F, α, I⟩ hz k => ?_⟩
  have r1 := I.tmp (d, x) (List.mem_cons_of_mem _ (List.mem_cons_self ..))
  have r2 := I.tmp (e, y) (List.mem_cons_self ..)
  generalize h1 : DL.view s.M d = vd at hz
  generalize h2 : DL.view s.M e = ve at hz
  unfold dEqN at hz
  split at hz
  · cases hz
    obtain ⟨a, vs, rfl, ea, rl⟩ := I.vLst r1 h1
    obtain ⟨b, ws, rfl, eb, rl2⟩ := I.vLst r2 h2
    cases rl2
    exact ⟨a, b, vs, rfl, rfl, SqL.of ea, SqL.of eb, fun z => (by rw [z] at rl; cases rl), k _ H (SI.flat rfl ⟨F, α, I⟩)⟩
  · cases hz
def dEqZ : D → D → Option D := orD dEq dEqN
theorem od_eqZ (hu : X.A.units + 64 < cLine) : OpD X cl (compareOp .Eq) dEqZ := (od_eq hu).or (od_eqN hu)
theorem dEqZ_of {a b r : D} (h : dEq a b = some r) : dEqZ a b = some r := by
  unfold dEqZ orD
  rw [h]
theorem dEqZ_nil (x : D) (xs : List D) : dEqZ (.lst (x :: xs)) (.lst []) = some (.bl false) := by
  unfold dEqZ orD
  cases h : dEq (.lst (x :: xs)) (.lst []) with
  | none => rfl
  | some r =>
    have e0 : dEqF (.lst (x :: xs)) (.lst []) = none := rfl
    have h : orD dEqF dEqP (.lst (x :: xs)) (.lst []) = some r := h
    unfold orD at h
    rw [e0] at h
    unfold dEqP at h
    obtain ⟨b, hb, rfl⟩ := Option.map_eq_some_iff.mp h
    obtain ⟨p, q, h1, h2, _, _, rfl⟩ := eqP_some hb
    have h2 : some (PyData.list []) = some q := h2
    cases h2
    simp only [pd, Option.map_eq_some_iff] at h1
    obtain ⟨ps, hp, rfl⟩ := h1
    simp only [pdL] at hp
    cases hx : pd x with
    | none => rw [hx] at hp; cases hp
    | some p0 =>
      rw [hx] at hp
      obtain ⟨ps', _, rfl⟩ := Option.map_eq_some_iff.mp hp
      rfl
end
end DL

set_option pp.maxSteps 300
/-! DmK: first, *rest = a list. -/
namespace DL
open PySem PySem.Spec PyProof.Rows L2
section
variable {prog : Program} {w : World} {A : Around} {E : Value → Shared → Prop} {s : Shared}
open PySem.W in
theorem star_items {l : Addr} {items : Array Value} {Q : List Value → Shared → Prop} (hl : s.heap.IsList l items) (hh : A.handled = none) (hn : 1 ≤ items.size) (hz : items.size ≤ 16384)
    (h : ∀ h₂ tk, Heap.ExtBut s.heap.objs.size s.heap h₂ → Q (items.toList.take 1 ++ [.ref h₂.objs.size]) { s with heap := h₂.push { cls := .type "list", data := .seq (items.toList.drop 1).toArray }, toks := tk }) : wpAny (model prog w) A (unpackItems (.ref l) 2 (some 1)) Q E s := by
  have hlt : l ≠ s.heap.objs.size := by obtain ⟨o, ho, _⟩ := hl; exact Nat.ne_of_lt (Heap.lt_size ho)
  have hll : l < s.heap.objs.size := by obtain ⟨o, ho, _⟩ := hl; exact Heap.lt_size ho
  unfold unpackItems
  refine wpAny_bind ?_
  unfold notIterableAtAll
  refine wpAny_bind (wpAny_specialOf hl.typeIs slot_list_iter.lookup ?_)
  refine wpAny_pure ?_
  simp only [Bool.false_eq_true, if_false]
  refine wpAny_bind (wpAny_holding (wpAny_pyIter_list hl ?_))
  refine wpAny_bind (wpAny_holding (kun_draw hlt 1 0 _ _ ⟨_, Heap.get?_push_size _ rfl, rfl, rfl⟩ (hl.push _) (by omega) fun h₁ hit₁ hs₁ => ?_))
  have hl₁ : h₁.IsList l items := (hl.push _).extBut hs₁.extBut hlt
  rw [Nat.zero_add] at hit₁
  have hit₁' := hit₁
  obtain ⟨oi, hoi, _⟩ := hit₁'
  have hl₁' := hl₁
  obtain ⟨ol, hol, _⟩ := hl₁'
  rw [List.drop_zero]
  have hfl : (items.toList.take 1).length = 1 := by rw [List.length_take, Array.length_toList]; omega
  rw [if_neg (show ¬ ((items.toList.take 1).length < 1) by rw [hfl]; omega)]
  refine wpAny_bind (wpAny_holding (kun_collect (s := { s with heap := h₁ }) (T := "list_iterator") (.inr (.inr (.inl rfl))) (Walks.list (A := A.in1) hh s.heap.objs.size l hlt items) (fun j u st => st.1.typeIs) (k := 1) (by omega) ⟨hit₁, hl₁⟩ (Heap.lt_size hoi) (Heap.lt_size hol) (fun h₂ tk hk => ?_) (by rw [sizeLine_eq]; omega)))
  have hrl : (items.toList.drop 1).length = items.size - 1 := by rw [List.length_drop, Array.length_toList]
  show wpAny _ _ (if (items.toList.drop 1).length < 0 then _ else _) _ _ _
  rw [if_neg (by omega)]
  show wpAny _ _ (newList ((items.toList.drop 1).take ((items.toList.drop 1).length - 0)) >>= fun d => pure (items.toList.take 1 ++ [d] ++ (items.toList.drop 1).drop ((items.toList.drop 1).length - 0))) _ _ _
  rw [Nat.sub_zero, List.take_length, List.drop_length]
  have he : Heap.ExtBut s.heap.objs.size s.heap h₂ := fun b o hb e => hk b o hb (hs₁.extBut b o hb (Heap.get?_push_of_some _ e))
  refine wpAny_bind (wpAny_newList (s := { s with heap := h₂, toks := tk }) ?_ (by rw [hrl, sizeLine_eq]; omega))
  refine wpAny_pure ?_
  rw [List.append_nil]
  exact h h₂ tk he
end
/-- first, *rest = a list -/
def gStar (K : PySem.W.Frag) (t : TGs) : TG := fun v σ H Q => ∃ a x xs, v = .ref a ∧ SqL K H a (x :: xs) ∧ xs.length ≤ 16000 ∧ ∀ p, H p = none → t [x, .ref p] σ (upd H p (.lst xs)) Q
section
variable {X : Cx} {cl : Str → Addr} {W : WX}
theorem pg_star {e1 e2 : Expr} {k : Nat} {t1 t2 : TG} {p2 pos : Pos} (hc : X.calm = true) (h1 : PG X e1 t1) (h2 : PG X e2 t2)
    (hs : assignEach [e1, .Starred e2 p2] X.env = [(false, assign e1 X.env), (true, assign e2 X.env)] := by rfl) : PG X (.Tuple [e1, .Starred e2 p2] k pos) (gStar X.K (gCons t1 (gCons t2 gNil))) := by
  refine ⟨fun pins s σ H v u Q I r hw => ?_⟩
  obtain ⟨a, x, xs, e1, hq, hl, hw⟩ := hw
  subst e1
  cases r
  obtain ⟨its, rv, pl, hz⟩ := I.list hq
  rw [PyProof.Rows.assign_Tuple]
  refine wpAny_bind (wpAny_standAt ?_)
  unfold unpack
  rw [hs]
  have hsz : its.length = xs.length + 1 := by rw [← rv.length]; rfl
  cases rv with
  | @cons _ y _ ys ry rys =>
  refine wpAny_bind (wpAny_holding (star_items pl.isList (I.ok.hd hc) (by simp) (by simp at hsz ⊢; omega) fun h₂ tk hx => ?_))
  have I1 : Inv X pins σ H { s with heap := h₂, toks := tk } := I.kept (t' := tk) fun b o e => hx b o (Nat.ne_of_lt (Heap.lt_size e)) e
  have I2 := I1.lnew (t' := tk) rys (by rw [sizeLine_eq]; omega)
  obtain ⟨v1, r1, ev, q1⟩ := hw _ I1.fresh
  cases ev
  show wpAny _ _ (assignInOrder [assign _ X.env, assign _ X.env] [y, .ref h₂.objs.size]) _ _ _
  refine assignInOrder_cons (thn (h1.run pins _ σ _ _ _ _ I2 ry q1) fun _ s1 ⟨σ1, H1, I3, q2⟩ => ?_)
  obtain ⟨v2, r2, ev2, q2⟩ := q2
  cases ev2
  refine assignInOrder_cons (thn (h2.run pins s1 σ1 H1 (.ref h₂.objs.size) (.ref h₂.objs.size) _ I3 rfl q2) fun _ s2 ⟨σ2, H2, I4, q3⟩ => ?_)
  exact assignInOrder_nil ⟨σ2, H2, I4, q3.2⟩
def hStar (h : List D → M Unit) : D → M Unit := fun d s => match view s.M d with
  | .lst (x :: xs) => if xs.length ≤ 16000 then h [x, .lst xs] s else .fail
  | _ => .fail
theorem dh_star {e1 e2 : Expr} {k : Nat} {g1 g2 : D → M Unit} {p2 pos : Pos} (hc : X.calm = true) (h1 : DH X cl W e1 g1) (h2 : DH X cl W e2 g2)
    (hs : assignEach [e1, .Starred e2 p2] X.env = [(false, assign e1 X.env), (true, assign e2 X.env)] := by rfl) (hs2 : (assignEach [e1, e2] X.env).map (·.2) = assign e1 X.env :: (assignEach [e2] X.env).map (·.2) := by rfl) (hs3 : (assignEach [e2] X.env).map (·.2) = assign e2 X.env :: (assignEach [] X.env).map (·.2) := by rfl) : DH X cl W (.Tuple [e1, .Starred e2 p2] k pos) (hStar (hMore g1 (hMore g2 hNone))) := by
  obtain ⟨t1, p1, q1⟩ := h1
  obtain ⟨t2, pp2, q2⟩ := h2
  refine ⟨_, pg_star hc p1 pp2 hs, fun c σ s T H d v Q I w => ?_⟩
  unfold hStar at w
  split at w
  · rename_i x xs e
    split at w
    · rename_i hl
      obtain ⟨F, α, J⟩ := _root_.id I
      obtain ⟨a, vs, ev, h2, rl⟩ := J.vLst (J.tmp (d, v) (List.mem_cons_self ..)) e
      cases rl with
      | @cons _ v1 _ vr r1 rr =>
      refine ⟨a, v1, vr, ev, SqL.of h2, by rw [← rr.length]; exact hl, fun p hp => ?_⟩
      have I2 := (J.push r1).lstNew hp rr
      have I3 : SI X.K cl c (upd H p (.lst vr)) σ s ((x, v1) :: (.lst xs, .ref p) :: T) := I2.sub fun q hq => by
        simp only [List.mem_cons] at hq ⊢
        rcases hq with e | e | e
        · exact .inr (.inl e)
        · exact .inl e
        · exact .inr (.inr (.inr e))
      refine ⟨v1, _, rfl, q1 c σ s _ _ x v1 _ I3 ?_⟩
      have w : WantG X.K cl W c T ((g1 x s).bind fun _ s => hMore g2 hNone [.lst xs] s) Q := w
      cases hg : g1 x s with
      | fail => rw [hg] at w; exact w.elim
      | exc n fs s1 => rw [hg] at w; exact WantG.deeper (o := .exc n fs s1) (Q := fun _ _ => True) (show WantG X.K cl W c T (.exc n fs s1) _ from w) (fun q hq => List.mem_cons_of_mem _ hq)
      | ok u s1 =>
        rw [hg] at w
        intro σ1 H1 I4
        refine ⟨.ref p, _, rfl, q2 c σ1 s1 T H1 (.lst xs) (.ref p) _ I4 ?_⟩
        have w : WantG X.K cl W c T ((g2 (.lst xs) s1).bind fun _ s => hNone [] s) Q := w
        cases hg2 : g2 (.lst xs) s1 with
        | fail => rw [hg2] at w; exact w.elim
        | exc n fs s2 => rw [hg2] at w; exact w
        | ok u s2 =>
          rw [hg2] at w
          intro σ2 H2 I5
          exact ⟨rfl, w σ2 H2 I5⟩
    · exact w.elim
  · exact w.elim
end
end DL

set_option pp.maxSteps 300
/-! DmL: isinstance(x, OwnClass) of an instance of that class. -/
namespace DL
open PySem PySem.Spec PyProof.Rows L2 C8
/-- the head's word on an own class that isinstance asks -/
def insB (K : PySem.W.Frag) (x : Str) : Bool := decide (PySem.W.findIn K (.ref (He.ga K x)) "__class__" = some (some (.builtin "object.__class__"))) && (decide (PySem.W.specialIn K (.builtin "object.__class__") "__get__" = some (some (.builtin "getset_descriptor.__get__"))) && (decide (PySem.W.takesIn K (.builtin "object.__class__") = some true) && (decide (PySem.W.mroIn K (He.ga K x) (.type "object") = some true) && decide (PySem.W.kitOne K (.ref (He.ga K x)) (.ref (He.ga K x)) = some true))))
theorem insB_ok {K : PySem.W.Frag} {x : Str} (c : Cls K (He.ga K x)) (h : insB K x = true) : InsC K (He.ga K x) := by
  unfold insB at h
  simp only [Bool.and_eq_true, decide_eq_true_eq] at h
  obtain ⟨h1, h2, h3, h4, h5⟩ := h
  exact ⟨c, h1, h2, h3, h4, h5⟩
def eIsC (x : Str) (f : M D) : M D := fun s => (f s).bind fun d s1 => match view s1.M d with
  | .obj y _ => if y = x then .ok (.bl true) s1 else .fail
  | _ => .fail
section
variable {X : Cx} {cl : Str → Addr} {W : WX}
theorem de_isC {x : Str} {e : Expr} {f : M D} {p px pos : Pos} (c : InsC X.K (cl x)) (hi : X.mg "isinstance" = none) (hm : X.mg x = some (.ref (cl x))) (he : DE X cl W e f) (hgi : Gl X "isinstance" := by rfl) (hg : Gl X x := by rfl) (hd : (x == ("__debug__" : Str)) = false := by decide)
    (hse : starEach [e, .Name x px] X.env = (false, eval e X.env) :: starEach [.Name x px] X.env := by rfl) (hpl : (backTo pos (starEach [.Name x px] X.env)).any (·.1) = false := by rfl) : DE X cl W (.Call (.Name "isinstance" p) [e, .Name x px] [] pos) (eIsC x f) := by
  obtain ⟨te, pe, qe⟩ := he
  refine ⟨_, pe_callB (call_isC c) hgi hi (by decide +kernel) (pa_cons pe (pa_cons (pe_gc (v := .ref (cl x)) hg ⟨_, hm, rfl⟩ hd) pa_nil) (hse)) (by decide) (by decide) hse hpl, fun c σ s T H Q I w => ?_⟩
  refine qe c σ s T H _ I (w.bind fun d s1 _ w1 v H1 I1 => ?_)
  cases e : view s1.M d with
  | obj y fs =>
    rw [e] at w1
    dsimp only at w1
    by_cases hy : y = x
    · subst hy
      rw [if_pos rfl] at w1
      obtain ⟨F, α, J⟩ := _root_.id I1
      obtain ⟨a, dx, vs, ev, ha, r⟩ := J.vObj (J.tmp (d, v) (List.mem_cons_self ..)) e
      have ev : v = .ref a := ev
      subst ev
      exact ⟨a, dx, vs, rfl, ha, w1 _ H1 (SI.flat rfl I1.pop)⟩
    · rw [if_neg hy] at w1; exact w1.elim
  | _ => rw [e] at w1; exact w1.elim
end
@[simp] theorem eIsC_eq (x : Str) (f : M D) (s : S) : eIsC x f s = ((f s).bind fun d s1 => match view s1.M d with
  | .obj y _ => if y = x then .ok (.bl true) s1 else .fail
  | _ => .fail) := (rfl)
end DL

set_option pp.maxSteps 300
/-! DmG: own exceptions raised. -/
namespace DL
open PySem PySem.Spec PyProof.Rows L2
/-- the written part of an own exception class over ValueError -/
def oexB (K : PySem.W.Frag) (C : Addr) : Bool := (match K.lookup C with
  | some ⟨.type "type", _, .cls cd, sl⟩ => (match cd.mro, sl.toList with
    | .ref C' :: bm, [_, _, _, _, some (.builtin n), _] => C' == C && (n == "ValueError.__new__" && (!cd.hasDel && (cd.hasDict && PySem.HandSPX.refsVE bm)))
    | _, _ => false)
  | _ => false) && (He.eqO (PySem.W.findIn K (.ref C) "__setattr__") (some (some (.builtin "object.__setattr__"))) && (decide (PySem.W.subIn K (.ref C) (.type "BaseException") = some true) && (decide (PySem.W.typeIn K (.ref C) = some (.type "type")) && PySem.W.keepIn K (.ref C))))
theorem oexB_ok {K : PySem.W.Frag} {C : Addr} (h : oexB K C = true) : OexC K C := by
  unfold oexB at h
  obtain ⟨h1, h⟩ := He.ba h
  obtain ⟨h2, h⟩ := He.ba h
  obtain ⟨h3, h⟩ := He.ba h
  obtain ⟨h4, h5⟩ := He.ba h
  refine ⟨?_, He.eqO_ok h2, of_decide_eq_true h3, of_decide_eq_true h4, h5⟩
  split at h1
  · rename_i dd cd sl ho
    split at h1
    · rename_i C' bm k0 k1 k2 k3 n k5 hm hs
      simp only [Bool.and_eq_true, beq_iff_eq, Bool.not_eq_true'] at h1
      obtain ⟨rfl, rfl, hdel, hdict, hr⟩ := h1
      obtain ⟨nm, bs, mro, ns, qn, hd, sn, sub, ab, col, del⟩ := cd
      dsimp only at hm hdel hdict
      subst hm hdel hdict
      have hsl : sl = #[k0, k1, k2, k3, some (.builtin "ValueError.__new__"), k5] := by
        obtain ⟨l⟩ := sl
        simp only at hs
        rw [hs]
      subst hsl
      exact ⟨nm, qn, ns, bs, bm, sn, sub, ab, col, dd, k0, k1, k2, k3, k5, ho, hr⟩
    · cases h1
  · cases h1
/-- .. its __init__ stores its one argument in the field -/
structure OexI (K : PySem.W.Frag) (C : Addr) (fI : Addr) (f : Str) : Prop where
  c : OexC K C
  at_ : PySem.W.findIn K (.ref C) "__init__" = some (some (.ref fI))
  fn : PySem.W.typeIn K (.ref fI) = some (.type "function")
  no : PySem.W.findIn K (.ref C) f = some none
def oexIB (K : PySem.W.Frag) (x f : Str) : Bool := oexB K (He.ga K x) && (He.eqO (PySem.W.findIn K (.ref (He.ga K x)) "__init__") (some (some (.ref (He.ma K (He.ga K x) "__init__")))) && (decide (PySem.W.typeIn K (.ref (He.ma K (He.ga K x) "__init__")) = some (.type "function")) && He.eqO (PySem.W.findIn K (.ref (He.ga K x)) f) (some none)))
theorem oexIB_ok {K : PySem.W.Frag} {x f : Str} (h : oexIB K x f = true) : OexI K (He.ga K x) (He.ma K (He.ga K x) "__init__") f := by
  unfold oexIB at h
  obtain ⟨h1, h⟩ := He.ba h
  obtain ⟨h2, h⟩ := He.ba h
  obtain ⟨h3, h4⟩ := He.ba h
  exact ⟨oexB_ok h1, He.eqO_ok h2, of_decide_eq_true h3, He.eqO_ok h4⟩
/-- what __init__ promises -/
def oexSp (C : Addr) (f : Str) : Sp := fun vs H Q _ => ∃ a y, vs = [.ref a, y] ∧ H a = some (exo a C none) ∧ ∀ dx, H dx = none → dx ≠ a → Q .non (upd (upd H dx (exd dx [(f, y)])) a (exo a C (some dx)))
theorem fn_oex {CX : CXT} {P : Program} {w : World} {K : PySem.W.Frag} {mg : Str → Option Value} {base : Heap} {k : Nat} {C fI : Addr} {x qual f pn : Str} {params : Arguments} {body : List Stmt} {scope : Scope} {fd : FuncData} {p1 p2 p3 p4 p5 : Pos}
    (F : FunD K x qual params body scope [] [] fI fd) (S : FnScope ["self", pn] ["self", pn] scope) (hb : body = [.Assign [.Attribute (.Name "self" p1) f p2] (.Name pn p3) p4]) (T : OexC K C) (no : PySem.W.findIn K (.ref C) f = some none)
    (hd1 : (pn == ("__debug__" : Str)) = false := by decide) (hd2 : (pn == ("__classdict__" : Str)) = false := by decide) :
    FnOk P w K mg base CX (k + 1) fI fd ["self", pn] (oexSp C f) := by
  refine F.ok S (fun vs H Q E h => ?_) (fun cdv A outer s H vs Q E hr h => ?_)
  · obtain ⟨a, y, e, _⟩ := h
    rw [e]; rfl
  · obtain ⟨a, y, e, ea, q⟩ := h
    subst e
    subst hb
    refine ⟨_, pss_one (ps_ost (pe_var (i := 0) rfl ((S.par "self" (List.Mem.head _)).elim (fun z => .inl z) (fun z => .inr (.inl z)))) (pe_var (i := 1) rfl ((S.par pn (List.Mem.tail _ (List.Mem.head _))).elim (fun z => .inl z) (fun z => .inr (.inl z))) hd1 hd2)), ?_⟩
    exact ⟨y, rfl, .ref a, rfl, a, C, rfl, T, no, .inl ⟨ea, fun dx n ne => q dx n ne⟩⟩
/-- raise X(e) -/
def sRaise (x f : Str) (fe : M D) : M Fl := fun s => (fe s).bind fun d s1 => .exc x [(f, d)] s1
section
variable {X : Cx} {cl : Str → Addr} {W : WX} {k : Nat}
theorem ds_raise {x y f pn qual : Str} {fI : Addr} {fd : FuncData} {e : Expr} {fe : M D} {params : Arguments} {body : List Stmt} {scope : Scope} {p pos pos' p1 p2 p3 p4 : Pos} (O : OexI X.K (cl x) fI f) (F : FunD X.K "__init__" qual params body scope [] [] fI fd) (S : FnScope ["self", pn] ["self", pn] scope)
    (hbody : body = [.Assign [.Attribute (.Name "self" p1) f p2] (.Name pn p3) p4]) (hb : Binds X.K fd ["self", pn] []) (hk : Cok X W (k + 2)) (hm : X.mg y = some (.ref (cl x))) (he : DE X cl W e fe)
    (hd1 : (pn == ("__debug__" : Str)) = false := by decide) (hd2 : (pn == ("__classdict__" : Str)) = false := by decide)
    (hg : Gl X y := by rfl) (hdb : (y == ("__debug__" : Str)) = false := by decide) (hst : starEach [e] X.env = (false, eval e X.env) :: starEach [] X.env := by rfl) :
    DS X cl W (.Raise (some (.Call (.Name y p) [e] [] pos)) none pos') (sRaise x f fe) := by
  obtain ⟨te, pe, qe⟩ := he
  have F1 := fn_oex (CX := L2.CX X.prog X.w) (P := X.prog) (w := X.w) (mg := X.mg) (base := X.base) (k := k) (p5 := p) F S hbody O.c O.no hd1 hd2
  have hx : Passes (L2.CX X.prog X.w) X (fun _ _ _ => False) := fun pins σ H s e s' I h => by
    obtain ⟨_, _, _, _, _, _, _, _, _, _, _, _, z⟩ := h
    exact z.elim
  have mk := pmk_oex (es := []) (p := p) (pos := pos) O.c O.at_ O.fn (F1 : FnOk X.prog X.w X.K X.mg X.base (L2.CX X.prog X.w) (k + 1) fI fd ["self", pn] (oexSp (cl x) f)) hk.room hb (dvs := []) .nil hx hg hm (pa_cons pe pa_nil hst) hdb hst rfl
  refine ⟨_, ps_raise hk.calm hk.tk mk, fun c σ s T H E I w => ?_⟩
  refine qe c σ s T H _ I (w.bind fun d s1 _ w1 v H1 I1 => ?_)
  refine ⟨by simp, fun a ha => ⟨a, v, rfl, upd_same, fun dx hdx hne => ⟨rfl, dx, [(f, v)], upd_same, ?_, ?_, ?_⟩⟩⟩
  · rw [upd_ne hne, upd_same]
  · rw [upd_ne hne] at hdx; exact hdx
  · have hd1 : H1 dx = none := by rw [upd_ne hne] at hdx; exact hdx
    have e1 : upd (del (upd (upd (upd H1 a (exo a (cl x) none)) dx (exd dx [(f, v)])) a (exo a (cl x) (some dx))) a) dx (.xd [(f, v)]) = upd H1 dx (.xd [(f, v)]) := by
      funext b
      by_cases hb : b = dx
      · subst hb; rw [upd_same, upd_same]
      · rw [upd_ne hb, upd_ne hb]
        by_cases hba : b = a
        · subst hba; rw [del_same]; exact ha.symm
        · rw [del_ne hba, upd_ne hba, upd_ne hb, upd_ne hba]
    rw [e1]
    obtain ⟨F, α, J⟩ := I1
    have w1 : WantS X.K cl W c T (.exc x [(f, d)] s1) E := w1
    have ex := ext_new (o := .xd [(f, v)]) J hd1
    have J2 := (J.newF (o := .xd [(f, v)]) hd1)
    have rx : Rep X.K cl (upd H1 dx (.xd [(f, v)])) (fun b => F b ∨ b = dx) α (.xd [(f, d)]) (.ref dx) := .xd upd_same (.inr rfl) (.cons ((J.tmp (d, v) (List.mem_cons_self ..)).ext ex) .nil)
    refine w1 (some dx) σ _ (fun z => by cases z) ⟨fun b => F b ∨ b = dx, α, (J2.push rx).temps fun p hp => ?_⟩
    rcases List.mem_cons.mp hp with z | z
    · rw [z]; exact rx
    · exact J2.tmp p (List.mem_cons_of_mem _ z)
end
end DL

set_option pp.maxSteps 300
/-! DmH: try with several clauses, each with or without a name. -/
namespace L2
open PySem PySem.Spec PyProof.Rows
abbrev Hd : Type := Value × Option Nat × (Addr → Value → Option Addr → TS)
/-- what is wanted behind a clause whose name stands in slot i -/
def Ends.less (D : Ends) (i : Nat) : Ends := { nx := fun σ' H' => D.nx (σ'.set i none) H', rt := D.rt, bk := fun σ' H' => D.bk (σ'.set i none) H', ct := fun σ' H' => D.ct (σ'.set i none) H' }
def wClauses (K : PySem.W.Frag) (Wout : WX) (D : Ends) : List Hd → WX
  | [] => Wout
  | (c, o, ts) :: r => fun cls d σ H => ∃ b, PySem.W.exmOne K cls c = some b ∧ (b = true → ∀ a, H a = none → match o with
      | none => ts a cls d D σ H
      | some i => ts a cls d (D.less i) (σ.set i (some (.ref a))) H) ∧ (b = false → wClauses K Wout D r cls d σ H)
inductive Clauses (X : Cx) : List ExceptHandler → List Hd → Prop
  | nil : Clauses X [] []
  | plain {x : Str} {c : Value} {ts : Addr → Value → Option Addr → TS} {b₀ : Stmt} {suite : List Stmt} {np pos' : Pos} {hds : List ExceptHandler} {l : List Hd} (hc : Names X x c)
      (hsu : ∀ (a : Addr) (oe : Obj) (cls : Value) (d : Option Addr) (pn : List (Addr × Obj)), Zc cls d oe → (∃ vs, oe.data = .fields vs) → PSs (X.suite a ((a, oe) :: pn)) (b₀ :: suite) (ts a cls d)) (r : Clauses X hds l) :
      Clauses X (.ExceptHandler (some (.Name x np)) none (b₀ :: suite) pos' :: hds) ((c, none, ts) :: l)
  | named {x n : Str} {c : Value} {i : Nat} {ts : Addr → Value → Option Addr → TS} {b₀ : Stmt} {suite : List Stmt} {np pos' : Pos} {hds : List ExceptHandler} {l : List Hd} (hi : X.N[i]? = some n) (hln : X.env.kindOf n = some .local) (hc : Names X x c)
      (hsu : ∀ (a : Addr) (oe : Obj) (cls : Value) (d : Option Addr) (pn : List (Addr × Obj)), Zc cls d oe → (∃ vs, oe.data = .fields vs) → PSs (X.suite a ((a, oe) :: pn)) (b₀ :: suite) (ts a cls d)) (r : Clauses X hds l) :
      Clauses X (.ExceptHandler (some (.Name x np)) (some n) (b₀ :: suite) pos' :: hds) ((c, some i, ts) :: l)
section
variable {X : Cx} {body : List Stmt} {h₀ : ExceptHandler} {hds : List ExceptHandler} {l : List Hd} {pos : Pos} {tb : WX → TS} {Wout : WX}
theorem ps_try_clauses (hs : X.stack = X.env :: X.outer) (hf : X.env.frame = some X.env.locals) (hN : X.N.Nodup) (tk : Takes X Wout)
    (hb : ∀ (W : WX) (pn : List (Addr × Obj)) (xe : Value → Shared → Prop), Takes (X.tr pn xe) W → PassesOwn (model X.prog X.w) X.A X.env xe → PSs (X.tr pn xe) body (tb W))
    (hh : Clauses X (h₀ :: hds) l) : PS X (.Try body (h₀ :: hds) [] [] pos) (fun D σ H => tb (wClauses X.K Wout D l) D σ H) := by
  refine ⟨fun pins s σ H D I h => ?_⟩
  have ok := I.ok
  have hfr : X.A.frames = some (X.env :: X.outer) := by rw [ok.frames, hs]
  refine wpAny_Try_except ?_
  refine wpAny_mono ((hb (wClauses X.K Wout D l) (X.pn ++ pins) (fun e s₁ => wpAny (model X.prog X.w) X.A (noteFrame e X.env) (fun _ s₂ => wpAny (model X.prog X.w) X.A (setFlight e none) (fun _ s₃ =>
    wpAny (model X.prog X.w) X.A (handleBy e X.env (h₀ :: hds)) (SP X pins D) X.xe s₃) X.xe s₂) X.xe s₁) (fun u s' xx => ?_) PassesOwn.looking).run [] s σ H D (I.toTry _) h) (fun f s1 hsp => ?_) (fun e s1 he => he)
  · obtain ⟨a, B, sI, pins', σ', H', cls, d, rfl, J', nb, up, sky, na, os, ag, w⟩ := xx
    have J : Inv X pins σ' H' sI := J'.ofTry ok
    have sky' : Sky B (X.env :: X.outer) a (Zc cls d) X.env.locals s'.heap := by rw [← hs]; exact sky
    show wpAny (model X.prog X.w) X.A (noteFrame (.ref a) X.env) _ _ _
    refine Sky.land Zc.steady hfr hf sky' fun h3 fl3 up3 => ?_
    have J3 : Inv X pins σ' H' { s' with heap := h3 } := J.landed nb fl3.1 (up.trans up3) os ag
    obtain ⟨oe3, vs3, he3, hz3, hd3⟩ := fl3.there
    have notFr : ∀ {h : Heap} {o : Obj} {vs : Array Value}, h.FunFrames B (X.env :: X.outer) → h.get? a = some o → o.data = .fields vs → a ∉ frs (X.env :: X.outer) := fun {h o vs} ff e dd hm => by
      obtain ⟨_, o', e', hnf⟩ := ff.mem hm
      rw [e] at e'; cases e'
      exact hnf _ dd
    have nfr := notFr fl3.2.2.1 he3 hd3
    have nL : a ≠ X.env.locals := fun z => nfr (List.mem_filterMap.mpr ⟨X.env, List.mem_cons_self, by rw [hf, z]⟩)
    have nF : a ∉ X.fs := fun hm => by
      obtain ⟨e, he, q⟩ := List.mem_filterMap.mp hm
      exact nfr (List.mem_filterMap.mpr ⟨e, List.mem_cons_of_mem _ he, q⟩)
    have S3 := J3.suite he3 hd3 na nL nF
    have tst : ∀ {x : Str} {c : Value} {np : Pos}, Names X x c → ∀ {Q : Value → Shared → Prop} {E : Value → Shared → Prop}, Q c { s' with heap := h3 } → wpAny (model X.prog X.w) (X.A.mark (some (.ref a))) (eval (.Name x np) X.env) Q E { s' with heap := h3 } := fun {x c np} hc {Q E} q => by
      obtain ⟨hg, hdbg, hm | ⟨hm, hv, hnn⟩⟩ := hc
      · exact ld_glob (X := X.suite a ((a, oe3) :: (X.pn ++ pins))) S3 hg hm q hdbg
      · exact ld_blt (X := X.suite a ((a, oe3) :: (X.pn ++ pins))) S3 hg hm hv q hnn hdbg
    have go : ∀ {hds' : List ExceptHandler} {l' : List Hd}, Clauses X hds' l' → wClauses X.K Wout D l' cls d σ' H' →
        wpAny (model X.prog X.w) X.A (handleBy (.ref a) X.env hds') (SP X pins D) X.xe { s' with heap := h3 } := by
      intro hds' l' hk
      induction hk with
      | nil =>
        intro w
        refine wpAny_handleBy_nil ?_
        obtain ⟨k1, k2, k3, oe, vs, T, oT, ts', he, hz, hd, h1, hr⟩ := id fl3
        unfold PySem.passOn
        refine wpAny_bind (wpAny_field he hd h1 ?_)
        rw [if_neg (show ¬ ((Value.ref T == Value.none) = true) from by simp)]
        have fin : wpAny (model X.prog X.w) X.A (setFlight (.ref a) X.env.frame) (fun _ s4 => wpAny (model X.prog X.w) X.A (throw (.ref a) : Sem Flow) (SP X pins D) X.xe s4) X.xe { s' with heap := h3 } := by
          rw [hf]
          refine HandSPX.setFlight_upZ fl3 fun h4 hh4 up4 => wpAny_throw (tk _ _ ?_)
          exact ⟨a, B, sI, pins, σ', H', cls, d, rfl, J, nb, (up.trans up3).trans up4, .inr (.inr (by rw [hs]; exact hh4)), na, os, ag, w⟩
        first
          | exact wpAny_bind (wpAny_pure (wpAny_bind fin))
          | exact wpAny_bind fin
      | @plain x c ts b₀ suite np pos' hds2 l2 hc hsu r ih =>
        intro w
        obtain ⟨b, hb1, hyes, hno⟩ := w
        refine wpAny_handleBy_cons (codeAny_handlers_test ?_) (by intro q; cases q)
        have LT : PySem.W.Looks (model X.prog X.w) h3 (typeOf (.ref a)) cls := fun A Q E s k q => wpAny_typeOf_ref (k _ _ he3) (by rw [hz3.1]; exact q)
        have LM := PySem.W.exm_one (M := model X.prog X.w) (J3.kIn) LT hb1
        refine tst hc (LM.here ?_)
        cases b with
        | true =>
          refine codeAny_handlers_suite ?_
          refine HandSPX.lands_againZ fl3 fun h4 fl4 up4 => ?_
          have J4 : Inv X pins σ' H' { s' with heap := h4 } := J.landed nb fl4.1 ((up.trans up3).trans up4) os ag
          obtain ⟨oe4, vs4, he4, hz4, hd4⟩ := fl4.there
          have S4 := J4.suite he4 hd4 na nL nF
          refine wpAny_mono ((hsu a oe4 cls d (X.pn ++ pins) hz4 ⟨_, hd4⟩).run [] _ _ H' _ S4 (hyes rfl a na)) (fun f s6 hsp => ?_) (fun _ _ z => False.elim z)
          cases f with
          | next => obtain ⟨σ6, H6, S6, q6⟩ := hsp; exact ⟨_, _, S6.unsuite ok, q6⟩
          | brk => obtain ⟨σ6, H6, S6, q6⟩ := hsp; exact ⟨_, _, S6.unsuite ok, q6⟩
          | cont => obtain ⟨σ6, H6, S6, q6⟩ := hsp; exact ⟨_, _, S6.unsuite ok, q6⟩
          | ret u => obtain ⟨v6, σ6, H6, S6, r6, q6⟩ := hsp; exact ⟨_, _, _, S6.unsuite ok, r6, q6⟩
        | false =>
          show wpAny _ X.A (handleBy (.ref a) X.env hds2) _ _ _
          exact ih (hno rfl)
      | @named x n c i ts b₀ suite np pos' hds2 l2 hi hln hc hsu r ih =>
        intro w
        obtain ⟨b, hb1, hyes, hno⟩ := w
        have hloc : Loc X.env.scope n := .inl hln
        refine wpAny_handleBy_cons (codeAny_handlers_test ?_) (by intro q; cases q)
        have LT : PySem.W.Looks (model X.prog X.w) h3 (typeOf (.ref a)) cls := fun A Q E s k q => wpAny_typeOf_ref (k _ _ he3) (by rw [hz3.1]; exact q)
        have LM := PySem.W.exm_one (M := model X.prog X.w) (J3.kIn) LT hb1
        refine tst hc (LM.here ?_)
        cases b with
        | true =>
          refine codeAny_handlers_suite_as ?_
          refine HandSPX.lands_againZ fl3 fun h4 fl4 up4 => ?_
          have J4 : Inv X pins σ' H' { s' with heap := h4 } := J.landed nb fl4.1 ((up.trans up3).trans up4) os ag
          obtain ⟨oe4, vs4, he4, hz4, hd4⟩ := fl4.there
          have S4 := J4.suite he4 hd4 na nL nF
          refine store_ok (X := X.suite a ((a, oe4) :: (X.pn ++ pins))) (v := .ref a) S4 hN hi hloc rfl (fun s5 S5 => ?_) (.inr hln)
          refine wpAny_mono ((hsu a oe4 cls d (X.pn ++ pins) hz4 ⟨_, hd4⟩).run [] s5 _ H' _ S5 (hyes rfl a na)) (fun f s6 hsp => ?_) (fun _ _ z => False.elim z)
          have end_ : ∀ {σ6 : St} {H6 : Hp} {Q : Shared → Prop}, Inv (X.suite a ((a, oe4) :: (X.pn ++ pins))) [] σ6 H6 s6 → (∀ s7, Inv X pins (σ6.set i none) H6 s7 → Q s7) →
              wpAny (model X.prog X.w) X.A (do bindName X.env n .none; unbindBehindTheSuite X.env n pos') (fun _ s7 => Q s7) X.xe s6 := fun {σ6 H6 Q} S6 hq => gone_ok (S6.unsuite ok) hN hi hln hq
          cases f with
          | next => obtain ⟨σ6, H6, S6, q6⟩ := hsp; exact end_ S6 fun s7 J7 => ⟨_, _, J7, q6⟩
          | brk => obtain ⟨σ6, H6, S6, q6⟩ := hsp; exact end_ S6 fun s7 J7 => ⟨_, _, J7, q6⟩
          | cont => obtain ⟨σ6, H6, S6, q6⟩ := hsp; exact end_ S6 fun s7 J7 => ⟨_, _, J7, q6⟩
          | ret u => obtain ⟨v6, σ6, H6, S6, r6, q6⟩ := hsp; exact end_ S6 fun s7 J7 => ⟨_, _, _, J7, r6, q6⟩
        | false =>
          show wpAny _ X.A (handleBy (.ref a) X.env hds2) _ _ _
          exact ih (hno rfl)
    exact go hh w
  · cases f with
    | next => obtain ⟨σ', H', J', q⟩ := hsp; exact wpAny_execs_nil ⟨σ', H', J'.ofTry ok, q⟩
    | brk => obtain ⟨σ', H', J', q⟩ := hsp; exact ⟨σ', H', J'.ofTry ok, q⟩
    | cont => obtain ⟨σ', H', J', q⟩ := hsp; exact ⟨σ', H', J'.ofTry ok, q⟩
    | ret u => obtain ⟨v, σ', H', J', r, q⟩ := hsp; exact ⟨v, σ', H', J'.ofTry ok, r, q⟩
end
end L2

set_option pp.maxSteps 300
/-! DmI: try as a function of the state. -/
namespace DL
open PySem PySem.Spec PyProof.Rows L2
/-- what a clause does: name j = a constant; name j = the caught exception's field -/
inductive Kd where
  | con (j : Nat) (d : D)
  | fld (n : Str) (j : Nat) (f : Str)
structure Cl where
  m : Str → Option Bool
  i : Option Nat
  k : Kd
def offE (i : Option Nat) (env : List (Option D)) : List (Option D) := match i with
  | none => env
  | some i => env.set i none
def setJ (i : Option Nat) (j : Nat) (d : D) (s : S) : Out Fl := if j < s.env.length ∧ (∀ i', i = some i' → i' < s.env.length) then .ok .nx { s with env := offE i ((offE i s.env).set j (some d)) } else .fail
def runK (k : Kd) (i : Option Nat) (n : Str) (fs : List (Str × D)) (s : S) : Out Fl := match k with
  | .con j d => setJ i j d s
  | .fld n' j f => if n = n' then (match fs.lookup f with
    | some d => setJ i j d s
    | none => .fail) else .fail
def catchX : List Cl → Str → List (Str × D) → S → Out Fl
  | [], n, fs, s => .exc n fs s
  | h :: r, n, fs, s => match h.m n with
    | some true => runK h.k h.i n fs s
    | some false => catchX r n fs s
    | none => .fail
def sTry (fb : M Fl) (hs : List Cl) : M Fl := fun s => match fb s with
  | .exc n fs s2 => catchX hs n fs s2
  | o => o
section
variable {K : PySem.W.Frag} {cl : Str → Addr} {c : Cz} {H : Hp} {σ : L2.St} {s : S} {T : List (D × V)}
theorem SI.unset {i : Nat} {o : Option V} (h : SI K cl c H σ s T) : SI K cl c H (σ.set i o) { s with env := s.env.set i none } T := by
  obtain ⟨F, α, h⟩ := h
  refine ⟨F, α, { h with el := by show (s.env.set i none).length = (σ.set i o).length; rw [List.length_set, List.length_set]; exact h.el, env := fun j e q => ?_ }⟩
  have q' : (s.env.set i none)[j]? = some (some e) := q
  by_cases hj : i = j
  · subst hj
    have hl : i < s.env.length := by
      have := (List.getElem?_eq_some_iff.mp q').1
      rwa [List.length_set] at this
    rw [List.getElem?_set_self hl] at q'
    cases q'
  · rw [List.getElem?_set_ne hj] at q'
    rw [List.getElem?_set_ne hj]
    exact h.env j e q'
/-- a frame's name loses its value again -/
def offV (i : Option Nat) (σ : L2.St) : L2.St := match i with
  | none => σ
  | some i => σ.set i none
theorem SI.setJ {W : WX} {i : Option Nat} {j : Nat} {d : D} {v u : V} {E : Ends} (I : SI K cl c H σ s ((d, v) :: T)) (w : WantS K cl W c T (DL.setJ i j d s) E) :
    (i = none → E.nx (σ.set j (some v)) H) ∧ ∀ i', i = some i' → E.nx (((σ.set i' (some u)).set j (some v)).set i' none) H := by
  unfold DL.setJ at w
  by_cases hc : j < s.env.length ∧ ∀ i', i = some i' → i' < s.env.length
  · rw [if_pos hc] at w
    refine ⟨fun e => ?_, fun i' e => ?_⟩
    · subst e
      exact w _ _ (I.bind hc.1)
    · subst e
      have I1 := I.unset (i := i') (o := some u)
      have I2 := I1.bind (by show j < (s.env.set i' none).length; rw [List.length_set]; exact hc.1)
      exact w _ _ (I2.unset (i := i') (o := none))
  · rw [if_neg hc] at w; exact w.elim
end
/-- the clauses of a try -/
structure DCl (X : Cx) (cl : Str → Addr) (W : WX) (hds : List ExceptHandler) (hs : List Cl) : Prop where
  ex : ∃ l, Clauses X hds l ∧ ∀ c σ s T H E n fs dx, (dx = none → fs = []) → SI X.K cl c H σ s (xt fs dx ++ T) → WantS X.K cl W c T (catchX hs n fs s) E → wClauses X.K W E l (.ref (cl n)) dx σ H
def uS (K : PySem.W.Frag) (cl : Str → Addr) (f : M Fl) (W : WX) : TS := fun D σ H => ∃ c s T, SI K cl c H σ s T ∧ WantS K cl W c T (f s) D
theorem DSs.pss {X : Cx} {cl : Str → Addr} {W : WX} {st : List Stmt} {f : M Fl} (h : DSs X cl W st f) : PSs X st (uS X.K cl f W) := by
  obtain ⟨ts, p, q⟩ := h
  exact ⟨fun pins s σ H D I ⟨c, s0, T, J, w⟩ => p.run pins s σ H D I (q c σ s0 T H D J w)⟩
section
variable {X : Cx} {cl : Str → Addr} {W : WX} {k : Nat}
theorem dcl_nil : DCl X cl W [] [] := ⟨[], .nil, fun c σ s T H E n fs dx hd I w => w dx σ H hd I⟩
/-- except X [as n]: y = a constant -/
theorem dcl_con {x y : Str} {C : Addr} {e : Expr} {v : V} {d : D} {j : Nat} {m : Str → Option Bool} {np p1 p4 pos' : Pos} {hds : List ExceptHandler} {hs : List Cl} (hN : X.N.Nodup) (hj : X.N[j]? = some y) (hx : Loc X.env.scope y) (hg : Gl X x) (hm : X.mg x = some (.ref C)) (hexm : ∀ n b, m n = some b → PySem.W.exmOne X.K (.ref (cl n)) (.ref C) = some b)
    (he : ∀ X' : Cx, PE X' e (tC v)) (hd : flatD d = some v) (r : DCl X cl W hds hs) (hsw : swapsWith e (some (.Name y p1)) p4.line X.env = pure false := by rfl)
    (hf : X.fn y = true ∨ X.env.scope.names.lookup y = some .local := by first | exact .inl rfl | exact .inr rfl | assumption) (hdb : (x == ("__debug__" : Str)) = false := by decide) :
    DCl X cl W (.ExceptHandler (some (.Name x np)) none [.Assign [.Name y p1] e p4] pos' :: hds) (⟨m, none, .con j d⟩ :: hs) := by
  obtain ⟨l, pl, ql⟩ := r
  refine ⟨_, .plain ⟨hg, hdb, .inl hm⟩ (fun a oe cls dd pn hz hf' => pss_one (ps_set (X := X.suite a ((a, oe) :: pn)) hN hj hx (he _) hsw hf)) pl, fun c σ s T H E n fs dx hdx I w => ?_⟩
  unfold catchX at w
  cases hb : m n with
  | none => simp only [hb] at w; exact w.elim
  | some b =>
    refine ⟨b, hexm n b hb, fun eb a ha => ?_, fun eb => ?_⟩
    · subst eb
      simp only [hb] at w
      exact (SI.setJ (u := .non) ((I.sub fun p hp => List.mem_append_right _ hp).flat hd) w).1 rfl
    · subst eb
      simp only [hb] at w
      exact ql c σ s T H E n fs dx hdx I w
/-- except X as n: y = n.f -/
theorem dcl_fld {x y z n0 f : Str} {C : Addr} {i j : Nat} {m : Str → Option Bool} {np p1 p2 p3 p4 pos' : Pos} {hds : List ExceptHandler} {hs : List Cl} (hN : X.N.Nodup) (hi : X.N[i]? = some z) (hj : X.N[j]? = some y) (hx : Loc X.env.scope y) (hv : Vis X.env.scope z) (hln : X.env.kindOf z = some .local) (hg : Gl X x) (hm : X.mg x = some (.ref C)) (hexm : ∀ n b, m n = some b → PySem.W.exmOne X.K (.ref (cl n)) (.ref C) = some b)
    (T0 : XfC X.K (cl n0)) (hno : PySem.W.findIn X.K (.ref (cl n0)) f = some none) (r : DCl X cl W hds hs) (hsw : swapsWith (.Attribute (.Name z p2) f p3) (some (.Name y p1)) p4.line X.env = pure false := by rfl)
    (hab : attributeBase (.Name z p2) f X.env (eval (.Name z p2) X.env) = eval (.Name z p2) X.env := by rfl)
    (hf : X.fn y = true ∨ X.env.scope.names.lookup y = some .local := by first | exact .inl rfl | exact .inr rfl | assumption) (hdb : (x == ("__debug__" : Str)) = false := by decide) (hdz : (z == ("__debug__" : Str)) = false := by decide) (hcz : (z == ("__classdict__" : Str)) = false := by decide) :
    DCl X cl W (.ExceptHandler (some (.Name x np)) (some z) [.Assign [.Name y p1] (.Attribute (.Name z p2) f p3) p4] pos' :: hds) (⟨m, some i, .fld n0 j f⟩ :: hs) := by
  obtain ⟨l, pl, ql⟩ := r
  refine ⟨_, .named hi hln ⟨hg, hdb, .inl hm⟩ (fun a oe cls dd pn hz hf' => pss_one (ps_set (X := X.suite a ((a, oe) :: pn)) hN hj hx (pe_xf T0 hno hz hf' (pe_var (X := X.suite a ((a, oe) :: pn)) hi hv hdz hcz) hab) hsw hf)) pl, fun c σ s T H E n fs dx hdx I w => ?_⟩
  unfold catchX at w
  cases hb : m n with
  | none => simp only [hb] at w; exact w.elim
  | some b =>
    refine ⟨b, hexm n b hb, fun eb a ha => ?_, fun eb => ?_⟩
    · subst eb
      simp only [hb, runK] at w
      by_cases hn : n = n0
      · subst hn
        rw [if_pos rfl] at w
        cases hl : fs.lookup f with
        | none => rw [hl] at w; exact w.elim
        | some d =>
          rw [hl] at w
          dsimp only at w
          cases dx with
          | none =>
            rw [hdx rfl] at hl
            cases hl
          | some dd =>
            obtain ⟨F, α, J⟩ := id I
            have rx := J.tmp (.xd fs, .ref dd) (List.mem_cons_self ..)
            have rx : Rep X.K cl H F α (.xd fs) (.ref dd) := rx
            cases rx with
            | xd h1 h2 h3 =>
              rename_i vs
              obtain ⟨v, h4, h5⟩ := h3.look hl
              have I2 : SI X.K cl c H σ s ((d, v) :: T) := ⟨F, α, (J.push h5).temps fun p hp => by
                rcases List.mem_cons.mp hp with z | z
                · rw [z]; exact h5
                · exact J.tmp p (List.mem_append_right _ z)⟩
              have hlt : i < σ.length := by
                have w' := w
                unfold DL.setJ at w'
                by_cases hc : j < s.env.length ∧ ∀ i', some i = some i' → i' < s.env.length
                · have := hc.2 i rfl
                  rw [J.el] at this
                  exact this
                · rw [if_neg hc] at w'; exact w'.elim
              exact ⟨.ref a, List.getElem?_set_self hlt, rfl, rfl, dd, vs, v, rfl, h1, h4, (SI.setJ (u := .ref a) I2 w).2 i rfl⟩
      · rw [if_neg hn] at w; exact w.elim
    · subst eb
      simp only [hb] at w
      exact ql c σ s T H E n fs dx hdx I w
/-- try: .. except .. -/
theorem ds_try {body : List Stmt} {h₀ : ExceptHandler} {hds : List ExceptHandler} {fb : M Fl} {hs : List Cl} {pos : Pos} (hk : Cok X W k) (hst : X.stack = X.env :: X.outer) (hfr : X.env.frame = some X.env.locals)
    (hb : ∀ (W' : WX) (pn : List (Addr × Obj)) (xe : Value → Shared → Prop), Cok (X.tr pn xe) W' k → DSs (X.tr pn xe) cl W' body fb) (hh : DCl X cl W (h₀ :: hds) hs) : DS X cl W (.Try body (h₀ :: hds) [] [] pos) (sTry fb hs) := by
  obtain ⟨l, pl, ql⟩ := hh
  refine ⟨_, ps_try_clauses (tb := fun W' => uS X.K cl fb W') hst hfr hk.nd hk.tk (fun W' pn xe tk po => (hb W' pn xe ⟨tk, po, hk.nd, hk.calm, hk.room, hk.gd⟩).pss) pl, fun c σ s T H E I w => ?_⟩
  refine ⟨c, s, T, I, ?_⟩
  unfold sTry at w
  cases hf : fb s with
  | fail => rw [hf] at w; exact w
  | ok r s2 =>
    rw [hf] at w
    cases r <;> exact w
  | exc n fs s2 =>
    rw [hf] at w
    exact fun dx σ' H' hdx I' => ql c σ' s2 T H' E n fs dx hdx I' w
end
end DL

set_option pp.maxSteps 300
/-! DmM: == of instances by their own __eq__. -/
namespace DL
open PySem PySem.Spec PyProof.Rows L2
/-- an operator that may call -/
structure OpM (X : Cx) (cl : Str → Addr) (op : Value → Value → PySem.Sem Value) (g : D → D → M D) : Prop where
  ex : ∃ r : R2, OpR X op r ∧ ∀ c σ s T H d x e y Q, SI X.K cl c H σ s ((e, y) :: (d, x) :: T) → Want X.K cl (fun _ _ _ _ => False) c σ ((e, y) :: (d, x) :: T) (g d e s) Q → r x y H Q
def eOpM (g : D → D → M D) (fa fb : M D) : M D := fun s => (fa s).bind fun x s => (fb s).bind fun y s => noX (g x y s)
section
variable {X : Cx} {cl : Str → Addr} {W : WX} {k : Nat} {op : Value → Value → PySem.Sem Value} {g h : D → D → M D}
theorem OpD.m {g : D → D → Option D} (a : OpD X cl op g) : OpM X cl op (fun d e s => oOf (g (view s.M d) (view s.M e)) s) := by
  obtain ⟨r, hr, q⟩ := a
  refine ⟨r, hr, fun c σ s T H d x e y Q I w => ?_⟩
  unfold oOf at w
  split at w
  · rename_i z hz
    exact q c σ s T H d x e y z Q I hz fun v H' I' => w v H' I'
  · exact w.elim
theorem OpM.or (t : D → S → Bool) (a : OpM X cl op g) (b : OpM X cl op h) : OpM X cl op (fun d e s => if t d s = true then g d e s else h d e s) := by
  obtain ⟨r, hr, q⟩ := a
  obtain ⟨r', hr', q'⟩ := b
  refine ⟨_, hr.or hr', fun c σ s T H d x e y Q I w => ?_⟩
  split at w
  · exact .inl (q c σ s T H d x e y Q I w)
  · exact .inr (q' c σ s T H d x e y Q I w)
theorem de_cmpM {o : CmpOp} {a b : Expr} {fa fb : M D} {pos : Pos} (ho : OpM X cl (compareOp o) g) (ha : DE X cl W a fa) (hb : DE X cl W b fb) (hm : behindInMarks o b = false) : DE X cl W (.Compare a [o] [b] pos) (eOpM g fa fb) := by
  obtain ⟨ta, pa, qa⟩ := ha
  obtain ⟨tb, pb, qb⟩ := hb
  obtain ⟨r, hr, q⟩ := ho
  refine ⟨_, pe_cmpR hr pa pb hm, fun c σ s T H Q I w => ?_⟩
  refine qa c σ s T H _ I (w.bind fun d s1 _ w1 v H1 I1 => ?_)
  refine qb c σ s1 _ H1 _ I1 ((w1.deeper fun p hp => List.mem_cons_of_mem _ hp).bind fun e s2 _ w2 u H2 I2 => ?_)
  exact q c σ s2 T H2 d v e u Q I2 ((noX_want w2).deeper fun p hp => List.mem_cons_of_mem _ hp)
theorem dt_cmpM {o : CmpOp} {a b : Expr} {fa fb : M D} {pos : Pos} (ho : OpM X cl (compareOp o) g) (ha : DE X cl W a fa) (hb : DE X cl W b fb) (hm : behindInMarks o b = false) : DT X cl W (.Compare a [o] [b] pos) (tOf (eOpM g fa fb)) := by
  obtain ⟨ta, pa, qa⟩ := ha
  obtain ⟨tb, pb, qb⟩ := hb
  obtain ⟨r, hr, q⟩ := ho
  refine ⟨_, pt_cmpR hr pa pb hm, fun c σ s T H Q I w => ?_⟩
  have key : Want X.K cl W c σ T (eOpM g fa fb s) (fun x H' => ∃ k, x = .bl k ∧ Q k H') := w.bindD fun d s1 _ w1 v H1 I1 => by
    obtain ⟨b, rfl, k⟩ := bOf_ok w1
    obtain ⟨F, α, J⟩ := id I1
    have r : v = .bl b := by
      have := J.tmp (.bl b, v) (List.mem_cons_self ..)
      cases this; rfl
    exact ⟨b, r, k H1 I1.pop⟩
  refine qa c σ s T H _ I (key.bind fun d s1 _ w1 v H1 I1 => ?_)
  refine qb c σ s1 _ H1 _ I1 ((w1.deeper fun p hp => List.mem_cons_of_mem _ hp).bind fun e s2 _ w2 u H2 I2 => ?_)
  exact q c σ s2 T H2 d v e u _ I2 ((noX_want w2).deeper fun p hp => List.mem_cons_of_mem _ hp)
/-- x == y by the class's own __eq__ -/
def gEqC (x : Str) (sem : DL.Sem) (d e : D) : M D := fun s => match view s.M d, view s.M e with
  | .obj y _, .obj z _ => if y = x ∧ z = x then (match callS [false, false] sem [d, e] s with
    | .ok (.bl b) s1 => .ok (.bl b) s1
    | _ => .fail) else .fail
  | _, _ => .fail
theorem op_eqC {x : Str} {f : Addr} {fd : FuncData} {ps : List Str} {sem : DL.Sem} (F : FnG X.prog X.w X.K X.mg X.base cl k f fd ps sem) (hn : LenOk sem) (hl : ps.length = 2) (hm : Meth X.K (cl x) "__eq__" f) (hk : Cok X W k) (hb : Binds X.K fd ps []) (hnf : PySem.W.notFirst X.K (cl x) (.ref (cl x)) = true := by simp [PySem.W.notFirst]) : OpM X cl (compareOp .Eq) (gEqC x sem) := by
  refine ⟨fun v u H Q => ∃ a b dx dy fs gs, v = .ref a ∧ u = .ref b ∧ H a = some (.ins (cl x) dx fs) ∧ H b = some (.ins (cl x) dy gs) ∧ dsp X.K cl sem [.ref a, .ref b] H (fun z H' => (∃ b, z = .bl b) ∧ Q z H') (fun _ _ _ => False), ?_, fun c σ s T H d v e u Q I w => ?_⟩
  · intro pins s σ H v u vv uu Q I rv ru hq
    obtain ⟨a, b, dx, dy, fs, gs, rfl, rfl, ha, hb', hs⟩ := hq
    cases rv
    cases ru
    obtain ⟨mA, J, _⟩ := ins_get I.hok ha
    obtain ⟨mB, J', _⟩ := ins_get I.hok hb'
    obtain ⟨od, J, _⟩ := J.look
    obtain ⟨od', J', _⟩ := J'.look
    obtain ⟨m, hF⟩ := I.fr
    have bd := hb s [.ref a, .ref b] I.kIn (by rw [List.append_nil, hl]; rfl)
    rw [List.append_nil] at bd
    refine PySem.W.cmp_K (op := .Eq) (tb := .ref (cl x)) hk.room.units0 hF I.ok.mod.kin J J'.type hnf hm.at_ hm.fn ?_
    refine wpAny_call (codeAny_mono (F.run X.A X.stack s H ⟨[.ref a, .ref b], []⟩ [.ref a, .ref b] [.ref a, .ref b] _ _ hk.room hk.gd I.env0 bd (.cons rfl (.cons rfl .nil)) hl.symm hs) fun r s' hq => ?_)
    cases r with
    | error er =>
      obtain ⟨_, _, _, _, _, _, _, _, _, _, _, _, z⟩ := hq
      exact z.elim
    | ok fl =>
      cases fl with
      | ret u =>
        obtain ⟨v, H', I3, rv, ⟨b, eb⟩, q3⟩ := I.after hq
        subst eb
        cases rv
        exact ⟨.bl b, H', I3, rfl, q3⟩
      | next => exact False.elim hq
      | brk => exact False.elim hq
      | cont => exact False.elim hq
  · unfold gEqC at w
    split at w
    · rename_i y z fs gs e1 e2
      split at w
      · rename_i hc
        obtain ⟨rfl, rfl⟩ := hc
        obtain ⟨F, α, J⟩ := id I
        obtain ⟨a, dx, vs, ev, ha, r⟩ := J.vObj (J.tmp (d, v) (List.mem_cons_of_mem _ (List.mem_cons_self ..))) e1
        obtain ⟨b, dy, us, eu, hb', r'⟩ := J.vObj (J.tmp (e, u) (List.mem_cons_self ..)) e2
        have ev : v = .ref a := ev
        have eu : u = .ref b := eu
        subst ev eu
        have J2 : SIx X.K cl c H σ s (zipT [d, e] [.ref a, .ref b] ((e, .ref b) :: (d, .ref a) :: T)) F α := J.temps fun q hq => by
          have hq : q = (e, .ref b) ∨ q = (d, .ref a) ∨ q = (e, .ref b) ∨ q = (d, .ref a) ∨ q ∈ T := by simpa [zipT] using hq
          refine J.tmp q ?_
          rcases hq with rfl | rfl | rfl | rfl | hq <;> simp_all
        refine ⟨a, b, dx, dy, vs, us, rfl, rfl, ha, hb', call_dsp (W := fun _ _ _ _ => False) (io := [false, false]) (ds := [d, e]) (vs := [.ref a, .ref b]) J2 rfl ?_ hn.1 hn.2⟩
        cases hcs : callS [false, false] sem [d, e] s with
        | fail => rw [hcs] at w; exact w
        | exc n fs s1 => rw [hcs] at w; exact w.elim
        | ok r s1 =>
          rw [hcs] at w
          cases r with
          | bl bb =>
            intro v' H' I'
            refine ⟨⟨bb, ?_⟩, w v' H' I'⟩
            obtain ⟨F', α', J'⟩ := I'
            have := J'.tmp (.bl bb, v') (List.mem_cons_self ..)
            cases this; rfl
          | _ => exact w.elim
      · exact w.elim
    · exact w.elim
def isObj (d : D) (s : S) : Bool := match view s.M d with
  | .obj _ _ => true
  | _ => false
/-- == of instances by their own method, of all else as ever -/
def gEqO (x : Str) (sem : DL.Sem) (d e : D) : M D := fun s => if isObj d s = true then gEqC x sem d e s else oOf (dEq (view s.M d) (view s.M e)) s
theorem od_eqO {x : Str} {f : Addr} {fd : FuncData} {ps : List Str} {sem : DL.Sem} (F : FnG X.prog X.w X.K X.mg X.base cl k f fd ps sem) (hn : LenOk sem) (hl : ps.length = 2) (hm : Meth X.K (cl x) "__eq__" f) (hk : Cok X W k) (hb : Binds X.K fd ps []) (hnf : PySem.W.notFirst X.K (cl x) (.ref (cl x)) = true := by simp [PySem.W.notFirst]) : OpM X cl (compareOp .Eq) (gEqO x sem) :=
  (op_eqC F hn hl hm hk hb hnf).or isObj (od_eq hk.u64).m
end
@[simp] theorem eOpM_eq (g : D → D → M D) (fa fb : M D) (s : S) : eOpM g fa fb s = (fa s).bind fun x s => (fb s).bind fun y s => noX (g x y s) := (rfl)
end DL

/-! LB: readings that the laws share. -/
namespace LB
open PySem L2 DL
open PySem.Spec PyProof.Rows
noncomputable def e1_is_item : M D := (eOp dIn (eVar 1) (eC (.str "abcdefghijklmnopqrstuvwxyz")))
noncomputable def m_is_item : M Fl := (sSeq (sIf (tOrM (tNotM (tOf (eCB (g2 dIsi) (aCons (eVar 0) (aCons (eC (.raw (.ty "str"))) aNil))))) (tNotM (tOf (eChain dLeI dLeI (eC (.int 1)) (eCB (g1 dLen) (aCons (eVar 0) aNil)) (eC (.int 8)))))) (sRet (eC (.bl false))) sNx) (sRet (eCB (g1 dAll) (aCons (eLc (eVar 0) itSeq (gVar 1) tYesM e1_is_item [1]) aNil))))
noncomputable def sem_is_item : Sem := run 2 m_is_item
noncomputable def m_as_set : M Fl := (sRet (eCB (g1 dTuple) (aCons (eCB dSrt (aCons (eVar 0) aNil)) aNil)))
noncomputable def sem_as_set : Sem := run 1 m_as_set
noncomputable def k1_places_of : M D := (eVar 2)
noncomputable def v2_places_of : M D := (eVar 1)
noncomputable def m_places_of : M Fl := (sRet (eDc (eVar 0) itEnum (gTupD (gMore (gVar 1) (gMore (gVar 2) gNone))) tYesM k1_places_of v2_places_of [1, 2]))
noncomputable def sem_places_of : Sem := run 3 m_places_of
noncomputable def m_is_exchange : M Fl := (sRet (eAnd (eOp dLtI (eOp dSub (eVar 0) (eVar 3)) (eOp dSub (eVar 0) (eVar 2))) (eOp dLtI (eOp dSub (eVar 1) (eVar 2)) (eOp dSub (eVar 1) (eVar 3)))))
noncomputable def sem_is_exchange : Sem := run 4 m_is_exchange
noncomputable def e1_are_items : M D := (eCall [false] sem_is_item (aCons (eVar 1) aNil))
noncomputable def m_are_items : M Fl := (sRet (eAnd (eCB (g2 dIsi) (aCons (eVar 0) (aCons (eC (.raw (.ty "tuple"))) aNil))) (eAnd (eCB (g1 dAll) (aCons (eLc (eVar 0) itSeq (gVar 1) tYesM e1_are_items [1]) aNil)) (eOp dEq (eUn dLenSet (eVar 0)) (eCB (g1 dLen) (aCons (eVar 0) aNil))))))
noncomputable def sem_are_items : Sem := run 2 m_are_items
noncomputable def m_is_ranking : M Fl := (sRet (eAnd (eCall [false] sem_are_items (aCons (eVar 0) aNil)) (eOp dLeI (eCB (g1 dLen) (aCons (eVar 0) aNil)) (eC (.int 40)))))
noncomputable def sem_is_ranking : Sem := run 1 m_is_ranking
noncomputable def e1_is_set_of : M D := (eOp dIn (eVar 2) (eVar 1))
noncomputable def m_is_set_of : M Fl := (sRet (eAnd (eCall [false] sem_are_items (aCons (eVar 0) aNil)) (eAnd (eOp dEq (eVar 0) (eCall [false] sem_as_set (aCons (eVar 0) aNil))) (eCB (g1 dAll) (aCons (eLc (eVar 0) itSeq (gVar 2) tYesM e1_is_set_of [2]) aNil)))))
noncomputable def sem_is_set_of : Sem := run 3 m_is_set_of
noncomputable def m_check_ranking : M Fl := (sIf (tNotM (tOf (eCall [false] sem_is_ranking (aCons (eVar 0) aNil)))) eFail sNx)
noncomputable def sem_check_ranking : Sem := run 1 m_check_ranking
noncomputable def m_check_set : M Fl := (sIf (tNotM (tOf (eCall [false, false] sem_is_set_of (aCons (eVar 0) (aCons (eVar 1) aNil))))) eFail sNx)
noncomputable def sem_check_set : Sem := run 2 m_check_set
noncomputable def b1_check_rankings : M Fl := (sIf (tOrM (tNotM (tOf (eCall [false] sem_is_ranking (aCons (eVar 2) aNil)))) (tOf (eOp dNe (eCall [false] sem_as_set (aCons (eVar 2) aNil)) (eCall [false] sem_as_set (aCons (eVar 0) aNil))))) eFail sNx)
noncomputable def m_check_rankings : M Fl := (sSeq (sExpr (eCall [false] sem_check_ranking (aCons (eVar 0) aNil))) (sFor (eVar 1) itSeq (gVar 2) b1_check_rankings sNx))
noncomputable def sem_check_rankings : Sem := runS 1 3 m_check_rankings
noncomputable def m_check_division : M Fl := (sSeq (sExpr (eCallV sem_check_rankings (aCons (eVar 0) (aCons (eVar 1) aNil)))) (sExpr (eCall [false, false] sem_check_set (aCons (eVar 2) (aCons (eVar 0) aNil)))))
noncomputable def sem_check_division : Sem := run 3 m_check_division
noncomputable def e1_exchange_for : M D := (eVar 8)
noncomputable def b2_exchange_for : M Fl := (sIf (tOf (eCall [false, false, false, false] sem_is_exchange (aCons (eVar 3) (aCons (eVar 4) (aCons (eVar 6) (aCons (eVar 7) aNil)))))) (sRet (eTup (aCons (eVar 6) (aCons (eVar 7) aNil)))) sNx)
noncomputable def b3_exchange_for : M Fl := (sFor (eVar 5) itSeq (gVar 7) b2_exchange_for sNx)
noncomputable def m_exchange_for : M Fl := (sSeq (sExpr (eCall [false, false, false] sem_check_division (aCons (eVar 0) (aCons (eVar 1) (aCons (eVar 2) aNil))))) (sSeq (sPar 3 4 (aCons (eCall [false] sem_places_of (aCons (eVar 0) aNil)) (aCons (eCall [false] sem_places_of (aCons (eVar 1) aNil)) aNil))) (sSeq (sSet 5 (eLc (eCB dSrt (aCons (eVar 0) aNil)) itSeq (gVar 8) (tOf (eOp dNotIn (eVar 8) (eVar 2))) e1_exchange_for [8])) (sSeq (sFor (eVar 2) itSeq (gVar 6) b3_exchange_for sNx) (sRet (eC .non))))))
noncomputable def sem_exchange_for : Sem := run 9 m_exchange_for
end LB

/-! LF2: readings that the laws share. -/
namespace LF2
open PySem L2 DL
open PySem.Spec PyProof.Rows
noncomputable def m__law_pool : M Fl := (sSeq (sSet 2 (eC (.int 0))) (sSeq (sIf (tOf (eOp dLtI (eVar 1) (eCB (g1 dLen) (aCons (eVar 0) aNil)))) (sSet 2 (eCB (g1 dAbs) (aCons (eOp dSub (eVar 0) (eVar 1)) aNil))) sNx) (sSeq (sSet 3 (eOp dModI (eOp dMulI (eOp dAdd (eOp dAdd (eOp dAdd (eOp dModI (eVar 2) (eC (.int 2147483629))) (eOp dMulI (eOp dMulI (eC (.int 7919)) (eVar 1)) (eVar 1))) (eOp dMulI (eC (.int 31)) (eVar 1))) (eC (.int 17))) (eC (.int 48271))) (eC (.int 2147483647)))) (sRet (eLstC (aCons (eOp dMulI (eVar 2) (eCB (g1 dInt) (aCons (eOp dGeI (eVar 2) (eOp dPowI (eC (.int 10)) (eC (.int 18)))) aNil))) (aCons (eOp dModI (eOp dMulI (eVar 3) (eVar 3)) (eC (.int 2147483629))) aNil)))))))
noncomputable def sem__law_pool : Sem := runC 4 m__law_pool
noncomputable def m__law_take : M Fl := (sSeq (sIf (tOf (eOp dGtI (eOp dSub (eVar 0) (eC (.int 0))) (eC (.int 0)))) (sSeq (sSet 2 (eOp dModI (eOp dSub (eVar 0) (eC (.int 0))) (eVar 1))) (sSeq (sAsg (eOp dDivI (eOp dSub (eVar 0) (eC (.int 0))) (eVar 1)) (hSub cSet (eVar 0) (eC (.int 0)))) (sRet (eVar 2)))) sNx) (sSeq (sAsg (eOp dModI (eOp dAdd (eOp dMulI (eOp dSub (eVar 0) (eC (.int 1))) (eC (.int 48271))) (eC (.int 12345))) (eC (.int 2147483647))) (hSub cSet (eVar 0) (eC (.int 1)))) (sRet (eOp dModI (eOp dDivI (eOp dModI (eOp dMulI (eOp dSub (eVar 0) (eC (.int 1))) (eOp dSub (eVar 0) (eC (.int 1)))) (eC (.int 2147483629))) (eC (.int 64))) (eVar 1)))))
noncomputable def sem__law_take : Sem := run 3 m__law_take
noncomputable def b1__law_turning : M Fl := (sExpr (eCM "list" cAppend (eVar 3) (aCons (eCM "list" cPopAt (eVar 2) (aCons (eCall [true, false] sem__law_take (aCons (eVar 0) (aCons (eCB (g1 dLen) (aCons (eVar 2) aNil)) aNil))) aNil)) aNil)))
noncomputable def m__law_turning : M Fl := (sSeq (sPar 2 3 (aCons (eCBC (gL1 lstOf) (aCons (eVar 1) aNil)) (aCons (eLstC aNil) aNil))) (sSeq (sFor (eRng1 (aCons (eCB (g1 dLen) (aCons (eVar 1) aNil)) aNil)) itRng (gVar 4) b1__law_turning sNx) (sRet (eVar 3))))
noncomputable def sem__law_turning : Sem := run 5 m__law_turning
noncomputable def m__law_names : M Fl := (sSeq (sSet 2 (eLst (aCons (eC (.str "b")) (aCons (eC (.str "a")) (aCons (eC (.str "zz")) (aCons (eC (.str "z")) (aCons (eC (.str "abcdefgh")) (aCons (eC (.str "m")) (aCons (eC (.str "mm")) (aCons (eC (.str "q")) (aCons (eC (.str "c")) (aCons (eC (.str "kk")) (aCons (eC (.str "y")) (aCons (eC (.str "x")) (aCons (eC (.str "dd")) (aCons (eC (.str "e")) aNil)))))))))))))))) (sRet (eSl dSl (eCall [true, false] sem__law_turning (aCons (eVar 0) (aCons (eSl dSl (eVar 2) oNone (oSome (eOp dAdd (eVar 1) (eC (.int 1))))) aNil))) oNone (oSome (eVar 1)))))
noncomputable def sem__law_names : Sem := run 3 m__law_names
noncomputable def m__law_rankings : M Fl := (sSeq (sSet 3 (eCall [true, false] sem__law_names (aCons (eVar 0) (aCons (eOp dAdd (eVar 1) (eCall [true, false] sem__law_take (aCons (eVar 0) (aCons (eOp dAdd (eOp dSubI (eVar 2) (eVar 1)) (eC (.int 1))) aNil)))) aNil)))) (sSeq (sPar 4 5 (aCons (eCB (g1 dTuple) (aCons (eVar 3) aNil)) (aCons (eCall [true, false] sem__law_take (aCons (eVar 0) (aCons (eC (.int 6)) aNil))) aNil))) (sSeq (sSet 6 (eCB (g1 dTuple) (aCons (eCall [true, false] sem__law_turning (aCons (eVar 0) (aCons (eVar 3) aNil))) aNil))) (sSeq (sIf (tOf (eOp dEq (eVar 5) (eC (.int 0)))) (sRet (eTup (aCons (eVar 4) (aCons (eVar 4) aNil)))) sNx) (sSeq (sIf (tOf (eOp dEq (eVar 5) (eC (.int 1)))) (sRet (eTup (aCons (eVar 4) (aCons (eUn dRevA (eVar 4)) aNil)))) sNx) (sSeq (sIf (tOf (eOp dEq (eVar 5) (eC (.int 2)))) (sRet (eTup (aCons (eVar 4) (aCons (eOp dAdd (eOp dAdd (eSl dSl (eVar 4) (oSome (eC (.int 1))) (oSome (eC (.int 2)))) (eSl dSl (eVar 4) oNone (oSome (eC (.int 1))))) (eSl dSl (eVar 4) (oSome (eC (.int 2))) oNone)) aNil)))) sNx) (sRet (eTup (aCons (eVar 4) (aCons (eVar 6) aNil))))))))))
noncomputable def sem__law_rankings : Sem := run 7 m__law_rankings
end LF2

/-! LF1: readings that the first laws share. -/
namespace LF1
open PySem L2 DL LF2
open PySem.Spec PyProof.Rows
noncomputable def m__law_pool : M Fl := (sSeq (sSet 2 (eC (.int 0))) (sSeq (sIf (tOf (eOp dLtI (eVar 1) (eCB (g1 dLen) (aCons (eVar 0) aNil)))) (sSet 2 (eOp dSub (eVar 0) (eVar 1))) sNx) (sSeq (sSet 3 (eCB (g1 dAbs) (aCons (eVar 2) aNil))) (sSeq (sSet 4 (eOp dModI (eOp dMulI (eOp dAdd (eOp dModI (eVar 2) (eC (.int 2147483629))) (eOp dMulI (eC (.int 104729)) (eOp dAdd (eVar 1) (eC (.int 1))))) (eOp dAdd (eVar 1) (eC (.int 7)))) (eC (.int 2147483629)))) (sSeq (sSet 5 (eOp dModI (eOp dMulI (eOp dModI (eOp dMulI (eVar 4) (eVar 4)) (eC (.int 2147483629))) (eC (.int 48271))) (eC (.int 2147483647)))) (sRet (eLstC (aCons (eOp dMulI (eVar 3) (eCB (g1 dInt) (aCons (eOp dGeI (eVar 3) (eOp dPowI (eC (.int 10)) (eC (.int 18)))) aNil))) (aCons (eVar 5) aNil)))))))))
noncomputable def sem__law_pool : Sem := runC 6 m__law_pool
noncomputable def b1__law_names : M Fl := (sSeq (sSet 6 (eOp dMul (eOp dSub (eVar 2) (eOp dModI (eVar 5) (eC (.int 26)))) (eOp dAdd (eC (.int 1)) (eOp dDivI (eVar 5) (eC (.int 26)))))) (sExpr (eCM "list" cAppend (eVar 4) (aCons (eOp dSub (eLst (aCons (eVar 6) (aCons (eOp dAdd (eC (.str "q")) (eVar 6)) (aCons (eOp dAdd (eOp dMul (eOp dSub (eVar 2) (eOp dModI (eVar 5) (eC (.int 26)))) (eC (.int 6))) (eVar 6)) aNil)))) (eVar 3)) aNil))))
noncomputable def m__law_names : M Fl := (sSeq (sSet 2 (eC (.str "abcdefghijklmnopqrstuvwxyz"))) (sSeq (sSet 3 (eCall [true, false] sem__law_take (aCons (eVar 0) (aCons (eC (.int 3)) aNil)))) (sSeq (sSet 4 (eLstC aNil)) (sSeq (sFor (eRng1 (aCons (eVar 1) aNil)) itRng (gVar 5) b1__law_names sNx) (sRet (eVar 4))))))
noncomputable def sem__law_names : Sem := run 7 m__law_names
noncomputable def t1__law_shuffled : M Bool := (tOf (eOp dNe (eVar 2) (eLst aNil)))
noncomputable def b2__law_shuffled : M Fl := (sExpr (eCM "list" cAppend (eVar 3) (aCons (eCM "list" cPopAt (eVar 2) (aCons (eCall [true, false] sem__law_take (aCons (eVar 0) (aCons (eCB (g1 dLen) (aCons (eVar 2) aNil)) aNil))) aNil)) aNil)))
noncomputable def m__law_shuffled : M Fl := (sSeq (sSet 2 (eCBC (gL1 lstOf) (aCons (eVar 1) aNil))) (sSeq (sSet 3 (eLstC aNil)) (sSeq (whileL t1__law_shuffled b2__law_shuffled 100000) (sRet (eVar 3)))))
noncomputable def sem__law_shuffled : Sem := run 4 m__law_shuffled
end LF1

/-! LB2: more readings of the program's defs. -/
namespace LB2
open PySem L2 DL
open PySem.Spec PyProof.Rows
noncomputable def e1_is_turns : M D := (eOp dIn (eVar 2) (eC (.tup [(.str "A"), (.str "B")])))
noncomputable def m_is_turns : M Fl := (sRet (eAnd (eCB (g2 dIsi) (aCons (eVar 0) (aCons (eC (.raw (.ty "str"))) aNil))) (eAnd (eOp dEq (eCB (g1 dLen) (aCons (eVar 0) aNil)) (eVar 1)) (eCB (g1 dAll) (aCons (eLc (eVar 0) itSeq (gVar 2) tYesM e1_is_turns [2]) aNil)))))
noncomputable def sem_is_turns : Sem := run 3 m_is_turns
end LB2

/-! LG: readings of games. -/
namespace LG
open PySem L2 DL LB LB2
open PySem.Spec PyProof.Rows
noncomputable def m_check_known : M Fl := (sIf (tOrM (tNotM (tOf (eCB (g2 dIsi) (aCons (eVar 0) (aCons (eC (.raw (.ty "str"))) aNil))))) (tOf (eOp dNotIn (eVar 0) (eVar 1)))) eFail sNx)
noncomputable def sem_check_known : Sem := run 2 m_check_known
noncomputable def m_Game__ranking_a : M Fl := (sRet (eOp dSub (eFld "Game" "rows" (eVar 0)) (eC (.int 0))))
noncomputable def sem_Game__ranking_a : Sem := run 1 m_Game__ranking_a
noncomputable def m_Game__ranking_b : M Fl := (sRet (eOp dSub (eFld "Game" "rows" (eVar 0)) (eC (.int 1))))
noncomputable def sem_Game__ranking_b : Sem := run 1 m_Game__ranking_b
noncomputable def m_Game__turns : M Fl := (sRet (eOp dSub (eFld "Game" "rows" (eVar 0)) (eC (.int 2))))
noncomputable def sem_Game__turns : Sem := run 1 m_Game__turns
noncomputable def m_Game__player : M Fl := (sSeq (sSet 1 (eOp dSub (eFld "Game" "rows" (eVar 0)) (eC (.int 2)))) (sRet (eIf (tOf (eOp dNe (eVar 1) (eC (.str "")))) (eOp dSub (eVar 1) (eC (.int 0))) (eC .non))))
noncomputable def sem_Game__player : Sem := run 2 m_Game__player
noncomputable def m_Game__ranking : M Fl := (sRet (eIf (tOf (eOp dEq (eVar 1) (eC (.str "A")))) (eOp dSub (eFld "Game" "rows" (eVar 0)) (eC (.int 0))) (eOp dSub (eFld "Game" "rows" (eVar 0)) (eC (.int 1)))))
noncomputable def sem_Game__ranking : Sem := run 2 m_Game__ranking
noncomputable def m_Game__require_turn : M Fl := (sIf (tOf (eOp dEq (eOp dSub (eFld "Game" "rows" (eVar 0)) (eC (.int 2))) (eC (.str "")))) eFail sNx)
noncomputable def sem_Game__require_turn : Sem := run 1 m_Game__require_turn
noncomputable def m_with_item : M Fl := (sSeq (sAsg (eVar 0) (hTup 2 (hMore (hVar 3) (hMore (hVar 4) hNone)))) (sSeq (sIf (tOf (eOp dEq (eVar 1) (eC (.str "A")))) (sRet (eTup (aCons (eCall [false] sem_as_set (aCons (eOp dAdd (eVar 3) (eTup (aCons (eVar 2) aNil))) aNil)) (aCons (eVar 4) aNil)))) sNx) (sRet (eTup (aCons (eVar 3) (aCons (eCall [false] sem_as_set (aCons (eOp dAdd (eVar 4) (eTup (aCons (eVar 2) aNil))) aNil)) aNil))))))
noncomputable def sem_with_item : Sem := run 5 m_with_item
noncomputable def m_Game____init__ : M Fl := (sSeq (sExpr (eCallV sem_check_rankings (aCons (eVar 1) (aCons (eVar 2) aNil)))) (sSeq (sIf (tNotM (tOf (eCall [false, false] sem_is_turns (aCons (eVar 3) (aCons (eCB (g1 dLen) (aCons (eVar 1) aNil)) aNil))))) eFail sNx) (sFldS "Game" "rows" (eVar 0) (eTup (aCons (eVar 1) (aCons (eVar 2) (aCons (eVar 3) aNil)))))))
noncomputable def sem_Game____init__ : Sem := run 4 m_Game____init__
noncomputable def e1_Game__without : M D := (eVar 5)
noncomputable def e2_Game__without : M D := (eVar 5)
noncomputable def m_Game__without : M Fl := (sSeq (sSet 3 (eCB (g1 dTuple) (aCons (eLc (eOp dSub (eFld "Game" "rows" (eVar 0)) (eC (.int 0))) itSeq (gVar 5) (tOf (eOp dNe (eVar 5) (eVar 1))) e1_Game__without [5]) aNil))) (sSeq (sSet 4 (eCB (g1 dTuple) (aCons (eLc (eOp dSub (eFld "Game" "rows" (eVar 0)) (eC (.int 1))) itSeq (gVar 5) (tOf (eOp dNe (eVar 5) (eVar 1))) e2_Game__without [5]) aNil))) (sRet (eMake "Game" [false, false, false] sem_Game____init__ (aCons (eVar 3) (aCons (eVar 4) (aCons (eVar 2) aNil)))))))
noncomputable def sem_Game__without : Sem := run 6 m_Game__without
noncomputable def m_Game__after : M Fl := (sSeq (sExpr (eMeth "Game" "require_turn" [false] sem_Game__require_turn (eVar 0) aNil)) (sSeq (sExpr (eCall [false, false] sem_check_known (aCons (eVar 1) (aCons (eOp dSub (eFld "Game" "rows" (eVar 0)) (eC (.int 0))) aNil)))) (sRet (eMeth "Game" "without" [false, false, false] sem_Game__without (eVar 0) (aCons (eVar 1) (aCons (eSl dSl (eOp dSub (eFld "Game" "rows" (eVar 0)) (eC (.int 2))) (oSome (eC (.int 1))) oNone) aNil))))))
noncomputable def sem_Game__after : Sem := run 2 m_Game__after
noncomputable def t1_sincere_division : M Bool := (tOf (eOp dNot (eProp "Game" sem_Game__player (eVar 0)) (eC .non)))
noncomputable def b2_sincere_division : M Fl := (sSeq (sSet 2 (eProp "Game" sem_Game__player (eVar 0))) (sSeq (sSet 3 (eOp dSub (eMeth "Game" "ranking" [false, false] sem_Game__ranking (eVar 0) (aCons (eVar 2) aNil)) (eC (.int 0)))) (sSeq (sSet 1 (eCall [false, false, false] sem_with_item (aCons (eVar 1) (aCons (eVar 2) (aCons (eVar 3) aNil))))) (sSet 0 (eMeth "Game" "after" [false, false] sem_Game__after (eVar 0) (aCons (eVar 3) aNil))))))
noncomputable def m_sincere_division : M Fl := (sSeq (sSet 1 (eTup (aCons (eTup aNil) (aCons (eTup aNil) aNil)))) (sSeq (whileL t1_sincere_division b2_sincere_division 100000) (sRet (eVar 1))))
noncomputable def sem_sincere_division : Sem := run 4 m_sincere_division
end LG

/-! LF3: more readings that the laws share. -/
namespace LF3
open PySem L2 DL LF2
open PySem.Spec PyProof.Rows
noncomputable def e1__law_letters : M D := (eOp dSub (eLst (aCons (eC (.str "A")) (aCons (eC (.str "B")) aNil))) (eCall [true, false] sem__law_take (aCons (eVar 0) (aCons (eC (.int 2)) aNil))))
noncomputable def m__law_letters : M Fl := (sRet (eBM "str" (g1m dJoin) (eC (.str "")) (aCons (eLc (eRng1 (aCons (eVar 1) aNil)) itRng (gVar 2) tYesM e1__law_letters [2]) aNil)))
noncomputable def sem__law_letters : Sem := run 3 m__law_letters
end LF3

set_option pp.maxSteps 120
namespace K05
open PySem L2 DL
open PySem.Spec PyProof.Rows
open LB (e1_is_item m_is_item sem_is_item e1_are_items m_are_items sem_are_items m_is_ranking sem_is_ranking m_as_set sem_as_set e1_is_set_of m_is_set_of sem_is_set_of m_check_ranking sem_check_ranking)
open LF1 (m__law_pool sem__law_pool b1__law_names m__law_names sem__law_names t1__law_shuffled b2__law_shuffled m__law_shuffled sem__law_shuffled)
open LF2 (m__law_take sem__law_take)
abbrev prog : Program := PySem.Challenge.pw_lastchoicefirst_k05_is_matching
def top (i : Nat) : Stmt := prog.main.body.getD i (.Pass ⟨0, 0, 0, 0⟩)
abbrev FnP (K : PySem.W.Frag) (x : Str) (st : Stmt) (f : Addr) (fd : FuncData) : Prop := FunD K x x (defArgs st) (defBody st) (defScope st) [] [] f fd
abbrev FnP2 (K : PySem.W.Frag) (x q : Str) (st : Stmt) (f : Addr) (fd : FuncData) : Prop := FunD K x q (defArgs st) (defBody st) (defScope st) [] [] f fd
def clsB (s : Stmt) : List Stmt := match s with
  | .ClassDef _ _ _ b _ _ _ _ _ _ _ => b
  | _ => []
abbrev st_is_item : Stmt := top 8
abbrev st_as_set : Stmt := top 11
abbrev st_fits : Stmt := top 16
abbrev st__law_pool : Stmt := top 20
abbrev st__law_take : Stmt := top 21
abbrev st__law_due : Stmt := top 24
abbrev st__law_sorted_pairs : Stmt := top 25
abbrev st_are_items : Stmt := top 9
abbrev st_is_matching_of : Stmt := top 17
abbrev st__law_names : Stmt := top 22
abbrev st__law_shuffled : Stmt := top 23
abbrev st__law_bent : Stmt := top 26
abbrev st_is_ranking : Stmt := top 10
abbrev st_is_set_of : Stmt := top 12
abbrev st_check_ranking : Stmt := top 13
abbrev st_check_sets : Stmt := top 15
abbrev st_is_matching : Stmt := top 18
abbrev st_law : Stmt := top 27
noncomputable def e1_fits : M D := (eOp dLeI (eIndex (eVar 0) (aCons (eVar 3) aNil)) (eIndex (eVar 0) (aCons (eVar 2) aNil)))
noncomputable def m_fits : M Fl := (sRet (eCB (g1 dAll) (aCons (eLc (eVar 1) itSeq (gTupD (gMore (gVar 2) (gMore (gVar 3) gNone))) tYesM e1_fits [2, 3]) aNil)))
noncomputable def sem_fits : Sem := run 4 m_fits
noncomputable def b1__law_due : M Fl := (sSeq (sIf (tOrM (tNotM (tOf (eCB (g2 dIsi) (aCons (eVar 4) (aCons (eC (.raw (.ty "tuple"))) aNil))))) (tOf (eOp dNe (eCB (g1 dLen) (aCons (eVar 4) aNil)) (eC (.int 2))))) (sRet (eC (.bl false))) sNx) (sIf (tOrM (tNotM (tOf (eCB (g2 dIsi) (aCons (eOp dSub (eVar 4) (eC (.int 0))) (aCons (eC (.raw (.ty "str"))) aNil))))) (tNotM (tOf (eCB (g2 dIsi) (aCons (eOp dSub (eVar 4) (eC (.int 1))) (aCons (eC (.raw (.ty "str"))) aNil)))))) (sRet (eC (.bl false))) sNx))
noncomputable def e2__law_due : M D := (eOp dSub (eVar 4) (eC (.int 0)))
noncomputable def e3__law_due : M D := (eOp dSub (eVar 4) (eC (.int 1)))
noncomputable def e4__law_due : M D := (eVar 4)
noncomputable def m__law_due : M Fl := (sSeq (sIf (tNotM (tOf (eCB (g2 dIsi) (aCons (eVar 3) (aCons (eC (.raw (.ty "list"))) aNil))))) (sRet (eC (.bl false))) sNx) (sSeq (sFor (eVar 3) itSeq (gVar 4) b1__law_due sNx) (sSeq (sIf (tOrM (tOf (eOp dNe (eCB dSrt (aCons (eLc (eVar 3) itSeq (gVar 4) tYesM e2__law_due [4]) aNil)) (eCB (g1 fun d => (lstOf d).map .lst) (aCons (eVar 1) aNil)))) (tOf (eOp dNe (eCB dSrt (aCons (eLc (eVar 3) itSeq (gVar 4) tYesM e3__law_due [4]) aNil)) (eCB (g1 fun d => (lstOf d).map .lst) (aCons (eVar 2) aNil))))) (sRet (eC (.bl false))) sNx) (sRet (eOp dEq (eLc (eVar 3) itSeq (gVar 4) (tOf (eOp dGtI (eIndex (eVar 0) (aCons (eOp dSub (eVar 4) (eC (.int 1))) aNil)) (eIndex (eVar 0) (aCons (eOp dSub (eVar 4) (eC (.int 0))) aNil)))) e4__law_due [4]) (eLst aNil))))))
noncomputable def sem__law_due : Sem := run 5 m__law_due
noncomputable def e1__law_sorted_pairs : M D := (eVar 6)
noncomputable def e2__law_sorted_pairs : M D := (eVar 7)
noncomputable def b3__law_sorted_pairs : M Fl := (sExpr (eCM "list" cAppend (eVar 4) (aCons (eTup (aCons (eVar 6) (aCons (eOp dSub (eVar 3) (eVar 5)) aNil))) aNil)))
noncomputable def m__law_sorted_pairs : M Fl := (sSeq (sSet 3 (eLc (eVar 0) itSeq (gVar 6) (tOf (eOp dIn (eVar 6) (eVar 2))) e1__law_sorted_pairs [6])) (sSeq (sSet 4 (eLstC aNil)) (sSeq (sFor (eLc (eVar 0) itSeq (gVar 7) (tOf (eOp dIn (eVar 7) (eVar 1))) e2__law_sorted_pairs [7]) itEnum (gTupD (gMore (gVar 5) (gMore (gVar 6) gNone))) b3__law_sorted_pairs sNx) (sRet (eVar 4)))))
noncomputable def sem__law_sorted_pairs : Sem := run 8 m__law_sorted_pairs
noncomputable def e1_is_matching_of : M D := (eCB (g2 dIsi) (aCons (eVar 5) (aCons (eC (.raw (.ty "str"))) aNil)))
noncomputable def b2_is_matching_of : M Fl := (sIf (tOrM (tNotM (tOf (eCB (g2 dIsi) (aCons (eVar 4) (aCons (eC (.raw (.ty "tuple"))) aNil))))) (tOrM (tOf (eOp dNe (eCB (g1 dLen) (aCons (eVar 4) aNil)) (eC (.int 2)))) (tNotM (tOf (eCB (g1 dAll) (aCons (eLc (eVar 4) itSeq (gVar 5) tYesM e1_is_matching_of [5]) aNil)))))) (sRet (eC (.bl false))) sNx)
noncomputable def e3_is_matching_of : M D := (eOp dSub (eVar 4) (eC (.int 0)))
noncomputable def e4_is_matching_of : M D := (eOp dSub (eVar 4) (eC (.int 1)))
noncomputable def m_is_matching_of : M Fl := (sSeq (sIf (tNotM (tOf (eCB (g2 dIsi) (aCons (eVar 3) (aCons (eC (.raw (.ty "list"))) aNil))))) (sRet (eC (.bl false))) sNx) (sSeq (sFor (eVar 3) itSeq (gVar 4) b2_is_matching_of sNx) (sSeq (sIf (tOrM (tOf (eOp dNe (eCB dSrt (aCons (eLc (eVar 3) itSeq (gVar 4) tYesM e3_is_matching_of [4]) aNil)) (eCB (g1 fun d => (lstOf d).map .lst) (aCons (eVar 1) aNil)))) (tOf (eOp dNe (eCB dSrt (aCons (eLc (eVar 3) itSeq (gVar 4) tYesM e4_is_matching_of [4]) aNil)) (eCB (g1 fun d => (lstOf d).map .lst) (aCons (eVar 2) aNil))))) (sRet (eC (.bl false))) sNx) (sRet (eCall [false, false] sem_fits (aCons (eVar 0) (aCons (eVar 3) aNil)))))))
noncomputable def sem_is_matching_of : Sem := run 6 m_is_matching_of
noncomputable def b1__law_bent : M Fl := (sSeq (sSet 8 (eLst (aCons (eTup (aCons (eVar 7) (aCons (eVar 6) aNil))) (aCons (eLst (aCons (eVar 6) (aCons (eVar 7) aNil))) (aCons (eTup (aCons (eVar 6) aNil)) (aCons (eTup (aCons (eVar 6) (aCons (eVar 7) (aCons (eVar 7) aNil)))) (aCons (eTup (aCons (eVar 6) (aCons (eC .non) aNil))) (aCons (eTup (aCons (eVar 6) (aCons (eOp dSub (eVar 2) (eC (.int 0))) aNil))) aNil)))))))) (sSeq (sSet 8 (eOp dAdd (eVar 8) (eLst (aCons (eTup (aCons (eOp dSub (eVar 2) (eNeg (eC (.int 1)))) (aCons (eVar 7) aNil))) (aCons (eC .non) (aCons (eVar 6) (aCons (eTup (aCons (eLst (aCons (eVar 6) aNil)) (aCons (eVar 7) aNil))) (aCons (eTup (aCons (eVar 6) (aCons (eC (.dct [])) aNil))) aNil)))))))) (sAsg (eOp dSub (eVar 8) (eVar 5)) (hSub cSet (eVar 3) (eVar 4)))))
noncomputable def m__law_bent : M Fl := (sSeq (sSet 3 (eCBC (gL1 lstOf) (aCons (eVar 1) aNil))) (sSeq (sSet 4 (eCall [true, false] sem__law_take (aCons (eVar 0) (aCons (eCB (g2 dMax2) (aCons (eC (.int 1)) (aCons (eCB (g1 dLen) (aCons (eVar 3) aNil)) aNil))) aNil)))) (sSeq (sSet 5 (eCall [true, false] sem__law_take (aCons (eVar 0) (aCons (eC (.int 11)) aNil)))) (sSeq (sFor (eSl dSl (eVar 3) (oSome (eVar 4)) (oSome (eOp dAdd (eVar 4) (eC (.int 1))))) itSeq (gTupD (gMore (gVar 6) (gMore (gVar 7) gNone))) b1__law_bent sNx) (sSeq (sIf (tOrM (tOf (eOp dEqZ (eVar 3) (eLst aNil))) (tOf (eOp dEqZ (eCall [true, false] sem__law_take (aCons (eVar 0) (aCons (eC (.int 5)) aNil))) (eC (.int 0))))) (sRet (eOp dSub (eLst (aCons (eOp dAdd (eVar 3) (eLst (aCons (eTup (aCons (eC (.str "zz")) (aCons (eC (.str "zz")) aNil))) aNil))) (aCons (eSl dSl (eVar 3) (oSome (eC (.int 1))) oNone) (aCons (eCB (g1 dTuple) (aCons (eVar 3) aNil)) (aCons (eC .non) (aCons (eC (.dct [])) (aCons (eC (.str "ab")) (aCons (eOp dAdd (eVar 3) (eVar 3)) (aCons (eC (.int 5)) aNil))))))))) (eCall [true, false] sem__law_take (aCons (eVar 0) (aCons (eC (.int 8)) aNil))))) sNx) (sRet (eVar 3)))))))
noncomputable def sem__law_bent : Sem := run 9 m__law_bent
noncomputable def b1_check_sets : M Fl := (sIf (tOrM (tNotM (tOf (eCall [false, false] sem_is_set_of (aCons (eVar 2) (aCons (eVar 0) aNil))))) (tOf (eOp dNe (eCB (g1 dLen) (aCons (eVar 2) aNil)) (eCB (g1 dLen) (aCons (eOp dSub (eVar 1) (eC (.int 0))) aNil))))) eFail sNx)
noncomputable def m_check_sets : M Fl := (sSeq (sExpr (eCall [false] sem_check_ranking (aCons (eVar 0) aNil))) (sFor (eVar 1) itSeq (gVar 2) b1_check_sets sNx))
noncomputable def sem_check_sets : Sem := runS 1 3 m_check_sets
noncomputable def m_is_matching : M Fl := (sSeq (sExpr (eCallV sem_check_sets (aCons (eVar 0) (aCons (eVar 1) (aCons (eVar 2) aNil))))) (sRet (eCall [false, false, false, false] sem_is_matching_of (aCons (eVar 0) (aCons (eVar 1) (aCons (eVar 2) (aCons (eVar 3) aNil)))))))
noncomputable def sem_is_matching : Sem := run 4 m_is_matching
noncomputable def e1_law : M D := (eTup (aCons (eVar 15) (aCons (eOp dSub (eVar 7) (eVar 14)) aNil)))
noncomputable def b2_law : M Fl := (sExpr (eCM "list" cAppend (eVar 8) (aCons (eCall [true, false, false] sem__law_bent (aCons (eVar 2) (aCons (eOp dSub (eVar 8) (eCall [true, false] sem__law_take (aCons (eVar 2) (aCons (eC (.int 3)) aNil)))) (aCons (eVar 3) aNil)))) aNil)))
noncomputable def b3_law : M Fl := (sSeq (sSet 13 (eCB dReprZ (aCons (eVar 10) aNil))) (sSeq (sIf (tOf (eOp dNe (eCB dReprZ (aCons (eCall [false, false, false, false] sem_is_matching (aCons (eVar 3) (aCons (eVar 11) (aCons (eVar 12) (aCons (eVar 10) aNil))))) aNil)) (eCB dReprZ (aCons (eCall [false, false, false, false] sem__law_due (aCons (eVar 3) (aCons (eVar 11) (aCons (eVar 12) (aCons (eVar 10) aNil))))) aNil)))) (sRet (eC (.bl false))) sNx) (sIf (tOf (eOp dNe (eCB dReprZ (aCons (eVar 10) aNil)) (eVar 13))) (sRet (eC (.bl false))) sNx)))
noncomputable def b4_law : M Fl := (sFor (eLst (aCons (eTup (aCons (eVar 5) (aCons (eVar 6) aNil))) (aCons (eTup (aCons (eVar 6) (aCons (eVar 5) aNil))) (aCons (eTup (aCons (eVar 5) (aCons (eVar 5) aNil))) aNil)))) itSeq (gTupD (gMore (gVar 11) (gMore (gVar 12) gNone))) b3_law sNx)
noncomputable def b5_law : M Fl := (sSeq (sSet 2 (eCallC [false, false] sem__law_pool (aCons (eVar 0) (aCons (eVar 1) aNil)))) (sSeq (sSet 3 (eCB (g1 dTuple) (aCons (eCall [true, false] sem__law_shuffled (aCons (eVar 2) (aCons (eCall [true, false] sem__law_names (aCons (eVar 2) (aCons (eOp dAdd (eC (.int 2)) (eCall [true, false] sem__law_take (aCons (eVar 2) (aCons (eC (.int 11)) aNil)))) aNil))) aNil))) aNil))) (sSeq (sSet 4 (eCall [true, false] sem__law_take (aCons (eVar 2) (aCons (eOp dAdd (eCB (g1 dLen) (aCons (eVar 3) aNil)) (eC (.int 1))) aNil)))) (sSeq (sSet 5 (eCB (g1 dTuple) (aCons (eCB dSrt (aCons (eSl dSl (eCall [true, false] sem__law_shuffled (aCons (eVar 2) (aCons (eVar 3) aNil))) oNone (oSome (eVar 4))) aNil)) aNil))) (sSeq (sSet 6 (eCB (g1 dTuple) (aCons (eCB dSrt (aCons (eSl dSl (eCall [true, false] sem__law_shuffled (aCons (eVar 2) (aCons (eVar 3) aNil))) oNone (oSome (eVar 4))) aNil)) aNil))) (sSeq (sSet 7 (eCall [true, false] sem__law_shuffled (aCons (eVar 2) (aCons (eCB (g1 fun d => (lstOf d).map .lst) (aCons (eVar 6) aNil)) aNil)))) (sSeq (sSet 8 (eLstC (aCons (eCall [false, false, false] sem__law_sorted_pairs (aCons (eVar 3) (aCons (eVar 5) (aCons (eVar 6) aNil)))) (aCons (eCall [true, false] sem__law_shuffled (aCons (eVar 2) (aCons (eCall [false, false, false] sem__law_sorted_pairs (aCons (eVar 3) (aCons (eVar 6) (aCons (eVar 5) aNil)))) aNil))) aNil)))) (sSeq (sExpr (eCM "list" cAppend (eVar 8) (aCons (eLc (eVar 5) itEnum (gTupD (gMore (gVar 14) (gMore (gVar 15) gNone))) tYesM e1_law [14, 15]) aNil))) (sSeq (sFor (eRng1 (aCons (eC (.int 8)) aNil)) itRng (gVar 9) b2_law sNx) (sFor (eOp dAdd (eVar 8) (eLst (aCons (eC .non) (aCons (eLst aNil) (aCons (eTup aNil) (aCons (eLst (aCons (eC .non) aNil)) (aCons (eLst (aCons (eTup aNil) aNil)) (aCons (eLst (aCons (eTup (aCons (eC (.str "a")) aNil)) aNil)) aNil)))))))) itSeq (gVar 10) b4_law sNx))))))))))
noncomputable def m_law : M Fl := (sSeq (sFor (eRng1 (aCons (eCB (g2 dMax2) (aCons (eC (.int 1)) (aCons (eCB (g2 dMin2) (aCons (eCB (g1 dLen) (aCons (eVar 0) aNil)) (aCons (eC (.int 10)) aNil))) aNil))) aNil)) itRng (gVar 1) b5_law sNx) (sRet (eC (.bl true))))
noncomputable def sem_law : Sem := run 16 m_law
theorem sc_is_item : FnScope ["value", "letter"] ["value"] (defScope st_is_item) := ⟨rfl, rfl, rfl, by decide +kernel, rfl, by decide +kernel, by decide +kernel⟩
theorem sc_as_set : FnScope ["items"] ["items"] (defScope st_as_set) := ⟨rfl, rfl, rfl, by decide +kernel, rfl, by decide +kernel, by decide +kernel⟩
theorem sc_fits : FnScope ["ranking", "pairs", "worse", "better"] ["ranking", "pairs"] (defScope st_fits) := ⟨rfl, rfl, rfl, by decide +kernel, rfl, by decide +kernel, by decide +kernel⟩
theorem sc__law_pool : FnScope ["_law_script", "_law_k", "_law_cell", "_law_size", "_law_blend", "_law_seed"] ["_law_script", "_law_k"] (defScope st__law_pool) := ⟨rfl, rfl, rfl, by decide +kernel, rfl, by decide +kernel, by decide +kernel⟩
theorem sc__law_take : FnScope ["_law_pool_here", "_law_wide", "_law_result"] ["_law_pool_here", "_law_wide"] (defScope st__law_take) := ⟨rfl, rfl, rfl, by decide +kernel, rfl, by decide +kernel, by decide +kernel⟩
theorem sc__law_due : FnScope ["_law_row", "_law_worse", "_law_better", "_law_value", "_law_pair"] ["_law_row", "_law_worse", "_law_better", "_law_value"] (defScope st__law_due) := ⟨rfl, rfl, rfl, by decide +kernel, rfl, by decide +kernel, by decide +kernel⟩
theorem sc__law_sorted_pairs : FnScope ["_law_row", "_law_worse", "_law_better", "_law_rest", "_law_result", "_law_at", "_law_item", "_law_own"] ["_law_row", "_law_worse", "_law_better"] (defScope st__law_sorted_pairs) := ⟨rfl, rfl, rfl, by decide +kernel, rfl, by decide +kernel, by decide +kernel⟩
theorem sc_are_items : FnScope ["value", "item"] ["value"] (defScope st_are_items) := ⟨rfl, rfl, rfl, by decide +kernel, rfl, by decide +kernel, by decide +kernel⟩
theorem sc_is_matching_of : FnScope ["ranking", "worse", "better", "pairs", "pair", "item"] ["ranking", "worse", "better", "pairs"] (defScope st_is_matching_of) := ⟨rfl, rfl, rfl, by decide +kernel, rfl, by decide +kernel, by decide +kernel⟩
theorem sc__law_names : FnScope ["_law_pool_here", "_law_count", "_law_letters", "_law_way", "_law_result", "_law_number", "_law_name"] ["_law_pool_here", "_law_count"] (defScope st__law_names) := ⟨rfl, rfl, rfl, by decide +kernel, rfl, by decide +kernel, by decide +kernel⟩
theorem sc__law_shuffled : FnScope ["_law_pool_here", "_law_some", "_law_left", "_law_result"] ["_law_pool_here", "_law_some"] (defScope st__law_shuffled) := ⟨rfl, rfl, rfl, by decide +kernel, rfl, by decide +kernel, by decide +kernel⟩
theorem sc__law_bent : FnScope ["_law_pool_here", "_law_pairs", "_law_row", "_law_some", "_law_at", "_law_way", "_law_one", "_law_other", "_law_odd"] ["_law_pool_here", "_law_pairs", "_law_row"] (defScope st__law_bent) := ⟨rfl, rfl, rfl, by decide +kernel, rfl, by decide +kernel, by decide +kernel⟩
theorem sc_is_ranking : FnScope ["value"] ["value"] (defScope st_is_ranking) := ⟨rfl, rfl, rfl, by decide +kernel, rfl, by decide +kernel, by decide +kernel⟩
theorem sc_is_set_of : FnScope ["value", "items", "item"] ["value", "items"] (defScope st_is_set_of) := ⟨rfl, rfl, rfl, by decide +kernel, rfl, by decide +kernel, by decide +kernel⟩
theorem sc_check_ranking : FnScope ["value"] ["value"] (defScope st_check_ranking) := ⟨rfl, rfl, rfl, by decide +kernel, rfl, by decide +kernel, by decide +kernel⟩
theorem sc_check_sets : FnScope ["ranking", "sets", "one"] ["ranking", "sets"] (defScope st_check_sets) := ⟨rfl, rfl, rfl, by decide +kernel, rfl, by decide +kernel, by decide +kernel⟩
theorem sc_is_matching : FnScope ["ranking", "worse", "better", "pairs"] ["ranking", "worse", "better", "pairs"] (defScope st_is_matching) := ⟨rfl, rfl, rfl, by decide +kernel, rfl, by decide +kernel, by decide +kernel⟩
theorem sc_law : FnScope ["_law_script", "_law_k", "_law_pool_here", "_law_row", "_law_many", "_law_one", "_law_other", "_law_random", "_law_some", "_law_turn", "_law_value", "_law_worse", "_law_better", "_law_kept", "_law_at", "_law_item"] ["_law_script"] (defScope st_law) := ⟨rfl, rfl, rfl, by decide +kernel, rfl, by decide +kernel, by decide +kernel⟩
structure Lw (K : PySem.W.Frag) (mg : Str → Option Value) where
  fd_is_item : FuncData
  F_is_item : FnP K "is_item" st_is_item (He.ga K "is_item") fd_is_item
  g_is_item : mg "is_item" = some (.ref (He.ga K "is_item"))
  fd_as_set : FuncData
  F_as_set : FnP K "as_set" st_as_set (He.ga K "as_set") fd_as_set
  g_as_set : mg "as_set" = some (.ref (He.ga K "as_set"))
  fd_fits : FuncData
  F_fits : FnP K "fits" st_fits (He.ga K "fits") fd_fits
  g_fits : mg "fits" = some (.ref (He.ga K "fits"))
  fd__law_pool : FuncData
  F__law_pool : FnP K "_law_pool" st__law_pool (He.ga K "_law_pool") fd__law_pool
  g__law_pool : mg "_law_pool" = some (.ref (He.ga K "_law_pool"))
  fd__law_take : FuncData
  F__law_take : FnP K "_law_take" st__law_take (He.ga K "_law_take") fd__law_take
  g__law_take : mg "_law_take" = some (.ref (He.ga K "_law_take"))
  fd__law_due : FuncData
  F__law_due : FnP K "_law_due" st__law_due (He.ga K "_law_due") fd__law_due
  g__law_due : mg "_law_due" = some (.ref (He.ga K "_law_due"))
  fd__law_sorted_pairs : FuncData
  F__law_sorted_pairs : FnP K "_law_sorted_pairs" st__law_sorted_pairs (He.ga K "_law_sorted_pairs") fd__law_sorted_pairs
  g__law_sorted_pairs : mg "_law_sorted_pairs" = some (.ref (He.ga K "_law_sorted_pairs"))
  fd_are_items : FuncData
  F_are_items : FnP K "are_items" st_are_items (He.ga K "are_items") fd_are_items
  g_are_items : mg "are_items" = some (.ref (He.ga K "are_items"))
  fd_is_matching_of : FuncData
  F_is_matching_of : FnP K "is_matching_of" st_is_matching_of (He.ga K "is_matching_of") fd_is_matching_of
  g_is_matching_of : mg "is_matching_of" = some (.ref (He.ga K "is_matching_of"))
  fd__law_names : FuncData
  F__law_names : FnP K "_law_names" st__law_names (He.ga K "_law_names") fd__law_names
  g__law_names : mg "_law_names" = some (.ref (He.ga K "_law_names"))
  fd__law_shuffled : FuncData
  F__law_shuffled : FnP K "_law_shuffled" st__law_shuffled (He.ga K "_law_shuffled") fd__law_shuffled
  g__law_shuffled : mg "_law_shuffled" = some (.ref (He.ga K "_law_shuffled"))
  fd__law_bent : FuncData
  F__law_bent : FnP K "_law_bent" st__law_bent (He.ga K "_law_bent") fd__law_bent
  g__law_bent : mg "_law_bent" = some (.ref (He.ga K "_law_bent"))
  fd_is_ranking : FuncData
  F_is_ranking : FnP K "is_ranking" st_is_ranking (He.ga K "is_ranking") fd_is_ranking
  g_is_ranking : mg "is_ranking" = some (.ref (He.ga K "is_ranking"))
  fd_is_set_of : FuncData
  F_is_set_of : FnP K "is_set_of" st_is_set_of (He.ga K "is_set_of") fd_is_set_of
  g_is_set_of : mg "is_set_of" = some (.ref (He.ga K "is_set_of"))
  fd_check_ranking : FuncData
  F_check_ranking : FnP K "check_ranking" st_check_ranking (He.ga K "check_ranking") fd_check_ranking
  g_check_ranking : mg "check_ranking" = some (.ref (He.ga K "check_ranking"))
  fd_check_sets : FuncData
  F_check_sets : FnP K "check_sets" st_check_sets (He.ga K "check_sets") fd_check_sets
  g_check_sets : mg "check_sets" = some (.ref (He.ga K "check_sets"))
  fd_is_matching : FuncData
  F_is_matching : FnP K "is_matching" st_is_matching (He.ga K "is_matching") fd_is_matching
  g_is_matching : mg "is_matching" = some (.ref (He.ga K "is_matching"))
  fd_law : FuncData
  F_law : FnP K "law" st_law (He.ga K "law") fd_law
  g_law : mg "law" = some (.ref (He.ga K "law"))
  b_abs : mg "abs" = none
  b_all : mg "all" = none
  b_enumerate : mg "enumerate" = none
  b_int : mg "int" = none
  b_isinstance : mg "isinstance" = none
  b_len : mg "len" = none
  b_list : mg "list" = none
  b_max : mg "max" = none
  b_min : mg "min" = none
  b_range : mg "range" = none
  b_repr : mg "repr" = none
  b_set : mg "set" = none
  b_sorted : mg "sorted" = none
  b_str : mg "str" = none
  b_tuple : mg "tuple" = none
  k_LETTERS : Tok
  g_LETTERS : mg "LETTERS" = some (.str "abcdefghijklmnopqrstuvwxyz" k_LETTERS)
  k_MAX_ITEMS : Tok
  g_MAX_ITEMS : mg "MAX_ITEMS" = some (.int 40 k_MAX_ITEMS)
  k_MAX_LETTERS : Tok
  g_MAX_LETTERS : mg "MAX_LETTERS" = some (.int 8 k_MAX_LETTERS)
section
variable {K : PySem.W.Frag} {mg : Str → Option Value} {w : World} {base : Heap} {cl : Str → Addr}
theorem b_is_item {fd : FuncData} {a : Addr} (F : FnP K "is_item" st_is_item a fd) : Binds K fd ["value"] [] := F.bindsN fun _ _ _ _ _ _ us hl => match us, hl with | [_], _ => rfl
theorem b_as_set {fd : FuncData} {a : Addr} (F : FnP K "as_set" st_as_set a fd) : Binds K fd ["items"] [] := F.bindsN fun _ _ _ _ _ _ us hl => match us, hl with | [_], _ => rfl
theorem b_fits {fd : FuncData} {a : Addr} (F : FnP K "fits" st_fits a fd) : Binds K fd ["ranking", "pairs"] [] := F.bindsN fun _ _ _ _ _ _ us hl => match us, hl with | [_, _], _ => rfl
theorem b__law_pool {fd : FuncData} {a : Addr} (F : FnP K "_law_pool" st__law_pool a fd) : Binds K fd ["_law_script", "_law_k"] [] := F.bindsN fun _ _ _ _ _ _ us hl => match us, hl with | [_, _], _ => rfl
theorem b__law_take {fd : FuncData} {a : Addr} (F : FnP K "_law_take" st__law_take a fd) : Binds K fd ["_law_pool_here", "_law_wide"] [] := F.bindsN fun _ _ _ _ _ _ us hl => match us, hl with | [_, _], _ => rfl
theorem b__law_due {fd : FuncData} {a : Addr} (F : FnP K "_law_due" st__law_due a fd) : Binds K fd ["_law_row", "_law_worse", "_law_better", "_law_value"] [] := F.bindsN fun _ _ _ _ _ _ us hl => match us, hl with | [_, _, _, _], _ => rfl
theorem b__law_sorted_pairs {fd : FuncData} {a : Addr} (F : FnP K "_law_sorted_pairs" st__law_sorted_pairs a fd) : Binds K fd ["_law_row", "_law_worse", "_law_better"] [] := F.bindsN fun _ _ _ _ _ _ us hl => match us, hl with | [_, _, _], _ => rfl
theorem b_are_items {fd : FuncData} {a : Addr} (F : FnP K "are_items" st_are_items a fd) : Binds K fd ["value"] [] := F.bindsN fun _ _ _ _ _ _ us hl => match us, hl with | [_], _ => rfl
theorem b_is_matching_of {fd : FuncData} {a : Addr} (F : FnP K "is_matching_of" st_is_matching_of a fd) : Binds K fd ["ranking", "worse", "better", "pairs"] [] := F.bindsN fun _ _ _ _ _ _ us hl => match us, hl with | [_, _, _, _], _ => rfl
theorem b__law_names {fd : FuncData} {a : Addr} (F : FnP K "_law_names" st__law_names a fd) : Binds K fd ["_law_pool_here", "_law_count"] [] := F.bindsN fun _ _ _ _ _ _ us hl => match us, hl with | [_, _], _ => rfl
theorem b__law_shuffled {fd : FuncData} {a : Addr} (F : FnP K "_law_shuffled" st__law_shuffled a fd) : Binds K fd ["_law_pool_here", "_law_some"] [] := F.bindsN fun _ _ _ _ _ _ us hl => match us, hl with | [_, _], _ => rfl
theorem b__law_bent {fd : FuncData} {a : Addr} (F : FnP K "_law_bent" st__law_bent a fd) : Binds K fd ["_law_pool_here", "_law_pairs", "_law_row"] [] := F.bindsN fun _ _ _ _ _ _ us hl => match us, hl with | [_, _, _], _ => rfl
theorem b_is_ranking {fd : FuncData} {a : Addr} (F : FnP K "is_ranking" st_is_ranking a fd) : Binds K fd ["value"] [] := F.bindsN fun _ _ _ _ _ _ us hl => match us, hl with | [_], _ => rfl
theorem b_is_set_of {fd : FuncData} {a : Addr} (F : FnP K "is_set_of" st_is_set_of a fd) : Binds K fd ["value", "items"] [] := F.bindsN fun _ _ _ _ _ _ us hl => match us, hl with | [_, _], _ => rfl
theorem b_check_ranking {fd : FuncData} {a : Addr} (F : FnP K "check_ranking" st_check_ranking a fd) : Binds K fd ["value"] [] := F.bindsN fun _ _ _ _ _ _ us hl => match us, hl with | [_], _ => rfl
theorem b_is_matching {fd : FuncData} {a : Addr} (F : FnP K "is_matching" st_is_matching a fd) : Binds K fd ["ranking", "worse", "better", "pairs"] [] := F.bindsN fun _ _ _ _ _ _ us hl => match us, hl with | [_, _, _, _], _ => rfl
theorem b_law {fd : FuncData} {a : Addr} (F : FnP K "law" st_law a fd) : Binds K fd ["_law_script"] [] := F.bindsN fun _ _ _ _ _ _ us hl => match us, hl with | [_], _ => rfl
theorem fg_is_item (hb : SmB base) (L : Lw K mg) : FnG prog w K mg base (He.ga K) 1 (He.ga K "is_item") L.fd_is_item ["value"] sem_is_item :=
  fn_G L.F_is_item sc_is_item fun cdv A outer s H E hk =>
    (dss_cons (ds_if (DW.dt (dw_or (dt_not (dt_val (de_callB cd_isi L.b_isinstance (da_cons (de_var rfl (by first | exact .inl rfl | exact .inr (.inl rfl) | exact .inr (.inr rfl))) (da_cons (de_tyname L.b_str) da_nil))))) (dw_or1 (dt_not (dt_chain od_leI od_leI de_int (de_callB cd_len L.b_len (da_cons (de_var rfl (by first | exact .inl rfl | exact .inr (.inl rfl) | exact .inr (.inr rfl))) da_nil)) (de_glob (v := .int 8) rfl L.g_MAX_LETTERS ⟨_, rfl⟩ (fun _ _ _ => .int))))))) (dss_one (ds_ret de_bl)) dss_nil) (dss_one (ds_ret (de_callB (cd_all hk.calm) L.b_all (da_cons (de_lc (own := [("letter", 1)]) hk (di_seq (de_var rfl (by first | exact .inl rfl | exact .inr (.inl rfl) | exact .inr (.inr rfl)))) (show BlkOk ["value", "letter"] (defScope st_is_item) _ [("letter", 1)] from ⟨rfl, by decide +kernel, by decide +kernel, by decide +kernel, by decide +kernel⟩) (Blk.of hk (fun s H C cc fp hk => (dg_name hk.nd rfl (by first | exact .inl rfl | exact .inr rfl))) (fun s H C cc fp hk => dts_nil) (fun s H C cc fp hk => (de_cmp od_in (de_var rfl (by first | exact .inl rfl | exact .inr (.inl rfl) | exact .inr (.inr rfl))) (de_glob (v := .str "abcdefghijklmnopqrstuvwxyz") rfl L.g_LETTERS ⟨_, rfl⟩ (fun _ _ _ => .str)) rfl)))) da_nil)))))
theorem fg_as_set (hb : SmB base) (L : Lw K mg) : FnG prog w K mg base (He.ga K) 1 (He.ga K "as_set") L.fd_as_set ["items"] sem_as_set :=
  fn_G L.F_as_set sc_as_set fun cdv A outer s H E hk =>
    (dss_one (ds_ret (de_callT cd_tuple L.b_tuple (da_cons (de_callB (cd_sorted hk.calm) L.b_sorted (da_cons (de_var rfl (by first | exact .inl rfl | exact .inr (.inl rfl) | exact .inr (.inr rfl))) da_nil)) da_nil))))
theorem fg_fits (hb : SmB base) (L : Lw K mg) : FnG prog w K mg base (He.ga K) 1 (He.ga K "fits") L.fd_fits ["ranking", "pairs"] sem_fits :=
  fn_G L.F_fits sc_fits fun cdv A outer s H E hk =>
    (dss_one (ds_ret (de_callB (cd_all hk.calm) L.b_all (da_cons (de_lc (own := [("worse", 2), ("better", 3)]) hk (di_seq (de_var rfl (by first | exact .inl rfl | exact .inr (.inl rfl) | exact .inr (.inr rfl)))) (show BlkOk ["ranking", "pairs", "worse", "better"] (defScope st_fits) _ [("worse", 2), ("better", 3)] from ⟨rfl, by decide +kernel, by decide +kernel, by decide +kernel, by decide +kernel⟩) (Blk.of hk (fun s H C cc fp hk => (dg_tup hk.calm (dgs_cons (dg_name hk.nd rfl (by first | exact .inl rfl | exact .inr rfl)) (dgs_cons (dg_name hk.nd rfl (by first | exact .inl rfl | exact .inr rfl)) dgs_nil)))) (fun s H C cc fp hk => dts_nil) (fun s H C cc fp hk => (de_cmp od_leI (de_index (de_var rfl (by first | exact .inl rfl | exact .inr (.inl rfl) | exact .inr (.inr rfl))) (da_cons (de_var rfl (by first | exact .inl rfl | exact .inr (.inl rfl) | exact .inr (.inr rfl))) da_nil)) (de_index (de_var rfl (by first | exact .inl rfl | exact .inr (.inl rfl) | exact .inr (.inr rfl))) (da_cons (de_var rfl (by first | exact .inl rfl | exact .inr (.inl rfl) | exact .inr (.inr rfl))) da_nil)) rfl)))) da_nil))))
theorem fg__law_pool (hb : SmB base) (L : Lw K mg) : FnG prog w K mg base (He.ga K) 1 (He.ga K "_law_pool") L.fd__law_pool ["_law_script", "_law_k"] sem__law_pool :=
  fn_GC L.F__law_pool sc__law_pool fun cdv A outer s H E hk =>
    (dss_cons (ds_set hk.nd rfl (by first | exact .inl rfl | exact .inr rfl) de_int) (dss_cons (ds_if (dt_cmp od_ltI (de_var rfl (by first | exact .inl rfl | exact .inr (.inl rfl) | exact .inr (.inr rfl))) (de_callB cd_len L.b_len (da_cons (de_var rfl (by first | exact .inl rfl | exact .inr (.inl rfl) | exact .inr (.inr rfl))) da_nil)) rfl) (dss_one (ds_set hk.nd rfl (by first | exact .inl rfl | exact .inr rfl) (de_sub hk (de_var rfl (by first | exact .inl rfl | exact .inr (.inl rfl) | exact .inr (.inr rfl))) (de_var rfl (by first | exact .inl rfl | exact .inr (.inl rfl) | exact .inr (.inr rfl)))))) dss_nil) (dss_cons (ds_set hk.nd rfl (by first | exact .inl rfl | exact .inr rfl) (de_callB cd_abs L.b_abs (da_cons (de_var rfl (by first | exact .inl rfl | exact .inr (.inl rfl) | exact .inr (.inr rfl))) da_nil))) (dss_cons (ds_set hk.nd rfl (by first | exact .inl rfl | exact .inr rfl) (de_op od_modI (de_op od_mulI (de_op od_add (de_op od_modI (de_var rfl (by first | exact .inl rfl | exact .inr (.inl rfl) | exact .inr (.inr rfl))) de_int) (de_op od_mulI de_int (de_op od_add (de_var rfl (by first | exact .inl rfl | exact .inr (.inl rfl) | exact .inr (.inr rfl))) de_int))) (de_op od_add (de_var rfl (by first | exact .inl rfl | exact .inr (.inl rfl) | exact .inr (.inr rfl))) de_int)) de_int)) (dss_cons (ds_set hk.nd rfl (by first | exact .inl rfl | exact .inr rfl) (de_op od_modI (de_op od_mulI (de_op od_modI (de_op od_mulI (de_var rfl (by first | exact .inl rfl | exact .inr (.inl rfl) | exact .inr (.inr rfl))) (de_var rfl (by first | exact .inl rfl | exact .inr (.inl rfl) | exact .inr (.inr rfl)))) de_int) de_int) de_int)) (dss_one (ds_ret (de_lstC (da_cons (de_op od_mulI (de_var rfl (by first | exact .inl rfl | exact .inr (.inl rfl) | exact .inr (.inr rfl))) (de_callT cd_int L.b_int (da_cons (de_cmp od_geI (de_var rfl (by first | exact .inl rfl | exact .inr (.inl rfl) | exact .inr (.inr rfl))) (de_op od_powI de_int de_int) rfl) da_nil))) (da_cons (de_var rfl (by first | exact .inl rfl | exact .inr (.inl rfl) | exact .inr (.inr rfl))) da_nil))))))))))
theorem fg__law_take (hb : SmB base) (L : Lw K mg) : FnG prog w K mg base (He.ga K) 1 (He.ga K "_law_take") L.fd__law_take ["_law_pool_here", "_law_wide"] sem__law_take :=
  fn_G L.F__law_take sc__law_take fun cdv A outer s H E hk =>
    (dss_cons (ds_if (dt_cmp od_gtI (de_sub hk (de_var rfl (by first | exact .inl rfl | exact .inr (.inl rfl) | exact .inr (.inr rfl))) de_int) de_int rfl) (dss_cons (ds_set hk.nd rfl (by first | exact .inl rfl | exact .inr rfl) (de_op od_modI (de_sub hk (de_var rfl (by first | exact .inl rfl | exact .inr (.inl rfl) | exact .inr (.inr rfl))) de_int) (de_var rfl (by first | exact .inl rfl | exact .inr (.inl rfl) | exact .inr (.inr rfl))))) (dss_cons (ds_asg (de_op od_divI (de_sub hk (de_var rfl (by first | exact .inl rfl | exact .inr (.inl rfl) | exact .inr (.inr rfl))) de_int) (de_var rfl (by first | exact .inl rfl | exact .inr (.inl rfl) | exact .inr (.inr rfl)))) (dh_sub std_list (de_var rfl (by first | exact .inl rfl | exact .inr (.inl rfl) | exact .inr (.inr rfl))) de_int)) (dss_one (ds_ret (de_var rfl (by first | exact .inl rfl | exact .inr (.inl rfl) | exact .inr (.inr rfl))))))) dss_nil) (dss_cons (ds_asg (de_op od_modI (de_op od_add (de_op od_mulI (de_sub hk (de_var rfl (by first | exact .inl rfl | exact .inr (.inl rfl) | exact .inr (.inr rfl))) de_int) de_int) de_int) de_int) (dh_sub std_list (de_var rfl (by first | exact .inl rfl | exact .inr (.inl rfl) | exact .inr (.inr rfl))) de_int)) (dss_one (ds_ret (de_op od_modI (de_op od_divI (de_op od_modI (de_op od_mulI (de_sub hk (de_var rfl (by first | exact .inl rfl | exact .inr (.inl rfl) | exact .inr (.inr rfl))) de_int) (de_sub hk (de_var rfl (by first | exact .inl rfl | exact .inr (.inl rfl) | exact .inr (.inr rfl))) de_int)) de_int) de_int) (de_var rfl (by first | exact .inl rfl | exact .inr (.inl rfl) | exact .inr (.inr rfl))))))))
theorem fg__law_due (hb : SmB base) (L : Lw K mg) : FnG prog w K mg base (He.ga K) 1 (He.ga K "_law_due") L.fd__law_due ["_law_row", "_law_worse", "_law_better", "_law_value"] sem__law_due :=
  fn_G L.F__law_due sc__law_due fun cdv A outer s H E hk =>
    (dss_cons (ds_if (dt_not (dt_val (de_callB cd_isi L.b_isinstance (da_cons (de_var rfl (by first | exact .inl rfl | exact .inr (.inl rfl) | exact .inr (.inr rfl))) (da_cons (de_tyname L.b_list) da_nil))))) (dss_one (ds_ret de_bl)) dss_nil) (dss_cons (ds_for hk (di_seq (de_var rfl (by first | exact .inl rfl | exact .inr (.inl rfl) | exact .inr (.inr rfl)))) (dg_name hk.nd rfl (by first | exact .inl rfl | exact .inr rfl)) (dss_cons (ds_if (DW.dt (dw_or (dt_not (dt_val (de_callB cd_isi L.b_isinstance (da_cons (de_var rfl (by first | exact .inl rfl | exact .inr (.inl rfl) | exact .inr (.inr rfl))) (da_cons (de_tyname L.b_tuple) da_nil))))) (dw_or1 (dt_cmp (od_ne hk.u64) (de_callB cd_len L.b_len (da_cons (de_var rfl (by first | exact .inl rfl | exact .inr (.inl rfl) | exact .inr (.inr rfl))) da_nil)) de_int rfl)))) (dss_one (ds_ret de_bl)) dss_nil) (dss_one (ds_if (DW.dt (dw_or (dt_not (dt_val (de_callB cd_isi L.b_isinstance (da_cons (de_sub hk (de_var rfl (by first | exact .inl rfl | exact .inr (.inl rfl) | exact .inr (.inr rfl))) de_int) (da_cons (de_tyname L.b_str) da_nil))))) (dw_or1 (dt_not (dt_val (de_callB cd_isi L.b_isinstance (da_cons (de_sub hk (de_var rfl (by first | exact .inl rfl | exact .inr (.inl rfl) | exact .inr (.inr rfl))) de_int) (da_cons (de_tyname L.b_str) da_nil)))))))) (dss_one (ds_ret de_bl)) dss_nil)))) (dss_cons (ds_if (DW.dt (dw_or (dt_cmp (od_ne hk.u64) (de_callB (cd_sorted hk.calm) L.b_sorted (da_cons (de_lc (own := [("_law_pair", 4)]) hk (di_seq (de_var rfl (by first | exact .inl rfl | exact .inr (.inl rfl) | exact .inr (.inr rfl)))) (show BlkOk ["_law_row", "_law_worse", "_law_better", "_law_value", "_law_pair"] (defScope st__law_due) _ [("_law_pair", 4)] from ⟨rfl, by decide +kernel, by decide +kernel, by decide +kernel, by decide +kernel⟩) (Blk.of hk (fun s H C cc fp hk => (dg_name hk.nd rfl (by first | exact .inl rfl | exact .inr rfl))) (fun s H C cc fp hk => dts_nil) (fun s H C cc fp hk => (de_sub hk (de_var rfl (by first | exact .inl rfl | exact .inr (.inl rfl) | exact .inr (.inr rfl))) de_int)))) da_nil)) (de_callT (cd_listA hk.calm) L.b_list (da_cons (de_var rfl (by first | exact .inl rfl | exact .inr (.inl rfl) | exact .inr (.inr rfl))) da_nil)) rfl) (dw_or1 (dt_cmp (od_ne hk.u64) (de_callB (cd_sorted hk.calm) L.b_sorted (da_cons (de_lc (own := [("_law_pair", 4)]) hk (di_seq (de_var rfl (by first | exact .inl rfl | exact .inr (.inl rfl) | exact .inr (.inr rfl)))) (show BlkOk ["_law_row", "_law_worse", "_law_better", "_law_value", "_law_pair"] (defScope st__law_due) _ [("_law_pair", 4)] from ⟨rfl, by decide +kernel, by decide +kernel, by decide +kernel, by decide +kernel⟩) (Blk.of hk (fun s H C cc fp hk => (dg_name hk.nd rfl (by first | exact .inl rfl | exact .inr rfl))) (fun s H C cc fp hk => dts_nil) (fun s H C cc fp hk => (de_sub hk (de_var rfl (by first | exact .inl rfl | exact .inr (.inl rfl) | exact .inr (.inr rfl))) de_int)))) da_nil)) (de_callT (cd_listA hk.calm) L.b_list (da_cons (de_var rfl (by first | exact .inl rfl | exact .inr (.inl rfl) | exact .inr (.inr rfl))) da_nil)) rfl)))) (dss_one (ds_ret de_bl)) dss_nil) (dss_one (ds_ret (de_cmp (od_eq hk.u64) (de_lc (own := [("_law_pair", 4)]) hk (di_seq (de_var rfl (by first | exact .inl rfl | exact .inr (.inl rfl) | exact .inr (.inr rfl)))) (show BlkOk ["_law_row", "_law_worse", "_law_better", "_law_value", "_law_pair"] (defScope st__law_due) _ [("_law_pair", 4)] from ⟨rfl, by decide +kernel, by decide +kernel, by decide +kernel, by decide +kernel⟩) (Blk.of hk (fun s H C cc fp hk => (dg_name hk.nd rfl (by first | exact .inl rfl | exact .inr rfl))) (fun s H C cc fp hk => (dts_one (dt_cmp od_gtI (de_index (de_var rfl (by first | exact .inl rfl | exact .inr (.inl rfl) | exact .inr (.inr rfl))) (da_cons (de_sub hk (de_var rfl (by first | exact .inl rfl | exact .inr (.inl rfl) | exact .inr (.inr rfl))) de_int) da_nil)) (de_index (de_var rfl (by first | exact .inl rfl | exact .inr (.inl rfl) | exact .inr (.inr rfl))) (da_cons (de_sub hk (de_var rfl (by first | exact .inl rfl | exact .inr (.inl rfl) | exact .inr (.inr rfl))) de_int) da_nil)) rfl))) (fun s H C cc fp hk => (de_var rfl (by first | exact .inl rfl | exact .inr (.inl rfl) | exact .inr (.inr rfl)))))) (de_lst da_nil) rfl))))))
theorem fg__law_sorted_pairs (hb : SmB base) (L : Lw K mg) : FnG prog w K mg base (He.ga K) 1 (He.ga K "_law_sorted_pairs") L.fd__law_sorted_pairs ["_law_row", "_law_worse", "_law_better"] sem__law_sorted_pairs :=
  fn_G L.F__law_sorted_pairs sc__law_sorted_pairs fun cdv A outer s H E hk =>
    (dss_cons (ds_setLc (own := [("_law_item", 6)]) hk rfl (by rfl) (L2.sw_true rfl rfl rfl (by decide +kernel)) (di_seq (de_var rfl (by first | exact .inl rfl | exact .inr (.inl rfl) | exact .inr (.inr rfl)))) (show BlkOk ["_law_row", "_law_worse", "_law_better", "_law_rest", "_law_result", "_law_at", "_law_item", "_law_own"] (defScope st__law_sorted_pairs) _ [("_law_item", 6)] from ⟨rfl, by decide +kernel, by decide +kernel, by decide +kernel, by decide +kernel⟩) (Blk.of hk (fun s H C cc fp hk => (dg_name hk.nd rfl (by first | exact .inl rfl | exact .inr rfl))) (fun s H C cc fp hk => (dts_one (dt_cmp od_in (de_var rfl (by first | exact .inl rfl | exact .inr (.inl rfl) | exact .inr (.inr rfl))) (de_var rfl (by first | exact .inl rfl | exact .inr (.inl rfl) | exact .inr (.inr rfl))) rfl))) (fun s H C cc fp hk => (de_var rfl (by first | exact .inl rfl | exact .inr (.inl rfl) | exact .inr (.inr rfl)))))) (dss_cons (ds_set hk.nd rfl (by first | exact .inl rfl | exact .inr rfl) (de_lstC da_nil)) (dss_cons (ds_for hk (di_enum (de_lc (own := [("_law_own", 7)]) hk (di_seq (de_var rfl (by first | exact .inl rfl | exact .inr (.inl rfl) | exact .inr (.inr rfl)))) (show BlkOk ["_law_row", "_law_worse", "_law_better", "_law_rest", "_law_result", "_law_at", "_law_item", "_law_own"] (defScope st__law_sorted_pairs) _ [("_law_own", 7)] from ⟨rfl, by decide +kernel, by decide +kernel, by decide +kernel, by decide +kernel⟩) (Blk.of hk (fun s H C cc fp hk => (dg_name hk.nd rfl (by first | exact .inl rfl | exact .inr rfl))) (fun s H C cc fp hk => (dts_one (dt_cmp od_in (de_var rfl (by first | exact .inl rfl | exact .inr (.inl rfl) | exact .inr (.inr rfl))) (de_var rfl (by first | exact .inl rfl | exact .inr (.inl rfl) | exact .inr (.inr rfl))) rfl))) (fun s H C cc fp hk => (de_var rfl (by first | exact .inl rfl | exact .inr (.inl rfl) | exact .inr (.inr rfl)))))) L.b_enumerate) (dg_tup hk.calm (dgs_cons (dg_name hk.nd rfl (by first | exact .inl rfl | exact .inr rfl)) (dgs_cons (dg_name hk.nd rfl (by first | exact .inl rfl | exact .inr rfl)) dgs_nil))) (dss_one (ds_expr (de_cm PySem.F.plainAttrs_list PySem.F.slot_list_append PySem.F.type_list_append mc_append (de_var rfl (by first | exact .inl rfl | exact .inr (.inl rfl) | exact .inr (.inr rfl))) (da_cons (de_tup (da_cons (de_var rfl (by first | exact .inl rfl | exact .inr (.inl rfl) | exact .inr (.inr rfl))) (da_cons (de_sub hk (de_var rfl (by first | exact .inl rfl | exact .inr (.inl rfl) | exact .inr (.inr rfl))) (de_var rfl (by first | exact .inl rfl | exact .inr (.inl rfl) | exact .inr (.inr rfl)))) da_nil))) da_nil))))) (dss_one (ds_ret (de_var rfl (by first | exact .inl rfl | exact .inr (.inl rfl) | exact .inr (.inr rfl))))))))
theorem fg_are_items (hb : SmB base) (L : Lw K mg) : FnG prog w K mg base (He.ga K) 2 (He.ga K "are_items") L.fd_are_items ["value"] sem_are_items :=
  fn_G L.F_are_items sc_are_items fun cdv A outer s H E hk =>
    (dss_one (ds_ret (de_and (de_callB cd_isi L.b_isinstance (da_cons (de_var rfl (by first | exact .inl rfl | exact .inr (.inl rfl) | exact .inr (.inr rfl))) (da_cons (de_tyname L.b_tuple) da_nil))) (de_and (de_callB (cd_all hk.calm) L.b_all (da_cons (de_lc (own := [("item", 1)]) hk (di_seq (de_var rfl (by first | exact .inl rfl | exact .inr (.inl rfl) | exact .inr (.inr rfl)))) (show BlkOk ["value", "item"] (defScope st_are_items) _ [("item", 1)] from ⟨rfl, by decide +kernel, by decide +kernel, by decide +kernel, by decide +kernel⟩) (Blk.of hk (fun s H C cc fp hk => (dg_name hk.nd rfl (by first | exact .inl rfl | exact .inr rfl))) (fun s H C cc fp hk => dts_nil) (fun s H C cc fp hk => (de_call ((fg_is_item hb L).mono (by decide)) (run_len _ _) rfl hk L.g_is_item L.F_is_item.kp (b_is_item L.F_is_item) (da_cons (de_var rfl (by first | exact .inl rfl | exact .inr (.inl rfl) | exact .inr (.inr rfl))) da_nil))))) da_nil)) (de_one (de_cmp (od_eq hk.u64) (de_lenSet hk.calm L.b_len L.b_set (de_var rfl (by first | exact .inl rfl | exact .inr (.inl rfl) | exact .inr (.inr rfl)))) (de_callB cd_len L.b_len (da_cons (de_var rfl (by first | exact .inl rfl | exact .inr (.inl rfl) | exact .inr (.inr rfl))) da_nil)) rfl))))))
theorem fg_is_matching_of (hb : SmB base) (L : Lw K mg) : FnG prog w K mg base (He.ga K) 2 (He.ga K "is_matching_of") L.fd_is_matching_of ["ranking", "worse", "better", "pairs"] sem_is_matching_of :=
  fn_G L.F_is_matching_of sc_is_matching_of fun cdv A outer s H E hk =>
    (dss_cons (ds_if (dt_not (dt_val (de_callB cd_isi L.b_isinstance (da_cons (de_var rfl (by first | exact .inl rfl | exact .inr (.inl rfl) | exact .inr (.inr rfl))) (da_cons (de_tyname L.b_list) da_nil))))) (dss_one (ds_ret de_bl)) dss_nil) (dss_cons (ds_for hk (di_seq (de_var rfl (by first | exact .inl rfl | exact .inr (.inl rfl) | exact .inr (.inr rfl)))) (dg_name hk.nd rfl (by first | exact .inl rfl | exact .inr rfl)) (dss_one (ds_if (DW.dt (dw_or (dt_not (dt_val (de_callB cd_isi L.b_isinstance (da_cons (de_var rfl (by first | exact .inl rfl | exact .inr (.inl rfl) | exact .inr (.inr rfl))) (da_cons (de_tyname L.b_tuple) da_nil))))) (dw_or (dt_cmp (od_ne hk.u64) (de_callB cd_len L.b_len (da_cons (de_var rfl (by first | exact .inl rfl | exact .inr (.inl rfl) | exact .inr (.inr rfl))) da_nil)) de_int rfl) (dw_or1 (dt_not (dt_val (de_callB (cd_all hk.calm) L.b_all (da_cons (de_lc (own := [("item", 5)]) hk (di_seq (de_var rfl (by first | exact .inl rfl | exact .inr (.inl rfl) | exact .inr (.inr rfl)))) (show BlkOk ["ranking", "worse", "better", "pairs", "pair", "item"] (defScope st_is_matching_of) _ [("item", 5)] from ⟨rfl, by decide +kernel, by decide +kernel, by decide +kernel, by decide +kernel⟩) (Blk.of hk (fun s H C cc fp hk => (dg_name hk.nd rfl (by first | exact .inl rfl | exact .inr rfl))) (fun s H C cc fp hk => dts_nil) (fun s H C cc fp hk => (de_callB cd_isi L.b_isinstance (da_cons (de_var rfl (by first | exact .inl rfl | exact .inr (.inl rfl) | exact .inr (.inr rfl))) (da_cons (de_tyname L.b_str) da_nil)))))) da_nil)))))))) (dss_one (ds_ret de_bl)) dss_nil))) (dss_cons (ds_if (DW.dt (dw_or (dt_cmp (od_ne hk.u64) (de_callB (cd_sorted hk.calm) L.b_sorted (da_cons (de_lc (own := [("pair", 4)]) hk (di_seq (de_var rfl (by first | exact .inl rfl | exact .inr (.inl rfl) | exact .inr (.inr rfl)))) (show BlkOk ["ranking", "worse", "better", "pairs", "pair", "item"] (defScope st_is_matching_of) _ [("pair", 4)] from ⟨rfl, by decide +kernel, by decide +kernel, by decide +kernel, by decide +kernel⟩) (Blk.of hk (fun s H C cc fp hk => (dg_name hk.nd rfl (by first | exact .inl rfl | exact .inr rfl))) (fun s H C cc fp hk => dts_nil) (fun s H C cc fp hk => (de_sub hk (de_var rfl (by first | exact .inl rfl | exact .inr (.inl rfl) | exact .inr (.inr rfl))) de_int)))) da_nil)) (de_callT (cd_listA hk.calm) L.b_list (da_cons (de_var rfl (by first | exact .inl rfl | exact .inr (.inl rfl) | exact .inr (.inr rfl))) da_nil)) rfl) (dw_or1 (dt_cmp (od_ne hk.u64) (de_callB (cd_sorted hk.calm) L.b_sorted (da_cons (de_lc (own := [("pair", 4)]) hk (di_seq (de_var rfl (by first | exact .inl rfl | exact .inr (.inl rfl) | exact .inr (.inr rfl)))) (show BlkOk ["ranking", "worse", "better", "pairs", "pair", "item"] (defScope st_is_matching_of) _ [("pair", 4)] from ⟨rfl, by decide +kernel, by decide +kernel, by decide +kernel, by decide +kernel⟩) (Blk.of hk (fun s H C cc fp hk => (dg_name hk.nd rfl (by first | exact .inl rfl | exact .inr rfl))) (fun s H C cc fp hk => dts_nil) (fun s H C cc fp hk => (de_sub hk (de_var rfl (by first | exact .inl rfl | exact .inr (.inl rfl) | exact .inr (.inr rfl))) de_int)))) da_nil)) (de_callT (cd_listA hk.calm) L.b_list (da_cons (de_var rfl (by first | exact .inl rfl | exact .inr (.inl rfl) | exact .inr (.inr rfl))) da_nil)) rfl)))) (dss_one (ds_ret de_bl)) dss_nil) (dss_one (ds_ret (de_call ((fg_fits hb L).mono (by decide)) (run_len _ _) rfl hk L.g_fits L.F_fits.kp (b_fits L.F_fits) (da_cons (de_var rfl (by first | exact .inl rfl | exact .inr (.inl rfl) | exact .inr (.inr rfl))) (da_cons (de_var rfl (by first | exact .inl rfl | exact .inr (.inl rfl) | exact .inr (.inr rfl))) da_nil))))))))
theorem fg__law_names (hb : SmB base) (L : Lw K mg) : FnG prog w K mg base (He.ga K) 2 (He.ga K "_law_names") L.fd__law_names ["_law_pool_here", "_law_count"] sem__law_names :=
  fn_G L.F__law_names sc__law_names fun cdv A outer s H E hk =>
    (dss_cons (ds_set hk.nd rfl (by first | exact .inl rfl | exact .inr rfl) de_str) (dss_cons (ds_set hk.nd rfl (by first | exact .inl rfl | exact .inr rfl) (de_call ((fg__law_take hb L).mono (by decide)) (run_len _ _) rfl hk L.g__law_take L.F__law_take.kp (b__law_take L.F__law_take) (da_cons (de_var rfl (by first | exact .inl rfl | exact .inr (.inl rfl) | exact .inr (.inr rfl))) (da_cons de_int da_nil)))) (dss_cons (ds_set hk.nd rfl (by first | exact .inl rfl | exact .inr rfl) (de_lstC da_nil)) (dss_cons (ds_for hk (di_rng1 (da_cons (de_var rfl (by first | exact .inl rfl | exact .inr (.inl rfl) | exact .inr (.inr rfl))) da_nil) L.b_range) (dg_name hk.nd rfl (by first | exact .inl rfl | exact .inr rfl)) (dss_cons (ds_set hk.nd rfl (by first | exact .inl rfl | exact .inr rfl) (de_op od_mul (de_sub hk (de_var rfl (by first | exact .inl rfl | exact .inr (.inl rfl) | exact .inr (.inr rfl))) (de_op od_modI (de_var rfl (by first | exact .inl rfl | exact .inr (.inl rfl) | exact .inr (.inr rfl))) de_int)) (de_op od_add de_int (de_op od_divI (de_var rfl (by first | exact .inl rfl | exact .inr (.inl rfl) | exact .inr (.inr rfl))) de_int)))) (dss_one (ds_expr (de_cm PySem.F.plainAttrs_list PySem.F.slot_list_append PySem.F.type_list_append mc_append (de_var rfl (by first | exact .inl rfl | exact .inr (.inl rfl) | exact .inr (.inr rfl))) (da_cons (de_sub hk (de_lst (da_cons (de_var rfl (by first | exact .inl rfl | exact .inr (.inl rfl) | exact .inr (.inr rfl))) (da_cons (de_op od_add de_str (de_var rfl (by first | exact .inl rfl | exact .inr (.inl rfl) | exact .inr (.inr rfl)))) (da_cons (de_op od_add (de_op od_mul (de_sub hk (de_var rfl (by first | exact .inl rfl | exact .inr (.inl rfl) | exact .inr (.inr rfl))) (de_op od_modI (de_var rfl (by first | exact .inl rfl | exact .inr (.inl rfl) | exact .inr (.inr rfl))) de_int)) de_int) (de_var rfl (by first | exact .inl rfl | exact .inr (.inl rfl) | exact .inr (.inr rfl)))) da_nil)))) (de_var rfl (by first | exact .inl rfl | exact .inr (.inl rfl) | exact .inr (.inr rfl)))) da_nil)))))) (dss_one (ds_ret (de_var rfl (by first | exact .inl rfl | exact .inr (.inl rfl) | exact .inr (.inr rfl)))))))))
theorem fg__law_shuffled (hb : SmB base) (L : Lw K mg) : FnG prog w K mg base (He.ga K) 2 (He.ga K "_law_shuffled") L.fd__law_shuffled ["_law_pool_here", "_law_some"] sem__law_shuffled :=
  fn_G L.F__law_shuffled sc__law_shuffled fun cdv A outer s H E hk =>
    (dss_cons (ds_set hk.nd rfl (by first | exact .inl rfl | exact .inr rfl) (de_callTC (cdc_listA hk.calm) L.b_list (da_cons (de_var rfl (by first | exact .inl rfl | exact .inr (.inl rfl) | exact .inr (.inr rfl))) da_nil))) (dss_cons (ds_set hk.nd rfl (by first | exact .inl rfl | exact .inr rfl) (de_lstC da_nil)) (dss_cons (ds_while 100000 hk (dt_cmp (od_ne hk.u64) (de_var rfl (by first | exact .inl rfl | exact .inr (.inl rfl) | exact .inr (.inr rfl))) (de_lst da_nil) rfl) (dss_one (ds_expr (de_cm PySem.F.plainAttrs_list PySem.F.slot_list_append PySem.F.type_list_append mc_append (de_var rfl (by first | exact .inl rfl | exact .inr (.inl rfl) | exact .inr (.inr rfl))) (da_cons (de_cm PySem.F.plainAttrs_list PySem.F.slot_list_pop PySem.F.type_list_pop mc_popAt (de_var rfl (by first | exact .inl rfl | exact .inr (.inl rfl) | exact .inr (.inr rfl))) (da_cons (de_call ((fg__law_take hb L).mono (by decide)) (run_len _ _) rfl hk L.g__law_take L.F__law_take.kp (b__law_take L.F__law_take) (da_cons (de_var rfl (by first | exact .inl rfl | exact .inr (.inl rfl) | exact .inr (.inr rfl))) (da_cons (de_callB cd_len L.b_len (da_cons (de_var rfl (by first | exact .inl rfl | exact .inr (.inl rfl) | exact .inr (.inr rfl))) da_nil)) da_nil))) da_nil)) da_nil))))) (dss_one (ds_ret (de_var rfl (by first | exact .inl rfl | exact .inr (.inl rfl) | exact .inr (.inr rfl))))))))
theorem fg__law_bent (hb : SmB base) (L : Lw K mg) : FnG prog w K mg base (He.ga K) 2 (He.ga K "_law_bent") L.fd__law_bent ["_law_pool_here", "_law_pairs", "_law_row"] sem__law_bent :=
  fn_G L.F__law_bent sc__law_bent fun cdv A outer s H E hk =>
    (dss_cons (ds_set hk.nd rfl (by first | exact .inl rfl | exact .inr rfl) (de_callTC (cdc_listA hk.calm) L.b_list (da_cons (de_var rfl (by first | exact .inl rfl | exact .inr (.inl rfl) | exact .inr (.inr rfl))) da_nil))) (dss_cons (ds_set hk.nd rfl (by first | exact .inl rfl | exact .inr rfl) (de_call ((fg__law_take hb L).mono (by decide)) (run_len _ _) rfl hk L.g__law_take L.F__law_take.kp (b__law_take L.F__law_take) (da_cons (de_var rfl (by first | exact .inl rfl | exact .inr (.inl rfl) | exact .inr (.inr rfl))) (da_cons (de_callB (cd_max2 hk.calm) L.b_max (da_cons de_int (da_cons (de_callB cd_len L.b_len (da_cons (de_var rfl (by first | exact .inl rfl | exact .inr (.inl rfl) | exact .inr (.inr rfl))) da_nil)) da_nil))) da_nil)))) (dss_cons (ds_set hk.nd rfl (by first | exact .inl rfl | exact .inr rfl) (de_call ((fg__law_take hb L).mono (by decide)) (run_len _ _) rfl hk L.g__law_take L.F__law_take.kp (b__law_take L.F__law_take) (da_cons (de_var rfl (by first | exact .inl rfl | exact .inr (.inl rfl) | exact .inr (.inr rfl))) (da_cons de_int da_nil)))) (dss_cons (ds_for hk (di_seq (de_slice sld (de_var rfl (by first | exact .inl rfl | exact .inr (.inl rfl) | exact .inr (.inr rfl))) (do_some (de_var rfl (by first | exact .inl rfl | exact .inr (.inl rfl) | exact .inr (.inr rfl)))) (do_some (de_op od_add (de_var rfl (by first | exact .inl rfl | exact .inr (.inl rfl) | exact .inr (.inr rfl))) de_int)))) (dg_tup hk.calm (dgs_cons (dg_name hk.nd rfl (by first | exact .inl rfl | exact .inr rfl)) (dgs_cons (dg_name hk.nd rfl (by first | exact .inl rfl | exact .inr rfl)) dgs_nil))) (dss_cons (ds_set hk.nd rfl (by first | exact .inl rfl | exact .inr rfl) (de_lst (da_cons (de_tup (da_cons (de_var rfl (by first | exact .inl rfl | exact .inr (.inl rfl) | exact .inr (.inr rfl))) (da_cons (de_var rfl (by first | exact .inl rfl | exact .inr (.inl rfl) | exact .inr (.inr rfl))) da_nil))) (da_cons (de_lst (da_cons (de_var rfl (by first | exact .inl rfl | exact .inr (.inl rfl) | exact .inr (.inr rfl))) (da_cons (de_var rfl (by first | exact .inl rfl | exact .inr (.inl rfl) | exact .inr (.inr rfl))) da_nil))) (da_cons (de_tup (da_cons (de_var rfl (by first | exact .inl rfl | exact .inr (.inl rfl) | exact .inr (.inr rfl))) da_nil)) (da_cons (de_tup (da_cons (de_var rfl (by first | exact .inl rfl | exact .inr (.inl rfl) | exact .inr (.inr rfl))) (da_cons (de_var rfl (by first | exact .inl rfl | exact .inr (.inl rfl) | exact .inr (.inr rfl))) (da_cons (de_var rfl (by first | exact .inl rfl | exact .inr (.inl rfl) | exact .inr (.inr rfl))) da_nil)))) (da_cons (de_tup (da_cons (de_var rfl (by first | exact .inl rfl | exact .inr (.inl rfl) | exact .inr (.inr rfl))) (da_cons de_non da_nil))) (da_cons (de_tup (da_cons (de_var rfl (by first | exact .inl rfl | exact .inr (.inl rfl) | exact .inr (.inr rfl))) (da_cons (de_sub hk (de_var rfl (by first | exact .inl rfl | exact .inr (.inl rfl) | exact .inr (.inr rfl))) de_int) da_nil))) da_nil)))))))) (dss_cons (ds_set hk.nd rfl (by first | exact .inl rfl | exact .inr rfl) (de_op od_add (de_var rfl (by first | exact .inl rfl | exact .inr (.inl rfl) | exact .inr (.inr rfl))) (de_lst (da_cons (de_tup (da_cons (de_sub hk (de_var rfl (by first | exact .inl rfl | exact .inr (.inl rfl) | exact .inr (.inr rfl))) (de_neg de_int)) (da_cons (de_var rfl (by first | exact .inl rfl | exact .inr (.inl rfl) | exact .inr (.inr rfl))) da_nil))) (da_cons de_non (da_cons (de_var rfl (by first | exact .inl rfl | exact .inr (.inl rfl) | exact .inr (.inr rfl))) (da_cons (de_tup (da_cons (de_lst (da_cons (de_var rfl (by first | exact .inl rfl | exact .inr (.inl rfl) | exact .inr (.inr rfl))) da_nil)) (da_cons (de_var rfl (by first | exact .inl rfl | exact .inr (.inl rfl) | exact .inr (.inr rfl))) da_nil))) (da_cons (de_tup (da_cons (de_var rfl (by first | exact .inl rfl | exact .inr (.inl rfl) | exact .inr (.inr rfl))) (da_cons de_dnew da_nil))) da_nil)))))))) (dss_one (ds_asg (de_sub hk (de_var rfl (by first | exact .inl rfl | exact .inr (.inl rfl) | exact .inr (.inr rfl))) (de_var rfl (by first | exact .inl rfl | exact .inr (.inl rfl) | exact .inr (.inr rfl)))) (dh_sub std_list (de_var rfl (by first | exact .inl rfl | exact .inr (.inl rfl) | exact .inr (.inr rfl))) (de_var rfl (by first | exact .inl rfl | exact .inr (.inl rfl) | exact .inr (.inr rfl))))))))) (dss_cons (ds_if (DW.dt (dw_or (dt_cmp (od_eqZ hk.u64) (de_var rfl (by first | exact .inl rfl | exact .inr (.inl rfl) | exact .inr (.inr rfl))) (de_lst da_nil) rfl) (dw_or1 (dt_cmp (od_eqZ hk.u64) (de_call ((fg__law_take hb L).mono (by decide)) (run_len _ _) rfl hk L.g__law_take L.F__law_take.kp (b__law_take L.F__law_take) (da_cons (de_var rfl (by first | exact .inl rfl | exact .inr (.inl rfl) | exact .inr (.inr rfl))) (da_cons de_int da_nil))) de_int rfl)))) (dss_one (ds_ret (de_sub hk (de_lst (da_cons (de_op od_add (de_var rfl (by first | exact .inl rfl | exact .inr (.inl rfl) | exact .inr (.inr rfl))) (de_lst (da_cons (de_tup (da_cons de_str (da_cons de_str da_nil))) da_nil))) (da_cons (de_slice sld (de_var rfl (by first | exact .inl rfl | exact .inr (.inl rfl) | exact .inr (.inr rfl))) (do_some de_int) do_none) (da_cons (de_callT cd_tuple L.b_tuple (da_cons (de_var rfl (by first | exact .inl rfl | exact .inr (.inl rfl) | exact .inr (.inr rfl))) da_nil)) (da_cons de_non (da_cons de_dnew (da_cons de_str (da_cons (de_op od_add (de_var rfl (by first | exact .inl rfl | exact .inr (.inl rfl) | exact .inr (.inr rfl))) (de_var rfl (by first | exact .inl rfl | exact .inr (.inl rfl) | exact .inr (.inr rfl)))) (da_cons de_int da_nil))))))))) (de_call ((fg__law_take hb L).mono (by decide)) (run_len _ _) rfl hk L.g__law_take L.F__law_take.kp (b__law_take L.F__law_take) (da_cons (de_var rfl (by first | exact .inl rfl | exact .inr (.inl rfl) | exact .inr (.inr rfl))) (da_cons de_int da_nil)))))) dss_nil) (dss_one (ds_ret (de_var rfl (by first | exact .inl rfl | exact .inr (.inl rfl) | exact .inr (.inr rfl))))))))))
theorem fg_is_ranking (hb : SmB base) (L : Lw K mg) : FnG prog w K mg base (He.ga K) 3 (He.ga K "is_ranking") L.fd_is_ranking ["value"] sem_is_ranking :=
  fn_G L.F_is_ranking sc_is_ranking fun cdv A outer s H E hk =>
    (dss_one (ds_ret (de_and (de_call ((fg_are_items hb L).mono (by decide)) (run_len _ _) rfl hk L.g_are_items L.F_are_items.kp (b_are_items L.F_are_items) (da_cons (de_var rfl (by first | exact .inl rfl | exact .inr (.inl rfl) | exact .inr (.inr rfl))) da_nil)) (de_one (de_cmp od_leI (de_callB cd_len L.b_len (da_cons (de_var rfl (by first | exact .inl rfl | exact .inr (.inl rfl) | exact .inr (.inr rfl))) da_nil)) (de_glob (v := .int 40) rfl L.g_MAX_ITEMS ⟨_, rfl⟩ (fun _ _ _ => .int)) rfl)))))
theorem fg_is_set_of (hb : SmB base) (L : Lw K mg) : FnG prog w K mg base (He.ga K) 3 (He.ga K "is_set_of") L.fd_is_set_of ["value", "items"] sem_is_set_of :=
  fn_G L.F_is_set_of sc_is_set_of fun cdv A outer s H E hk =>
    (dss_one (ds_ret (de_and (de_call ((fg_are_items hb L).mono (by decide)) (run_len _ _) rfl hk L.g_are_items L.F_are_items.kp (b_are_items L.F_are_items) (da_cons (de_var rfl (by first | exact .inl rfl | exact .inr (.inl rfl) | exact .inr (.inr rfl))) da_nil)) (de_and (de_cmp (od_eq hk.u64) (de_var rfl (by first | exact .inl rfl | exact .inr (.inl rfl) | exact .inr (.inr rfl))) (de_call ((fg_as_set hb L).mono (by decide)) (run_len _ _) rfl hk L.g_as_set L.F_as_set.kp (b_as_set L.F_as_set) (da_cons (de_var rfl (by first | exact .inl rfl | exact .inr (.inl rfl) | exact .inr (.inr rfl))) da_nil)) rfl) (de_one (de_callB (cd_all hk.calm) L.b_all (da_cons (de_lc (own := [("item", 2)]) hk (di_seq (de_var rfl (by first | exact .inl rfl | exact .inr (.inl rfl) | exact .inr (.inr rfl)))) (show BlkOk ["value", "items", "item"] (defScope st_is_set_of) _ [("item", 2)] from ⟨rfl, by decide +kernel, by decide +kernel, by decide +kernel, by decide +kernel⟩) (Blk.of hk (fun s H C cc fp hk => (dg_name hk.nd rfl (by first | exact .inl rfl | exact .inr rfl))) (fun s H C cc fp hk => dts_nil) (fun s H C cc fp hk => (de_cmp od_in (de_var rfl (by first | exact .inl rfl | exact .inr (.inl rfl) | exact .inr (.inr rfl))) (de_var rfl (by first | exact .inl rfl | exact .inr (.inl rfl) | exact .inr (.inr rfl))) rfl)))) da_nil)))))))
theorem fg_check_ranking (hb : SmB base) (L : Lw K mg) : FnG prog w K mg base (He.ga K) 4 (He.ga K "check_ranking") L.fd_check_ranking ["value"] sem_check_ranking :=
  fn_G L.F_check_ranking sc_check_ranking fun cdv A outer s H E hk =>
    (dss_one (ds_if (dt_not (dt_val (de_call ((fg_is_ranking hb L).mono (by decide)) (run_len _ _) rfl hk L.g_is_ranking L.F_is_ranking.kp (b_is_ranking L.F_is_ranking) (da_cons (de_var rfl (by first | exact .inl rfl | exact .inr (.inl rfl) | exact .inr (.inr rfl))) da_nil)))) (dss_one ds_never) dss_nil))
theorem fg_check_sets (hb : SmB base) (L : Lw K mg) : FnS prog w K mg base (He.ga K) 5 (He.ga K "check_sets") sem_check_sets :=
  fn_GS (ps := ["ranking"]) L.F_check_sets sc_check_sets (fun _ _ _ _ _ _ us rest hl => match us, rest, hl with | [_], [], _ => rfl | [_], _ :: _, _ => rfl) fun cdv A outer s H E hk =>
    (dss_cons (ds_expr (de_call ((fg_check_ranking hb L).mono (by decide)) (run_len _ _) rfl hk L.g_check_ranking L.F_check_ranking.kp (b_check_ranking L.F_check_ranking) (da_cons (de_var rfl (by first | exact .inl rfl | exact .inr (.inl rfl) | exact .inr (.inr rfl))) da_nil))) (dss_one (ds_for hk (di_seq (de_var rfl (by first | exact .inl rfl | exact .inr (.inl rfl) | exact .inr (.inr rfl)))) (dg_name hk.nd rfl (by first | exact .inl rfl | exact .inr rfl)) (dss_one (ds_if (DW.dt (dw_or (dt_not (dt_val (de_call ((fg_is_set_of hb L).mono (by decide)) (run_len _ _) rfl hk L.g_is_set_of L.F_is_set_of.kp (b_is_set_of L.F_is_set_of) (da_cons (de_var rfl (by first | exact .inl rfl | exact .inr (.inl rfl) | exact .inr (.inr rfl))) (da_cons (de_var rfl (by first | exact .inl rfl | exact .inr (.inl rfl) | exact .inr (.inr rfl))) da_nil))))) (dw_or1 (dt_cmp (od_ne hk.u64) (de_callB cd_len L.b_len (da_cons (de_var rfl (by first | exact .inl rfl | exact .inr (.inl rfl) | exact .inr (.inr rfl))) da_nil)) (de_callB cd_len L.b_len (da_cons (de_sub hk (de_var rfl (by first | exact .inl rfl | exact .inr (.inl rfl) | exact .inr (.inr rfl))) de_int) da_nil)) rfl)))) (dss_one ds_never) dss_nil)))))
theorem fg_is_matching (hb : SmB base) (L : Lw K mg) : FnG prog w K mg base (He.ga K) 6 (He.ga K "is_matching") L.fd_is_matching ["ranking", "worse", "better", "pairs"] sem_is_matching :=
  fn_G L.F_is_matching sc_is_matching fun cdv A outer s H E hk =>
    (dss_cons (ds_expr (de_callV ((fg_check_sets hb L).mono (by decide)) (runS_len _ _ _) hk L.g_check_sets L.F_check_sets.kp (da_cons (de_var rfl (by first | exact .inl rfl | exact .inr (.inl rfl) | exact .inr (.inr rfl))) (da_cons (de_var rfl (by first | exact .inl rfl | exact .inr (.inl rfl) | exact .inr (.inr rfl))) (da_cons (de_var rfl (by first | exact .inl rfl | exact .inr (.inl rfl) | exact .inr (.inr rfl))) da_nil))))) (dss_one (ds_ret (de_call ((fg_is_matching_of hb L).mono (by decide)) (run_len _ _) rfl hk L.g_is_matching_of L.F_is_matching_of.kp (b_is_matching_of L.F_is_matching_of) (da_cons (de_var rfl (by first | exact .inl rfl | exact .inr (.inl rfl) | exact .inr (.inr rfl))) (da_cons (de_var rfl (by first | exact .inl rfl | exact .inr (.inl rfl) | exact .inr (.inr rfl))) (da_cons (de_var rfl (by first | exact .inl rfl | exact .inr (.inl rfl) | exact .inr (.inr rfl))) (da_cons (de_var rfl (by first | exact .inl rfl | exact .inr (.inl rfl) | exact .inr (.inr rfl))) da_nil))))))))
theorem fg_law (hb : SmB base) (L : Lw K mg) : FnG prog w K mg base (He.ga K) 7 (He.ga K "law") L.fd_law ["_law_script"] sem_law :=
  fn_G L.F_law sc_law fun cdv A outer s H E hk =>
    (dss_cons (ds_for hk (di_rng1 (da_cons (de_callB (cd_max2 hk.calm) L.b_max (da_cons de_int (da_cons (de_callB (cd_min2 hk.calm) L.b_min (da_cons (de_callB cd_len L.b_len (da_cons (de_var rfl (by first | exact .inl rfl | exact .inr (.inl rfl) | exact .inr (.inr rfl))) da_nil)) (da_cons de_int da_nil))) da_nil))) da_nil) L.b_range) (dg_name hk.nd rfl (by first | exact .inl rfl | exact .inr rfl)) (dss_cons (ds_set hk.nd rfl (by first | exact .inl rfl | exact .inr rfl) (de_callC ((fg__law_pool hb L).mono (by decide)) (runC_len _ _) rfl hk L.g__law_pool L.F__law_pool.kp (b__law_pool L.F__law_pool) (da_cons (de_var rfl (by first | exact .inl rfl | exact .inr (.inl rfl) | exact .inr (.inr rfl))) (da_cons (de_var rfl (by first | exact .inl rfl | exact .inr (.inl rfl) | exact .inr (.inr rfl))) da_nil)))) (dss_cons (ds_set hk.nd rfl (by first | exact .inl rfl | exact .inr rfl) (de_callT cd_tuple L.b_tuple (da_cons (de_call ((fg__law_shuffled hb L).mono (by decide)) (run_len _ _) rfl hk L.g__law_shuffled L.F__law_shuffled.kp (b__law_shuffled L.F__law_shuffled) (da_cons (de_var rfl (by first | exact .inl rfl | exact .inr (.inl rfl) | exact .inr (.inr rfl))) (da_cons (de_call ((fg__law_names hb L).mono (by decide)) (run_len _ _) rfl hk L.g__law_names L.F__law_names.kp (b__law_names L.F__law_names) (da_cons (de_var rfl (by first | exact .inl rfl | exact .inr (.inl rfl) | exact .inr (.inr rfl))) (da_cons (de_op od_add de_int (de_call ((fg__law_take hb L).mono (by decide)) (run_len _ _) rfl hk L.g__law_take L.F__law_take.kp (b__law_take L.F__law_take) (da_cons (de_var rfl (by first | exact .inl rfl | exact .inr (.inl rfl) | exact .inr (.inr rfl))) (da_cons de_int da_nil)))) da_nil))) da_nil))) da_nil))) (dss_cons (ds_set hk.nd rfl (by first | exact .inl rfl | exact .inr rfl) (de_call ((fg__law_take hb L).mono (by decide)) (run_len _ _) rfl hk L.g__law_take L.F__law_take.kp (b__law_take L.F__law_take) (da_cons (de_var rfl (by first | exact .inl rfl | exact .inr (.inl rfl) | exact .inr (.inr rfl))) (da_cons (de_op od_add (de_callB cd_len L.b_len (da_cons (de_var rfl (by first | exact .inl rfl | exact .inr (.inl rfl) | exact .inr (.inr rfl))) da_nil)) de_int) da_nil)))) (dss_cons (ds_set hk.nd rfl (by first | exact .inl rfl | exact .inr rfl) (de_callT cd_tuple L.b_tuple (da_cons (de_callB (cd_sorted hk.calm) L.b_sorted (da_cons (de_slice sld (de_call ((fg__law_shuffled hb L).mono (by decide)) (run_len _ _) rfl hk L.g__law_shuffled L.F__law_shuffled.kp (b__law_shuffled L.F__law_shuffled) (da_cons (de_var rfl (by first | exact .inl rfl | exact .inr (.inl rfl) | exact .inr (.inr rfl))) (da_cons (de_var rfl (by first | exact .inl rfl | exact .inr (.inl rfl) | exact .inr (.inr rfl))) da_nil))) do_none (do_some (de_var rfl (by first | exact .inl rfl | exact .inr (.inl rfl) | exact .inr (.inr rfl))))) da_nil)) da_nil))) (dss_cons (ds_set hk.nd rfl (by first | exact .inl rfl | exact .inr rfl) (de_callT cd_tuple L.b_tuple (da_cons (de_callB (cd_sorted hk.calm) L.b_sorted (da_cons (de_slice sld (de_call ((fg__law_shuffled hb L).mono (by decide)) (run_len _ _) rfl hk L.g__law_shuffled L.F__law_shuffled.kp (b__law_shuffled L.F__law_shuffled) (da_cons (de_var rfl (by first | exact .inl rfl | exact .inr (.inl rfl) | exact .inr (.inr rfl))) (da_cons (de_var rfl (by first | exact .inl rfl | exact .inr (.inl rfl) | exact .inr (.inr rfl))) da_nil))) do_none (do_some (de_var rfl (by first | exact .inl rfl | exact .inr (.inl rfl) | exact .inr (.inr rfl))))) da_nil)) da_nil))) (dss_cons (ds_set hk.nd rfl (by first | exact .inl rfl | exact .inr rfl) (de_call ((fg__law_shuffled hb L).mono (by decide)) (run_len _ _) rfl hk L.g__law_shuffled L.F__law_shuffled.kp (b__law_shuffled L.F__law_shuffled) (da_cons (de_var rfl (by first | exact .inl rfl | exact .inr (.inl rfl) | exact .inr (.inr rfl))) (da_cons (de_callT (cd_listA hk.calm) L.b_list (da_cons (de_var rfl (by first | exact .inl rfl | exact .inr (.inl rfl) | exact .inr (.inr rfl))) da_nil)) da_nil)))) (dss_cons (ds_set hk.nd rfl (by first | exact .inl rfl | exact .inr rfl) (de_lstC (da_cons (de_call ((fg__law_sorted_pairs hb L).mono (by decide)) (run_len _ _) rfl hk L.g__law_sorted_pairs L.F__law_sorted_pairs.kp (b__law_sorted_pairs L.F__law_sorted_pairs) (da_cons (de_var rfl (by first | exact .inl rfl | exact .inr (.inl rfl) | exact .inr (.inr rfl))) (da_cons (de_var rfl (by first | exact .inl rfl | exact .inr (.inl rfl) | exact .inr (.inr rfl))) (da_cons (de_var rfl (by first | exact .inl rfl | exact .inr (.inl rfl) | exact .inr (.inr rfl))) da_nil)))) (da_cons (de_call ((fg__law_shuffled hb L).mono (by decide)) (run_len _ _) rfl hk L.g__law_shuffled L.F__law_shuffled.kp (b__law_shuffled L.F__law_shuffled) (da_cons (de_var rfl (by first | exact .inl rfl | exact .inr (.inl rfl) | exact .inr (.inr rfl))) (da_cons (de_call ((fg__law_sorted_pairs hb L).mono (by decide)) (run_len _ _) rfl hk L.g__law_sorted_pairs L.F__law_sorted_pairs.kp (b__law_sorted_pairs L.F__law_sorted_pairs) (da_cons (de_var rfl (by first | exact .inl rfl | exact .inr (.inl rfl) | exact .inr (.inr rfl))) (da_cons (de_var rfl (by first | exact .inl rfl | exact .inr (.inl rfl) | exact .inr (.inr rfl))) (da_cons (de_var rfl (by first | exact .inl rfl | exact .inr (.inl rfl) | exact .inr (.inr rfl))) da_nil)))) da_nil))) da_nil)))) (dss_cons (ds_expr (de_cm PySem.F.plainAttrs_list PySem.F.slot_list_append PySem.F.type_list_append mc_append (de_var rfl (by first | exact .inl rfl | exact .inr (.inl rfl) | exact .inr (.inr rfl))) (da_cons (de_lc (own := [("_law_at", 14), ("_law_item", 15)]) hk (di_enum (de_var rfl (by first | exact .inl rfl | exact .inr (.inl rfl) | exact .inr (.inr rfl))) L.b_enumerate) (show BlkOk ["_law_script", "_law_k", "_law_pool_here", "_law_row", "_law_many", "_law_one", "_law_other", "_law_random", "_law_some", "_law_turn", "_law_value", "_law_worse", "_law_better", "_law_kept", "_law_at", "_law_item"] (defScope st_law) _ [("_law_at", 14), ("_law_item", 15)] from ⟨rfl, by decide +kernel, by decide +kernel, by decide +kernel, by decide +kernel⟩) (Blk.of hk (fun s H C cc fp hk => (dg_tup hk.calm (dgs_cons (dg_name hk.nd rfl (by first | exact .inl rfl | exact .inr rfl)) (dgs_cons (dg_name hk.nd rfl (by first | exact .inl rfl | exact .inr rfl)) dgs_nil)))) (fun s H C cc fp hk => dts_nil) (fun s H C cc fp hk => (de_tup (da_cons (de_var rfl (by first | exact .inl rfl | exact .inr (.inl rfl) | exact .inr (.inr rfl))) (da_cons (de_sub hk (de_var rfl (by first | exact .inl rfl | exact .inr (.inl rfl) | exact .inr (.inr rfl))) (de_var rfl (by first | exact .inl rfl | exact .inr (.inl rfl) | exact .inr (.inr rfl)))) da_nil)))))) da_nil))) (dss_cons (ds_for hk (di_rng1 (da_cons de_int da_nil) L.b_range) (dg_name hk.nd rfl (by first | exact .inl rfl | exact .inr rfl)) (dss_one (ds_expr (de_cm PySem.F.plainAttrs_list PySem.F.slot_list_append PySem.F.type_list_append mc_append (de_var rfl (by first | exact .inl rfl | exact .inr (.inl rfl) | exact .inr (.inr rfl))) (da_cons (de_call ((fg__law_bent hb L).mono (by decide)) (run_len _ _) rfl hk L.g__law_bent L.F__law_bent.kp (b__law_bent L.F__law_bent) (da_cons (de_var rfl (by first | exact .inl rfl | exact .inr (.inl rfl) | exact .inr (.inr rfl))) (da_cons (de_sub hk (de_var rfl (by first | exact .inl rfl | exact .inr (.inl rfl) | exact .inr (.inr rfl))) (de_call ((fg__law_take hb L).mono (by decide)) (run_len _ _) rfl hk L.g__law_take L.F__law_take.kp (b__law_take L.F__law_take) (da_cons (de_var rfl (by first | exact .inl rfl | exact .inr (.inl rfl) | exact .inr (.inr rfl))) (da_cons de_int da_nil)))) (da_cons (de_var rfl (by first | exact .inl rfl | exact .inr (.inl rfl) | exact .inr (.inr rfl))) da_nil)))) da_nil))))) (dss_one (ds_for hk (di_seq (de_op od_add (de_var rfl (by first | exact .inl rfl | exact .inr (.inl rfl) | exact .inr (.inr rfl))) (de_lst (da_cons de_non (da_cons (de_lst da_nil) (da_cons (de_tup da_nil) (da_cons (de_lst (da_cons de_non da_nil)) (da_cons (de_lst (da_cons (de_tup da_nil) da_nil)) (da_cons (de_lst (da_cons (de_tup (da_cons de_str da_nil)) da_nil)) da_nil))))))))) (dg_name hk.nd rfl (by first | exact .inl rfl | exact .inr rfl)) (dss_one (ds_for hk (di_seq (de_lst (da_cons (de_tup (da_cons (de_var rfl (by first | exact .inl rfl | exact .inr (.inl rfl) | exact .inr (.inr rfl))) (da_cons (de_var rfl (by first | exact .inl rfl | exact .inr (.inl rfl) | exact .inr (.inr rfl))) da_nil))) (da_cons (de_tup (da_cons (de_var rfl (by first | exact .inl rfl | exact .inr (.inl rfl) | exact .inr (.inr rfl))) (da_cons (de_var rfl (by first | exact .inl rfl | exact .inr (.inl rfl) | exact .inr (.inr rfl))) da_nil))) (da_cons (de_tup (da_cons (de_var rfl (by first | exact .inl rfl | exact .inr (.inl rfl) | exact .inr (.inr rfl))) (da_cons (de_var rfl (by first | exact .inl rfl | exact .inr (.inl rfl) | exact .inr (.inr rfl))) da_nil))) da_nil))))) (dg_tup hk.calm (dgs_cons (dg_name hk.nd rfl (by first | exact .inl rfl | exact .inr rfl)) (dgs_cons (dg_name hk.nd rfl (by first | exact .inl rfl | exact .inr rfl)) dgs_nil))) (dss_cons (ds_set hk.nd rfl (by first | exact .inl rfl | exact .inr rfl) (de_callB (cd_reprZ hb hk.gd hk.u64) L.b_repr (da_cons (de_var rfl (by first | exact .inl rfl | exact .inr (.inl rfl) | exact .inr (.inr rfl))) da_nil))) (dss_cons (ds_if (dt_cmp (od_ne hk.u64) (de_callB (cd_reprZ hb hk.gd hk.u64) L.b_repr (da_cons (de_call ((fg_is_matching hb L).mono (by decide)) (run_len _ _) rfl hk L.g_is_matching L.F_is_matching.kp (b_is_matching L.F_is_matching) (da_cons (de_var rfl (by first | exact .inl rfl | exact .inr (.inl rfl) | exact .inr (.inr rfl))) (da_cons (de_var rfl (by first | exact .inl rfl | exact .inr (.inl rfl) | exact .inr (.inr rfl))) (da_cons (de_var rfl (by first | exact .inl rfl | exact .inr (.inl rfl) | exact .inr (.inr rfl))) (da_cons (de_var rfl (by first | exact .inl rfl | exact .inr (.inl rfl) | exact .inr (.inr rfl))) da_nil))))) da_nil)) (de_callB (cd_reprZ hb hk.gd hk.u64) L.b_repr (da_cons (de_call ((fg__law_due hb L).mono (by decide)) (run_len _ _) rfl hk L.g__law_due L.F__law_due.kp (b__law_due L.F__law_due) (da_cons (de_var rfl (by first | exact .inl rfl | exact .inr (.inl rfl) | exact .inr (.inr rfl))) (da_cons (de_var rfl (by first | exact .inl rfl | exact .inr (.inl rfl) | exact .inr (.inr rfl))) (da_cons (de_var rfl (by first | exact .inl rfl | exact .inr (.inl rfl) | exact .inr (.inr rfl))) (da_cons (de_var rfl (by first | exact .inl rfl | exact .inr (.inl rfl) | exact .inr (.inr rfl))) da_nil))))) da_nil)) rfl) (dss_one (ds_ret de_bl)) dss_nil) (dss_one (ds_if (dt_cmp (od_ne hk.u64) (de_callB (cd_reprZ hb hk.gd hk.u64) L.b_repr (da_cons (de_var rfl (by first | exact .inl rfl | exact .inr (.inl rfl) | exact .inr (.inr rfl))) da_nil)) (de_var rfl (by first | exact .inl rfl | exact .inr (.inl rfl) | exact .inr (.inr rfl))) rfl) (dss_one (ds_ret de_bl)) dss_nil)))))))))))))))))) (dss_one (ds_ret de_bl)))
end
/-! ### the head -/
def dd_is_item : He.DefD := ⟨("is_item", none), "is_item", "is_item", defArgs st_is_item, defBody st_is_item, defScope st_is_item, [], []⟩
def dd_as_set : He.DefD := ⟨("as_set", none), "as_set", "as_set", defArgs st_as_set, defBody st_as_set, defScope st_as_set, [], []⟩
def dd_fits : He.DefD := ⟨("fits", none), "fits", "fits", defArgs st_fits, defBody st_fits, defScope st_fits, [], []⟩
def dd__law_pool : He.DefD := ⟨("_law_pool", none), "_law_pool", "_law_pool", defArgs st__law_pool, defBody st__law_pool, defScope st__law_pool, [], []⟩
def dd__law_take : He.DefD := ⟨("_law_take", none), "_law_take", "_law_take", defArgs st__law_take, defBody st__law_take, defScope st__law_take, [], []⟩
def dd__law_due : He.DefD := ⟨("_law_due", none), "_law_due", "_law_due", defArgs st__law_due, defBody st__law_due, defScope st__law_due, [], []⟩
def dd__law_sorted_pairs : He.DefD := ⟨("_law_sorted_pairs", none), "_law_sorted_pairs", "_law_sorted_pairs", defArgs st__law_sorted_pairs, defBody st__law_sorted_pairs, defScope st__law_sorted_pairs, [], []⟩
def dd_are_items : He.DefD := ⟨("are_items", none), "are_items", "are_items", defArgs st_are_items, defBody st_are_items, defScope st_are_items, [], []⟩
def dd_is_matching_of : He.DefD := ⟨("is_matching_of", none), "is_matching_of", "is_matching_of", defArgs st_is_matching_of, defBody st_is_matching_of, defScope st_is_matching_of, [], []⟩
def dd__law_names : He.DefD := ⟨("_law_names", none), "_law_names", "_law_names", defArgs st__law_names, defBody st__law_names, defScope st__law_names, [], []⟩
def dd__law_shuffled : He.DefD := ⟨("_law_shuffled", none), "_law_shuffled", "_law_shuffled", defArgs st__law_shuffled, defBody st__law_shuffled, defScope st__law_shuffled, [], []⟩
def dd__law_bent : He.DefD := ⟨("_law_bent", none), "_law_bent", "_law_bent", defArgs st__law_bent, defBody st__law_bent, defScope st__law_bent, [], []⟩
def dd_is_ranking : He.DefD := ⟨("is_ranking", none), "is_ranking", "is_ranking", defArgs st_is_ranking, defBody st_is_ranking, defScope st_is_ranking, [], []⟩
def dd_is_set_of : He.DefD := ⟨("is_set_of", none), "is_set_of", "is_set_of", defArgs st_is_set_of, defBody st_is_set_of, defScope st_is_set_of, [], []⟩
def dd_check_ranking : He.DefD := ⟨("check_ranking", none), "check_ranking", "check_ranking", defArgs st_check_ranking, defBody st_check_ranking, defScope st_check_ranking, [], []⟩
def dd_check_sets : He.DefD := ⟨("check_sets", none), "check_sets", "check_sets", defArgs st_check_sets, defBody st_check_sets, defScope st_check_sets, [], []⟩
def dd_is_matching : He.DefD := ⟨("is_matching", none), "is_matching", "is_matching", defArgs st_is_matching, defBody st_is_matching, defScope st_is_matching, [], []⟩
def dd_law : He.DefD := ⟨("law", none), "law", "law", defArgs st_law, defBody st_law, defScope st_law, [], []⟩
def fp : List He5.DefA := []
def fn : List He.DefD := [dd_is_item, dd_as_set, dd_fits, dd__law_pool, dd__law_take, dd__law_due, dd__law_sorted_pairs, dd_are_items, dd_is_matching_of, dd__law_names, dd__law_shuffled, dd__law_bent, dd_is_ranking, dd_is_set_of, dd_check_ranking, dd_check_sets, dd_is_matching, dd_law]
def fa : List He.Fa := [.glo "is_item", .glo "as_set", .glo "fits", .glo "_law_pool", .glo "_law_take", .glo "_law_due", .glo "_law_sorted_pairs", .glo "are_items", .glo "is_matching_of", .glo "_law_names", .glo "_law_shuffled", .glo "_law_bent", .glo "is_ranking", .glo "is_set_of", .glo "check_ranking", .glo "check_sets", .glo "is_matching", .glo "law", .free "abs", .free "all", .free "enumerate", .free "int", .free "isinstance", .free "len", .free "list", .free "max", .free "min", .free "range", .free "repr", .free "set", .free "sorted", .free "str", .free "tuple", .str "LETTERS" "abcdefghijklmnopqrstuvwxyz", .int "MAX_ITEMS" 40, .int "MAX_LETTERS" 8]
def ex (K : PySem.W.Frag) : Bool := true
abbrev R : PySem.W.OpenRow := PySem.W.OpenLaw.row PySem.Challenge.rw_lastchoicefirst_k05_is_matching
abbrev hook : PySem.W.Hook := hookS 8 fa fn fp ex
def ob (s : PySem.W.SharedT) : AlS := obsS 8 fa fn fp ex (HandSHeadRun.getT s)
theorem ob_eq (s : PySem.W.SharedT) : ob s = hook.obs s.abs := obsS_eq (HandSHeadRun.getT_eq s)
theorem runs (w : World) : HandSHeadRun.RunEq R (PySem.W.view R.prog [27]) hook ob 4000 [("PickingError" : Str), ("InvalidRanking" : Str), ("InvalidSet" : Str), ("LETTERS" : Str), ("MAX_LETTERS" : Str), ("MAX_ITEMS" : Str), ("is_item" : Str), ("are_items" : Str), ("is_ranking" : Str), ("as_set" : Str), ("is_set_of" : Str), ("check_ranking" : Str), ("check_sets" : Str), ("fits" : Str), ("is_matching_of" : Str), ("is_matching" : Str), ("_law_pool" : Str), ("_law_take" : Str), ("_law_names" : Str), ("_law_shuffled" : Str), ("_law_due" : Str), ("_law_sorted_pairs" : Str), ("_law_bent" : Str)] w := by
  intro os
  kernel_rfl
theorem lw_of {w : World} {h : Heap} {K : PySem.W.Frag} {mg : Str → Option Value} (X : K.In h) (G : h.Ns mainGlobals mg) (c : SaysB fa fn fp ex w h K) : Nonempty (Lw K mg) := by
  have cd : He.SaysD fa fn K := c.x.t.d
  obtain ⟨fd_is_item, F_is_item⟩ := cd.def_ 0 (d := dd_is_item) rfl
  obtain ⟨fd_as_set, F_as_set⟩ := cd.def_ 1 (d := dd_as_set) rfl
  obtain ⟨fd_fits, F_fits⟩ := cd.def_ 2 (d := dd_fits) rfl
  obtain ⟨fd__law_pool, F__law_pool⟩ := cd.def_ 3 (d := dd__law_pool) rfl
  obtain ⟨fd__law_take, F__law_take⟩ := cd.def_ 4 (d := dd__law_take) rfl
  obtain ⟨fd__law_due, F__law_due⟩ := cd.def_ 5 (d := dd__law_due) rfl
  obtain ⟨fd__law_sorted_pairs, F__law_sorted_pairs⟩ := cd.def_ 6 (d := dd__law_sorted_pairs) rfl
  obtain ⟨fd_are_items, F_are_items⟩ := cd.def_ 7 (d := dd_are_items) rfl
  obtain ⟨fd_is_matching_of, F_is_matching_of⟩ := cd.def_ 8 (d := dd_is_matching_of) rfl
  obtain ⟨fd__law_names, F__law_names⟩ := cd.def_ 9 (d := dd__law_names) rfl
  obtain ⟨fd__law_shuffled, F__law_shuffled⟩ := cd.def_ 10 (d := dd__law_shuffled) rfl
  obtain ⟨fd__law_bent, F__law_bent⟩ := cd.def_ 11 (d := dd__law_bent) rfl
  obtain ⟨fd_is_ranking, F_is_ranking⟩ := cd.def_ 12 (d := dd_is_ranking) rfl
  obtain ⟨fd_is_set_of, F_is_set_of⟩ := cd.def_ 13 (d := dd_is_set_of) rfl
  obtain ⟨fd_check_ranking, F_check_ranking⟩ := cd.def_ 14 (d := dd_check_ranking) rfl
  obtain ⟨fd_check_sets, F_check_sets⟩ := cd.def_ 15 (d := dd_check_sets) rfl
  obtain ⟨fd_is_matching, F_is_matching⟩ := cd.def_ 16 (d := dd_is_matching) rfl
  obtain ⟨fd_law, F_law⟩ := cd.def_ 17 (d := dd_law) rfl
  obtain ⟨k_LETTERS, g_LETTERS⟩ := He.str_ok X G (cd.fact 33 (f := .str "LETTERS" "abcdefghijklmnopqrstuvwxyz") rfl)
  obtain ⟨k_MAX_ITEMS, g_MAX_ITEMS⟩ := He.int_ok X G (cd.fact 34 (f := .int "MAX_ITEMS" 40) rfl)
  obtain ⟨k_MAX_LETTERS, g_MAX_LETTERS⟩ := He.int_ok X G (cd.fact 35 (f := .int "MAX_LETTERS" 8) rfl)
  exact ⟨⟨fd_is_item, F_is_item, He.glo_ok X G (cd.fact 0 (f := .glo "is_item") rfl), fd_as_set, F_as_set, He.glo_ok X G (cd.fact 1 (f := .glo "as_set") rfl), fd_fits, F_fits, He.glo_ok X G (cd.fact 2 (f := .glo "fits") rfl), fd__law_pool, F__law_pool, He.glo_ok X G (cd.fact 3 (f := .glo "_law_pool") rfl), fd__law_take, F__law_take, He.glo_ok X G (cd.fact 4 (f := .glo "_law_take") rfl), fd__law_due, F__law_due, He.glo_ok X G (cd.fact 5 (f := .glo "_law_due") rfl), fd__law_sorted_pairs, F__law_sorted_pairs, He.glo_ok X G (cd.fact 6 (f := .glo "_law_sorted_pairs") rfl), fd_are_items, F_are_items, He.glo_ok X G (cd.fact 7 (f := .glo "are_items") rfl), fd_is_matching_of, F_is_matching_of, He.glo_ok X G (cd.fact 8 (f := .glo "is_matching_of") rfl), fd__law_names, F__law_names, He.glo_ok X G (cd.fact 9 (f := .glo "_law_names") rfl), fd__law_shuffled, F__law_shuffled, He.glo_ok X G (cd.fact 10 (f := .glo "_law_shuffled") rfl), fd__law_bent, F__law_bent, He.glo_ok X G (cd.fact 11 (f := .glo "_law_bent") rfl), fd_is_ranking, F_is_ranking, He.glo_ok X G (cd.fact 12 (f := .glo "is_ranking") rfl), fd_is_set_of, F_is_set_of, He.glo_ok X G (cd.fact 13 (f := .glo "is_set_of") rfl), fd_check_ranking, F_check_ranking, He.glo_ok X G (cd.fact 14 (f := .glo "check_ranking") rfl), fd_check_sets, F_check_sets, He.glo_ok X G (cd.fact 15 (f := .glo "check_sets") rfl), fd_is_matching, F_is_matching, He.glo_ok X G (cd.fact 16 (f := .glo "is_matching") rfl), fd_law, F_law, He.glo_ok X G (cd.fact 17 (f := .glo "law") rfl), He.free_ok X G (cd.fact 18 (f := .free "abs") rfl), He.free_ok X G (cd.fact 19 (f := .free "all") rfl), He.free_ok X G (cd.fact 20 (f := .free "enumerate") rfl), He.free_ok X G (cd.fact 21 (f := .free "int") rfl), He.free_ok X G (cd.fact 22 (f := .free "isinstance") rfl), He.free_ok X G (cd.fact 23 (f := .free "len") rfl), He.free_ok X G (cd.fact 24 (f := .free "list") rfl), He.free_ok X G (cd.fact 25 (f := .free "max") rfl), He.free_ok X G (cd.fact 26 (f := .free "min") rfl), He.free_ok X G (cd.fact 27 (f := .free "range") rfl), He.free_ok X G (cd.fact 28 (f := .free "repr") rfl), He.free_ok X G (cd.fact 29 (f := .free "set") rfl), He.free_ok X G (cd.fact 30 (f := .free "sorted") rfl), He.free_ok X G (cd.fact 31 (f := .free "str") rfl), He.free_ok X G (cd.fact 32 (f := .free "tuple") rfl), k_LETTERS, g_LETTERS, k_MAX_ITEMS, g_MAX_ITEMS, k_MAX_LETTERS, g_MAX_LETTERS⟩⟩

end K05

/-! LP: readings of the program's text formats. -/
namespace LP
open PySem L2 DL LB LB2 LG
open PySem.Spec PyProof.Rows
noncomputable def m_row_in : M Fl := (sSeq (sIf (tOf (eOp dGeI (eVar 1) (eCB (g1 dLen) (aCons (eVar 0) aNil)))) (sRaise "InvalidText" "line" (eVar 1)) sNx) (sSeq (sAsg (eBM "str" (g1m (dSS dSplit)) (eOp dSub (eVar 0) (eVar 1)) (aCons (eC (.str " ")) aNil)) (hStar (hMore (hVar 3) (hMore (hVar 4) hNone)))) (sSeq (sIf (tOf (eOp dNe (eVar 3) (eVar 2))) (sRaise "InvalidText" "line" (eVar 1)) sNx) (sRet (eVar 4)))))
noncomputable def sem_row_in : Sem := run 5 m_row_in
noncomputable def m_ranking_in : M Fl := (sSeq (sSet 3 (eCB (g1 dTuple) (aCons (eCall [false, false, false] sem_row_in (aCons (eVar 0) (aCons (eVar 1) (aCons (eVar 2) aNil)))) aNil))) (sSeq (sIf (tNotM (tOf (eCall [false] sem_is_ranking (aCons (eVar 3) aNil)))) (sRaise "InvalidText" "line" (eVar 1)) sNx) (sRet (eVar 3))))
noncomputable def sem_ranking_in : Sem := run 4 m_ranking_in
noncomputable def m_turns_in : M Fl := (sSeq (sSet 3 (eCall [false, false, false] sem_row_in (aCons (eVar 0) (aCons (eVar 1) (aCons (eC (.str "turns")) aNil))))) (sSeq (sIf (tAndM (tOf (eOp dEq (eVar 3) (eLst aNil))) (tOf (eOp dEq (eVar 2) (eC (.int 0))))) (sRet (eC (.str ""))) sNx) (sSeq (sIf (tOrM (tOf (eOp dNe (eCB (g1 dLen) (aCons (eVar 3) aNil)) (eC (.int 1)))) (tOrM (tOf (eOp dEq (eOp dSub (eVar 3) (eC (.int 0))) (eC (.str "")))) (tNotM (tOf (eCall [false, false] sem_is_turns (aCons (eOp dSub (eVar 3) (eC (.int 0))) (aCons (eVar 2) aNil))))))) (sRaise "InvalidText" "line" (eVar 1)) sNx) (sRet (eOp dSub (eVar 3) (eC (.int 0)))))))
noncomputable def sem_turns_in : Sem := run 4 m_turns_in
noncomputable def m_parse_game : M Fl := (sSeq (sIf (tNotM (tOf (eCB (g2 dIsi) (aCons (eVar 0) (aCons (eC (.raw (.ty "str"))) aNil))))) (sRaise "InvalidText" "line" (eC (.int 0))) sNx) (sSeq (sSet 1 (eBM "str" (g1m (dSS dSplit)) (eVar 0) (aCons (eC (.str "\n")) aNil))) (sSeq (sSet 2 (eCall [false, false, false] sem_ranking_in (aCons (eVar 1) (aCons (eC (.int 0)) (aCons (eC (.str "A")) aNil))))) (sSeq (sSet 3 (eCall [false, false, false] sem_ranking_in (aCons (eVar 1) (aCons (eC (.int 1)) (aCons (eC (.str "B")) aNil))))) (sSeq (sIf (tOf (eOp dNe (eCall [false] sem_as_set (aCons (eVar 2) aNil)) (eCall [false] sem_as_set (aCons (eVar 3) aNil)))) (sRaise "InvalidText" "line" (eC (.int 1))) sNx) (sSeq (sSet 4 (eCall [false, false, false] sem_turns_in (aCons (eVar 1) (aCons (eC (.int 2)) (aCons (eCB (g1 dLen) (aCons (eVar 2) aNil)) aNil))))) (sSeq (sIf (tOf (eOp dGtI (eCB (g1 dLen) (aCons (eVar 1) aNil)) (eC (.int 3)))) (sRaise "InvalidText" "line" (eC (.int 3))) sNx) (sRet (eMake "Game" [false, false, false] sem_Game____init__ (aCons (eVar 2) (aCons (eVar 3) (aCons (eVar 4) aNil))))))))))))
noncomputable def sem_parse_game : Sem := run 5 m_parse_game
noncomputable def m_format_set : M Fl := (sRet (eOrS (eBM "str" (g1m dJoin) (eC (.str " ")) (aCons (eVar 0) aNil)) (eC (.str "-"))))
noncomputable def sem_format_set : Sem := run 1 m_format_set
noncomputable def m_format_division : M Fl := (sRet (eOp dAdd (eOp dAdd (eCall [false] sem_format_set (aCons (eOp dSub (eVar 0) (eC (.int 0))) aNil)) (eC (.str " | "))) (eCall [false] sem_format_set (aCons (eOp dSub (eVar 0) (eC (.int 1))) aNil))))
noncomputable def sem_format_division : Sem := run 1 m_format_division
noncomputable def e1_format_game : M D := (eBM "str" (g1m dJoin) (eC (.str " ")) (aCons (eVar 3) aNil))
noncomputable def m_format_game : M Fl := (sSeq (sSet 1 (eIf (tOf (eOp dNe (eProp "Game" sem_Game__turns (eVar 0)) (eC (.str "")))) (eLst (aCons (eC (.str "turns")) (aCons (eProp "Game" sem_Game__turns (eVar 0)) aNil))) (eLst (aCons (eC (.str "turns")) aNil)))) (sSeq (sSet 2 (eLst (aCons (eLst (aCons (eC (.str "A")) (aStar (eProp "Game" sem_Game__ranking_a (eVar 0)) aNil))) (aCons (eLst (aCons (eC (.str "B")) (aStar (eProp "Game" sem_Game__ranking_b (eVar 0)) aNil))) (aCons (eVar 1) aNil))))) (sRet (eBM "str" (g1m dJoin) (eC (.str "\n")) (aCons (eLc (eVar 2) itSeq (gVar 3) tYesM e1_format_game [3]) aNil)))))
noncomputable def sem_format_game : Sem := run 4 m_format_game
noncomputable def m_set_in : M Fl := (sSeq (sSet 1 (eIf (tOf (eOp dEq (eVar 0) (eC (.str "-")))) (eTup aNil) (eCB (g1 dTuple) (aCons (eBM "str" (g1m (dSS dSplit)) (eVar 0) (aCons (eC (.str " ")) aNil)) aNil)))) (sRet (eIf (tAndM (tOf (eCall [false] sem_are_items (aCons (eVar 1) aNil))) (tOf (eOp dEq (eVar 1) (eCall [false] sem_as_set (aCons (eVar 1) aNil))))) (eVar 1) (eC .non))))
noncomputable def sem_set_in : Sem := run 2 m_set_in
noncomputable def e1_parse_division : M D := (eCall [false] sem_set_in (aCons (eVar 4) aNil))
noncomputable def m_parse_division : M Fl := (sSeq (sSet 1 (eIf (tOf (eCB (g2 dIsi) (aCons (eVar 0) (aCons (eC (.raw (.ty "str"))) aNil)))) (eBM "str" (g1m (dSS dSplit)) (eVar 0) (aCons (eC (.str " | ")) aNil)) (eLst aNil))) (sSeq (sSet 2 (eCB (g1 dTuple) (aCons (eLc (eVar 1) itSeq (gVar 4) tYesM e1_parse_division [4]) aNil))) (sSeq (sIf (tOrM (tOf (eOp dNe (eCB (g1 dLen) (aCons (eVar 2) aNil)) (eC (.int 2)))) (tOf (eOp dInX (eC .non) (eVar 2)))) (sRaise "InvalidText" "line" (eC (.int 0))) sNx) (sSeq (sSet 3 (eOp dAdd (eOp dSub (eVar 2) (eC (.int 0))) (eOp dSub (eVar 2) (eC (.int 1))))) (sSeq (sIf (tOrM (tOf (eOp dGtI (eCB (g1 dLen) (aCons (eVar 3) aNil)) (eC (.int 40)))) (tNotM (tOf (eCall [false] sem_are_items (aCons (eVar 3) aNil))))) (sRaise "InvalidText" "line" (eC (.int 0))) sNx) (sRet (eVar 2)))))))
noncomputable def sem_parse_division : Sem := run 5 m_parse_division
end LP

/-! LS: what the program's shared defs compute. -/
namespace LB
open PySem L2 DL
open PySem.Spec PyProof.Rows
/-! ### items -/
def okL (c : Nat) : Bool := decide (c ∈ ("abcdefghijklmnopqrstuvwxyz" : Str).cps.toList)
def okItem (z : Str) : Bool := decide (1 ≤ z.length) && decide (z.length ≤ 8) && z.cps.toList.all okL
def isItem : D → Bool
  | .str z => okItem z
  | _ => false
/-- what a def may be handed that asks for any value -/
def AnyD (d : D) : Prop := (∀ k, d ≠ .ptr k) ∧ (tyD d).isSome = true ∧ ∀ z, d = .str z → z.length ≤ 900000
theorem blsD_map {α : Type} (f : α → Bool) : ∀ l : List α, blsD (l.map fun a => D.bl (f a)) = some (l.map f)
  | [] => rfl
  | a :: l => by simp only [List.map_cons, blsD, blsD_map f l, Option.map_some]
theorem dAll_map {α : Type} (f : α → Bool) (l : List α) : dAll (.lst (l.map fun a => D.bl (f a))) = some (.bl (l.all f)) := by
  simp only [dAll, blsD_map, Option.map_some]
  congr 2
  simp [List.all_map]
theorem dAny_map {α : Type} (f : α → Bool) (l : List α) : dAny (.lst (l.map fun a => D.bl (f a))) = some (.bl (l.any f)) := by
  simp only [dAny, blsD_map, Option.map_some]
  congr 2
  simp [List.any_map]
theorem is_item_spec {d : D} (h : AnyD d) : sem_is_item [] [d] = .ok (.bl (isItem d)) ⟨[], []⟩ := by
  obtain ⟨h1, h2, h3⟩ := h
  cases d with
  | str z =>
    have hz9 := h3 z rfl
    have hz : z.length ≤ 1000000 := by omega
    have e := lcL_each (d := .str z) (M0 := []) (M := []) (env0 := [some (.str z), none]) (g := gVar 1) (tt := tYesM) (fe := e1_is_item) (fun c => D.str ⟨#[c]⟩) z.cps.toList (fun c => D.bl (okL c)) rfl
      (fun c hc => by simp [lcS, e1_is_item, dIn_sign, okL]) (by
        have : z.cps.toList.length = z.length := by simp [Str.length]
        rw [this]; omega)
    have e2 := dAll_map okL z.cps.toList
    have e3 : dIsi (.str z) (.raw (.ty "str")) = some (.bl true) := rfl
    by_cases c1 : 1 ≤ z.length
    · by_cases c2 : z.length ≤ 8
      · have c3 : (z.length : Int) ≤ 8 := by omega
        have c4 : (1 : Int) ≤ z.length := by omega
        simp [sem_is_item, m_is_item, e3, hz, c3, c4, e, e2, isItem, okItem, c1, c2]
      · have c3 : ¬ (z.length : Int) ≤ 8 := by omega
        have c4 : (1 : Int) ≤ z.length := by omega
        simp [sem_is_item, m_is_item, e3, hz, c3, c4, isItem, okItem, c1, c2]
    · have c4 : ¬ (1 : Int) ≤ z.length := by omega
      simp [sem_is_item, m_is_item, e3, hz, c4, isItem, okItem, c1]
  | ptr k => exact absurd rfl (h1 k)
  | raw v => cases h2
  | obj _ _ => cases h2
  | xd _ => cases h2
  | _ => simp [sem_is_item, m_is_item, dIsi, tyD, isiT, isItem]
theorem okL_lt {c : Nat} (h : okL c = true) : c < 0x110000 := by
  have h1 : ("abcdefghijklmnopqrstuvwxyz" : Str).cps.toList.all (fun c => decide (c < 0x110000)) = true := by decide +kernel
  exact of_decide_eq_true (List.all_eq_true.mp h1 c (of_decide_eq_true h))
theorem okItem_ok {z : Str} (h : okItem z = true) : PyData.strOk z = true := by
  unfold okItem at h
  simp only [Bool.and_eq_true] at h
  unfold PyData.strOk
  rw [← Array.all_toList, List.all_eq_true]
  intro c hc
  exact decide_eq_true (okL_lt (List.all_eq_true.mp h.2 c hc))
theorem okItem_len {z : Str} (h : okItem z = true) : z.length ≤ 8 := by
  unfold okItem at h
  simp only [Bool.and_eq_true, decide_eq_true_eq] at h
  exact h.1.2
/-! ### rankings -/
def strs? : List D → Option (List Str) := strsD
theorem strsD_some : ∀ {ds : List D} {zs : List Str}, strsD ds = some zs → ds = zs.map .str
  | [], _, h => by cases h; rfl
  | d :: ds, zs, h => by
    cases d <;> simp only [strsD, Option.map_eq_some_iff, reduceCtorEq] at h
    obtain ⟨ys, h1, rfl⟩ := h
    rw [strsD_some h1]
    rfl
/-- are_items of any value -/
def areItems (d : D) : Bool := match tpD d with
  | some ds => (match strsD ds with
    | some zs => zs.all okItem && decide zs.Nodup
    | none => false)
  | none => false
theorem all_strs : ∀ {ds : List D}, ds.all isItem = true → ∃ zs, strsD ds = some zs ∧ zs.all okItem = true
  | [], _ => ⟨[], rfl, rfl⟩
  | d :: ds, h => by
    rw [List.all_cons, Bool.and_eq_true] at h
    obtain ⟨zs, h1, h2⟩ := all_strs h.2
    cases d with
    | str z => exact ⟨z :: zs, by simp only [strsD, h1, Option.map_some], by rw [List.all_cons, h2, Bool.and_true]; exact h.1⟩
    | _ => simp [isItem] at h
theorem strs_all : ∀ {zs : List Str}, (zs.map D.str).all isItem = zs.all okItem
  | [] => rfl
  | z :: zs => by
    rw [List.map_cons, List.all_cons, List.all_cons, strs_all]
    rfl
theorem keysD_strs : ∀ zs : List Str, keysD (zs.map D.str) = some (zs.map Sum.inr)
  | [] => rfl
  | z :: zs => by simp only [List.map_cons, keysD, keysD_strs zs, Option.map_some]
theorem nodup_map_inj {α β : Type} {f : α → β} (hf : ∀ a b, f a = f b → a = b) : ∀ {l : List α}, (l.map f).Nodup ↔ l.Nodup
  | [] => by simp
  | a :: l => by
    rw [List.map_cons, List.nodup_cons, List.nodup_cons, nodup_map_inj hf]
    refine and_congr ⟨fun h m => h (List.mem_map.mpr ⟨a, m, rfl⟩), fun h m => ?_⟩ Iff.rfl
    obtain ⟨b, hb, e⟩ := List.mem_map.mp m
    exact h (hf b a e ▸ hb)
theorem dn_strs (zs : List Str) : (dn (zs.map (Sum.inr : Str → Key)) = zs.length) ↔ zs.Nodup := by
  have := dn_eq (zs.map (Sum.inr : Str → Key))
  rw [List.length_map] at this
  exact this.trans (nodup_map_inj fun a b e => Sum.inr.inj e)
theorem AnyD.of_np {d : D} (h : AnyD d) : True := trivial
theorem are_items_tp {xs : List D} (d : D) (hd : d = .tup xs ∨ d = .kt xs) (h : ∀ x ∈ xs, AnyD x) (hn : npL xs = true) (hl : xs.length < 3000) : sem_are_items [] [d] = .ok (.bl (areItems d)) ⟨[], []⟩ := by
  have e := lcL_each (d := d) (M0 := []) (M := []) (env0 := [some d, none]) (g := gVar 1) (tt := tYesM) (fe := e1_are_items) (fun x => x) xs (fun x => D.bl (isItem x)) (by rcases hd with rfl | rfl <;> rfl)
    (fun x hx => by
      have nx : np x = true := npL_iff.mp hn x hx
      simp [lcS, e1_are_items, call_1 (is_item_spec (h x hx)) nx rfl]) (by omega)
  rw [List.map_id'] at e
  have e2 := dAll_map isItem xs
  have e3 : dIsi d (.raw (.ty "tuple")) = some (.bl true) := by rcases hd with rfl | rfl <;> rfl
  have e4 : itSeq d = some xs := by rcases hd with rfl | rfl <;> rfl
  have e5 : view [] d = d := by rcases hd with rfl | rfl <;> rfl
  have e6 : seqD d = some xs := by rcases hd with rfl | rfl <;> rfl
  have e7 : dLen d = some (.int xs.length) := by rcases hd with rfl | rfl <;> rfl
  have e8 : tpD d = some xs := by rcases hd with rfl | rfl <;> rfl
  cases ha : xs.all isItem with
  | false =>
    have er : areItems d = false := by
      unfold areItems
      rw [e8]
      dsimp only
      cases hs : strsD xs with
      | none => rfl
      | some zs =>
        dsimp only
        rw [strsD_some hs, strs_all] at ha
        rw [ha]; rfl
    rw [ha] at e2
    simp [sem_are_items, m_are_items, e3, e4, e5, e, e2, er]
  | true =>
    obtain ⟨zs, h1, h2⟩ := all_strs ha
    have h3 := strsD_some h1
    have er : areItems d = decide zs.Nodup := by
      unfold areItems
      rw [e8]
      dsimp only
      rw [h1]
      dsimp only
      rw [h2, Bool.true_and]
    have es : dLenSet d = some (.int (dn (zs.map (Sum.inr : Str → Key)) : Nat)) := by
      unfold dLenSet
      rw [e6, Option.bind_some, h3, keysD_strs]
      dsimp only
      rw [if_pos (by rw [List.length_map]; rw [h3, List.length_map] at hl; omega)]
    have ez : xs.length = zs.length := by rw [h3, List.length_map]
    rw [ha] at e2
    have ed : (decide ((dn (zs.map (Sum.inr : Str → Key)) : Int) = (xs.length : Int))) = decide zs.Nodup := by
      rw [ez]
      refine decide_eq_decide.mpr ?_
      rw [← dn_strs zs]
      omega
    simp [sem_are_items, m_are_items, e3, e4, e5, e, e2, er, es, e7, ed]
theorem isi_tup {d : D} (h : tpD d = none) (h2 : (tyD d).isSome = true) : dIsi d (.raw (.ty "tuple")) = some (.bl false) := by
  cases d <;> first | rfl | (cases h; done) | (cases h2; done)
theorem view_any {d : D} (h : ∀ k, d ≠ .ptr k) (M : List (Option C)) : view M d = d := by
  cases d <;> first | rfl | exact absurd rfl (h _)
theorem are_items_spec {d : D} (h : AnyD d) (hn : np d = true) (h2 : ∀ xs, tpD d = some xs → (∀ x ∈ xs, AnyD x) ∧ xs.length < 3000) : sem_are_items [] [d] = .ok (.bl (areItems d)) ⟨[], []⟩ := by
  obtain ⟨h1, h3, h4⟩ := h
  cases ht : tpD d with
  | some xs =>
    have hd : d = .tup xs ∨ d = .kt xs := by
      cases d <;> simp [tpD] at ht
      · exact .inl (by rw [ht])
      · exact .inr (by rw [ht])
    exact are_items_tp _ hd (h2 xs ht).1 (by rcases hd with rfl | rfl <;> simpa using hn) (h2 xs ht).2
  | none =>
    have e1 := isi_tup ht h3
    have e2 := view_any h1 []
    simp [sem_are_items, m_are_items, e1, e2, areItems, ht]
/-- is_ranking of any value -/
def isRank (d : D) : Bool := areItems d && (match tpD d with
  | some xs => decide (xs.length ≤ 40)
  | none => false)
theorem is_ranking_spec {d : D} (h : AnyD d) (hn : np d = true) (h2 : ∀ xs, tpD d = some xs → (∀ x ∈ xs, AnyD x) ∧ xs.length < 3000) : sem_is_ranking [] [d] = .ok (.bl (isRank d)) ⟨[], []⟩ := by
  have t1 := call_1 (are_items_spec h hn h2) hn rfl
  unfold isRank
  cases ha : areItems d with
  | false =>
    rw [ha] at t1
    simp [sem_is_ranking, m_is_ranking, t1]
  | true =>
    rw [ha] at t1
    obtain ⟨xs, e8⟩ : ∃ xs, tpD d = some xs := by
      unfold areItems at ha
      cases e : tpD d with
      | none => rw [e] at ha; cases ha
      | some xs => exact ⟨xs, rfl⟩
    have hd : d = .tup xs ∨ d = .kt xs := by
      cases d <;> simp [tpD] at e8
      · exact .inl (by rw [e8])
      · exact .inr (by rw [e8])
    have e5 : ∀ M, view M d = d := fun M => by rcases hd with rfl | rfl <;> rfl
    have e7 : dLen d = some (.int xs.length) := by rcases hd with rfl | rfl <;> rfl
    have ed : decide ((xs.length : Int) ≤ 40) = decide (xs.length ≤ 40) := decide_eq_decide.mpr (by omega)
    simp [sem_is_ranking, m_is_ranking, t1, e5, e7, e8, ed]
/-! ### typed -/
/-- a ranking -/
structure Rk (zs : List Str) : Prop where
  ok : ∀ z ∈ zs, okItem z = true
  nd : zs.Nodup
  le : zs.length ≤ 40
theorem any_str {z : Str} (h : z.length ≤ 900000) : AnyD (.str z) := ⟨fun k e => (by cases e), rfl, fun y e => (by cases e; exact h)⟩
theorem any_T {zs : List Str} : AnyD (T zs) := ⟨fun k e => (by cases e), rfl, fun y e => (by cases e)⟩
theorem any_items {zs : List Str} (h : ∀ z ∈ zs, z.length ≤ 900000) : ∀ x ∈ zs.map D.str, AnyD x := fun x hx => by
  obtain ⟨z, hz, rfl⟩ := List.mem_map.mp hx
  exact any_str (h z hz)
theorem strsD_T (zs : List Str) : strsD (zs.map D.str) = some zs := strsD_map zs
theorem areItems_T (zs : List Str) : areItems (T zs) = (zs.all okItem && decide zs.Nodup) := by
  unfold areItems
  simp only [tpD, strsD_T]
theorem isRank_T (zs : List Str) : isRank (T zs) = (zs.all okItem && decide zs.Nodup && decide (zs.length ≤ 40)) := by
  unfold isRank
  rw [areItems_T]
  simp only [tpD, List.length_map]
theorem Rk.isRank {zs : List Str} (h : Rk zs) : LB.isRank (T zs) = true := by
  rw [isRank_T, List.all_eq_true.mpr h.ok, decide_eq_true h.nd, decide_eq_true h.le]; rfl
theorem Rk.len {zs : List Str} (h : Rk zs) : ∀ z ∈ zs, z.length ≤ 900000 := fun z hz => by
  have := okItem_len (h.ok z hz); omega
theorem Rk.Ok {zs : List Str} (h : Rk zs) : DL.Ok zs := fun z hz => okItem_ok (h.ok z hz)
theorem tp_T {zs : List Str} (h1 : ∀ z ∈ zs, z.length ≤ 900000) (h2 : zs.length < 3000) : ∀ xs, tpD (T zs) = some xs → (∀ x ∈ xs, AnyD x) ∧ xs.length < 3000 := fun xs e => by
  cases e
  exact ⟨any_items h1, by simpa using h2⟩
theorem is_ranking_Rk {zs : List Str} (h : Rk zs) : sem_is_ranking [] [T zs] = .ok (.bl true) ⟨[], []⟩ := by
  have := is_ranking_spec (d := T zs) any_T (by simp) (tp_T h.len (by have := h.le; omega))
  rw [h.isRank] at this
  exact this
theorem check_ranking_Rk {zs : List Str} (h : Rk zs) : sem_check_ranking [] [T zs] = .ok .non ⟨[], []⟩ := by
  have t1 := call_1 (is_ranking_Rk h) (by simp) rfl
  simp [sem_check_ranking, m_check_ranking, t1]
theorem srt_strs {zs : List Str} (h : zs.length ≤ 1000000) : dSrt [.tup (zs.map .str)] = some (.lst ((sortS zs).map .str)) := by
  simp [dSrt, orC, dSrtS, strsD_T]
theorem srt_lst {zs : List Str} (h : zs.length ≤ 1000000) : dSrt [.lst (zs.map .str)] = some (.lst ((sortS zs).map .str)) := by
  simp [dSrt, orC, dSrtS, strsD_T]
/-! ### sets, rankings together -/
theorem sortS_perm (zs : List Str) : (sortS zs).Perm zs := List.mergeSort_perm _ _
theorem sortS_len (zs : List Str) : (sortS zs).length = zs.length := (sortS_perm zs).length_eq
theorem sortS_pw (zs : List Str) : (sortS zs).Pairwise fun a b => leS a b = true := List.pairwise_mergeSort (fun a b c => leS_trans a b c) leS_total zs
/-- one sorted list of some items -/
theorem sortS_uniq {ys zs : List Str} (hp : ys.Perm zs) (hs : ys.Pairwise fun a b => leS a b = true) : ys = sortS zs :=
  (hp.trans (sortS_perm zs).symm).eq_of_pairwise (fun a b _ _ h1 h2 => leS_anti h1 h2) hs (sortS_pw zs)
theorem sortS_eq_iff {ys zs : List Str} : sortS ys = sortS zs ↔ ys.Perm zs :=
  ⟨fun e => (sortS_perm ys).symm.trans (e ▸ sortS_perm zs), fun h => sortS_uniq ((sortS_perm ys).trans h) (sortS_pw ys)⟩
theorem Ok.sort {zs : List Str} (h : DL.Ok zs) : DL.Ok (sortS zs) := fun z hz => h z ((sortS_perm zs).mem_iff.mp hz)
theorem as_set_spec {zs : List Str} (h : zs.length ≤ 1000000) : sem_as_set [] [T zs] = .ok (T (sortS zs)) ⟨[], []⟩ := by
  have e := srt_strs h
  have e2 : dTuple (.lst ((sortS zs).map .str)) = some (T (sortS zs)) := rfl
  simp [sem_as_set, m_as_set, e, e2]
theorem as_set_lst {zs : List Str} (h : zs.length ≤ 1000000) : sem_as_set [] [.lst (zs.map .str)] = .ok (T (sortS zs)) ⟨[], []⟩ := by
  have e := srt_lst h
  have e2 : dTuple (.lst ((sortS zs).map .str)) = some (T (sortS zs)) := rfl
  simp [sem_as_set, m_as_set, e, e2]
/-- a set of some of these -/
structure St (zs rk : List Str) : Prop where
  ok : ∀ z ∈ zs, okItem z = true
  nd : zs.Nodup
  srt : sortS zs = zs
  sub : ∀ z ∈ zs, z ∈ rk
theorem St.Ok {zs rk : List Str} (h : St zs rk) : DL.Ok zs := fun z hz => okItem_ok (h.ok z hz)
theorem is_set_of_St {zs rk : List Str} (h : St zs rk) (hl : zs.length < 3000) : sem_is_set_of [] [T zs, T rk] = .ok (.bl true) ⟨[], []⟩ := by
  have hz : ∀ z ∈ zs, z.length ≤ 900000 := fun z hz => by have := okItem_len (h.ok z hz); omega
  have t0 := are_items_spec (d := T zs) any_T (by simp) (tp_T hz hl)
  rw [areItems_T, List.all_eq_true.mpr h.ok, decide_eq_true h.nd, Bool.and_self] at t0
  have t1 := call_1 t0 (by simp) rfl
  have t2 := call_1 (as_set_spec (zs := zs) (by omega)) (by simp) (by simp)
  have e1 := dEq_T h.Ok (Ok.sort h.Ok)
  rw [h.srt] at e1 t2
  have e := lcL_each (d := T zs) (M0 := []) (M := []) (env0 := [some (T zs), some (T rk), none]) (g := gVar 2) (tt := tYesM) (fe := e1_is_set_of) D.str zs (fun z => D.bl (decide (z ∈ rk))) rfl
    (fun z hz => by simp [lcS, e1_is_set_of, dIn_T]) (by omega)
  have e2 := dAll_map (fun z => decide (z ∈ rk)) zs
  have e3 : zs.all (fun z => decide (z ∈ rk)) = true := List.all_eq_true.mpr fun z hz => decide_eq_true (h.sub z hz)
  rw [e3] at e2
  simp [sem_is_set_of, m_is_set_of, t1, t2, e1, e, e2]
theorem check_set_St {zs rk : List Str} (h : St zs rk) (hl : zs.length < 3000) : sem_check_set [] [T zs, T rk] = .ok .non ⟨[], []⟩ := by
  have t1 := call_2 (is_set_of_St h hl) (by simp) (by simp) rfl
  simp [sem_check_set, m_check_set, t1]
/-- two rankings of the same items -/
structure Rk2 (a b : List Str) : Prop where
  ra : Rk a
  p : b.Perm a
theorem Rk2.b {a b : List Str} (h : Rk2 a b) : Rk b := ⟨fun z hz => h.ra.ok z (h.p.mem_iff.mp hz), h.p.nodup_iff.mpr h.ra.nd, by rw [h.p.length_eq]; exact h.ra.le⟩
theorem Rk2.swap {a b : List Str} (h : Rk2 a b) : Rk2 b a := ⟨h.b, h.p.symm⟩
theorem Rk2.refl {a : List Str} (h : Rk a) : Rk2 a a := ⟨h, List.Perm.refl _⟩
theorem check_rankings_Rk {a b : List Str} (h : Rk2 a b) : sem_check_rankings [] [T a, T b] = .ok .non ⟨[], []⟩ := by
  have la := h.ra.le
  have lb := h.b.le
  have t1 := call_1 (check_ranking_Rk h.ra) (by simp) rfl
  have t2 := call_1 (is_ranking_Rk h.b) (by simp) rfl
  have t3 := call_1 (as_set_spec (zs := a) (by omega)) (by simp) (by simp)
  have t4 := call_1 (as_set_spec (zs := b) (by omega)) (by simp) (by simp)
  have e1 := dNe_T (Ok.sort h.b.Ok) (Ok.sort h.ra.Ok)
  rw [decide_eq_true (sortS_eq_iff.mpr h.p)] at e1
  simp [sem_check_rankings, m_check_rankings, starD, t1, forL, b1_check_rankings, t2, t3, t4, e1]
theorem check_division_Rk {a b zs : List Str} (h : Rk2 a b) (hs : St zs a) (hl : zs.length < 3000) : sem_check_division [] [T a, T b, T zs] = .ok .non ⟨[], []⟩ := by
  have t1 := call_2 (check_rankings_Rk h) (by simp) (by simp) rfl
  have t2 := call_2 (check_set_St hs hl) (by simp) (by simp) rfl
  simp [sem_check_division, m_check_division, t1, t2]
/-! ### places -/
/-- a dict from the items to their places -/
def Pl (zs : List Str) : D := .dct (zs.zipIdx.map fun p => (.inr p.1, .int (p.2 : Nat)))
theorem enumL_strs : ∀ (zs : List Str) (n : Nat), enumL n (zs.map D.str) = (zs.zipIdx n).map fun p => .kt [.int (p.2 : Nat), .str p.1]
  | [], _ => rfl
  | z :: zs, n => by
    rw [List.map_cons, List.zipIdx_cons, List.map_cons]
    show _ :: enumL (n + 1) (zs.map D.str) = _
    rw [enumL_strs zs (n + 1)]
theorem zipIdx_fst (zs : List Str) (n : Nat) : (zs.zipIdx n).map (fun p => (Sum.inr p.1 : Key)) = zs.map Sum.inr := by
  induction zs generalizing n with
  | nil => rfl
  | cons z zs ih => rw [List.zipIdx_cons, List.map_cons, List.map_cons, ih]
theorem npK_map {α : Type} (kf : α → Key) (f : α → D) (l : List α) (h : ∀ a ∈ l, np (f a) = true) : npK (l.map fun a => (kf a, f a)) = true := by
  induction l with
  | nil => simp [npK]
  | cons a l ih =>
    rw [List.map_cons]
    simp only [npK, h a (List.mem_cons_self ..), ih fun b hb => h b (List.mem_cons_of_mem _ hb), Bool.and_self]
theorem np_Pl (zs : List Str) : np (Pl zs) = true := by
  unfold Pl
  simp only [np]
  exact npK_map _ _ _ fun _ _ => rfl
theorem places_of_spec {zs : List Str} (h : zs.Nodup) (hl : zs.length < 1000000) : sem_places_of [] [T zs] = .ok (Pl zs) ⟨[], []⟩ := by
  have e := dcL_each (d := T zs) (M0 := []) (M := []) (env0 := [some (T zs), none, none]) (g := gTupD (gMore (gVar 1) (gMore (gVar 2) gNone))) (tt := tYesM) (fk := k1_places_of) (fv := v2_places_of)
    (fun p : Str × Nat => D.kt [.int (p.2 : Nat), .str p.1]) zs.zipIdx (fun p => .inr p.1) (fun p => .int (p.2 : Nat)) rfl
    (fun p hp => by simp [dcS, k1_places_of, v2_places_of, keyD]) (by rw [List.length_zipIdx]; exact hl)
  rw [← enumL_strs, fold_put _ _ _ _ (by
    rw [List.map_nil, List.nil_append, zipIdx_fst]
    exact (nodup_map_inj fun a b e => Sum.inr.inj e).mpr h), List.nil_append] at e
  have ei : itEnum (T zs) = some (enumL 0 (zs.map D.str)) := rfl
  have n := np_Pl zs
  simp only [Pl] at n
  simp only [np] at n
  simp [sem_places_of, m_places_of, ei, e, Pl, n]
theorem Pl_at {zs : List Str} {z : Str} (h : zs.Nodup) (hz : z ∈ zs) : dSub (Pl zs) (.str z) = some (.int (zs.idxOf z : Nat)) := by
  unfold Pl
  rw [dSub_dct]
  have hi := List.idxOf_lt_length_of_mem hz
  have := valD_map (fun p : Str × Nat => (Sum.inr p.1 : Key)) (fun p => D.int (p.2 : Nat)) zs.zipIdx (z, zs.idxOf z) (by
    rw [zipIdx_fst]
    exact (nodup_map_inj fun a b e => Sum.inr.inj e).mpr h) (by
    rw [List.mk_mem_zipIdx_iff_getElem?]
    exact (DL.idx_first hz).1)
  exact this
end LB

/-! LF2S: what the laws' own helpers do. -/
namespace LF2
open PySem L2 DL LB
open PySem.Spec PyProof.Rows
/-- a pool -/
def Pool (c : C) : Prop := ∃ a b : Int, c = .lst [.int a, .int b] ∧ 0 ≤ a ∧ 0 ≤ b ∧ b < 2147483647
theorem take_spec {c : C} {n : Int} (hc : Pool c) (hn : 0 < n) (hn2 : n < 1000000) : ∃ c' r, Pool c' ∧ 0 ≤ r ∧ r < n ∧ sem__law_take [c] [.ptr 0, .int n] = .ok (.int r) ⟨[], [some c']⟩ := by
  obtain ⟨a, b, rfl, ha, hb, hb2⟩ := hc
  by_cases h : 0 < a
  · refine ⟨.lst [.int (a / n), .int b], a % n, ⟨_, _, rfl, Int.ediv_nonneg ha (by omega), hb, hb2⟩, Int.emod_nonneg _ (by omega), Int.emod_lt_of_pos _ hn, ?_⟩
    simp [sem__law_take, m__law_take, atI, ixN, h, hn, show n < 1073741824 by omega]
  · have e : (small64 b || small64 48271) = true := by rw [small64_of hb (by omega)]; rfl
    have hx : 0 ≤ (b * 48271 + 12345) % 2147483647 := Int.emod_nonneg _ (by decide)
    have hy : (b * 48271 + 12345) % 2147483647 < 2147483647 := Int.emod_lt_of_pos _ (by decide)
    have e2 : small64 ((b * 48271 + 12345) % 2147483647) = true := small64_of hx (by omega)
    refine ⟨.lst [.int a, .int ((b * 48271 + 12345) % 2147483647)], ((b * 48271 + 12345) % 2147483647) * ((b * 48271 + 12345) % 2147483647) % 2147483629 / 64 % n, ⟨_, _, rfl, ha, hx, hy⟩, Int.emod_nonneg _ (by omega), Int.emod_lt_of_pos _ hn, ?_⟩
    simp [sem__law_take, m__law_take, atI, ixN, h, hn, e, e2]
theorem pool_spec {ns : List Int} {k : Nat} (hk : k < 1000) : ∃ c, Pool c ∧ sem__law_pool [] [.slst (ns.map .int), .int k] = .ok (.ptr 0) ⟨[], [some c]⟩ := by
  obtain ⟨L, hp, hL⟩ : ∃ L : Int, dPowI (.int 10) (.int 18) = some (.int L) ∧ 0 < L := ⟨_, rfl, by decide⟩
  have s1 : small64 7919 = true := rfl
  have s2 : small64 31 = true := rfl
  have s3 : small64 48271 = true := rfl
  have sk : small64 (k : Int) = true := small64_of (by omega) (by omega)
  have key : ∀ c : Int, 0 ≤ c → ∃ x, 0 ≤ x ∧ x < 2147483647 ∧ (c % 2147483629 + 7919 * (k : Int) * (k : Int) + 31 * (k : Int) + 17) * 48271 % 2147483647 = x := fun c _ => ⟨_, Int.emod_nonneg _ (by decide), Int.emod_lt_of_pos _ (by decide), rfl⟩
  have fin : ∀ c : Int, 0 ≤ c → ∃ y : C, Pool y ∧ (.lst [.int (c * (if L ≤ c then 1 else 0)), .int ((c % 2147483629 + 7919 * (k : Int) * (k : Int) + 31 * (k : Int) + 17) * 48271 % 2147483647 * ((c % 2147483629 + 7919 * (k : Int) * (k : Int) + 31 * (k : Int) + 17) * 48271 % 2147483647) % 2147483629)]) = y := fun c hc => by
    refine ⟨_, ⟨_, _, rfl, ?_, Int.emod_nonneg _ (by decide), ?_⟩, rfl⟩
    · split
      · omega
      · omega
    · have := Int.emod_lt_of_pos ((c % 2147483629 + 7919 * (k : Int) * (k : Int) + 31 * (k : Int) + 17) * 48271 % 2147483647 * ((c % 2147483629 + 7919 * (k : Int) * (k : Int) + 31 * (k : Int) + 17) * 48271 % 2147483647)) (show (0 : Int) < 2147483629 by decide)
      omega
  have sm : ∀ c : Int, small64 ((c % 2147483629 + 7919 * (k : Int) * (k : Int) + 31 * (k : Int) + 17) * 48271 % 2147483647) = true := fun c => small64_of (Int.emod_nonneg _ (by decide)) (by have := Int.emod_lt_of_pos ((c % 2147483629 + 7919 * (k : Int) * (k : Int) + 31 * (k : Int) + 17) * 48271) (show (0 : Int) < 2147483647 by decide); omega)
  have si : ∀ c : Int, small64 (if L ≤ c then 1 else 0) = true := fun c => by split <;> rfl
  by_cases h : k < ns.length
  · have hat : atI (ns.map D.int) (k : Int) = some (.int ns[k]) := by rw [atI_nat (by simpa using h)]; simp [h]
    obtain ⟨y, hy, e⟩ := fin (if ns[k] < 0 then -ns[k] else ns[k]) (by split <;> omega)
    refine ⟨y, hy, ?_⟩
    subst e
    simp [sem__law_pool, m__law_pool, h, hat, hp, s1, s2, s3, sk, sm, si]
  · obtain ⟨y, hy, e⟩ := fin 0 (by omega)
    refine ⟨y, hy, ?_⟩
    subst e
    have sm0 := sm 0
    simp only [Int.zero_emod, Int.zero_add] at sm0
    have s0 : small64 0 = true := rfl
    simp [sem__law_pool, m__law_pool, h, hp, hL, show ¬ L ≤ 0 by omega, s0, s1, s2, s3, sk, sm0, si]

theorem perm_np {xs ys : List D} (h : ys.Perm xs) (hx : npL xs = true) : npL ys = true := npL_iff.mpr fun y hy => npL_iff.mp hx y (h.mem_iff.mp hy)
theorem erase_perm {α : Type} : ∀ {l : List α} {k : Nat} (h : k < l.length), (l[k] :: l.eraseIdx k).Perm l
  | x :: l, 0, _ => List.Perm.refl _
  | x :: l, k + 1, h => by
    have ih := erase_perm (l := l) (k := k) (by simpa using h)
    exact (List.Perm.swap _ _ _).trans (List.Perm.cons x ih)
theorem turning_spec {c : C} {d : D} {xs : List D} (hd1 : lstOf d = some xs) (hd2 : dLen d = some (.int xs.length)) (hd3 : ∀ M, view M d = d) (hc : Pool c) (hx : npL xs = true) (hl : xs.length < 1000000) : ∃ c' ys, Pool c' ∧ ys.Perm xs ∧ sem__law_turning [c] [.ptr 0, d] = .ok (.lst ys) ⟨[], [some c']⟩ := by
  obtain ⟨n, hn⟩ : ∃ n, n = xs.length := ⟨_, rfl⟩
  have rng : rngOk (xs.length : Int) = true := by simp [rngOk]; omega
  obtain ⟨s', ⟨c', left, found, o, hc', h1, h2, h3, rfl⟩, h⟩ := forL_inv (d := .tup [.int 0, .int xs.length]) (M0 := [some c, some (.lst xs), some (.lst [])]) (g := gVar 4) (body := b1__law_turning) (els := sNx) (ds := (List.range xs.length).map fun (i : Nat) => D.int i)
    (fun i s => ∃ (c' : C) (left found : List D) (o : Option D), Pool c' ∧ (found ++ left).Perm xs ∧ found.length = i ∧ left.length + i = xs.length ∧ s = ⟨[some (.ptr 0), some d, some (.ptr 1), some (.ptr 2), o], [some c', some (.lst left), some (.lst found)]⟩)
    (fun i x s e ⟨c1, left, found, o, hc1, h1, h2, h3, e1⟩ => by
      subst e1
      have hi : i < xs.length := by have := (List.getElem?_eq_some_iff.mp e).1; simpa using this
      obtain ⟨c2, r, hc2, r0, r1, ht⟩ := take_spec (n := (left.length : Int)) hc1 (by omega) (by omega)
      obtain ⟨k, rfl⟩ : ∃ k : Nat, r = (k : Int) := ⟨r.toNat, by omega⟩
      have hk : k < left.length := by omega
      obtain ⟨a, b, rfl, _⟩ := hc1
      obtain ⟨a2, b2, rfl, _⟩ := id hc2
      have hp : (found ++ [left[k]] ++ left.eraseIdx k).Perm xs := by
        refine List.Perm.trans ?_ h1
        rw [List.append_assoc]
        exact List.Perm.append_left _ (erase_perm hk)
      have nl : npL left = true := npL_iff.mpr fun y hy => npL_iff.mp (perm_np h1 hx) y (List.mem_append_right _ hy)
      refine ⟨⟨[some (.ptr 0), some d, some (.ptr 1), some (.ptr 2), some x], [some (.lst [.int a, .int b]), some (.lst left), some (.lst found)]⟩, _, by simp, .inl ?_, by simp, _, left.eraseIdx k, found ++ [left[k]], some x, hc2, hp, by simp [h2], ?_, rfl⟩
      · simp [b1__law_turning, callS, ht, cPopAt, ixN_nat hk, show left.length ≤ 1000000 by omega, hk, cAppend, show found.length < 1000000 by omega]
      · rw [List.length_eraseIdx, if_pos hk]; omega) (s := ⟨[some (.ptr 0), some d, some (.ptr 1), some (.ptr 2), none], [some c, some (.lst xs), some (.lst [])]⟩) ⟨c, xs, [], none, hc, by simp, rfl, by simp, rfl⟩
  have hz : left = [] := by
    refine List.eq_nil_of_length_eq_zero ?_
    rw [List.length_map, List.length_range] at h3
    omega
  subst hz
  rw [List.append_nil] at h1
  obtain ⟨a, b, rfl, _⟩ := hc
  obtain ⟨a2, b2, rfl, _⟩ := id hc'
  refine ⟨_, found, hc', h1, ?_⟩
  simp [sem__law_turning, m__law_turning, hd1, hd2, hd3, rng, h, outD, perm_np h1 hx]

theorem Pool.np {c : C} (h : Pool c) : c.np = true := by
  obtain ⟨_, _, rfl, _⟩ := h
  rfl
/-- a call that writes the first cell -/
theorem call_tf {sem : Sem} {c c' : C} {d r : D} (hs : sem [c] [.ptr 0, d] = .ok r ⟨[], [some c']⟩) (hc : c.np = true) (hd : DL.np d = true) (hr : DL.np r = true) (hc' : c'.np = true) (env : List (Option D)) (M : List (Option C)) :
    callS [true, false] sem [.ptr 0, d] ⟨env, some c :: M⟩ = .ok r ⟨env, some c' :: M⟩ := by
  have nd : ∀ k, d ≠ .ptr k := fun k e => by subst e; cases hd
  unfold callS
  rw [prep_t]
  dsimp only [List.getElem?_cons_zero]
  rw [if_pos hc, prep_fv nd, if_pos hd, prep_nil]
  dsimp only [Option.map_some]
  rw [if_pos ⟨by simp, by simp⟩, hs]
  simp [hr, hc', hc]
theorem call_tff {sem : Sem} {c c' : C} {d e r : D} (hs : sem [c] [.ptr 0, d, e] = .ok r ⟨[], [some c']⟩) (hc : c.np = true) (hd : DL.np d = true) (he : DL.np e = true) (hr : DL.np r = true) (hc' : c'.np = true) (env : List (Option D)) (M : List (Option C)) :
    callS [true, false, false] sem [.ptr 0, d, e] ⟨env, some c :: M⟩ = .ok r ⟨env, some c' :: M⟩ := by
  have nd : ∀ k, d ≠ .ptr k := fun k e => by subst e; cases hd
  have ne : ∀ k, e ≠ .ptr k := fun k q => by subst q; cases he
  unfold callS
  rw [prep_t]
  dsimp only [List.getElem?_cons_zero]
  rw [if_pos hc, prep_fv nd, if_pos hd, prep_fv ne, if_pos he, prep_nil]
  dsimp only [Option.map_some]
  rw [if_pos ⟨by simp, by simp⟩, hs]
  simp [hr, hc', hc]
/-- a call that writes the last cell -/
theorem call_last {sem : Sem} {c c' : C} {d r : D} (hs : sem [c] [.ptr 0, d] = .ok r ⟨[], [some c']⟩) (hc : c.np = true) (hd : DL.np d = true) (hr : DL.np r = true) (hc' : c'.np = true) (env : List (Option D)) (M : List (Option C)) :
    callS [true, false] sem [.ptr M.length, d] ⟨env, M ++ [some c]⟩ = .ok r ⟨env, M ++ [some c']⟩ := by
  have nd : ∀ k, d ≠ .ptr k := fun k e => by subst e; cases hd
  have e1 : (M ++ [some c])[M.length]? = some (some c) := List.getElem?_concat_length
  unfold callS
  rw [prep_t]
  dsimp only
  rw [e1]
  dsimp only
  rw [if_pos hc, prep_fv nd, if_pos hd, prep_nil]
  dsimp only [Option.map_some]
  rw [if_pos ⟨by simp, by simp⟩, hs]
  simp [hr, hc', hc]
theorem call_last3 {sem : Sem} {c c' : C} {d e r : D} (hs : sem [c] [.ptr 0, d, e] = .ok r ⟨[], [some c']⟩) (hc : c.np = true) (hd : DL.np d = true) (he : DL.np e = true) (hr : DL.np r = true) (hc' : c'.np = true) (env : List (Option D)) (M : List (Option C)) :
    callS [true, false, false] sem [.ptr M.length, d, e] ⟨env, M ++ [some c]⟩ = .ok r ⟨env, M ++ [some c']⟩ := by
  have nd : ∀ k, d ≠ .ptr k := fun k e => by subst e; cases hd
  have ne : ∀ k, e ≠ .ptr k := fun k q => by subst q; cases he
  have e1 : (M ++ [some c])[M.length]? = some (some c) := List.getElem?_concat_length
  unfold callS
  rw [prep_t]
  dsimp only
  rw [e1]
  dsimp only
  rw [if_pos hc, prep_fv nd, if_pos hd, prep_fv ne, if_pos he, prep_nil]
  dsimp only [Option.map_some]
  rw [if_pos ⟨by simp, by simp⟩, hs]
  simp [hr, hc', hc]
theorem call_pool {sem : Sem} {c : C} {d e : D} (hs : sem [] [d, e] = .ok (.ptr 0) ⟨[], [some c]⟩) (hd : DL.np d = true) (he : DL.np e = true) (hc : c.np = true) (env : List (Option D)) (M : List (Option C)) :
    callSC [false, false] sem [d, e] ⟨env, M⟩ = .ok (.ptr M.length) ⟨env, M ++ [some c]⟩ := by
  have nd : ∀ k, d ≠ .ptr k := fun k e => by subst e; cases hd
  have ne : ∀ k, e ≠ .ptr k := fun k q => by subst q; cases he
  unfold callSC
  rw [prep_fv nd, if_pos hd, prep_fv ne, if_pos he, prep_nil]
  dsimp only [Option.map_some]
  rw [if_pos ⟨by simp, by simp⟩, hs]
  simp [hc]
theorem map_perm {α β : Type} {f : α → β} : ∀ {ys zs : List β}, ys.Perm zs → ∀ {l : List α}, ys = l.map f → ∃ l', zs = l'.map f ∧ l.Perm l' := by
  intro ys zs h
  induction h with
  | nil => intro l e; exact ⟨[], rfl, by rw [List.map_eq_nil_iff.mp e.symm]⟩
  | cons x _ ih =>
    intro l e
    cases l with
    | nil => cases e
    | cons a l =>
      injection e with e1 e2
      obtain ⟨l', e3, p⟩ := ih e2
      exact ⟨a :: l', by rw [e3, e1]; rfl, p.cons a⟩
  | swap x y r =>
    intro l e
    match l, e with
    | a :: b :: l, e =>
      injection e with e1 e2
      injection e2 with e2 e3
      exact ⟨b :: a :: l, by rw [e1, e2, e3]; rfl, List.Perm.swap _ _ _⟩
  | trans _ _ ih1 ih2 =>
    intro l e
    obtain ⟨l1, e1, p1⟩ := ih1 e
    obtain ⟨l2, e2, p2⟩ := ih2 e1
    exact ⟨l2, e2, p1.trans p2⟩
theorem turning_strs {c : C} {zs : List Str} (hc : Pool c) (hl : zs.length < 1000000) : ∃ (c' : C) (ys : List Str), Pool c' ∧ ys.Perm zs ∧ sem__law_turning [c] [.ptr 0, .lst (zs.map .str)] = .ok (.lst (ys.map .str)) ⟨[], [some c']⟩ := by
  obtain ⟨c', ys, h1, h2, h3⟩ := turning_spec (d := .lst (zs.map .str)) (xs := zs.map .str) rfl rfl (fun _ => rfl) hc (by simp) (by simpa using hl)
  obtain ⟨zs', rfl, p⟩ := map_perm h2.symm rfl
  exact ⟨c', zs', h1, p.symm, h3⟩
theorem turning_T {c : C} {zs : List Str} (hc : Pool c) (hl : zs.length < 1000000) : ∃ (c' : C) (ys : List Str), Pool c' ∧ ys.Perm zs ∧ sem__law_turning [c] [.ptr 0, T zs] = .ok (.lst (ys.map .str)) ⟨[], [some c']⟩ := by
  obtain ⟨c', ys, h1, h2, h3⟩ := turning_spec (d := T zs) (xs := zs.map .str) rfl rfl (fun _ => rfl) hc (by simp) (by simpa using hl)
  obtain ⟨zs', rfl, p⟩ := map_perm h2.symm rfl
  exact ⟨c', zs', h1, p.symm, h3⟩
/-! ### slices -/
theorem cut_to (xs : List D) (k : Nat) : cutD xs none (some (k : Int)) = xs.take k := by
  unfold DL.cutD
  rw [HT.sIx_none, HT.sIx_nat]
  simp [List.take_eq_take_iff]
theorem cut_from (xs : List D) (k : Nat) : cutD xs (some (k : Int)) none = xs.drop k := by
  unfold DL.cutD
  rw [HT.sIx_none, HT.sIx_nat]
  by_cases h : k ≤ xs.length
  · rw [Nat.min_eq_left h, List.take_of_length_le (by simp)]
  · rw [Nat.min_eq_right (by omega), List.drop_length, List.drop_of_length_le (by omega)]; simp
theorem cut_mid (xs : List D) (j k : Nat) : cutD xs (some (j : Int)) (some (k : Int)) = (xs.take k).drop j := by
  unfold DL.cutD
  rw [HT.sIx_nat, HT.sIx_nat]
  rw [List.drop_take]
  by_cases h : k ≤ xs.length
  · by_cases h2 : j ≤ xs.length
    · rw [Nat.min_eq_left h, Nat.min_eq_left h2]
    · rw [Nat.min_eq_left h, Nat.min_eq_right (by omega), List.drop_length, List.drop_of_length_le (by omega)]; simp
  · by_cases h2 : j ≤ xs.length
    · rw [Nat.min_eq_right (by omega), Nat.min_eq_left h2, List.take_of_length_le (by simp), List.take_of_length_le (by simp; omega)]
    · rw [Nat.min_eq_right (by omega), Nat.min_eq_right (by omega), List.drop_length, List.drop_of_length_le (by omega)]; simp
theorem dSl_lst_to (xs : List D) (k : Nat) : dSl (.lst xs) none (some (k : Int)) = some (.lst (xs.take k)) := by simp only [dSl, cut_to]
theorem dSl_tup_to (xs : List D) (k : Nat) : dSl (.tup xs) none (some (k : Int)) = some (.tup (xs.take k)) := by simp only [dSl, cut_to]
theorem dSl_tup_from (xs : List D) (k : Nat) : dSl (.tup xs) (some (k : Int)) none = some (.tup (xs.drop k)) := by simp only [dSl, cut_from]
theorem dSl_tup_mid (xs : List D) (j k : Nat) : dSl (.tup xs) (some (j : Int)) (some (k : Int)) = some (.tup ((xs.take k).drop j)) := by simp only [dSl, cut_mid]
theorem dAdd_tup (a b : List D) : dAdd (.tup a) (.tup b) = if a.length + b.length ≤ 1000000 then some (.tup (a ++ b)) else none := by
  simp only [dAdd, orD, dAddI, gI, dAddS, dAddT]
  split <;> simp_all [dAddL]
theorem dAdd_lst (a b : List D) : dAdd (.lst a) (.lst b) = if a.length + b.length ≤ 1000000 then some (.lst (a ++ b)) else none := by
  simp only [dAdd, orD, dAddI, gI, dAddS, dAddT, dAddL]
/-! ### names, rankings -/
def N14 : List Str := ["b", "a", "zz", "z", "abcdefgh", "m", "mm", "q", "c", "kk", "y", "x", "dd", "e"]
theorem N14_ok : ∀ z ∈ N14, okItem z = true := by
  have h : N14.all okItem = true := by decide +kernel
  exact List.all_eq_true.mp h
theorem N14_len : N14.length = 14 := rfl
theorem N14_nd : N14.Nodup := by decide +kernel
theorem names_spec {c : C} {n : Nat} (hc : Pool c) (hn : n ≤ 13) : ∃ (c' : C) (zs : List Str), Pool c' ∧ zs.length = n ∧ zs.Nodup ∧ (∀ z ∈ zs, okItem z = true) ∧ sem__law_names [c] [.ptr 0, .int n] = .ok (.lst (zs.map .str)) ⟨[], [some c']⟩ := by
  obtain ⟨ts, hts⟩ : ∃ ts, ts = N14.take (n + 1) := ⟨_, rfl⟩
  have hl : ts.length = n + 1 := by rw [hts, List.length_take]; show min (n + 1) 14 = n + 1; omega
  obtain ⟨c', ys, hc', p, h⟩ := turning_strs (zs := ts) hc (by omega)
  have hyl : ys.length = n + 1 := by rw [p.length_eq, hl]
  have nd : ys.Nodup := p.nodup_iff.mpr (by rw [hts]; exact N14_nd.sublist (List.take_sublist _ _))
  have sub : ∀ z ∈ ys, z ∈ N14 := fun z hz => List.mem_of_mem_take (hts ▸ p.mem_iff.mp hz)
  obtain ⟨us, hus⟩ : ∃ us, us = ys.take n := ⟨_, rfl⟩
  refine ⟨c', us, hc', by rw [hus, List.length_take]; omega, by rw [hus]; exact nd.sublist (List.take_sublist _ _), fun z hz => N14_ok z (sub z (List.mem_of_mem_take (hus ▸ hz))), ?_⟩
  have t1 := call_tf h hc.np (by simp) (by simp) hc'.np
  have e1 : dSl (.lst (N14.map D.str)) none (some ((n : Int) + 1)) = some (.lst (ts.map D.str)) := by
    have := dSl_lst_to (N14.map D.str) (n + 1)
    rw [← List.map_take, ← hts] at this
    rw [show (n : Int) + 1 = ((n + 1 : Nat) : Int) by omega]
    exact this
  have e2 : dSl (.lst (ys.map D.str)) none (some (n : Int)) = some (.lst (us.map D.str)) := by
    have := dSl_lst_to (ys.map D.str) n
    rwa [← List.map_take, ← hus] at this
  have e0 : ([D.str "b", D.str "a", D.str "zz", D.str "z", D.str "abcdefgh", D.str "m", D.str "mm", D.str "q", D.str "c", D.str "kk", D.str "y", D.str "x", D.str "dd", D.str "e"] : List D) = N14.map D.str := rfl
  simp only [sem__law_names, m__law_names]
  simp [e0, e1, t1, e2, hc'.np, N14_len]
theorem rev_T (zs : List Str) : dRevA (T zs) = some (T zs.reverse) := by
  show some (D.tup (zs.map D.str).reverse) = _
  rw [← List.map_reverse]
theorem swap12 : ∀ zs : List Str, ((zs.take 2).drop 1 ++ zs.take 1 ++ zs.drop 2).Perm zs
  | [] => List.Perm.refl _
  | [_] => List.Perm.refl _
  | x :: y :: r => List.Perm.swap x y r
theorem rankings_spec {c : C} {lo hi : Nat} (hc : Pool c) (hlo : lo ≤ hi) (hhi : hi ≤ 13) : ∃ (c' : C) (a b : List Str), Pool c' ∧ Rk2 a b ∧ lo ≤ a.length ∧ a.length ≤ hi ∧ sem__law_rankings [c] [.ptr 0, .int lo, .int hi] = .ok (.tup [T a, T b]) ⟨[], [some c']⟩ := by
  obtain ⟨c1, r, hc1, r0, r1, h1⟩ := take_spec (n := (hi : Int) - lo + 1) hc (by omega) (by omega)
  obtain ⟨k, rfl⟩ : ∃ k : Nat, r = (k : Int) := ⟨r.toNat, by omega⟩
  obtain ⟨c2, zs, hc2, hl, nd, ok, h2⟩ := names_spec (n := lo + k) hc1 (by omega)
  obtain ⟨c3, w, hc3, w0, w6, h3⟩ := take_spec (n := 6) hc2 (by decide) (by decide)
  obtain ⟨c4, ys, hc4, p, h4⟩ := turning_strs (zs := zs) hc3 (by omega)
  have rk : Rk zs := ⟨ok, nd, by omega⟩
  have t1 := call_tf h1 hc.np rfl rfl hc1.np
  have t2 := call_tf h2 hc1.np rfl (by simp) hc2.np
  have t3 := call_tf h3 hc2.np rfl rfl hc3.np
  have t4 := call_tf h4 hc3.np (by simp) (by simp) hc4.np
  rw [show ((lo + k : Nat) : Int) = (lo : Int) + (k : Int) by omega] at t2
  have tt : ∀ xs : List D, dTuple (.lst xs) = some (.tup xs) := fun _ => rfl
  by_cases e0 : w = 0
  · subst e0
    refine ⟨c4, zs, zs, hc4, Rk2.refl rk, by omega, by omega, ?_⟩
    simp [sem__law_rankings, m__law_rankings, t1, t2, t3, t4, tt, hc4.np]
  · by_cases e1 : w = 1
    · subst e1
      refine ⟨c4, zs, zs.reverse, hc4, ⟨rk, List.reverse_perm zs⟩, by omega, by omega, ?_⟩
      have er := rev_T zs
      have n2 : npL (zs.reverse.map D.str) = true := npL_strs _
      obtain ⟨zr, hzr⟩ : ∃ zr, zr = zs.reverse := ⟨_, rfl⟩
      rw [← hzr] at er n2 ⊢
      simp [sem__law_rankings, m__law_rankings, t1, t2, t3, t4, tt, hc4.np, er]
    · by_cases e2 : w = 2
      · subst e2
        obtain ⟨zr, hzr⟩ : ∃ zr, zr = (zs.take 2).drop 1 ++ zs.take 1 ++ zs.drop 2 := ⟨_, rfl⟩
        have pz : zr.Perm zs := by rw [hzr]; exact swap12 zs
        refine ⟨c4, zs, zr, hc4, ⟨rk, pz⟩, by omega, by omega, ?_⟩
        have s1 : dSl (T zs) (some 1) (some 2) = some (T ((zs.take 2).drop 1)) := by
          have := dSl_tup_mid (zs.map D.str) 1 2
          rw [← List.map_take, ← List.map_drop] at this
          exact this
        have s2 : dSl (T zs) none (some 1) = some (T (zs.take 1)) := by
          have := dSl_tup_to (zs.map D.str) 1
          rw [← List.map_take] at this
          exact this
        have s3 : dSl (T zs) (some 2) none = some (T (zs.drop 2)) := by
          have := dSl_tup_from (zs.map D.str) 2
          rw [← List.map_drop] at this
          exact this
        obtain ⟨z1, hz1⟩ : ∃ z1, z1 = (zs.take 2).drop 1 := ⟨_, rfl⟩
        obtain ⟨z2, hz2⟩ : ∃ z2, z2 = zs.take 1 := ⟨_, rfl⟩
        obtain ⟨z3, hz3⟩ : ∃ z3, z3 = zs.drop 2 := ⟨_, rfl⟩
        have l1 : z1.length ≤ 2 := by rw [hz1, List.length_drop, List.length_take]; omega
        have l2 : z2.length ≤ 1 := by rw [hz2, List.length_take]; omega
        have l3 : z3.length ≤ 13 := by rw [hz3, List.length_drop]; omega
        rw [← hz1] at s1 hzr
        rw [← hz2] at s2 hzr
        rw [← hz3] at s3 hzr
        have a1 : dAdd (T z1) (T z2) = some (T (z1 ++ z2)) := by
          rw [dAdd_tup, if_pos (by simp; omega), ← List.map_append]
        have a2 : dAdd (T (z1 ++ z2)) (T z3) = some (T zr) := by
          rw [dAdd_tup, if_pos (by simp; omega), ← List.map_append, hzr]
        obtain ⟨z4, hz4⟩ : ∃ z4, z4 = z1 ++ z2 := ⟨_, rfl⟩
        rw [← hz4] at a1 a2
        simp [sem__law_rankings, m__law_rankings, t1, t2, t3, t4, tt, hc4.np, s1, s2, s3, a1, a2]
      · refine ⟨c4, zs, ys, hc4, ⟨rk, p⟩, by omega, by omega, ?_⟩
        simp [sem__law_rankings, m__law_rankings, t1, t2, t3, t4, tt, hc4.np, e0, e1, e2]
end LF2

set_option pp.maxSteps 200
/-! LF1S: what the helpers of the first laws do. -/
namespace LF1
open PySem L2 DL LB
open LF2 (sem__law_take m__law_take Pool take_spec perm_np erase_perm call_tf call_tff map_perm)
open PySem.Spec PyProof.Rows
theorem pool_spec {ns : List Int} {k : Nat} (hk : k < 1000) : ∃ c, Pool c ∧ sem__law_pool [] [.slst (ns.map .int), .int k] = .ok (.ptr 0) ⟨[], [some c]⟩ := by
  obtain ⟨L, hp, hL⟩ : ∃ L : Int, dPowI (.int 10) (.int 18) = some (.int L) ∧ 0 < L := ⟨_, rfl, by decide⟩
  have s1 : small64 104729 = true := rfl
  have s3 : small64 48271 = true := rfl
  have sk : small64 ((k : Int) + 7) = true := small64_of (by omega) (by omega)
  have sm : ∀ c : Int, small64 (c % 2147483629) = true := fun c => small64_of (Int.emod_nonneg _ (by decide)) (by have := Int.emod_lt_of_pos c (show (0 : Int) < 2147483629 by decide); omega)
  have si : ∀ c : Int, small64 (if L ≤ c then 1 else 0) = true := fun c => by split <;> rfl
  have fin : ∀ (c x : Int), 0 ≤ c → ∃ y : C, Pool y ∧ (.lst [.int (c * (if L ≤ c then 1 else 0)), .int (x % 2147483647)]) = y := fun c x hc => by
    refine ⟨_, ⟨_, _, rfl, ?_, Int.emod_nonneg _ (by decide), Int.emod_lt_of_pos _ (by decide)⟩, rfl⟩
    split
    · omega
    · omega
  by_cases h : k < ns.length
  · have hat : atI (ns.map D.int) (k : Int) = some (.int ns[k]) := by rw [DL.atI_nat (by simpa using h)]; simp [h]
    obtain ⟨b, hb⟩ : ∃ b : Int, b = (ns[k] % 2147483629 + 104729 * ((k : Int) + 1)) * ((k : Int) + 7) % 2147483629 := ⟨_, rfl⟩
    have sb : small64 b = true := by rw [hb]; exact sm _
    obtain ⟨y, hy, e⟩ := fin (if ns[k] < 0 then -ns[k] else ns[k]) (b * b % 2147483629 * 48271) (by split <;> omega)
    refine ⟨y, hy, ?_⟩
    subst e
    simp [sem__law_pool, m__law_pool, h, hat, hp, s1, s3, sk, sm, si, ← hb, sb]
  · obtain ⟨b, hb⟩ : ∃ b : Int, b = (104729 * ((k : Int) + 1)) * ((k : Int) + 7) % 2147483629 := ⟨_, rfl⟩
    have sb : small64 b = true := by rw [hb]; exact sm _
    obtain ⟨y, hy, e⟩ := fin 0 (b * b % 2147483629 * 48271) (by omega)
    refine ⟨y, hy, ?_⟩
    subst e
    have s0 : small64 0 = true := rfl
    simp [sem__law_pool, m__law_pool, h, hp, hL, show ¬ L ≤ 0 by omega, s0, s1, s3, sk, sm, si, ← hb, sb]
/-! ### names -/
def chr (i : Nat) : Str := ⟨#[97 + i]⟩
def nm0 (i : Nat) : Str := Txt.mul (chr (i % 26)) ((1 + i / 26 : Nat) : Int)
def nmF (w i : Nat) : Str := if w = 0 then nm0 i else if w = 1 then ("q" : Str) ++ nm0 i else Txt.mul (chr (i % 26)) 6 ++ nm0 i
def nms (w n : Nat) : List Str := (List.range n).map (nmF w)
theorem nms_all : ∀ w < 3, (nms w 42).all okItem = true ∧ (nms w 42).Nodup := by decide +kernel
theorem nms_take {w n : Nat} (h : n ≤ 42) : nms w n = (nms w 42).take n := by
  unfold nms
  rw [← List.map_take, List.take_range, Nat.min_eq_left h]
theorem nms_ok {w n : Nat} (hw : w < 3) (h : n ≤ 42) : (∀ z ∈ nms w n, okItem z = true) ∧ (nms w n).Nodup := by
  obtain ⟨h1, h2⟩ := nms_all w hw
  rw [nms_take h]
  exact ⟨fun z hz => List.all_eq_true.mp h1 z (List.mem_of_mem_take hz), h2.sublist (List.take_sublist _ _)⟩
theorem ABC_at : ∀ i < 26, (("abcdefghijklmnopqrstuvwxyz" : Str).cps.toList[i]?) = some (97 + i) := by decide +kernel
theorem dSub_abc {i : Nat} (h : i < 26) : dSub (.str "abcdefghijklmnopqrstuvwxyz") (.int (i : Int)) = some (.str (chr i)) := by
  have e : dIxS (.str "abcdefghijklmnopqrstuvwxyz") (.int (i : Int)) = some (.str (chr i)) := by
    unfold dIxS
    dsimp only
    rw [if_pos (by decide +kernel), DL.atI_nat (show i < ("abcdefghijklmnopqrstuvwxyz" : Str).cps.toList.length from Nat.lt_of_lt_of_le h (by decide +kernel)), ABC_at i h]
    rfl
  have e1 : dIx (.str "abcdefghijklmnopqrstuvwxyz") (.int (i : Int)) = none := rfl
  unfold dSub dIxA orD
  rw [e1, e]
theorem len_nm0 {i : Nat} (h : i < 42) : (nm0 i).length ≤ 8 := by
  have h1 : ∀ i < 42, (nm0 i).length ≤ 8 := by decide +kernel
  exact h1 i h
theorem len_six {i : Nat} (h : i < 26) : (Txt.mul (chr i) 6).length ≤ 8 := by
  have h1 : ∀ i < 26, (Txt.mul (chr i) 6).length ≤ 8 := by decide +kernel
  exact h1 i h
theorem dAdd_str {a b : Str} (h : a.length + b.length ≤ 1000000) : dAdd (.str a) (.str b) = some (.str (a ++ b)) := by
  have e : dAddS (.str a) (.str b) = some (.str (a ++ b)) := by
    unfold dAddS
    dsimp only
    rw [if_pos h]
  show (match dAddS (.str a) (.str b) with | some z' => some z' | none => _) = _
  rw [e]
theorem names_spec {c : C} {n : Nat} (hc : Pool c) (hn : n ≤ 42) : ∃ (c' : C) (w : Nat), Pool c' ∧ w < 3 ∧ sem__law_names [c] [.ptr 0, .int n] = .ok (.lst ((nms w n).map .str)) ⟨[], [some c']⟩ := by
  obtain ⟨c1, r, hc1, r0, r1, h1⟩ := take_spec (n := 3) hc (by decide) (by decide)
  obtain ⟨w, rfl⟩ : ∃ k : Nat, r = (k : Int) := ⟨r.toNat, by omega⟩
  have hw : w < 3 := by omega
  have t1 := call_tf h1 hc.np rfl rfl hc1.np
  let st : Option D → Option D → List D → DL.S := fun o5 o6 f => ⟨[some (.ptr 0), some (.int n), some (.str "abcdefghijklmnopqrstuvwxyz"), some (.int w), some (.ptr 1), o5, o6], [some c1, some (.lst f)]⟩
  have rng : rngOk (n : Int) = true := by simp [rngOk]; omega
  obtain ⟨s', ⟨o5, o6, es⟩, h⟩ := forL_inv (d := .tup [.int 0, .int n]) (M0 := [some c1, some (.lst [])]) (g := gVar 5) (body := b1__law_names) (els := sNx) (ds := (List.range n).map fun (i : Nat) => D.int i)
    (fun i s => ∃ o5 o6, s = st o5 o6 ((nms w i).map .str))
    (fun i x s e ⟨o5, o6, es⟩ => by
      subst es
      have hi : i < n := by have := (List.getElem?_eq_some_iff.mp e).1; simpa using this
      have ex : x = .int i := by
        rw [List.getElem?_map, List.getElem?_range hi] at e
        exact (Option.some.inj e).symm
      subst ex
      have hm : i % 26 < 26 := Nat.mod_lt _ (by decide)
      have e1 := dSub_abc hm
      have e2 : dMul (.str (chr (i % 26))) (.int ((1 + i / 26 : Nat) : Int)) = some (.str (nm0 i)) := dMulX_str (by show 1 ≤ 16; decide) (by omega) (by omega)
      have e3 : dMul (.str (chr (i % 26))) (.int 6) = some (.str (Txt.mul (chr (i % 26)) 6)) := dMulX_str (by show 1 ≤ 16; decide) (by omega) (by omega)
      have ln := len_nm0 (show i < 42 by omega)
      have l6 := len_six hm
      have e4 : dAdd (.str "q") (.str (nm0 i)) = some (.str ("q" ++ nm0 i)) := dAdd_str (by show 1 + _ ≤ _; omega)
      have e5 : dAdd (.str (Txt.mul (chr (i % 26)) 6)) (.str (nm0 i)) = some (.str (Txt.mul (chr (i % 26)) 6 ++ nm0 i)) := dAdd_str (by omega)
      have q1 : (i : Int) % 26 = ((i % 26 : Nat) : Int) := by omega
      have q2 : (1 : Int) + (i : Int) / 26 = ((1 + i / 26 : Nat) : Int) := by omega
      have e6 : atI [D.str (nm0 i), D.str ("q" ++ nm0 i), D.str (Txt.mul (chr (i % 26)) 6 ++ nm0 i)] (w : Int) = some (.str (nmF w i)) := by
        rw [DL.atI_nat (by simpa using hw)]
        match w, hw with
        | 0, _ => rfl
        | 1, _ => rfl
        | 2, _ => rfl
      have ll : (nms w i).length < 1000000 := by unfold nms; simp; omega
      have nx : (nms w (i + 1)).map D.str = (nms w i).map D.str ++ [.str (nmF w i)] := by unfold nms; rw [List.range_succ]; simp
      refine ⟨st (some (.int i)) o6 ((nms w i).map .str), st (some (.int i)) (some (.str (nm0 i))) ((nms w (i + 1)).map .str), by simp [st], .inl ?_, by simp, _, _, rfl⟩
      rw [nx]
      rw [← q1] at e1
      rw [← q2] at e2
      obtain ⟨f, hf⟩ : ∃ f, f = (nms w i).map D.str := ⟨_, rfl⟩
      have lf : f.length < 1000000 := by rw [hf, List.length_map]; exact ll
      rw [← hf]
      simp [st, b1__law_names, e1, e2, e3, e4, e5, e6, cAppend, lf]) (s := st none none []) ⟨none, none, rfl⟩
  rw [List.length_map, List.length_range] at es
  subst es
  refine ⟨c1, w, hc1, hw, ?_⟩
  have h' : forL (.tup [.int 0, .int n]) [some c1, some (C.lst [])] (gVar 5) b1__law_names sNx ((List.range n).map fun (i : Nat) => D.int i) ⟨[some (.ptr 0), some (.int n), some (.str "abcdefghijklmnopqrstuvwxyz"), some (.int w), some (.ptr 1), none, none], [some c1, some (.lst [])]⟩ = _ := h
  simp [sem__law_names, m__law_names, t1, rng, h', st, outD, hc1.np]
theorem shuffled_spec {c : C} {d : D} {xs : List D} (hd1 : lstOf d = some xs) (hd3 : ∀ M, view M d = d) (hc : Pool c) (hx : npL xs = true) (hp : ∀ x ∈ xs, Pdo x) (hl : xs.length < 90000) : ∃ c' ys, Pool c' ∧ ys.Perm xs ∧ sem__law_shuffled [c] [.ptr 0, d] = .ok (.lst ys) ⟨[], [some c']⟩ := by
  obtain ⟨s', ⟨c', found, hc', h1, rfl⟩, h⟩ := whileL_inv (t := t1__law_shuffled) (fb := b2__law_shuffled)
    (fun m s => ∃ (c' : C) (left found : List D), Pool c' ∧ (found ++ left).Perm xs ∧ left.length = m ∧ s = ⟨[some (.ptr 0), some d, some (.ptr 1), some (.ptr 2)], [some c', some (.lst left), some (.lst found)]⟩)
    (fun s => ∃ (c' : C) (found : List D), Pool c' ∧ found.Perm xs ∧ s = ⟨[some (.ptr 0), some d, some (.ptr 1), some (.ptr 2)], [some c', some (.lst []), some (.lst found)]⟩)
    (fun m s ⟨c1, left, found, hc1, h1, h2, e1⟩ => by
      subst e1
      have ll := h1.length_eq
      rw [List.length_append] at ll
      obtain ⟨c2, r, hc2, r0, r1, ht⟩ := take_spec (n := (left.length : Int)) hc1 (by omega) (by omega)
      obtain ⟨k, rfl⟩ : ∃ k : Nat, r = (k : Int) := ⟨r.toNat, by omega⟩
      have hk : k < left.length := by omega
      obtain ⟨a, b, rfl, _⟩ := hc1
      obtain ⟨a2, b2, rfl, _⟩ := id hc2
      have hp' : (found ++ [left[k]] ++ left.eraseIdx k).Perm xs := by
        refine List.Perm.trans ?_ h1
        rw [List.append_assoc]
        exact List.Perm.append_left _ (erase_perm hk)
      have cn := (cmp_nil (ds := left) fun x hx => hp x (h1.mem_iff.mp (List.mem_append_right _ hx))).2
      have ln : left ≠ [] := fun e => by subst e; simp at h2
      refine ⟨_, _, by simp [t1__law_shuffled, cn, ln] <;> rfl, .inl ?_, _, left.eraseIdx k, found ++ [left[k]], hc2, hp', by rw [List.length_eraseIdx, if_pos hk]; omega, rfl⟩
      simp [b2__law_shuffled, callS, ht, cPopAt, ixN_nat hk, show left.length ≤ 1000000 by omega, hk, cAppend, show found.length < 1000000 by omega])
    (fun s ⟨c1, left, found, hc1, h1, h2, e1⟩ => by
      subst e1
      have hz := List.eq_nil_of_length_eq_zero h2
      subst hz
      rw [List.append_nil] at h1
      have cn := (cmp_nil (ds := []) fun x hx => by simp at hx).2
      exact ⟨_, by simp [t1__law_shuffled, cn]<;> rfl, c1, found, hc1, h1, rfl⟩) xs.length 100000 ⟨[some (.ptr 0), some d, some (.ptr 1), some (.ptr 2)], [some c, some (.lst xs), some (.lst [])]⟩ (by omega) ⟨c, xs, [], hc, List.Perm.refl _, rfl, rfl⟩
  obtain ⟨a, b, rfl, _⟩ := hc
  obtain ⟨a2, b2, rfl, _⟩ := id hc'
  refine ⟨_, found, hc', h1, ?_⟩
  simp [sem__law_shuffled, m__law_shuffled, hd1, hd3, h, outD, perm_np h1 hx]
end LF1

set_option pp.maxSteps 200
/-! LB2S: is_turns; texts sign by sign. -/
namespace DL
open PySem L2
open PySem.Spec PyProof.Rows
theorem dSub_strAt {z : Str} {i c : Nat} (hl : z.length ≤ 1000000) (h : z.cps.toList[i]? = some c) : dSub (.str z) (.int (i : Int)) = some (.str ⟨#[c]⟩) := by
  have hi := (List.getElem?_eq_some_iff.mp h).1
  have e : dIxS (.str z) (.int (i : Int)) = some (.str ⟨#[c]⟩) := by
    unfold dIxS
    dsimp only
    rw [if_pos (by unfold le1m; exact decide_eq_true hl), DL.atI_nat hi, h]
    rfl
  have e1 : dIx (.str z) (.int (i : Int)) = none := rfl
  unfold dSub dIxA orD
  rw [e1, e]
theorem join_signs (cs : List Nat) : Txt.join ("" : Str) (cs.map fun c => (⟨#[c]⟩ : Str)) = ⟨cs.toArray⟩ := by
  have e0 : ("" : Str) = SX.S [] := by decide +kernel
  have e1 : cs.map (fun c => (⟨#[c]⟩ : Str)) = (cs.map fun b => [b]).map SX.S := by
    rw [List.map_map]; rfl
  rw [e0, e1, SX.join_S]
  have e2 : ∀ l : List Nat, TL.joinL [] (l.map fun b => [b]) = l := by
    intro l
    induction l with
    | nil => rfl
    | cons b l ih =>
      cases l with
      | nil => rfl
      | cons b2 l => exact congrArg (b :: ·) ih
  rw [e2]
  try rfl
theorem dJoin_signs (cs : List Nat) (h : cs.length ≤ 1000000) : dJoin (.str "") (.lst (cs.map fun c => D.str ⟨#[c]⟩)) = some (.str ⟨cs.toArray⟩) := by
  have e0 : ("" : Str).length = 0 := by decide +kernel
  have e1 : strsD (cs.map fun c => D.str ⟨#[c]⟩) = some (cs.map fun c => (⟨#[c]⟩ : Str)) := by
    have := strsD_map (cs.map fun c => (⟨#[c]⟩ : Str))
    rwa [List.map_map] at this
  have e2 : ((cs.map fun c => (⟨#[c]⟩ : Str)).map (·.length)).sum = cs.length := by
    induction cs with
    | nil => rfl
    | cons b l ih =>
      rw [List.map_cons, List.map_cons, List.sum_cons, ih (by rw [List.length_cons] at h; omega) (by
        have := strsD_map (l.map fun c => (⟨#[c]⟩ : Str))
        rwa [List.map_map] at this), List.length_cons, Nat.add_comm]
      rfl
  simp only [dJoin, seqD_lst, Option.bind_some, e1, e2, e0, Nat.mul_zero, Nat.add_zero, join_signs]
  rw [if_pos (by omega)]
theorem dNotIn_sign (c : Nat) (y : Str) : dNotIn (.str ⟨#[c]⟩) (.str y) = some (.bl (!decide (c ∈ y.cps.toList))) := by
  simp only [dNotIn, orD, dNotInS, found, Option.map_some]
  rw [StrLaws.found_one]
theorem Pdo.ok {z : Str} (h : Pdo (.str z)) : PyData.strOk z = true := by
  obtain ⟨p, h1, h2, _⟩ := h
  cases h1
  simpa [PyData.canLay0] using h2
theorem ok_sign {z : Str} (h : PyData.strOk z = true) : ∀ c ∈ z.cps.toList, PyData.strOk ⟨#[c]⟩ = true := fun c hc => by
  unfold PyData.strOk at h ⊢
  rw [← Array.all_toList, List.all_eq_true] at h
  have := h c hc
  simpa using this
theorem ok_of_signs {z : Str} (h : ∀ c ∈ z.cps.toList, c < 0x110000) : PyData.strOk z = true := by
  unfold PyData.strOk
  rw [← Array.all_toList, List.all_eq_true]
  exact fun c hc => decide_eq_true (h c hc)
/-- a call that writes the last cell -/
theorem call_last0 {sem : Sem} {c c' : C} {r : D} (hs : sem [c] [.ptr 0] = .ok r ⟨[], [some c']⟩) (hc : c.np = true) (hr : DL.np r = true) (hc' : c'.np = true) (env : List (Option D)) (M : List (Option C)) :
    callS [true] sem [.ptr M.length] ⟨env, M ++ [some c]⟩ = .ok r ⟨env, M ++ [some c']⟩ := by
  have e1 : (M ++ [some c])[M.length]? = some (some c) := List.getElem?_concat_length
  unfold callS
  rw [prep_t]
  dsimp only
  rw [e1]
  dsimp only
  rw [if_pos hc, prep_nil]
  dsimp only [Option.map_some]
  rw [if_pos ⟨by simp, by simp⟩, hs]
  simp [hr, hc', hc]
end DL
namespace LB2
open PySem L2 DL LB
open PySem.Spec PyProof.Rows
def okP (c : Nat) : Bool := decide (c ∈ ("AB" : Str).cps.toList)
theorem okP_eq (c : Nat) : okP c = (decide (c = 65) || decide (c = 66)) := by
  have e : ("AB" : Str).cps.toList = [65, 66] := by decide +kernel
  unfold okP
  rw [e]
  simp
theorem okP_in (c : Nat) : dIn (.str ⟨#[c]⟩) (.tup [.str "A", .str "B"]) = some (.bl (okP c)) := by
  have := dIn_T ⟨#[c]⟩ ["A", "B"]
  refine this.trans ?_
  have e1 : ("A" : Str) = ⟨#[65]⟩ := by decide +kernel
  have e2 : ("B" : Str) = ⟨#[66]⟩ := by decide +kernel
  rw [okP_eq, e1, e2]
  simp
def isTurns (d : D) (n : Int) : Bool := match d with
  | .str z => decide ((z.length : Int) = n) && z.cps.toList.all okP
  | _ => false
theorem isi_str {d : D} (h : ∀ z, d ≠ .str z) (h2 : (tyD d).isSome = true) : dIsi d (.raw (.ty "str")) = some (.bl false) := by
  cases d <;> first | rfl | exact absurd rfl (h _) | (cases h2; done)
theorem is_turns_spec {d : D} (h : AnyD d) (n : Int) : sem_is_turns [] [d, .int n] = .ok (.bl (isTurns d n)) ⟨[], []⟩ := by
  obtain ⟨h1, h2, h3⟩ := h
  by_cases hd : ∃ z, d = .str z
  · obtain ⟨z, rfl⟩ := hd
    have hz9 := h3 z rfl
    have hz : z.length ≤ 1000000 := by omega
    have e := lcL_each (d := .str z) (M0 := []) (M := []) (env0 := [some (.str z), some (.int n), none]) (g := gVar 2) (tt := tYesM) (fe := e1_is_turns) (fun c => D.str ⟨#[c]⟩) z.cps.toList (fun c => D.bl (okP c)) rfl
      (fun c hc => by simp [lcS, e1_is_turns, okP_in]) (by
        have : z.cps.toList.length = z.length := by simp [Str.length]
        rw [this]; omega)
    have e2 := dAll_map okP z.cps.toList
    have e3 : dIsi (.str z) (.raw (.ty "str")) = some (.bl true) := rfl
    by_cases c1 : (z.length : Int) = n
    · subst c1
      simp [sem_is_turns, m_is_turns, e3, hz, e, e2, isTurns]
    · simp [sem_is_turns, m_is_turns, e3, hz, c1, isTurns]
  · have e3 := isi_str (fun z q => hd ⟨z, q⟩) h2
    have e4 := view_any h1 []
    have e5 : isTurns d n = false := by
      cases d <;> first | rfl | exact absurd ⟨_, rfl⟩ hd
    simp [sem_is_turns, m_is_turns, e3, e4, e5]
end LB2

set_option pp.maxSteps 300
/-! LGS: what the defs of games compute. -/
namespace DL
open PySem L2
open PySem.Spec PyProof.Rows
@[simp] theorem eFld_eq (x f : Str) (fe : M D) (s : S) : DL.eFld x f fe s = ((fe s).bind fun d s1 => match view s1.M d with
  | .obj y fs => if y = x then oOf (fs.lookup f) s1 else .fail
  | _ => .fail) := (rfl)
@[simp] theorem eProp_eq (x : Str) (sem : Sem) (fe : M D) (s : S) : DL.eProp x sem fe s = ((fe s).bind fun d s1 => match view s1.M d with
  | .obj y _ => if y = x then noX (callS [false] sem [d] s1) else .fail
  | _ => .fail) := (rfl)
@[simp] theorem eMeth_eq (x m : Str) (io : List Bool) (sem : Sem) (fo : M D) (fa : M (List D)) (s : S) : DL.eMeth x m io sem fo fa s = ((fo s).bind fun d s1 => match view s1.M d with
  | .obj y fs => if y = x ∧ fs.lookup m = none then (fa s1).bind fun ds s2 => callS io sem (d :: ds) s2 else .fail
  | _ => .fail) := (rfl)
@[simp] theorem eMake_eq (x : Str) (io : List Bool) (sem : Sem) (fa : M (List D)) (s : S) : DL.eMake x io sem fa s = ((fa s).bind fun ds s1 => makeS x io sem ds s1) := (rfl)
@[simp] theorem sFldS_eq (x f : Str) (fo fv : M D) (s : S) : DL.sFldS x f fo fv s = ((fv s).bind fun y s1 => (fo s1).bind fun o s2 => match o with
  | .ptr k => cFld x f k y s2
  | _ => .fail) := (rfl)
@[simp] theorem noX_ok {α : Type} (a : α) (s : S) : noX (.ok a s) = .ok a s := (rfl)
@[simp] theorem np_obj (c : Str) (fs : List (Str × D)) : np (.obj c fs) = npF fs := by simp [np]
@[simp] theorem npF_nil : npF [] = true := by simp [npF]
@[simp] theorem npF_cons (f : Str) (d : D) (fs : List (Str × D)) : npF ((f, d) :: fs) = (np d && npF fs) := by simp [npF]
@[simp] theorem fin_obj (n : Nat) (s : S) (c : Str) (xs : List (Str × D)) : fin n (.ok (.ret (.obj c xs)) s) = if npF xs = true then (if okM n s then .ok (.obj c xs) ⟨[], s.M.take n⟩ else .fail) else .fail := by
  have e : outD n s (.obj c xs) = if npF xs = true then some (.obj c xs) else none := by
    show (if np (.obj c xs) = true then some (D.obj c xs) else none) = _
    rw [np_obj]
  show (match outD n s (.obj c xs) with | some d => if okM n s then Out.ok d ⟨[], s.M.take n⟩ else .fail | none => .fail) = _
  rw [e]
  by_cases h : npF xs = true
  · rw [if_pos h, if_pos h]
  · rw [if_neg h, if_neg h]
/-! ### calls -/
theorem look1 (f : Str) (d : D) : List.lookup f [(f, d)] = some d := by simp [List.lookup]
theorem look0 {m f : Str} (d : D) (h : (m == f) = false) : List.lookup m [(f, d)] = none := by simp [List.lookup, h]
/-- a letter -/
def lc (b : Bool) : Nat := if b then 65 else 66
def lt (b : Bool) : Str := ⟨#[lc b]⟩
def ltr (l : List Bool) : Str := ⟨(l.map lc).toArray⟩
theorem lt_A : ("A" : Str) = lt true := by decide +kernel
theorem lt_B : ("B" : Str) = lt false := by decide +kernel
theorem lt_inj {a b : Bool} (h : lt a = lt b) : a = b := by
  cases a <;> cases b <;> first | rfl | exact absurd h (by decide +kernel)
theorem lt_isA (b : Bool) : decide (lt b = "A") = b := by
  cases b <;> decide +kernel
theorem ltr_len (l : List Bool) : (ltr l).length = l.length := by simp [ltr, Str.length]
theorem ltr_cps (l : List Bool) : (ltr l).cps.toList = l.map lc := by simp [ltr]
theorem ltr_nil : ltr [] = "" := by decide +kernel
theorem ltr_ne {b : Bool} {l : List Bool} : ltr (b :: l) ≠ "" := fun h => by
  have := congrArg Str.length h
  rw [ltr_len] at this
  have e : ("" : Str).length = 0 := by decide +kernel
  rw [e] at this
  simp at this
theorem ltr_at0 {b : Bool} {l : List Bool} (h : (b :: l).length ≤ 1000000) : dSub (.str (ltr (b :: l))) (.int 0) = some (.str (lt b)) :=
  dSub_strAt (i := 0) (by rw [ltr_len]; exact h) (by rw [ltr_cps]; rfl)
theorem ltr_cut {b : Bool} {l : List Bool} (h : (b :: l).length ≤ 1000000) : dSl (.str (ltr (b :: l))) (some 1) none = some (.str (ltr l)) := by
  simp only [dSl]
  rw [if_pos (by unfold le1m; exact decide_eq_true (by rw [ltr_len]; exact h))]
  congr 2
  have e1 : HT.sIx (ltr (b :: l)).length 0 (some 1) = 1 := by
    have := HT.sIx_nat (n := (ltr (b :: l)).length) (d := 0) (k := 1)
    rw [ltr_len] at this ⊢
    refine Eq.trans this ?_
    simp
  have e2 : HT.sIx (ltr (b :: l)).length (ltr (b :: l)).length none = (ltr (b :: l)).length := HT.sIx_none _ _
  unfold cutS
  rw [e1, e2, ltr_cps, ltr_len]
  unfold ltr
  congr 1
  simp
  exact List.take_of_length_le (by simp)
theorem ltr_ok (l : List Bool) : PyData.strOk (ltr l) = true := ok_of_signs fun c hc => by
  rw [ltr_cps] at hc
  obtain ⟨b, _, rfl⟩ := List.mem_map.mp hc
  cases b <;> decide
end DL
namespace LG
open PySem L2 DL LB LB2
open PySem.Spec PyProof.Rows
abbrev gm (a b : List Str) (t : Str) : D := .obj "Game" [("rows", .tup [T a, T b, .str t])]
theorem lk (d : D) : List.lookup ("rows" : Str) [("rows", d)] = some d := look1 _ d
theorem atR {x y z : D} : atI [x, y, z] 0 = some x ∧ atI [x, y, z] 1 = some y ∧ atI [x, y, z] 2 = some z := ⟨rfl, rfl, rfl⟩
theorem okP_lc (b : Bool) : okP (lc b) = true := by cases b <;> decide +kernel
theorem isTurns_ltr {l : List Bool} {n : Nat} (h : l.length = n) : isTurns (.str (ltr l)) n = true := by
  unfold isTurns
  dsimp only
  rw [ltr_len, h, ltr_cps, decide_eq_true rfl, Bool.true_and, List.all_eq_true]
  intro c hc
  obtain ⟨b, _, rfl⟩ := List.mem_map.mp hc
  exact okP_lc b
theorem ranking_a_spec (a b : List Str) (t : Str) : sem_Game__ranking_a [] [gm a b t] = .ok (T a) ⟨[], []⟩ := by
  simp [sem_Game__ranking_a, m_Game__ranking_a, lk, atR]
theorem ranking_b_spec (a b : List Str) (t : Str) : sem_Game__ranking_b [] [gm a b t] = .ok (T b) ⟨[], []⟩ := by
  simp [sem_Game__ranking_b, m_Game__ranking_b, lk, atR]
theorem turns_spec (a b : List Str) (t : Str) : sem_Game__turns [] [gm a b t] = .ok (.str t) ⟨[], []⟩ := by
  simp [sem_Game__turns, m_Game__turns, lk, atR]
def plD : List Bool → D
  | [] => .non
  | b :: _ => .str (lt b)
theorem player_spec (a b : List Str) {l : List Bool} (h : l.length ≤ 1000000) : sem_Game__player [] [gm a b (ltr l)] = .ok (plD l) ⟨[], []⟩ := by
  cases l with
  | nil =>
    rw [ltr_nil]
    simp [sem_Game__player, m_Game__player, lk, atR, plD]
  | cons p l =>
    have e := ltr_ne (b := p) (l := l)
    have e2 := ltr_at0 h
    simp [sem_Game__player, m_Game__player, lk, atR, plD, e, e2]
theorem ranking_spec (a b : List Str) (t : Str) (p : Bool) : sem_Game__ranking [] [gm a b t, .str (lt p)] = .ok (T (if p then a else b)) ⟨[], []⟩ := by
  have e := lt_isA p
  cases p with
  | true =>
    have e : lt true = "A" := of_decide_eq_true e
    simp [sem_Game__ranking, m_Game__ranking, lk, atR, e]
  | false =>
    have e : ¬ lt false = "A" := of_decide_eq_false e
    simp [sem_Game__ranking, m_Game__ranking, lk, atR, e]
theorem require_spec (a b : List Str) (p : Bool) (l : List Bool) : sem_Game__require_turn [] [gm a b (ltr (p :: l))] = .ok .non ⟨[], []⟩ := by
  have e := ltr_ne (b := p) (l := l)
  simp [sem_Game__require_turn, m_Game__require_turn, lk, atR, e]
theorem check_known_spec {x : Str} {a : List Str} (h : x ∈ a) : sem_check_known [] [.str x, T a] = .ok .non ⟨[], []⟩ := by
  have e1 := dNotIn_T x a
  have e3 : dIsi (.str x) (.raw (.ty "str")) = some (.bl true) := rfl
  simp [sem_check_known, m_check_known, e1, e3, h]
end LG

/-! LX: exchanges. -/
namespace LB
open PySem L2 DL
open PySem.Spec PyProof.Rows
def isEx (a b : List Str) (p : Str × Str) : Bool := decide (a.idxOf p.2 < a.idxOf p.1) && decide (b.idxOf p.1 < b.idxOf p.2)
/-- one of these, one of the others, in their order -/
def prs (a zs : List Str) : List (Str × Str) := zs.flatMap fun x => ((sortS a).filter fun y => !decide (y ∈ zs)).map fun y => (x, y)
def exF (a b zs : List Str) : Option (Str × Str) := (prs a zs).find? (isEx a b)
def encP (p : Str × Str) : D := .tup [.str p.1, .str p.2]
def encO : Option (Str × Str) → D
  | some p => encP p
  | none => .non
theorem dLt_nat (m n : Nat) : dLtI (.int m) (.int n) = some (.bl (decide (m < n))) := by
  have : decide ((m : Int) < n) = decide (m < n) := decide_eq_decide.mpr (by omega)
  rw [dLt_int, this]
theorem is_exchange_spec {a b : List Str} (h : Rk2 a b) {x y : Str} (hx : x ∈ a) (hy : y ∈ a) : sem_is_exchange [] [Pl a, Pl b, .str x, .str y] = .ok (.bl (isEx a b (x, y))) ⟨[], []⟩ := by
  have hx' := h.p.mem_iff.mpr hx
  have hy' := h.p.mem_iff.mpr hy
  have e1 := Pl_at h.ra.nd hx
  have e2 := Pl_at h.ra.nd hy
  have e3 := Pl_at h.b.nd hx'
  have e4 := Pl_at h.b.nd hy'
  have v1 : ∀ M, view M (Pl a) = Pl a := fun _ => rfl
  have v2 : ∀ M, view M (Pl b) = Pl b := fun _ => rfl
  have l1 := dLt_nat (a.idxOf y) (a.idxOf x)
  have l2 := dLt_nat (b.idxOf x) (b.idxOf y)
  unfold isEx
  by_cases c : a.idxOf y < a.idxOf x
  · rw [decide_eq_true c] at l1
    simp [-dLt_int, sem_is_exchange, m_is_exchange, e1, e2, e3, e4, v1, v2, l1, l2, c]
  · rw [decide_eq_false c] at l1
    simp [-dLt_int, sem_is_exchange, m_is_exchange, e1, e2, e3, e4, v1, v2, l1, l2, c]
theorem exchange_for_spec {a b zs : List Str} (h : Rk2 a b) (hs : St zs a) : sem_exchange_for [] [T a, T b, T zs] = .ok (encO (exF a b zs)) ⟨[], []⟩ := by
  have la := h.ra.le
  have lz : zs.length ≤ 40 := Nat.le_trans (hs.nd.length_le_of_subset fun z hz => hs.sub z hz) la
  have t1 := call_3 (check_division_Rk h hs (by omega)) (by simp) (by simp) (by simp) rfl
  have t2 := call_1 (places_of_spec h.ra.nd (by omega)) (by simp) (np_Pl a)
  have t3 := call_1 (places_of_spec h.b.nd (by have := h.b.le; omega)) (by simp) (np_Pl b)
  have e1 := srt_strs (zs := a) (by omega)
  obtain ⟨os, hos⟩ : ∃ os, os = (sortS a).filter fun y => !decide (y ∈ zs) := ⟨_, rfl⟩
  have hoa : ∀ y ∈ os, y ∈ a := fun y hy => by
    rw [hos] at hy
    exact (sortS_perm a).mem_iff.mp (List.mem_filter.mp hy).1
  have e2 := lcL_pure (d := .lst ((sortS a).map .str)) (M0 := []) (M := []) (env0 := [some (T a), some (T b), some (T zs), some (Pl a), some (Pl b), none, none, none, none]) (g := gVar 8) (tt := tOf (eOp dNotIn (eVar 8) (eVar 2))) (fe := e1_exchange_for)
    D.str (sortS a) (fun y => !decide (y ∈ zs)) D.str rfl (fun y hy => by
      by_cases c : y ∈ zs
      · simp [lcS, e1_exchange_for, dNotIn_T, c]
      · simp [lcS, e1_exchange_for, dNotIn_T, c]) (by rw [sortS_len]; omega)
  rw [← hos] at e2
  let st : Option D → Option D → DL.S := fun o6 o7 => ⟨[some (T a), some (T b), some (T zs), some (Pl a), some (Pl b), some (.lst (os.map .str)), o6, o7, none], []⟩
  have ep : prs a zs = zs.flatMap fun x => os.map fun y => (x, y) := by rw [hos]; rfl
  have main := forL_find (d := T zs) (M0 := []) (g := gVar 6) (body := b3_exchange_for) (els := sNx) D.str zs
    (fun p s => (p.flatMap fun x => os.map fun y => (x, y)).find? (isEx a b) = none ∧ ∃ o6 o7, s = st o6 o7)
    (fun o => match exF a b zs with
      | some q => ∃ e, o = .ok (.ret (encP q)) ⟨e, []⟩
      | none => ∃ o6 o7, o = .ok .nx (st o6 o7))
    (fun p x r s e ⟨h0, o6, o7, es⟩ => by
      subst es
      have hx : x ∈ a := hs.sub x (by rw [e]; simp)
      refine ⟨st (some (.str x)) o7, by simp [st], ?_⟩
      have inner := forL_find (d := .lst (os.map .str)) (M0 := []) (g := gVar 7) (body := b2_exchange_for) (els := sNx) D.str os
        (fun q s => (q.map fun y => (x, y)).find? (isEx a b) = none ∧ ∃ o7, s = st (some (.str x)) o7)
        (fun o => ((os.map fun y => (x, y)).find? (isEx a b) = none ∧ ∃ o7, o = .ok .nx (st (some (.str x)) o7)) ∨ ∃ y e, (os.map fun y => (x, y)).find? (isEx a b) = some (x, y) ∧ o = .ok (.ret (encP (x, y))) ⟨e, []⟩)
        (fun q y r2 s e2 ⟨h1, o7, es⟩ => by
          subst es
          have hy : y ∈ a := hoa y (by rw [e2]; simp)
          have tx := call_4 (is_exchange_spec h hx hy) (np_Pl a) (np_Pl b) rfl rfl rfl
          refine ⟨st (some (.str x)) (some (.str y)), by simp [st], ?_⟩
          cases hb : isEx a b (x, y) with
          | false =>
            rw [hb] at tx
            refine .inl ⟨st (some (.str x)) (some (.str y)), .inl (by simp [b2_exchange_for, st, tx]), by simp, ?_, _, rfl⟩
            rw [List.map_append, List.find?_append, h1]
            simp [hb]
          | true =>
            rw [hb] at tx
            refine .inr ⟨encP (x, y), st (some (.str x)) (some (.str y)), by simp [b2_exchange_for, st, tx, encP], .inr ⟨y, _, ?_, rfl⟩⟩
            rw [e2, List.map_append, List.find?_append, h1]
            simp [hb]) (s := st (some (.str x)) o7) ⟨rfl, _, rfl⟩ (fun s' ⟨h2, o7', es⟩ => by
              subst es
              exact .inl ⟨h2, _, rfl⟩)
      rcases inner with ⟨h2, o7', eo⟩ | ⟨y, en, h2, eo⟩
      · refine .inl ⟨st (some (.str x)) o7', .inl ?_, by simp, ?_, _, _, rfl⟩
        · simp only [b3_exchange_for]
          simp [st]
          exact eo
        · rw [List.flatMap_append, List.find?_append, h0]
          simp only [Option.none_or]
          simpa using h2
      · refine .inr ⟨encP (x, y), ⟨en, []⟩, ?_, ?_⟩
        · simp only [b3_exchange_for]
          simp [st]
          exact eo
        · have ef : exF a b zs = some (x, y) := by
            unfold exF
            rw [ep, e, List.flatMap_append, List.find?_append, h0, Option.none_or, List.flatMap_cons, List.find?_append, h2]
            rfl
          rw [ef]
          exact ⟨_, rfl⟩) (s := st none none) ⟨rfl, _, _, rfl⟩ (fun s' ⟨h0, o6, o7, es⟩ => by
        subst es
        have ef : exF a b zs = none := by unfold exF; rw [ep]; exact h0
        rw [ef]
        exact ⟨_, _, rfl⟩)
  have n1 := np_Pl a
  have n2 := np_Pl b
  cases hx : exF a b zs with
  | none =>
    rw [hx] at main
    obtain ⟨o6, o7, main⟩ := main
    simp [sem_exchange_for, m_exchange_for, t1, t2, t3, e1, e2]
    rw [show (⟨[some (T a), some (T b), some (T zs), some (Pl a), some (Pl b), some (.lst (os.map .str)), none, none, none], []⟩ : DL.S) = st none none from rfl, main]
    simp [st, encO]
  | some q =>
    rw [hx] at main
    obtain ⟨en, main⟩ := main
    simp [sem_exchange_for, m_exchange_for, t1, t2, t3, e1, e2]
    rw [show (⟨[some (T a), some (T b), some (T zs), some (Pl a), some (Pl b), some (.lst (os.map .str)), none, none, none], []⟩ : DL.S) = st none none from rfl, main]
    simp [encO, encP]
end LB

set_option pp.maxSteps 300
/-! LGT: games made, picks, sincere picking. -/
namespace LG
open PySem L2 DL LB LB2
open PySem.Spec PyProof.Rows
theorem is_turns_call {l : List Bool} {n : Nat} (h : l.length = n) (hl : n ≤ 40) (env : List (Option D)) (M : List (Option C)) : callS [false, false] sem_is_turns [.str (ltr l), .int n] ⟨env, M⟩ = .ok (.bl true) ⟨env, M⟩ := by
  have t := is_turns_spec (d := .str (ltr l)) (any_str (by rw [ltr_len]; omega)) (n : Int)
  rw [isTurns_ltr h] at t
  exact call_2 t rfl rfl rfl env M
theorem init_spec {a b : List Str} {l : List Bool} (h : Rk2 a b) (hl : l.length = a.length) : sem_Game____init__ [.obj "Game" []] [.ptr 0, T a, T b, .str (ltr l)] = .ok .non ⟨[], [some (.obj "Game" [("rows", .tup [T a, T b, .str (ltr l)])])]⟩ := by
  have la := h.ra.le
  have t1 := call_2 (check_rankings_Rk h) (by simp) (by simp) rfl
  have t2 := is_turns_call hl la
  have e : okM 1 ⟨[], [some (.obj "Game" [("rows", .tup [T a, T b, .str (ltr l)])])]⟩ = true := by simp [C.np]
  simp [sem_Game____init__, m_Game____init__, t1, t2, cFld, putFD, C.np]
theorem make_spec {a b : List Str} {l : List Bool} (h : Rk2 a b) (hl : l.length = a.length) (s : S) : makeS "Game" [false, false, false] sem_Game____init__ [T a, T b, .str (ltr l)] s = .ok (gm a b (ltr l)) s := by
  have t := init_spec h hl
  simp [makeS, t]
theorem flt_Rk2 {a b : List Str} (h : Rk2 a b) (x : Str) : Rk2 (a.filter fun y => !decide (y = x)) (b.filter fun y => !decide (y = x)) :=
  ⟨⟨fun z hz => h.ra.ok z (List.mem_filter.mp hz).1, h.ra.nd.sublist (List.filter_sublist), Nat.le_trans (List.length_filter_le _ _) h.ra.le⟩, h.p.filter _⟩
theorem flt_len {a : List Str} (h : a.Nodup) {x : Str} (hx : x ∈ a) : (a.filter fun y => !decide (y = x)).length + 1 = a.length := by
  have e : (a.filter fun y => !decide (y = x)) = a.erase x := by
    rw [h.erase_eq_filter]
    refine List.filter_congr fun y _ => ?_
    by_cases c : y = x <;> simp [c]
  rw [e, List.length_erase_of_mem hx]
  have := List.length_pos_of_mem hx
  omega
theorem flt_comp {M : List (Option C)} {env : List (Option D)} {a : List Str} {x : Str} {fe : DL.M D} (hfe : fe = eVar 5) (h1 : env[1]? = some (some (.str x))) (hl : env.length = 6) (ha : a.length < 1000000) :
    lcL (T a) M env (gVar 5) (tOf (eOp dNe (eVar 5) (eVar 1))) fe (a.map D.str) [] M = .ok ((a.filter fun y => !decide (y = x)).map D.str) ⟨env, M⟩ := by
  subst hfe
  refine lcL_pure (d := T a) (M0 := M) D.str a (fun y => !decide (y = x)) D.str (by rfl) (fun y hy => ?_) ha
  have e1 : (env.set 5 (some (D.str y)))[1]? = some (some (.str x)) := by rw [List.getElem?_set_ne (by decide)]; exact h1
  have e5 : 5 < env.length := by omega
  by_cases c : y = x <;> simp [lcS, e1, h1, e5, c]
theorem without_spec {a b : List Str} {t : Str} {l : List Bool} {x : Str} (h : Rk2 a b) (hx : x ∈ a) (hl : l.length + 1 = a.length) : sem_Game__without [] [gm a b t, .str x, .str (ltr l)] = .ok (gm (a.filter fun y => !decide (y = x)) (b.filter fun y => !decide (y = x)) (ltr l)) ⟨[], []⟩ := by
  have la := h.ra.le
  have lb := h.b.le
  have c1 := flt_comp (M := []) (env := [some (gm a b t), some (.str x), some (.str (ltr l)), none, none, none]) (a := a) (x := x) (fe := e1_Game__without) rfl rfl rfl (by omega)
  obtain ⟨a', ha'⟩ : ∃ a', a' = a.filter fun y => !decide (y = x) := ⟨_, rfl⟩
  have c2 := flt_comp (M := []) (env := [some (gm a b t), some (.str x), some (.str (ltr l)), some (T a'), none, none]) (a := b) (x := x) (fe := e2_Game__without) rfl rfl rfl (by omega)
  obtain ⟨b', hb'⟩ : ∃ b', b' = b.filter fun y => !decide (y = x) := ⟨_, rfl⟩
  have h2 := flt_Rk2 h x
  have hl2 := flt_len h.ra.nd hx
  rw [← ha'] at c1 h2 hl2
  rw [← hb'] at c2 h2
  rw [← ha', ← hb']
  have e2 : ∀ xs : List D, dTuple (.lst xs) = some (.tup xs) := fun _ => rfl
  have mk := make_spec h2 (l := l) (by omega)
  simp [sem_Game__without, m_Game__without, lk, atR, c1, c2, e2, mk]
theorem n_req : (("require_turn" : Str) == "rows") = false := by decide +kernel
theorem n_wo : (("without" : Str) == "rows") = false := by decide +kernel
theorem n_rk : (("ranking" : Str) == "rows") = false := by decide +kernel
theorem n_af : (("after" : Str) == "rows") = false := by decide +kernel
theorem after_spec {a b : List Str} {p : Bool} {l : List Bool} {x : Str} (h : Rk2 a b) (hx : x ∈ a) (hl : l.length + 1 = a.length) : sem_Game__after [] [gm a b (ltr (p :: l)), .str x] = .ok (gm (a.filter fun y => !decide (y = x)) (b.filter fun y => !decide (y = x)) (ltr l)) ⟨[], []⟩ := by
  have la := h.ra.le
  have t1 := call_1 (require_spec a b p l) (by simp) rfl
  have t2 := call_2 (check_known_spec hx) rfl (by simp) rfl
  have t3 := call_3 (without_spec (t := ltr (p :: l)) h hx hl) (by simp) rfl rfl (by simp)
  have c := ltr_cut (b := p) (l := l) (by rw [List.length_cons]; omega)
  have k1 := look0 (m := "require_turn") (f := "rows") (D.tup [T a, T b, .str (ltr (p :: l))]) n_req
  have k2 := look0 (m := "without") (f := "rows") (D.tup [T a, T b, .str (ltr (p :: l))]) n_wo
  simp [sem_Game__after, m_Game__after, k1, k2, t1, t2, t3, lk, atR, c]
theorem with_item_spec {za zb : List Str} {p : Bool} {x : Str} (la : za.length ≤ 1000) (lb : zb.length ≤ 1000) : sem_with_item [] [.tup [T za, T zb], .str (lt p), .str x] = .ok (.tup (if p then [T (sortS (za ++ [x])), T zb] else [T za, T (sortS (zb ++ [x]))])) ⟨[], []⟩ := by
  have e := lt_isA p
  cases p with
  | true =>
    have e : lt true = "A" := of_decide_eq_true e
    obtain ⟨w, hw⟩ : ∃ w, w = za ++ [x] := ⟨_, rfl⟩
    have a1 : dAdd (T za) (.tup [.str x]) = some (T w) := by
      rw [LF2.dAdd_tup, if_pos (by simp; omega), hw]; simp
    have t := call_1 (as_set_spec (zs := w) (by rw [hw]; simp; omega)) (by simp) (by simp)
    rw [← hw]
    simp [sem_with_item, m_with_item, e, a1, t]
  | false =>
    have e : ¬ lt false = "A" := of_decide_eq_false e
    obtain ⟨w, hw⟩ : ∃ w, w = zb ++ [x] := ⟨_, rfl⟩
    have a1 : dAdd (T zb) (.tup [.str x]) = some (T w) := by
      rw [LF2.dAdd_tup, if_pos (by simp; omega), hw]; simp
    have t := call_1 (as_set_spec (zs := w) (by rw [hw]; simp; omega)) (by simp) (by simp)
    rw [← hw]
    simp [sem_with_item, m_with_item, e, a1, t]
end LG

set_option pp.maxSteps 300
/-! LF3S: letters drawn. -/
namespace LF3
open PySem L2 DL LB
open LF2 (Pool take_spec call_tf)
open PySem.Spec PyProof.Rows
theorem join_ltr (l : List Bool) (h : l.length ≤ 1000000) : dJoin (.str "") (.lst (l.map fun b => D.str (lt b))) = some (.str (ltr l)) := by
  have := dJoin_signs (l.map lc) (by rw [List.length_map]; exact h)
  rw [List.map_map] at this
  exact this
theorem letters_spec {c : C} {n : Nat} (hc : Pool c) (hn : n ≤ 1000) : ∃ (c' : C) (l : List Bool), Pool c' ∧ l.length = n ∧ sem__law_letters [c] [.ptr 0, .int n] = .ok (.str (ltr l)) ⟨[], [some c']⟩ := by
  have rng : rngOk (n : Int) = true := by simp [rngOk]; omega
  obtain ⟨acc, M', ⟨c', l, hc', hl, eM, ea⟩, _, h⟩ := lcL_inv (d := .tup [.int 0, .int n]) (M0 := [some c]) (env0 := [some (.ptr 0), some (.int n), none]) (g := gVar 2) (tt := tYesM) (fe := e1__law_letters)
    (fun i : Nat => D.int i) (List.range n) (fun p acc M => ∃ (c' : C) (l : List Bool), Pool c' ∧ l.length = p.length ∧ M = [some c'] ∧ acc = l.map fun b => D.str (lt b)) (fun p x r acc M e ⟨c1, l, hc1, hl, eM, ea⟩ => by
      subst eM ea
      obtain ⟨c2, w, hc2, w0, w2, ht⟩ := take_spec (n := 2) hc1 (by decide) (by decide)
      have t1 := call_tf ht hc1.np rfl rfl hc2.np
      have key : ∃ b : Bool, atI [D.str "A", D.str "B"] w = some (.str (lt b)) := by
        rcases (show w = 0 ∨ w = 1 by omega) with rfl | rfl
        · exact ⟨true, by rw [lt_A]; rfl⟩
        · exact ⟨false, by rw [lt_B]; rfl⟩
      obtain ⟨b, k1⟩ := key
      exact ⟨some (.str (lt b)), [some c2], by simp [lcS, t1, e1__law_letters, k1], by simp, c2, l ++ [b], hc2, by simp [hl], rfl, by simp⟩) (by rw [List.length_range]; omega) (M := [some c]) ⟨c, [], hc, rfl, rfl, rfl⟩
  subst eM ea
  rw [List.length_range] at hl
  have j := join_ltr l (by omega)
  refine ⟨c', l, hc', hl, ?_⟩
  simp [sem__law_letters, m__law_letters, rng, h, j, hc'.np]
end LF3

set_option pp.maxSteps 300
/-! LT: texts cut, joined, raised lines; of use to several laws. -/
namespace LT
open PySem L2 DL LB
open PySem.Spec PyProof.Rows
open LF2 (dAdd_tup dAdd_lst dSl_lst_to cut_from)
@[simp] theorem sRaise_eq (x f : Str) (fe : M D) (s : S) : sRaise x f fe s = (fe s).bind fun d s1 => .exc x [(f, d)] s1 := (rfl)
@[simp] theorem fin_exc (n : Nat) (c : Str) (fs : List (Str × D)) (s : S) : fin n (.exc c fs s) = if (npF fs && okM n s) = true then .exc c fs ⟨[], s.M.take n⟩ else .fail := (rfl)
@[simp] theorem eOrS_eq (f g : M D) (s : S) : eOrS f g s = (f s).bind fun d s1 => match view s1.M d with
  | .str z => if z.length ≤ 1000000 then (if z.length = 0 then g s1 else .ok (.str z) s1) else .fail
  | _ => .fail := (rfl)
def OkT (z : Str) : Prop := PyData.strOk z = true ∧ z.length ≤ 900
theorem join_mem {y : Str} : ∀ {ps : List Str} {p : Str} {c : Nat}, p ∈ ps → c ∈ p.cps.toList → c ∈ (Str.join y ps).cps.toList
  | [x], p, c, hp, hc => by
    rw [List.mem_singleton.mp hp] at hc
    exact hc
  | x :: x2 :: r, p, c, hp, hc => by
    have e : Str.join y (x :: x2 :: r) = x ++ y ++ Str.join y (x2 :: r) := rfl
    have e2 : (x ++ y ++ Str.join y (x2 :: r)).cps.toList = x.cps.toList ++ y.cps.toList ++ (Str.join y (x2 :: r)).cps.toList := by
      show ((x.cps ++ y.cps) ++ (Str.join y (x2 :: r)).cps).toList = _
      simp
    rw [e, e2]
    rcases List.mem_cons.mp hp with hp | hp
    · subst hp; simp [hc]
    · have := join_mem (y := y) hp hc
      simp [this]
theorem split_ok {z y : Str} (h : OkT z) : ∀ p ∈ Txt.split z y, OkT p := fun p hp => by
  refine ⟨?_, Nat.le_trans (part_short hp) h.2⟩
  refine ok_of_signs fun c hc => ?_
  have hm := join_mem (y := y) hp hc
  rw [StrLaws.join_split] at hm
  have := h.1
  unfold PyData.strOk at this
  rw [← Array.all_toList, List.all_eq_true] at this
  exact of_decide_eq_true (this c hm)
theorem split_cnt {z y : Str} (h : OkT z) : (Txt.split z y).length ≤ 902 := Nat.le_trans (split_le z y) (by have := h.2; omega)
theorem split_ev {z y : Str} (h : z.length ≤ 900000) (hy : (y.length == 0) = false) : dSS dSplit (.str z) (.str y) = some (.lst ((Txt.split z y).map .str)) := by
  show dSplit z y = _
  unfold dSplit
  rw [if_pos ⟨hy, by unfold le1m; exact decide_eq_true (by omega)⟩]
theorem y1 : ((" " : Str).length == 0) = false := by decide +kernel
theorem call_1x {sem : Sem} {d : D} {n : Str} {fs : List (Str × D)} (hs : sem [] [d] = .exc n fs ⟨[], []⟩) (hd : DL.np d = true) (hf : npF fs = true) (env : List (Option D)) (M : List (Option C)) : callS [false] sem [d] ⟨env, M⟩ = .exc n fs ⟨env, M⟩ := by
  have nd : ∀ k, d ≠ .ptr k := fun k e => by subst e; cases hd
  unfold callS
  rw [prep_fv nd, if_pos hd, prep_nil]
  dsimp only [Option.map_some]
  rw [if_pos ⟨by simp, by simp⟩, hs]
  simp [hf]
@[simp] theorem sTry_eq (fb : M Fl) (hs : List Cl) (s : S) : sTry fb hs s = match fb s with
  | .exc n fs s2 => catchX hs n fs s2
  | o => o := (rfl)
def enumN : Nat → List Str → List (Nat × Str)
  | _, [] => []
  | k, w :: ws => (k, w) :: enumN (k + 1) ws
def enD (p : Nat × Str) : D := .kt [.int p.1, .str p.2]
theorem enum_eq : ∀ (ws : List Str) (k : Nat), enumL k (ws.map D.str) = (enumN k ws).map enD
  | [], _ => rfl
  | w :: ws, k => by
    have := enum_eq ws (k + 1)
    simp only [List.map_cons, enumN]
    unfold enumL
    rw [this]
    rfl
theorem enumN_len : ∀ (ws : List Str) (k : Nat), (enumN k ws).length = ws.length
  | [], _ => rfl
  | w :: ws, k => by simp only [enumN, List.length_cons, enumN_len ws]
theorem enumN_mem : ∀ (ws pre : List Str) {p : Nat × Str}, p ∈ enumN pre.length ws → ∃ u v, ws = u ++ p.2 :: v ∧ p.1 = pre.length + u.length
  | [], _, p, h => by simp [enumN] at h
  | w :: ws, pre, p, h => by
    simp only [enumN, List.mem_cons] at h
    rcases h with rfl | h
    · exact ⟨[], ws, rfl, rfl⟩
    · have h : p ∈ enumN (pre ++ [w]).length ws := by simpa using h
      obtain ⟨u, v, e1, e2⟩ := enumN_mem ws (pre ++ [w]) h
      exact ⟨w :: u, v, by rw [e1]; rfl, by rw [e2]; simp; omega⟩
theorem enumN_of : ∀ (ws pre u v : List Str) {x : Str}, ws = u ++ x :: v → (pre.length + u.length, x) ∈ enumN pre.length ws
  | [], _, u, v, x, h => by simp at h
  | w :: ws, pre, [], v, x, h => by
    injection h with h1 h2
    subst h1
    simp [enumN]
  | w :: ws, pre, y :: u, v, x, h => by
    injection h with h1 h2
    have := enumN_of ws (pre ++ [w]) u v h2
    simp only [enumN, List.mem_cons]
    refine .inr ?_
    simpa [Nat.add_assoc, Nat.add_comm 1] using this
theorem nd_of : ∀ ws : List Str, (∀ u x v, ws = u ++ x :: v → x ∉ u) → ws.Nodup
  | [], _ => List.nodup_nil
  | x :: r, h => by
    refine List.nodup_cons.mpr ⟨fun hx => ?_, nd_of r fun u y v e hy => ?_⟩
    · obtain ⟨u, v, e⟩ := List.append_of_mem hx
      exact h (x :: u) x v (by rw [e]; rfl) (List.mem_cons_self ..)
    · exact h (x :: u) y v (by rw [e]; rfl) (List.mem_cons_of_mem _ hy)
theorem dNe_L {zs ws : List Str} (h1 : DL.Ok zs) (h2 : DL.Ok ws) : dNe (.lst (zs.map .str)) (.lst (ws.map .str)) = some (.bl (!decide (zs = ws))) := by
  rw [dNe_pd (p := .list (zs.map .str)) (q := .list (ws.map .str)) (by simp only [pd, pdL_strs, Option.map_some]) (by simp only [pd, pdL_strs, Option.map_some]) (shaped_lst h1) (shaped_lst h2) rfl]
  simp only [PyData.eqv, eqvAll_strs]
theorem app_cps (a b : Str) : (a ++ b).cps = a.cps ++ b.cps := rfl
theorem app_len (a b : Str) : (a ++ b).length = a.length + b.length := by
  show (a ++ b).cps.size = _
  rw [app_cps, Array.size_append]; rfl
theorem sok_mem {z : Str} (h : PyData.strOk z = true) : ∀ c ∈ z.cps.toList, c < 0x110000 := fun c hc => by
  unfold PyData.strOk at h
  rw [← Array.all_toList, List.all_eq_true] at h
  exact of_decide_eq_true (h c hc)
theorem sok_app {a b : Str} (ha : PyData.strOk a = true) (hb : PyData.strOk b = true) : PyData.strOk (a ++ b) = true := by
  refine ok_of_signs fun c hc => ?_
  rw [app_cps, Array.toList_append] at hc
  rcases List.mem_append.mp hc with h | h
  · exact sok_mem ha c h
  · exact sok_mem hb c h
theorem cutS_ok {z : Str} (h : PyData.strOk z = true) (lo hi : Option Int) : PyData.strOk (cutS z lo hi) = true ∧ (cutS z lo hi).length ≤ z.length := by
  constructor
  · refine ok_of_signs fun c hc => ?_
    unfold cutS at hc
    rw [List.toList_toArray] at hc
    exact sok_mem h c (List.mem_of_mem_drop (List.mem_of_mem_take hc))
  · show (_ : List Nat).toArray.size ≤ z.cps.size
    rw [List.size_toArray, List.length_take, List.length_drop, Array.length_toList]
    omega
theorem join_ok {y : Str} (hy : PyData.strOk y = true) : ∀ ps : List Str, (∀ p ∈ ps, PyData.strOk p = true) → PyData.strOk (Str.join y ps) = true ∧ (Str.join y ps).length ≤ (ps.map (·.length)).sum + ps.length * y.length
  | [], _ => ⟨by show PyData.strOk Str.empty = true; decide +kernel, by show Str.empty.length ≤ _; exact Nat.zero_le _⟩
  | [x], h => ⟨h x (by simp), by show x.length ≤ _; simp⟩
  | x :: x2 :: r, h => by
    have e : Str.join y (x :: x2 :: r) = x ++ y ++ Str.join y (x2 :: r) := rfl
    obtain ⟨h1, h2⟩ := join_ok hy (x2 :: r) fun p hp => h p (List.mem_cons_of_mem _ hp)
    rw [e]
    refine ⟨sok_app (sok_app (h x (by simp)) hy) h1, ?_⟩
    rw [app_len, app_len, List.map_cons, List.sum_cons, List.length_cons, Nat.succ_mul]
    omega
theorem tjoin (y : Str) (ps : List Str) : Txt.join y ps = Str.join y ps := by
  have := join_plain_closes y ps
  simpa using this
theorem dJoin_str {y : Str} {ps : List Str} (h : (ps.map (·.length)).sum + ps.length * y.length ≤ 100000) : dJoin (.str y) (.lst (ps.map .str)) = some (.str (Str.join y ps)) := by
  unfold dJoin
  have e : (seqD (.lst (ps.map D.str))).bind strsD = some ps := strsD_map ps
  dsimp only
  rw [e]
  dsimp only
  rw [if_pos (by omega), tjoin]
theorem dAdd_str {a b : Str} (h : a.length + b.length ≤ 1000000) : dAdd (.str a) (.str b) = some (.str (a ++ b)) := by
  have e : dAddS (.str a) (.str b) = some (.str (a ++ b)) := by
    unfold dAddS
    dsimp only
    rw [if_pos h]
  show (match dAddS (.str a) (.str b) with | some z' => some z' | none => _) = _
  rw [e]
theorem dSl_str (z : Str) (lo hi : Option Int) (h : z.length ≤ 1000000) : dSl (.str z) lo hi = some (.str (cutS z lo hi)) := by
  simp only [dSl]
  rw [if_pos (by unfold le1m; exact decide_eq_true h)]
theorem len_sum (ws : List Str) (k : Nat) : ((ws.drop k ++ ws.take k).map (·.length)).sum + (ws.drop k ++ ws.take k).length = (ws.map (·.length)).sum + ws.length := by
  have p : (ws.drop k ++ ws.take k).Perm ws := (List.perm_append_comm).trans (by rw [List.take_append_drop])
  rw [p.length_eq, (p.map (·.length)).sum_nat]
theorem sum_le {ws : List Str} {n : Nat} (h : ∀ w ∈ ws, w.length ≤ n) : (ws.map (·.length)).sum ≤ ws.length * n := by
  induction ws with
  | nil => simp
  | cons w ws ih =>
    have := ih fun x hx => h x (List.mem_cons_of_mem _ hx)
    have h0 := h w (by simp)
    rw [List.map_cons, List.sum_cons, List.length_cons, Nat.succ_mul]
    omega
theorem spx : PyData.strOk " " = true ∧ (" " : Str).length = 1 ∧ PyData.strOk " | " = true ∧ (" | " : Str).length = 3 ∧ PyData.strOk "-" = true ∧ ("-" : Str).length = 1 := by decide +kernel
theorem show_strs (zs : List Str) : PyData.showableAll (zs.map PyData.str) = true := by
  induction zs with
  | nil => rfl
  | cons z zs ih => rw [List.map_cons]; simp only [PyData.showableAll, PyData.showable, ih, Bool.and_self]
theorem dict_strs (zs : List Str) : PyData.hasDictAll (zs.map PyData.str) = false := by
  induction zs with
  | nil => rfl
  | cons z zs ih => rw [List.map_cons]; simp only [PyData.hasDictAll, PyData.hasDict, ih, Bool.or_self]
theorem short_strs {zs : List Str} (h : ∀ z ∈ zs, PyData.strOk z = true) : PyData.leavesShortAll 8 (zs.map PyData.str) = true := by
  induction zs with
  | nil => rfl
  | cons z zs ih =>
    rw [List.map_cons]
    simp only [PyData.leavesShortAll, PyData.leavesShort, ih fun x hx => h x (List.mem_cons_of_mem _ hx), Bool.and_true]
    rw [List.all_eq_true]
    intro c hc
    have := sok_mem (h z (by simp)) c hc
    exact decide_eq_true (by omega)
theorem weight_strs {zs : List Str} (h : ∀ z ∈ zs, z.length ≤ 8) : PyData.weightAll (zs.map PyData.str) ≤ zs.length * 9 := by
  induction zs with
  | nil => simp [PyData.weightAll]
  | cons z zs ih =>
    have := ih fun x hx => h x (List.mem_cons_of_mem _ hx)
    have hz : z.cps.size ≤ 8 := h z (by simp)
    rw [List.map_cons]
    simp only [PyData.weightAll, PyData.weight, List.length_cons, Nat.succ_mul]
    omega
theorem eq_div {a b : List Str} (ha : DL.Ok a) (hb : DL.Ok b) : dEq (.tup [T a, T b]) (.tup [T a, T b]) = some (.bl true) := by
  have e1 : pd (.tup [T a, T b]) = some (.tuple [.tuple (a.map .str), .tuple (b.map .str)]) := by
    simp only [pd, pdL, pdL_strs, Option.map_some]
  have s1 : SeqAt.shaped (.tuple [.tuple (a.map PyData.str), .tuple (b.map PyData.str)]) = true := by
    have c1 := can_strs ha
    have c2 := can_strs hb
    have d1 := depth_strs a
    have d2 := depth_strs b
    unfold SeqAt.shaped
    have h1 : (PyData.tuple [.tuple (a.map PyData.str), .tuple (b.map PyData.str)]).canLay0 = true := by
      simp only [PyData.canLay0, PyData.canLayAll0, c1, c2, Bool.and_self]
    have h2 : (PyData.tuple [.tuple (a.map PyData.str), .tuple (b.map PyData.str)]).depth ≤ 64 := by
      simp only [PyData.depth, PyData.depthAll]
      omega
    rw [h1, decide_eq_true h2]; rfl
  rw [dEq_pd e1 e1 s1 s1 rfl]
  simp [PyData.eqv, PyData.eqvAll, eqvAll_strs]
end LT

set_option pp.maxSteps 300
/-! LPS: what the program reads from a game's text. -/
namespace LP
open PySem L2 DL LB LB2 LG LT
open PySem.Spec PyProof.Rows
open LF2 (dAdd_tup dAdd_lst dSl_lst_to)
theorem call_anyx {io : List Bool} {sem : Sem} {ds : List D} {n : Str} {fs : List (Str × D)} (hio : ∀ b ∈ io, b = false) (hl : ds.length = io.length) (hd : npL ds = true) (hf : npF fs = true) (hs : sem [] ds = .exc n fs ⟨[], []⟩) (env : List (Option D)) (M : List (Option C)) : callS io sem ds ⟨env, M⟩ = .exc n fs ⟨env, M⟩ := by
  have key : ∀ (io : List Bool) (ds : List D) (j : Nat), (∀ b ∈ io, b = false) → ds.length = io.length → npL ds = true → prep M io ds j = some ⟨[], [], ds, []⟩ := by
    intro io
    induction io with
    | nil =>
      intro ds j _ hl _
      cases ds with
      | nil => rfl
      | cons _ _ => simp at hl
    | cons b io ih =>
      intro ds j hio hl hd
      cases ds with
      | nil => simp at hl
      | cons d ds =>
        have eb := hio b (List.mem_cons_self ..)
        subst eb
        simp only [npL_cons, Bool.and_eq_true] at hd
        have nd : ∀ k, d ≠ .ptr k := fun k e => by subst e; cases hd.1
        rw [prep_fv nd, if_pos hd.1, ih ds j (fun b hb => hio b (List.mem_cons_of_mem _ hb)) (by simpa using hl) hd.2]
        rfl
  unfold callS
  rw [key io ds 0 hio hl hd]
  dsimp only
  rw [if_pos ⟨by simp, by simp⟩, hs]
  simp [hf]
@[simp] theorem hStar_eq (h : List D → M Unit) (d : D) (s : DL.S) : hStar h d s = match view s.M d with
  | .lst (x :: xs) => if xs.length ≤ 16000 then h [x, .lst xs] s else .fail
  | _ => .fail := (rfl)
/-- what comes back, or the line that is wrong -/
def outX {α : Type} (i : Nat) (enc : α → D) : Option α → Out D
  | some a => .ok (enc a) ⟨[], []⟩
  | none => .exc "InvalidText" [("line", .int i)] ⟨[], []⟩
def headR (w : Str) : List Str → Option (List Str)
  | f :: r => if f = w then some r else none
  | [] => none
def rowR (ls : List Str) (i : Nat) (w : Str) : Option (List Str) := (ls[i]?).bind fun l => headR w (Txt.split l " ")
abbrev L (zs : List Str) : D := .lst (zs.map .str)
/-- texts of the law, few of them -/
structure OkLs (ls : List Str) : Prop where
  ok : ∀ l ∈ ls, OkT l
  le : ls.length ≤ 902
theorem rowR_ok {ls : List Str} {i : Nat} {w : Str} {r : List Str} (h : OkLs ls) (e : rowR ls i w = some r) : (∀ p ∈ r, OkT p) ∧ r.length ≤ 902 := by
  unfold rowR at e
  cases hl : ls[i]? with
  | none => rw [hl] at e; cases e
  | some l =>
    rw [hl] at e
    have hm := h.ok l (List.mem_of_getElem? hl)
    have ps := split_ok (y := " ") hm
    have pc := split_cnt (y := " ") hm
    have e : headR w (Txt.split l " ") = some r := e
    cases q : Txt.split l " " with
    | nil => rw [q] at e; cases e
    | cons f t =>
      rw [q] at e ps pc
      have e : (if f = w then some t else none) = some r := e
      split at e
      · cases e
        exact ⟨fun p hp => ps p (List.mem_cons_of_mem _ hp), by rw [List.length_cons] at pc; omega⟩
      · cases e
theorem row_in_spec {ls : List Str} (h : OkLs ls) {i : Nat} {w : Str} (hi : i ≤ 100) : sem_row_in [] [L ls, .int i, .str w] = outX i L (rowR ls i w) := by
  by_cases hi : i < ls.length
  · have hi' : ¬ ((ls.length : Int) ≤ (i : Int)) := by omega
    have a1 : atI (ls.map D.str) (i : Int) = some (.str ls[i]) := by
      rw [atI_nat (by rw [List.length_map]; exact hi), List.getElem?_map, List.getElem?_eq_getElem hi]; rfl
    have hm := h.ok ls[i] (List.getElem_mem hi)
    have s1 := split_ev (z := ls[i]) (y := " ") (by have := hm.2; omega) y1
    have pc := split_cnt (y := " ") hm
    have pp := split_pos ls[i] " "
    have er : rowR ls i w = headR w (Txt.split ls[i] " ") := by
      unfold rowR
      rw [List.getElem?_eq_getElem hi]; rfl
    rw [er]
    obtain ⟨ps, hps⟩ : ∃ ps, ps = Txt.split ls[i] " " := ⟨_, rfl⟩
    rw [← hps] at s1 pc pp ⊢
    cases ps with
    | nil => simp at pp
    | cons f r =>
      rw [List.length_cons] at pc
      have l16 : r.length ≤ 16000 := by omega
      have s1 : dSS dSplit (.str ls[i]) (.str " ") = some (.lst (.str f :: r.map .str)) := s1
      have e : headR w (f :: r) = if f = w then some r else none := rfl
      rw [e]
      by_cases c : f = w
      · simp [sem_row_in, m_row_in, hi', a1, s1, l16, c, outX]
      · simp [sem_row_in, m_row_in, hi', a1, s1, l16, c, outX]
  · have hi' : (ls.length : Int) ≤ (i : Int) := by omega
    have er : rowR ls i w = none := by
      unfold rowR
      rw [List.getElem?_eq_none (by omega)]; rfl
    rw [er]
    simp [sem_row_in, m_row_in, hi', outX]
def rkB (r : List Str) : Bool := r.all okItem && decide r.Nodup && decide (r.length ≤ 40)
def rkR (ls : List Str) (i : Nat) (w : Str) : Option (List Str) := (rowR ls i w).bind fun r => if rkB r = true then some r else none
theorem rkB_Rk {r : List Str} (h : rkB r = true) : Rk r := by
  unfold rkB at h
  simp only [Bool.and_eq_true, decide_eq_true_eq, List.all_eq_true] at h
  exact ⟨h.1.1, h.1.2, h.2⟩
theorem row_call {ls : List Str} (h : OkLs ls) {i : Nat} {w : Str} (hi : i ≤ 100) (env : List (Option D)) (M : List (Option C)) : callS [false, false, false] sem_row_in [L ls, .int i, .str w] ⟨env, M⟩ = match rowR ls i w with
    | some r => .ok (L r) ⟨env, M⟩
    | none => .exc "InvalidText" [("line", .int i)] ⟨env, M⟩ := by
  have t := row_in_spec h (w := w) hi
  cases e : rowR ls i w with
  | some r =>
    rw [e] at t
    exact call_3 t (by simp) rfl rfl (by simp) env M
  | none =>
    rw [e] at t
    exact call_anyx (by simp) rfl (by simp) (by simp) t env M
theorem ranking_in_spec {ls : List Str} (h : OkLs ls) {i : Nat} {w : Str} (hi : i ≤ 100) : sem_ranking_in [] [L ls, .int i, .str w] = outX i T (rkR ls i w) := by
  have t1 := row_call h (w := w) hi
  have e2 : ∀ xs : List D, dTuple (.lst xs) = some (.tup xs) := fun _ => rfl
  unfold rkR
  cases e : rowR ls i w with
  | none =>
    simp only [e] at t1
    simp [sem_ranking_in, m_ranking_in, t1, outX]
  | some r =>
    simp only [e] at t1
    obtain ⟨k1, k2⟩ := rowR_ok h e
    have t2 := call_1 (is_ranking_spec (d := T r) any_T (by simp) (tp_T (fun p hp => by have := (k1 p hp).2; omega) (by omega))) (by simp) rfl
    rw [isRank_T] at t2
    have er : (Option.bind (some r) fun r => if rkB r = true then some r else none) = if rkB r = true then some r else none := rfl
    rw [er]
    have eb : (r.all okItem && decide r.Nodup && decide (r.length ≤ 40)) = rkB r := rfl
    rw [eb] at t2
    cases c : rkB r with
    | true =>
      rw [c] at t2
      simp [sem_ranking_in, m_ranking_in, t1, e2, t2, outX]
    | false =>
      rw [c] at t2
      simp [sem_ranking_in, m_ranking_in, t1, e2, t2, outX]
def tnO (n : Nat) : List Str → Option Str
  | [] => if n = 0 then some "" else none
  | [t] => if (!decide (t = "") && isTurns (.str t) n) = true then some t else none
  | _ => none
def tnR (ls : List Str) (n : Nat) : Option Str := (rowR ls 2 "turns").bind (tnO n)
theorem turns_in_spec {ls : List Str} (h : OkLs ls) {n : Nat} : sem_turns_in [] [L ls, .int 2, .int n] = outX 2 .str (tnR ls n) := by
  have t1 := row_call h (i := 2) (w := "turns") (by decide)
  unfold tnR
  cases e : rowR ls 2 "turns" with
  | none =>
    simp only [e] at t1
    have t1 : ∀ env M, callS [false, false, false] sem_row_in [L ls, .int 2, .str "turns"] ⟨env, M⟩ = .exc "InvalidText" [("line", .int 2)] ⟨env, M⟩ := t1
    simp [sem_turns_in, m_turns_in, t1, outX]
  | some r =>
    simp only [e] at t1
    obtain ⟨k1, k2⟩ := rowR_ok h e
    have er : (Option.bind (some r) (tnO n)) = tnO n r := rfl
    rw [er]
    have t1 : ∀ env M, callS [false, false, false] sem_row_in [L ls, .int 2, .str "turns"] ⟨env, M⟩ = .ok (L r) ⟨env, M⟩ := t1
    have cn := (cmp_nil (ds := r.map D.str) fun x hx => by
      obtain ⟨p, hp, rfl⟩ := List.mem_map.mp hx
      exact Pdo.str (k1 p hp).1).1
    match r, k1, k2 with
    | [], _, _ =>
      have et : tnO n [] = if n = 0 then some ("" : Str) else none := rfl
      rw [et]
      have t1 : ∀ env M, callS [false, false, false] sem_row_in [L ls, .int 2, .str "turns"] ⟨env, M⟩ = .ok (.lst []) ⟨env, M⟩ := t1
      have cn : dEq (.lst []) (.lst []) = some (.bl true) := cn
      by_cases c : n = 0
      · have c2 : (n : Int) = 0 := by omega
        simp [sem_turns_in, m_turns_in, t1, cn, c, c2, outX]
      · have c2 : ¬ (n : Int) = 0 := by omega
        simp [sem_turns_in, m_turns_in, t1, cn, c, c2, outX]
    | [t], k1, _ =>
      have et : tnO n [t] = if (!decide (t = "") && isTurns (.str t) n) = true then some t else none := rfl
      rw [et]
      have t1 : ∀ env M, callS [false, false, false] sem_row_in [L ls, .int 2, .str "turns"] ⟨env, M⟩ = .ok (.lst [.str t]) ⟨env, M⟩ := t1
      have cn : dEq (.lst [.str t]) (.lst []) = some (.bl false) := by
        have := cn
        simpa using this
      have a0 : atI [D.str t] 0 = some (.str t) := rfl
      have t2 := call_2 (is_turns_spec (d := .str t) (any_str (by have := (k1 t (by simp)).2; omega)) (n : Int)) rfl rfl rfl
      by_cases c : t = ""
      · subst c
        simp [sem_turns_in, m_turns_in, t1, cn, a0, outX]
      · cases c2 : isTurns (.str t) n with
        | true =>
          rw [c2] at t2
          simp [sem_turns_in, m_turns_in, t1, cn, a0, c, t2, outX]
        | false =>
          rw [c2] at t2
          simp [sem_turns_in, m_turns_in, t1, cn, a0, c, t2, outX]
    | x :: y :: z, _, _ =>
      have et : tnO n (x :: y :: z) = none := rfl
      rw [et]
      have cn : dEq (.lst ((x :: y :: z).map D.str)) (.lst []) = some (.bl false) := by
        have := cn
        simpa using this
      have ln : ¬ (((x :: y :: z).map D.str).length : Int) = 1 := by simp; omega
      obtain ⟨Y, hY⟩ : ∃ Y, Y = (x :: y :: z).map D.str := ⟨_, rfl⟩
      have t1 : ∀ env M, callS [false, false, false] sem_row_in [L ls, .int 2, .str "turns"] ⟨env, M⟩ = .ok (.lst Y) ⟨env, M⟩ := by rw [hY]; exact t1
      rw [← hY] at cn ln
      simp [sem_turns_in, m_turns_in, t1, cn, ln, outX]
/-- letters from a text that is turns -/
theorem turns_ltr {t : Str} {n : Nat} (h : isTurns (.str t) n = true) : ∃ l : List Bool, t = ltr l ∧ l.length = n := by
  unfold isTurns at h
  simp only [Bool.and_eq_true, decide_eq_true_eq, List.all_eq_true] at h
  obtain ⟨h1, h2⟩ := h
  refine ⟨t.cps.toList.map fun c => decide (c = 65), ?_, by rw [List.length_map]; exact Int.ofNat.inj ((show ((t.cps.toList.length : Nat) : Int) = (t.length : Int) by simp [Str.length]).trans h1)⟩
  have e : (t.cps.toList.map fun c => decide (c = 65)).map lc = t.cps.toList := by
    rw [List.map_map]
    refine (List.map_congr_left fun c hc => ?_).trans (List.map_id _)
    have := h2 c hc
    rw [okP_eq, Bool.or_eq_true, decide_eq_true_eq, decide_eq_true_eq] at this
    rcases this with rfl | rfl <;> rfl
  obtain ⟨a⟩ := t
  unfold ltr
  rw [e]
theorem tnO_ltr {n : Nat} {r : List Str} {t : Str} (h : tnO n r = some t) : ∃ l : List Bool, t = ltr l ∧ l.length = n := by
  match r, h with
  | [], h =>
    have h : (if n = 0 then some ("" : Str) else none) = some t := h
    split at h
    · rename_i e
      cases h
      exact ⟨[], ltr_nil.symm, e.symm⟩
    · cases h
  | [u], h =>
    have h : (if (!decide (u = "") && isTurns (.str u) n) = true then some u else none) = some t := h
    split at h
    · rename_i c
      cases h
      simp only [Bool.and_eq_true] at c
      exact turns_ltr c.2
    · cases h
/-- what a game's text holds, or the line -/
inductive GR where
  | bad (i : Nat)
  | good (a b : List Str) (t : Str)
def turR (ls a b : List Str) : Option Str → GR
  | none => .bad 2
  | some t => if 3 < ls.length then .bad 3 else .good a b t
def secR (ls a : List Str) : Option (List Str) → GR
  | none => .bad 1
  | some b => if sortS a = sortS b then turR ls a b (tnR ls a.length) else .bad 1
def fstR (ls : List Str) : Option (List Str) → GR
  | none => .bad 0
  | some a => secR ls a (rkR ls 1 "B")
def gameR (ls : List Str) : GR := fstR ls (rkR ls 0 "A")
def outG : GR → Out D
  | .bad i => .exc "InvalidText" [("line", .int i)] ⟨[], []⟩
  | .good a b t => .ok (gm a b t) ⟨[], []⟩
theorem rkR_Rk {ls : List Str} {i : Nat} {w : Str} {r : List Str} (e : rkR ls i w = some r) : Rk r := by
  unfold rkR at e
  cases q : rowR ls i w with
  | none => rw [q] at e; cases e
  | some u =>
    rw [q] at e
    have e : (if rkB u = true then some u else none) = some r := e
    split at e
    · rename_i c; cases e; exact rkB_Rk c
    · cases e
theorem rk_call {ls : List Str} (h : OkLs ls) {i : Nat} {w : Str} (hi : i ≤ 100) (env : List (Option D)) (M : List (Option C)) : callS [false, false, false] sem_ranking_in [L ls, .int i, .str w] ⟨env, M⟩ = match rkR ls i w with
    | some r => .ok (T r) ⟨env, M⟩
    | none => .exc "InvalidText" [("line", .int i)] ⟨env, M⟩ := by
  have t := ranking_in_spec h (w := w) hi
  cases e : rkR ls i w with
  | some r =>
    rw [e] at t
    exact call_3 t (by simp) rfl rfl (by simp) env M
  | none =>
    rw [e] at t
    exact call_anyx (by simp) rfl (by simp) (by simp) t env M
theorem tn_call {ls : List Str} (h : OkLs ls) (n : Nat) (env : List (Option D)) (M : List (Option C)) : callS [false, false, false] sem_turns_in [L ls, .int 2, .int n] ⟨env, M⟩ = match tnR ls n with
    | some r => .ok (.str r) ⟨env, M⟩
    | none => .exc "InvalidText" [("line", .int 2)] ⟨env, M⟩ := by
  have t := turns_in_spec h (n := n)
  cases e : tnR ls n with
  | some r =>
    rw [e] at t
    exact call_3 t (by simp) rfl rfl (by simp) env M
  | none =>
    rw [e] at t
    exact call_anyx (by simp) rfl (by simp) (by simp) t env M
theorem n1 : (("\n" : Str).length == 0) = false := by decide +kernel
theorem parse_game_spec {z : Str} (h : OkT z) : sem_parse_game [] [.str z] = outG (gameR (Txt.split z "\n")) := by
  have e0 : dIsi (.str z) (.raw (.ty "str")) = some (.bl true) := rfl
  have e1 := split_ev (z := z) (y := "\n") (by have := h.2; omega) n1
  obtain ⟨ls, hls⟩ : ∃ ls, ls = Txt.split z "\n" := ⟨_, rfl⟩
  have hk : OkLs ls := ⟨fun l hl => split_ok h l (hls ▸ hl), by rw [hls]; exact split_cnt h⟩
  rw [← hls] at e1 ⊢
  have t1 := rk_call hk (i := 0) (w := "A") (by decide)
  have t2 := rk_call hk (i := 1) (w := "B") (by decide)
  unfold gameR
  cases ea : rkR ls 0 "A" with
  | none =>
    simp only [ea] at t1
    have t1 : ∀ env M, callS [false, false, false] sem_ranking_in [L ls, .int 0, .str "A"] ⟨env, M⟩ = .exc "InvalidText" [("line", .int 0)] ⟨env, M⟩ := t1
    simp [sem_parse_game, m_parse_game, e0, e1, t1, fstR, outG]
  | some a =>
    simp only [ea] at t1
    have ra := rkR_Rk ea
    cases eb : rkR ls 1 "B" with
    | none =>
      simp only [eb] at t2
      have eR : fstR ls (some a) = .bad 1 := by
        show secR ls a (rkR ls 1 "B") = _
        rw [eb]; rfl
      rw [eR]
      have t1 : ∀ env M, callS [false, false, false] sem_ranking_in [L ls, .int 0, .str "A"] ⟨env, M⟩ = .ok (T a) ⟨env, M⟩ := t1
      have t2 : ∀ env M, callS [false, false, false] sem_ranking_in [L ls, .int 1, .str "B"] ⟨env, M⟩ = .exc "InvalidText" [("line", .int 1)] ⟨env, M⟩ := t2
      simp [sem_parse_game, m_parse_game, e0, e1, t1, t2, outG]
    | some b =>
      simp only [eb] at t2
      have rb := rkR_Rk eb
      have la := ra.le
      have lb := rb.le
      have s1 := call_1 (as_set_spec (zs := a) (by omega)) (by simp) (by simp)
      have s2 := call_1 (as_set_spec (zs := b) (by omega)) (by simp) (by simp)
      have dn := dNe_T (Ok.sort ra.Ok) (Ok.sort rb.Ok)
      have t3 := tn_call hk a.length
      have t1 : ∀ env M, callS [false, false, false] sem_ranking_in [L ls, .int 0, .str "A"] ⟨env, M⟩ = .ok (T a) ⟨env, M⟩ := t1
      have t2 : ∀ env M, callS [false, false, false] sem_ranking_in [L ls, .int 1, .str "B"] ⟨env, M⟩ = .ok (T b) ⟨env, M⟩ := t2
      have eR : fstR ls (some a) = if sortS a = sortS b then turR ls a b (tnR ls a.length) else .bad 1 := by
        show secR ls a (rkR ls 1 "B") = _
        rw [eb]; rfl
      rw [eR]
      obtain ⟨A, hA⟩ : ∃ X, X = sortS a := ⟨_, rfl⟩
      obtain ⟨B, hB⟩ : ∃ X, X = sortS b := ⟨_, rfl⟩
      rw [← hA] at s1 dn
      rw [← hB] at s2 dn
      by_cases c : A = B
      · have p : Rk2 a b := ⟨ra, (sortS_eq_iff.mp (hA ▸ hB ▸ c)).symm⟩
        rw [← hA, ← hB, if_pos c]
        rw [decide_eq_true c] at dn
        cases et : tnR ls a.length with
        | none =>
          simp only [et] at t3
          simp [sem_parse_game, m_parse_game, e0, e1, t1, t2, s1, s2, dn, t3, turR, outG]
        | some t =>
          simp only [et] at t3
          have lt : ∃ l : List Bool, t = ltr l ∧ l.length = a.length := by
            unfold tnR at et
            cases q : rowR ls 2 "turns" with
            | none => rw [q] at et; cases et
            | some r => rw [q] at et; exact tnO_ltr et
          obtain ⟨l, rfl, hl⟩ := lt
          have mk := make_spec p hl
          by_cases c3 : 3 < ls.length
          · have c4 : (3 : Int) < (ls.length : Int) := by omega
            simp [sem_parse_game, m_parse_game, e0, e1, t1, t2, s1, s2, dn, t3, c4, turR, c3, outG]
          · have c4 : ¬ (3 : Int) < (ls.length : Int) := by omega
            simp [sem_parse_game, m_parse_game, e0, e1, t1, t2, s1, s2, dn, t3, c4, turR, c3, outG, mk]
      · rw [← hA, ← hB, if_neg c]
        rw [decide_eq_false c] at dn
        simp [sem_parse_game, m_parse_game, e0, e1, t1, t2, s1, s2, dn, outG]
theorem parse_game_other {d : D} (h : AnyD d) (hs : ∀ z, d ≠ .str z) : sem_parse_game [] [d] = outG (.bad 0) := by
  obtain ⟨h1, h2, h3⟩ := h
  have e3 := LB2.isi_str hs h2
  have e4 := view_any h1 []
  simp [sem_parse_game, m_parse_game, e3, e4, outG]
end LP

set_option pp.maxSteps 300
/-! LGV: sincere picking. -/
namespace LG
open PySem L2 DL LB LB2
open PySem.Spec PyProof.Rows
abbrev SSt := (List Str × List Str) × (List Str × List Str)
def sX (s : SSt) (p : Bool) : Str := (if p then s.1.1 else s.1.2).headD ""
def sstep (s : SSt) (p : Bool) : SSt := ((s.1.1.filter fun y => !decide (y = sX s p), s.1.2.filter fun y => !decide (y = sX s p)), if p then (s.2.1 ++ [sX s p], s.2.2) else (s.2.1, s.2.2 ++ [sX s p]))
def divD (s : SSt) : D := .tup [T (sortS s.2.1), T (sortS s.2.2)]
theorem sort_app (u : List Str) (x : Str) : sortS (sortS u ++ [x]) = sortS (u ++ [x]) := sortS_eq_iff.mpr ((sortS_perm u).append_right _)
theorem pick_ex {a b : List Str} (h : Rk2 a b) (p : Bool) {m : Nat} (hm : a.length = m + 1) : ∃ x r, (if p then a else b) = x :: r ∧ x ∈ a := by
  have hb : b.length = m + 1 := by rw [h.p.length_eq]; exact hm
  cases p with
  | true =>
    cases a with
    | nil => simp at hm
    | cons x r => exact ⟨x, r, rfl, List.mem_cons_self ..⟩
  | false =>
    cases b with
    | nil => simp at hb
    | cons x r => exact ⟨x, r, rfl, h.p.mem_iff.mp (List.mem_cons_self ..)⟩
theorem at0 (x : D) (r : List D) : atI (x :: r) 0 = some x := by
  have := DL.atI_nat (xs := x :: r) (i := 0) (by simp)
  exact this
theorem sincere_spec {a b : List Str} {l : List Bool} (h : Rk2 a b) (hl : l.length = a.length) : sem_sincere_division [] [gm a b (ltr l)] = .ok (divD (l.foldl sstep ((a, b), ([], [])))) ⟨[], []⟩ := by
  obtain ⟨Z, hZ⟩ : ∃ Z, Z = l.foldl sstep ((a, b), ([], [])) := ⟨_, rfl⟩
  rw [← hZ]
  have la := h.ra.le
  have nt : ∀ z : Str, dNot (.str z) .non = some (.bl true) := fun _ => rfl
  have nn : dNot .non .non = some (.bl false) := rfl
  obtain ⟨s', ⟨g, o2, o3, es⟩, hw⟩ := whileL_inv (t := t1_sincere_division) (fb := b2_sincere_division)
    (fun m s => ∃ (l : List Bool) (a b ua ub : List Str) (o2 o3 : Option D), Rk2 a b ∧ l.length = a.length ∧ l.length = m ∧ ua.length + ub.length + m ≤ 100 ∧ l.foldl sstep ((a, b), (ua, ub)) = Z ∧ s = ⟨[some (gm a b (ltr l)), some (.tup [T (sortS ua), T (sortS ub)]), o2, o3], []⟩)
    (fun s => ∃ g o2 o3, s = ⟨[g, some (divD Z), o2, o3], []⟩)
    (fun m s ⟨l, a, b, ua, ub, o2, o3, h, h1, h2, h3, h4, es⟩ => by
      subst es
      have la := h.ra.le
      cases l with
      | nil => simp at h2
      | cons p l =>
        rw [List.length_cons] at h1 h2
        obtain ⟨x, r, ex, hx⟩ := pick_ex h p (m := m) (by omega)
        have tp := call_1 (player_spec a b (l := p :: l) (by rw [List.length_cons]; omega)) (by simp) rfl
        have tr := call_2 (ranking_spec a b (ltr (p :: l)) p) (by simp) rfl (by simp)
        have ta := call_2 (after_spec (p := p) (l := l) h hx (by omega)) (by simp) rfl (by simp)
        have tw := call_3 (with_item_spec (za := sortS ua) (zb := sortS ub) (p := p) (x := x) (by rw [sortS_len]; omega) (by rw [sortS_len]; omega)) (by simp) rfl rfl (by cases p <;> simp)
        have sx : sX ((a, b), (ua, ub)) p = x := by unfold sX; dsimp only; rw [ex]; rfl
        rw [ex] at tr
        have k1 := look0 (m := "ranking") (f := "rows") (D.tup [T a, T b, .str (ltr (p :: l))]) n_rk
        have k2 := look0 (m := "after") (f := "rows") (D.tup [T a, T b, .str (ltr (p :: l))]) n_af
        have hl2 := flt_len h.ra.nd hx
        have a0 := at0 (.str x) (r.map D.str)
        obtain ⟨a', ha'⟩ : ∃ a', a' = a.filter fun y => !decide (y = x) := ⟨_, rfl⟩
        obtain ⟨b', hb'⟩ : ∃ b', b' = b.filter fun y => !decide (y = x) := ⟨_, rfl⟩
        have h' := flt_Rk2 h x
        rw [← ha'] at ta hl2 h'
        rw [← hb'] at ta h'
        have t1 : t1_sincere_division ⟨[some (gm a b (ltr (p :: l))), some (.tup [T (sortS ua), T (sortS ub)]), o2, o3], []⟩ = .ok true ⟨[some (gm a b (ltr (p :: l))), some (.tup [T (sortS ua), T (sortS ub)]), o2, o3], []⟩ := by
          simp [t1_sincere_division, tp, plD, nt]
        cases p with
        | true =>
          have st : sstep ((a, b), (ua, ub)) true = ((a', b'), (ua ++ [x], ub)) := by unfold sstep; rw [sx, ha', hb']; rfl
          refine ⟨_, ⟨[some (gm a' b' (ltr l)), some (.tup [T (sortS (ua ++ [x])), T (sortS ub)]), some (.str (lt true)), some (.str x)], []⟩, t1, .inl ?_, l, a', b', ua ++ [x], ub, _, _, h', by omega, by omega, by simp; omega, by rw [List.foldl_cons, st] at h4; exact h4, rfl⟩
          simp only [if_true, sort_app] at tw
          obtain ⟨w, hw⟩ : ∃ w, w = sortS (ua ++ [x]) := ⟨_, rfl⟩
          rw [← hw] at tw ⊢
          simp [b2_sincere_division, tp, plD, k1, k2, tr, a0, tw, ta]
        | false =>
          have st : sstep ((a, b), (ua, ub)) false = ((a', b'), (ua, ub ++ [x])) := by unfold sstep; rw [sx, ha', hb']; rfl
          refine ⟨_, ⟨[some (gm a' b' (ltr l)), some (.tup [T (sortS ua), T (sortS (ub ++ [x]))]), some (.str (lt false)), some (.str x)], []⟩, t1, .inl ?_, l, a', b', ua, ub ++ [x], _, _, h', by omega, by omega, by simp; omega, by rw [List.foldl_cons, st] at h4; exact h4, rfl⟩
          simp only [Bool.false_eq_true, if_false, sort_app] at tw
          obtain ⟨w, hw⟩ : ∃ w, w = sortS (ub ++ [x]) := ⟨_, rfl⟩
          rw [← hw] at tw ⊢
          simp [b2_sincere_division, tp, plD, k1, k2, tr, a0, tw, ta])
    (fun s ⟨l, a, b, ua, ub, o2, o3, h, h1, h2, h3, h4, es⟩ => by
      subst es
      have e := List.eq_nil_of_length_eq_zero h2
      subst e
      have tp := call_1 (player_spec a b (l := []) (by simp)) (by simp) rfl
      have h4 : ((a, b), (ua, ub)) = Z := h4
      rw [← h4]
      exact ⟨⟨[some (gm a b (ltr [])), some (.tup [T (sortS ua), T (sortS ub)]), o2, o3], []⟩, by simp [t1_sincere_division, tp, plD, nn], _, _, _, rfl⟩) l.length 100000 ⟨[some (gm a b (ltr l)), some (.tup [T [], T []]), none, none], []⟩ (by omega) ⟨l, a, b, [], [], none, none, h, hl, rfl, by simp; omega, hZ.symm, by
        have e : sortS [] = [] := List.eq_nil_of_length_eq_zero (by rw [sortS_len]; rfl)
        rw [e]⟩
  subst es
  have hw' : whileL t1_sincere_division b2_sincere_division 100000 ⟨[some (gm a b (ltr l)), some (.tup [.tup [], .tup []]), none, none], []⟩ = _ := hw
  simp [sem_sincere_division, m_sincere_division, hw', divD]
end LG

set_option pp.maxSteps 300
/-! LPT: the text of a game, divisions read, what is written is read back. -/
namespace LP
open PySem L2 DL LB LB2 LG LT
open PySem.Spec PyProof.Rows
open LF2 (dAdd_tup dAdd_lst dSl_lst_to cut_from)
open TL (tl tl_join joinL tl_append map_tl_inj split_spl kind_ok spl_part spl_last spl pre)
theorem y3 : ((" | " : Str).length == 0) = false := by decide +kernel
def words (z : Str) : List Str := if z = "-" then [] else Txt.split z " "
theorem wordsP_ok {z : Str} (h : OkT z) : (∀ p ∈ words z, OkT p) ∧ (words z).length ≤ 902 := by
  unfold words
  by_cases c : z = "-"
  · rw [if_pos c]; exact ⟨fun p hp => by simp at hp, by simp⟩
  · rw [if_neg c]; exact ⟨split_ok h, split_cnt h⟩
def good (ws : List Str) : Bool := ws.all okItem && decide ws.Nodup && decide (ws = sortS ws)
def setD (z : Str) : D := if good (words z) = true then T (words z) else .non
theorem set_in_spec {z : Str} (h : OkT z) : sem_set_in [] [.str z] = .ok (setD z) ⟨[], []⟩ := by
  obtain ⟨h1, h2⟩ := wordsP_ok h
  obtain ⟨ws, hws⟩ : ∃ ws, ws = words z := ⟨_, rfl⟩
  have hok : DL.Ok ws := fun p hp => (h1 p (hws ▸ hp)).1
  have t1 := call_1 (are_items_spec (d := T ws) any_T (by simp) (tp_T (fun p hp => by have := (h1 p (hws ▸ hp)).2; omega) (by rw [hws]; omega))) (by simp) rfl
  rw [areItems_T] at t1
  have t2 := call_1 (as_set_spec (zs := ws) (by rw [hws]; omega)) (by simp) (by simp)
  have e1 := dEq_T hok (Ok.sort hok)
  have e2 : ∀ xs : List D, dTuple (.lst xs) = some (.tup xs) := fun _ => rfl
  have e3 := split_ev (z := z) (y := " ") (by have := h.2; omega) y1
  unfold setD good
  rw [← hws]
  obtain ⟨b1, hb1⟩ : ∃ b, b = (ws.all okItem && decide ws.Nodup) := ⟨_, rfl⟩
  obtain ⟨b2, hb2⟩ : ∃ b, b = decide (ws = sortS ws) := ⟨_, rfl⟩
  rw [← hb1] at t1 ⊢
  rw [← hb2] at e1 ⊢
  by_cases c : z = "-"
  · have ew : ws = [] := by rw [hws]; unfold words; rw [if_pos c]
    subst ew
    have t1 : ∀ env M, callS [false] sem_are_items [.tup []] ⟨env, M⟩ = .ok (.bl b1) ⟨env, M⟩ := t1
    have t2 : ∀ env M, callS [false] sem_as_set [.tup []] ⟨env, M⟩ = .ok (T (sortS [])) ⟨env, M⟩ := t2
    have e1 : dEq (.tup []) (T (sortS [])) = some (.bl b2) := e1
    cases b1 <;> cases b2 <;> simp [sem_set_in, m_set_in, c, t1, t2, e1]
  · have ew : ws = Txt.split z " " := by rw [hws]; unfold words; rw [if_neg c]
    rw [← ew] at e3
    cases b1 <;> cases b2 <;> simp [sem_set_in, m_set_in, c, e3, e2, t1, t2, e1]
theorem setD_ok {z : Str} (h : OkT z) : np (setD z) = true := by
  unfold setD
  split <;> simp
theorem eqv_none_tup (xs : List PyData) : PyData.eqv (.tuple xs) .none = false := by simp [PyData.eqv]
theorem in_two {p q : Str} (hp : OkT p) (hq : OkT q) : dInX .non (.tup [setD p, setD q]) = some (.bl (!(good (words p) && good (words q)))) := by
  have ok1 : DL.Ok (words p) := fun w hw => ((wordsP_ok hp).1 w hw).1
  have ok2 : DL.Ok (words q) := fun w hw => ((wordsP_ok hq).1 w hw).1
  have c1 := can_strs ok1
  have c2 := can_strs ok2
  have d1 := depth_strs (words p)
  have d2 := depth_strs (words q)
  have key : ∀ (x y : D) (px py : PyData), pd x = some px → pd y = some py → px.canLay0 = true → py.canLay0 = true → px.depth ≤ 8 → py.depth ≤ 8 → dIn .non (.tup [x, y]) = none → dInX .non (.tup [x, y]) = some (.bl (PyData.eqv px .none || PyData.eqv py .none)) := fun x y px py e1 e2 l1 l2 g1 g2 hn => by
    have e3 : pd (.tup [x, y]) = some (.tuple [px, py]) := by simp only [pd, pdL, e1, e2, Option.map_some]
    have s1 : SeqAt.shaped (.tuple [px, py]) = true := by
      unfold SeqAt.shaped
      have h1 : (PyData.tuple [px, py]).canLay0 = true := by simp only [PyData.canLay0, PyData.canLayAll0, l1, l2, Bool.and_self]
      have h2 : (PyData.tuple [px, py]).depth ≤ 64 := by simp only [PyData.depth, PyData.depthAll]; omega
      rw [h1, decide_eq_true h2]; rfl
    have s0 : SeqAt.shaped .none = true := by decide +kernel
    unfold dInX orD
    rw [hn]
    unfold dInP inP
    rw [e3]
    have e0 : pd .non = some .none := rfl
    rw [e0]
    simp [s0, s1]
  have pt : ∀ ws : List Str, pd (T ws) = some (.tuple (ws.map .str)) := fun ws => by simp only [pd, pdL_strs, Option.map_some]
  have lt : ∀ ws : List Str, DL.Ok ws → (PyData.tuple (ws.map PyData.str)).canLay0 = true := fun ws h => by simp only [PyData.canLay0, can_strs h]
  have dt : ∀ ws : List Str, (PyData.tuple (ws.map PyData.str)).depth ≤ 8 := fun ws => by
    have := depth_strs ws
    simp only [PyData.depth]
    omega
  unfold setD
  cases g1 : good (words p) <;> cases g2 : good (words q)
  · rfl
  · rw [if_neg (by simp), if_pos rfl, key .non (T (words q)) .none _ rfl (pt _) rfl (lt _ ok2) (by decide) (dt _) rfl]
    simp [PyData.eqv]
  · rw [if_pos rfl, if_neg (by simp), key (T (words p)) .non _ .none (pt _) rfl (lt _ ok1) rfl (dt _) (by decide) rfl]
    simp [PyData.eqv]
  · rw [if_pos rfl, if_pos rfl, key (T (words p)) (T (words q)) _ _ (pt _) (pt _) (lt _ ok1) (lt _ ok2) (dt _) (dt _) rfl]
    simp [PyData.eqv]
def resP (ps : List Str) : Option (List Str × List Str) := match ps with
  | [p, q] => if (good (words p) && good (words q) && decide ((words p ++ words q).length ≤ 40) && decide (words p ++ words q).Nodup) = true then some (words p, words q) else none
  | _ => none
def res (z : Str) : Option (List Str × List Str) := resP (Txt.split z " | ")
theorem resP_two (p q : Str) : resP [p, q] = if (good (words p) && good (words q) && decide ((words p ++ words q).length ≤ 40) && decide (words p ++ words q).Nodup) = true then some (words p, words q) else none := rfl
theorem resP_ne {ps : List Str} (hl : ps.length ≠ 2) : resP ps = none := by
  match ps, hl with
  | [], _ => rfl
  | [_], _ => rfl
  | [_, _], hl => exact absurd rfl hl
  | _ :: _ :: _ :: _, _ => rfl
theorem resP_bad {ps : List Str} (h : ps.all (fun q => good (words q)) = false) : resP ps = none := by
  by_cases hl : ps.length = 2
  · match ps, hl with
    | [p, q], _ =>
      simp only [List.all_cons, List.all_nil, Bool.and_true] at h
      rw [resP_two, h]; rfl
  · exact resP_ne hl
def encR : Option (List Str × List Str) → D
  | some (a, b) => .tup [T a, T b]
  | none => .int 0
def outR (o : Option (List Str × List Str)) : Out D := match o with
  | some (a, b) => .ok (.tup [T a, T b]) ⟨[], []⟩
  | none => .exc "InvalidText" [("line", .int 0)] ⟨[], []⟩
theorem parse_division_spec {z : Str} (h : OkT z) : sem_parse_division [] [.str z] = outR (res z) := by
  have e0 : dIsi (.str z) (.raw (.ty "str")) = some (.bl true) := rfl
  have e1 := split_ev (z := z) (y := " | ") (by have := h.2; omega) y3
  obtain ⟨ps, hps⟩ : ∃ ps, ps = Txt.split z " | " := ⟨_, rfl⟩
  have pok : ∀ p ∈ ps, OkT p := fun p hp => split_ok h p (hps ▸ hp)
  have pl : ps.length ≤ 902 := by rw [hps]; exact split_cnt h
  have c1 := lcL_each (d := .lst (ps.map .str)) (M0 := []) (M := []) (env0 := [some (.str z), some (.lst (ps.map .str)), none, none, none]) (g := gVar 4) (tt := tYesM) (fe := e1_parse_division) D.str ps setD rfl
    (fun p hp => by
      have t := call_1 (set_in_spec (pok p hp)) rfl (setD_ok (pok p hp))
      simp [lcS, e1_parse_division, t]) (by omega)
  have e2 : ∀ xs : List D, dTuple (.lst xs) = some (.tup xs) := fun _ => rfl
  unfold res
  rw [← hps] at e1 ⊢
  by_cases hl : ps.length = 2
  · match ps, hl with
    | [p, q], _ =>
      have hp : OkT p := pok p (by simp)
      have hq : OkT q := pok q (by simp)
      have i2 := in_two hp hq
      have s0 : setD p = if good (words p) = true then T (words p) else .non := rfl
      have s1 : setD q = if good (words q) = true then T (words q) else .non := rfl
      obtain ⟨a, ha⟩ : ∃ a, a = words p := ⟨_, rfl⟩
      obtain ⟨b, hb⟩ : ∃ b, b = words q := ⟨_, rfl⟩
      obtain ⟨k1, k2⟩ := wordsP_ok hp
      obtain ⟨k3, k4⟩ := wordsP_ok hq
      rw [resP_two]
      show sem_parse_division [] [.str z] = outR (if (good (words p) && good (words q) && decide ((words p ++ words q).length ≤ 40) && decide (words p ++ words q).Nodup) = true then some (words p, words q) else none)
      rw [← ha] at i2 s0 k1 k2 ⊢
      rw [← hb] at i2 s1 k3 k4 ⊢
      obtain ⟨x, hx⟩ : ∃ x, x = setD p := ⟨_, rfl⟩
      obtain ⟨y, hy⟩ : ∃ y, y = setD q := ⟨_, rfl⟩
      have c1 : lcL (.lst [D.str p, D.str q]) [] [some (.str z), some (.lst [D.str p, D.str q]), none, none, none] (gVar 4) tYesM e1_parse_division [D.str p, D.str q] [] [] = .ok [setD p, setD q] ⟨[some (.str z), some (.lst [D.str p, D.str q]), none, none, none], []⟩ := c1
      have e1 : dSS dSplit (.str z) (.str " | ") = some (.lst [D.str p, D.str q]) := e1
      rw [← hx, ← hy] at c1 i2
      rw [← hx] at s0
      rw [← hy] at s1
      by_cases g : (good a && good b) = true
      · rw [g] at i2 ⊢
        obtain ⟨g1, g2⟩ := Bool.and_eq_true_iff.mp g
        rw [if_pos g1] at s0
        rw [if_pos g2] at s1
        subst s0 s1
        obtain ⟨w, hw⟩ : ∃ w, w = a ++ b := ⟨_, rfl⟩
        have lw : w.length ≤ 2000 := by rw [hw, List.length_append]; omega
        have ad : dAdd (T a) (T b) = some (T w) := by
          rw [dAdd_tup, if_pos (by simp; omega), ← List.map_append, hw]
        have wok : ∀ z ∈ w, z.length ≤ 900000 := fun z hz => by
          rw [hw] at hz
          rcases List.mem_append.mp hz with hz | hz
          · have := (k1 z hz).2; omega
          · have := (k3 z hz).2; omega
        have t1 := call_1 (are_items_spec (d := T w) any_T (by simp) (tp_T wok (by omega))) (by simp) rfl
        rw [areItems_T] at t1
        have aw : w.all okItem = true := by
          unfold good at g1 g2
          simp only [Bool.and_eq_true] at g1 g2
          rw [hw, List.all_append, g1.1.1, g2.1.1]; rfl
        rw [aw, Bool.true_and] at t1
        have at0 : ∀ x y : D, atI [x, y] 0 = some x := fun _ _ => rfl
        have at1 : ∀ x y : D, atI [x, y] 1 = some y := fun _ _ => rfl
        rw [← hw]
        by_cases n1 : w.length ≤ 40
        · have n1' : ¬ (40 : Int) < w.length := by omega
          by_cases n2 : w.Nodup
          · rw [decide_eq_true n2] at t1
            simp [sem_parse_division, m_parse_division, e0, e1, c1, e2, i2, at0, at1, ad, n1', t1, n1, n2, outR]
          · rw [decide_eq_false n2] at t1
            simp [sem_parse_division, m_parse_division, e0, e1, c1, e2, i2, at0, at1, ad, n1', t1, n1, n2, outR]
        · have n1' : (40 : Int) < w.length := by omega
          simp [sem_parse_division, m_parse_division, e0, e1, c1, e2, i2, at0, at1, ad, n1', n1, outR]
      · have gf : (good a && good b) = false := by simpa using g
        rw [gf] at i2 ⊢
        simp [sem_parse_division, m_parse_division, e0, e1, c1, e2, i2, outR]
  · have hn : ¬ ((ps.length : Int) = 2) := by omega
    have hr := resP_ne hl
    rw [hr]
    simp [sem_parse_division, m_parse_division, e0, e1, c1, e2, hn, outR]
theorem parse_division_other {d : D} (h : AnyD d) (hs : ∀ z, d ≠ .str z) : sem_parse_division [] [d] = outR none := by
  obtain ⟨h1, h2, h3⟩ := h
  have e3 := LB2.isi_str hs h2
  have e4 := view_any h1 []
  have e2 : ∀ xs : List D, dTuple (.lst xs) = some (.tup xs) := fun _ => rfl
  simp [sem_parse_division, m_parse_division, e3, e4, e2, outR, lcL]
def wt (ws : List Str) : Nat := (ws.map (·.length)).sum + ws.length
theorem wt_app (u v : List Str) : wt (u ++ v) = wt u + wt v := by
  unfold wt
  rw [List.map_append, List.sum_append_nat, List.length_append]; omega
theorem wt_one (x : Str) : wt [x] = x.length + 1 := by simp [wt]
theorem nl_ok : PyData.strOk "\n" = true ∧ ("\n" : Str).length = 1 := by decide +kernel
theorem joinN {vs : List Str} (ho : ∀ p ∈ vs, PyData.strOk p = true) (hw : wt vs ≤ 5000) : dJoin (.str "\n") (.lst (vs.map .str)) = some (.str (Str.join "\n" vs)) ∧ PyData.strOk (Str.join "\n" vs) = true ∧ (Str.join "\n" vs).length ≤ wt vs := by
  obtain ⟨k1, k2⟩ := join_ok nl_ok.1 vs ho
  rw [nl_ok.2, Nat.mul_one] at k2
  unfold wt at hw
  exact ⟨dJoin_str (by rw [nl_ok.2]; omega), k1, k2⟩
theorem addL {u v : List Str} (hw : wt u + wt v ≤ 5000) : dAdd (.lst (u.map .str)) (.lst (v.map .str)) = some (.lst ((u ++ v).map .str)) := by
  unfold wt at hw
  rw [dAdd_lst, if_pos (by simp; omega), List.map_append]
theorem dJoin_T {y : Str} {ps : List Str} (h : (ps.map (·.length)).sum + ps.length * y.length ≤ 100000) : dJoin (.str y) (.tup (ps.map .str)) = some (.str (Str.join y ps)) := by
  unfold dJoin
  have e : (seqD (.tup (ps.map D.str))).bind strsD = some ps := strsD_map ps
  dsimp only
  rw [e]
  dsimp only
  rw [if_pos (by omega), tjoin]
def tail (l : List Bool) : List Str := if l = [] then ["turns"] else ["turns", ltr l]
def gtext (a b : List Str) (l : List Bool) : Str := Str.join "\n" [Str.join " " ("A" :: a), Str.join " " ("B" :: b), Str.join " " (tail l)]
theorem words_ok : PyData.strOk "A" = true ∧ ("A" : Str).length = 1 ∧ PyData.strOk "B" = true ∧ ("B" : Str).length = 1 ∧ PyData.strOk "turns" = true ∧ ("turns" : Str).length = 5 := by decide +kernel
theorem line_ok {w : Str} {a : List Str} (hw : PyData.strOk w = true) (hl : w.length ≤ 5) (h : ∀ z ∈ a, okItem z = true) (ha : a.length ≤ 40) : dJoin (.str " ") (.tup (.str w :: a.map .str)) = some (.str (Str.join " " (w :: a))) ∧ PyData.strOk (Str.join " " (w :: a)) = true ∧ (Str.join " " (w :: a)).length ≤ 6 + a.length * 9 := by
  have ho : ∀ p ∈ w :: a, PyData.strOk p = true := fun p hp => by
    rcases List.mem_cons.mp hp with rfl | hp
    · exact hw
    · exact okItem_ok (h p hp)
  obtain ⟨k1, k2⟩ := join_ok spx.1 _ ho
  have s := sum_le (n := 8) fun w hw => okItem_len (h w hw)
  rw [spx.2.1, Nat.mul_one] at k2
  simp only [List.map_cons, List.sum_cons, List.length_cons] at k2
  refine ⟨dJoin_T (y := " ") (ps := w :: a) (by rw [spx.2.1]; simp only [List.map_cons, List.sum_cons, List.length_cons]; omega), k1, by omega⟩
theorem tail_ok {l : List Bool} (hl : l.length ≤ 40) : dJoin (.str " ") (.lst ((tail l).map .str)) = some (.str (Str.join " " (tail l))) ∧ PyData.strOk (Str.join " " (tail l)) = true ∧ (Str.join " " (tail l)).length ≤ 7 + l.length := by
  have ho : ∀ p ∈ tail l, PyData.strOk p = true := fun p hp => by
    unfold tail at hp
    split at hp
    · rw [List.mem_singleton.mp hp]; exact words_ok.2.2.2.2.1
    · simp only [List.mem_cons, List.not_mem_nil, or_false] at hp
      rcases hp with rfl | rfl
      · exact words_ok.2.2.2.2.1
      · exact ltr_ok l
  obtain ⟨k1, k2⟩ := join_ok spx.1 _ ho
  rw [spx.2.1, Nat.mul_one] at k2
  have w : ((tail l).map (·.length)).sum + (tail l).length ≤ 7 + l.length := by
    unfold tail
    have := words_ok.2.2.2.2.2
    have := ltr_len l
    split <;> simp <;> omega
  exact ⟨dJoin_str (by rw [spx.2.1]; omega), k1, by omega⟩
theorem gtext_ok {a b : List Str} {l : List Bool} (h1 : ∀ z ∈ a, okItem z = true) (h2 : ∀ z ∈ b, okItem z = true) (ha : a.length ≤ 40) (hb : b.length ≤ 40) (hl : l.length ≤ 40) : PyData.strOk (gtext a b l) = true ∧ (gtext a b l).length ≤ a.length * 9 + b.length * 9 + l.length + 22 ∧ dJoin (.str "\n") (.lst [.str (Str.join " " ("A" :: a)), .str (Str.join " " ("B" :: b)), .str (Str.join " " (tail l))]) = some (.str (gtext a b l)) := by
  obtain ⟨-, x1, x2⟩ := line_ok (w := "A") words_ok.1 (by rw [words_ok.2.1]; decide) h1 ha
  obtain ⟨-, y1, y2⟩ := line_ok (w := "B") words_ok.2.2.1 (by rw [words_ok.2.2.2.1]; decide) h2 hb
  obtain ⟨-, z1, z2⟩ := tail_ok hl
  have w : wt [Str.join " " ("A" :: a), Str.join " " ("B" :: b), Str.join " " (tail l)] ≤ a.length * 9 + b.length * 9 + l.length + 22 := by
    unfold wt
    simp
    omega
  obtain ⟨j1, j2, j3⟩ := joinN (vs := [Str.join " " ("A" :: a), Str.join " " ("B" :: b), Str.join " " (tail l)]) (fun p hp => by
    simp only [List.mem_cons, List.not_mem_nil, or_false] at hp
    rcases hp with rfl | rfl | rfl <;> assumption) (by omega)
  exact ⟨j2, by unfold gtext; omega, j1⟩
/-! ### cutting what was joined -/
theorem tl_nl : tl "\n" = [10] := by decide +kernel
theorem tl_sp : tl " " = [32] := by decide +kernel
theorem tl_bar : tl " | " = [32, 124, 32] := by decide +kernel
theorem split_nl {ps : List Str} (hne : ps ≠ []) (hp : ∀ p ∈ ps, 10 ∉ tl p) : Txt.split (Str.join "\n" ps) "\n" = ps := by
  rw [← tjoin]
  exact TL.split_join tl_nl (by decide +kernel) hne hp
theorem split_sp {ps : List Str} (hne : ps ≠ []) (hp : ∀ p ∈ ps, 32 ∉ tl p) : Txt.split (Str.join " " ps) " " = ps := by
  rw [← tjoin]
  exact TL.split_join tl_sp (by decide +kernel) hne hp
theorem bar_free {p q : List Nat} (hp : 124 ∉ p) (hq : q = [] ∨ ∃ r, q = [32, 124, 32] ++ r) : ∀ i, i < p.length → pre [32, 124, 32] ((p ++ q).drop i) = false := fun i hi => by
  have hlt : i < (p ++ q).length := by rw [List.length_append]; omega
  have e : (p ++ q).drop i = (p ++ q)[i] :: (p ++ q).drop (i + 1) := List.drop_eq_getElem_cons hlt
  have e1 : (p ++ q).drop (i + 1) = p.drop (i + 1) ++ q := List.drop_append_of_le_length (by omega)
  rw [e, e1]
  cases h : pre [32, 124, 32] ((p ++ q)[i] :: (p.drop (i + 1) ++ q)) with
  | false => rfl
  | true =>
    exfalso
    unfold TL.pre at h
    have h := eq_of_beq h
    have h2 : ((p ++ q)[i] :: (p.drop (i + 1) ++ q)).take 3 = [32, 124, 32] := h
    rw [List.take_succ_cons] at h2
    injection h2 with _ h3
    cases hd : p.drop (i + 1) with
    | cons x r =>
      rw [hd] at h3
      have h3 : x :: ((r ++ q).take 1) = [124, 32] := h3
      injection h3 with h4 _
      refine hp (List.mem_of_mem_drop (i := i + 1) ?_)
      rw [hd, h4]; exact List.mem_cons_self ..
    | nil =>
      rw [hd, List.nil_append] at h3
      rcases hq with rfl | ⟨r, rfl⟩
      · cases h3
      · injection h3 with h4 _
        cases h4
theorem split_bar {p q : Str} (hp : 124 ∉ tl p) (hq : 124 ∉ tl q) : Txt.split (p ++ " | " ++ q) " | " = [p, q] := by
  refine map_tl_inj ?_
  rw [split_spl _ _ (by rw [tl_bar]; simp) (kind_ok (by decide +kernel)), tl_append, tl_append, tl_bar, List.append_assoc]
  rw [spl_part (by simp) (bar_free hp (.inr ⟨_, rfl⟩)), List.nil_append, spl_last (fun i hi => ?_)]
  · rfl
  · have := bar_free hq (.inl rfl) i hi
    rwa [List.append_nil] at this
theorem tl_joinM {y : Str} {c : Nat} (hy : c ∉ tl y) {ps : List Str} (hp : ∀ p ∈ ps, c ∉ tl p) : c ∉ tl (Str.join y ps) := by
  rw [tl_join]
  have key : ∀ ps : List (List Nat), (∀ p ∈ ps, c ∉ p) → c ∉ joinL (tl y) ps := by
    intro ps
    induction ps with
    | nil => intro _ h; cases h
    | cons p r ih =>
      intro h hm
      cases r with
      | nil => exact h p (by simp) hm
      | cons q r =>
        have e : joinL (tl y) (p :: q :: r) = p ++ (tl y ++ joinL (tl y) (q :: r)) := rfl
        rw [e] at hm
        rcases List.mem_append.mp hm with hm | hm
        · exact h p (by simp) hm
        · rcases List.mem_append.mp hm with hm | hm
          · exact hy hm
          · exact ih (fun z hz => h z (List.mem_cons_of_mem _ hz)) hm
  refine key _ fun p h => ?_
  obtain ⟨z, hz, rfl⟩ := List.mem_map.mp h
  exact hp z hz
theorem item_free {z : Str} (h : okItem z = true) : 10 ∉ tl z ∧ 32 ∉ tl z ∧ 124 ∉ tl z ∧ z ≠ "-" ∧ z ≠ "" := by
  unfold okItem at h
  simp only [Bool.and_eq_true, decide_eq_true_eq, List.all_eq_true] at h
  have k : okL 10 = false ∧ okL 32 = false ∧ okL 124 = false ∧ okL 45 = false := by decide +kernel
  have f : ∀ c, okL c = false → c ∉ tl z := fun c hc hm => by rw [h.2 c hm] at hc; cases hc
  refine ⟨f _ k.1, f _ k.2.1, f _ k.2.2.1, fun e => ?_, fun e => ?_⟩
  · refine f 45 k.2.2.2 ?_
    rw [e]; decide +kernel
  · rw [e] at h
    exact absurd h.1.1 (by decide +kernel)
theorem ltr_free (l : List Bool) : 10 ∉ tl (ltr l) ∧ 32 ∉ tl (ltr l) := by
  have k : ∀ c ∈ tl (ltr l), c = 65 ∨ c = 66 := fun c hc => by
    have hc : c ∈ (ltr l).cps.toList := hc
    rw [ltr_cps] at hc
    obtain ⟨b, _, rfl⟩ := List.mem_map.mp hc
    cases b
    · exact .inr rfl
    · exact .inl rfl
  exact ⟨fun h => (by rcases k _ h with e | e <;> omega), fun h => (by rcases k _ h with e | e <;> omega)⟩
theorem w_free : (10 ∉ tl "A" ∧ 32 ∉ tl "A") ∧ (10 ∉ tl "B" ∧ 32 ∉ tl "B") ∧ (10 ∉ tl "turns" ∧ 32 ∉ tl "turns") := by decide +kernel
theorem line_free {w : Str} {a : List Str} (hw : 10 ∉ tl w ∧ 32 ∉ tl w) (h : ∀ z ∈ a, okItem z = true) : 10 ∉ tl (Str.join " " (w :: a)) ∧ Txt.split (Str.join " " (w :: a)) " " = w :: a := by
  constructor
  · refine tl_joinM (by rw [tl_sp]; decide) fun p hp => ?_
    rcases List.mem_cons.mp hp with rfl | hp
    · exact hw.1
    · exact (item_free (h p hp)).1
  · refine split_sp (by simp) fun p hp => ?_
    rcases List.mem_cons.mp hp with rfl | hp
    · exact hw.2
    · exact (item_free (h p hp)).2.1
theorem tail_free (l : List Bool) : 10 ∉ tl (Str.join " " (tail l)) ∧ Txt.split (Str.join " " (tail l)) " " = tail l := by
  have hm : ∀ p ∈ tail l, 10 ∉ tl p ∧ 32 ∉ tl p := fun p hp => by
    unfold tail at hp
    split at hp
    · rw [List.mem_singleton.mp hp]; exact w_free.2.2
    · simp only [List.mem_cons, List.not_mem_nil, or_false] at hp
      rcases hp with rfl | rfl
      · exact w_free.2.2
      · exact ltr_free l
  exact ⟨tl_joinM (by rw [tl_sp]; decide) fun p hp => (hm p hp).1, split_sp (by unfold tail; split <;> simp) fun p hp => (hm p hp).2⟩
theorem gameR_gtext {a b : List Str} {l : List Bool} (hr : Rk2 a b) (hl : l.length = a.length) : gameR (Txt.split (gtext a b l) "\n") = .good a b (ltr l) := by
  obtain ⟨a1, a2⟩ := line_free w_free.1 hr.ra.ok
  obtain ⟨b1, b2⟩ := line_free w_free.2.1 hr.b.ok
  obtain ⟨t1, t2⟩ := tail_free l
  have es : Txt.split (gtext a b l) "\n" = [Str.join " " ("A" :: a), Str.join " " ("B" :: b), Str.join " " (tail l)] := by
    unfold gtext
    refine split_nl (by simp) fun p hp => ?_
    simp only [List.mem_cons, List.not_mem_nil, or_false] at hp
    rcases hp with rfl | rfl | rfl <;> assumption
  rw [es]
  have kb : ∀ r : List Str, Rk r → rkB r = true := fun r h => by
    unfold rkB
    rw [List.all_eq_true.mpr h.ok, decide_eq_true h.nd, decide_eq_true h.le]; rfl
  have ra : rkR [Str.join " " ("A" :: a), Str.join " " ("B" :: b), Str.join " " (tail l)] 0 "A" = some a := by
    show (headR "A" (Txt.split (Str.join " " ("A" :: a)) " ")).bind (fun r => if rkB r = true then some r else none) = some a
    rw [a2]
    show (if rkB a = true then some a else none) = some a
    rw [if_pos (kb a hr.ra)]
  have rb : rkR [Str.join " " ("A" :: a), Str.join " " ("B" :: b), Str.join " " (tail l)] 1 "B" = some b := by
    show (headR "B" (Txt.split (Str.join " " ("B" :: b)) " ")).bind (fun r => if rkB r = true then some r else none) = some b
    rw [b2]
    show (if rkB b = true then some b else none) = some b
    rw [if_pos (kb b hr.b)]
  have rt : tnR [Str.join " " ("A" :: a), Str.join " " ("B" :: b), Str.join " " (tail l)] a.length = some (ltr l) := by
    show (headR "turns" (Txt.split (Str.join " " (tail l)) " ")).bind (tnO a.length) = some (ltr l)
    rw [t2]
    cases l with
    | nil =>
      have e0 : a.length = 0 := by rw [← hl]; rfl
      show tnO a.length [] = _
      rw [e0]
      show some ("" : Str) = _
      rw [ltr_nil]
    | cons p l =>
      show tnO a.length [ltr (p :: l)] = _
      have k : (!decide (ltr (p :: l) = "") && isTurns (.str (ltr (p :: l))) (a.length : Int)) = true := by
        rw [isTurns_ltr hl, decide_eq_false ltr_ne]; rfl
      show (if (!decide (ltr (p :: l) = "") && isTurns (.str (ltr (p :: l))) (a.length : Int)) = true then some (ltr (p :: l)) else none) = _
      rw [if_pos k]
  unfold gameR
  rw [ra]
  show secR _ a (rkR _ 1 "B") = _
  rw [rb]
  show (if sortS a = sortS b then turR _ a b (tnR _ a.length) else .bad 1) = _
  rw [if_pos (sortS_eq_iff.mpr hr.p.symm), rt]
  rfl
/-! ### format_game -/
theorem format_game_spec {a b : List Str} {l : List Bool} (hr : Rk2 a b) (hl : l.length ≤ 40) : sem_format_game [] [gm a b (ltr l)] = .ok (.str (gtext a b l)) ⟨[], []⟩ := by
  have la := hr.ra.le
  have lb := hr.b.le
  obtain ⟨x0, -, -⟩ := line_ok (w := "A") words_ok.1 (by rw [words_ok.2.1]; decide) hr.ra.ok la
  obtain ⟨y0, -, -⟩ := line_ok (w := "B") words_ok.2.2.1 (by rw [words_ok.2.2.2.1]; decide) hr.b.ok lb
  obtain ⟨z0, -, -⟩ := tail_ok hl
  obtain ⟨-, -, g0⟩ := gtext_ok hr.ra.ok hr.b.ok la lb hl
  have t1 := call_1 (ranking_a_spec a b (ltr l)) (by simp) (by simp)
  have t2 := call_1 (ranking_b_spec a b (ltr l)) (by simp) (by simp)
  have t3 := call_1 (turns_spec a b (ltr l)) (by simp) rfl
  have jl : ∀ xs : List D, dJoin (.str " ") (.lst xs) = dJoin (.str " ") (.tup xs) := fun xs => rfl
  rw [← jl] at x0 y0
  have ne : dNe (.str (ltr l)) (.str "") = some (.bl (!decide (l = []))) := by
    rw [dNe_str]
    congr 3
    cases l with
    | nil => rw [ltr_nil]; simp
    | cons p l => simp [ltr_ne]
  have sa : seqD (T a) = some (a.map .str) := rfl
  have sb : seqD (T b) = some (b.map .str) := rfl
  have lA : (a.map D.str).length ≤ 999999 := by simp; omega
  have lB : (b.map D.str).length ≤ 999999 := by simp; omega
  have eG : gm a b (ltr l) = .obj "Game" [("rows", .tup [T a, T b, .str (ltr l)])] := rfl
  obtain ⟨A, hA⟩ : ∃ A, A = a.map D.str := ⟨_, rfl⟩
  obtain ⟨B, hB⟩ : ∃ A, A = b.map D.str := ⟨_, rfl⟩
  obtain ⟨JA, hJA⟩ : ∃ A, A = Str.join " " ("A" :: a) := ⟨_, rfl⟩
  obtain ⟨JB, hJB⟩ : ∃ A, A = Str.join " " ("B" :: b) := ⟨_, rfl⟩
  obtain ⟨JT, hJT⟩ : ∃ A, A = Str.join " " (tail l) := ⟨_, rfl⟩
  obtain ⟨G, hG⟩ : ∃ A, A = gtext a b l := ⟨_, rfl⟩
  obtain ⟨t, ht⟩ : ∃ A, A = ltr l := ⟨_, rfl⟩
  rw [← hA] at x0 sa lA
  rw [← hB] at y0 sb lB
  rw [← hJA] at x0 g0
  rw [← hJB] at y0 g0
  rw [← hJT] at z0 g0
  rw [← hG] at g0 ⊢
  rw [← ht] at t1 t2 t3 ne ⊢
  have key : ∀ last : List D, last = (tail l).map D.str → lcL (.lst [.lst (.str "A" :: A), .lst (.str "B" :: B), .lst last]) [] [some (gm a b t), some (.lst last), some (.lst [.lst (.str "A" :: A), .lst (.str "B" :: B), .lst last]), none] (gVar 3) tYesM e1_format_game [.lst (.str "A" :: A), .lst (.str "B" :: B), .lst last] [] [] = .ok [.str JA, .str JB, .str JT] ⟨[some (gm a b t), some (.lst last), some (.lst [.lst (.str "A" :: A), .lst (.str "B" :: B), .lst last]), none], []⟩ := fun last hl => by
    rw [← hl] at z0
    simp [lcL, e1_format_game, x0, y0, z0]
  by_cases c : l = []
  · have k := key [.str "turns"] (by rw [c]; rfl)
    rw [decide_eq_true c] at ne
    simp [sem_format_game, m_format_game, t1, t2, t3, ne, sa, sb, lA, lB, k, g0]
    try omega
  · have k := key [.str "turns", .str t] (by unfold tail; rw [if_neg c, ht]; rfl)
    rw [decide_eq_false c] at ne
    simp [sem_format_game, m_format_game, t1, t2, t3, ne, sa, sb, lA, lB, k, g0]
    try omega
/-! ### divisions -/
def partS (ws : List Str) : Str := if (Str.join " " ws).length = 0 then "-" else Str.join " " ws
theorem part_ok {ws : List Str} (h : ∀ w ∈ ws, okItem w = true) (hl : ws.length ≤ 40) : PyData.strOk (partS ws) = true ∧ (partS ws).length ≤ 361 ∧ dJoin (.str " ") (.lst (ws.map .str)) = some (.str (Str.join " " ws)) ∧ (Str.join " " ws).length ≤ 360 := by
  obtain ⟨k1, k2⟩ := join_ok spx.1 ws fun p hp => okItem_ok (h p hp)
  have s := sum_le (n := 8) fun w hw => okItem_len (h w hw)
  rw [spx.2.1, Nat.mul_one] at k2
  have dj := dJoin_str (y := " ") (ps := ws) (by rw [spx.2.1]; omega)
  unfold partS
  by_cases c : (Str.join " " ws).length = 0
  · rw [if_pos c]
    exact ⟨spx.2.2.2.2.1, by rw [spx.2.2.2.2.2]; omega, dj, by omega⟩
  · rw [if_neg c]
    exact ⟨k1, by omega, dj, by omega⟩
theorem format_set_spec {ws : List Str} (h : ∀ w ∈ ws, okItem w = true) (hl : ws.length ≤ 40) : sem_format_set [] [T ws] = .ok (.str (partS ws)) ⟨[], []⟩ := by
  obtain ⟨x1, x2, x3, x4⟩ := part_ok h hl
  have jl : ∀ xs : List D, dJoin (.str " ") (.lst xs) = dJoin (.str " ") (.tup xs) := fun xs => rfl
  rw [jl] at x3
  unfold partS
  obtain ⟨J, hJ⟩ : ∃ J, J = Str.join " " ws := ⟨_, rfl⟩
  rw [← hJ] at x3 x4 ⊢
  have hl2 : J.length ≤ 1000000 := by omega
  by_cases c : J.length = 0
  · simp [sem_format_set, m_format_set, x3, hl2, c]
  · simp [sem_format_set, m_format_set, x3, hl2, c]
theorem join_zero {ws : List Str} (h : ∀ w ∈ ws, okItem w = true) : (Str.join " " ws).length = 0 ↔ ws = [] := by
  constructor
  · intro e
    cases ws with
    | nil => rfl
    | cons w r =>
      exfalso
      have h1 := h w (by simp)
      unfold okItem at h1
      simp only [Bool.and_eq_true, decide_eq_true_eq] at h1
      have e2 := len_join_cons " " w r
      rw [e] at e2
      simp only [List.map_cons, List.sum_cons] at e2
      omega
  · intro e
    subst e
    show Str.empty.length = 0
    decide +kernel
theorem words_part {ws : List Str} (h : ∀ w ∈ ws, okItem w = true) : words (partS ws) = ws ∧ 124 ∉ tl (partS ws) := by
  have h45 : 124 ∉ tl "-" := by decide +kernel
  unfold partS
  by_cases c : ws = []
  · subst c
    rw [if_pos ((join_zero h).mpr rfl)]
    exact ⟨by unfold words; rw [if_pos rfl], h45⟩
  · rw [if_neg fun e => c ((join_zero h).mp e)]
    refine ⟨?_, tl_joinM (by rw [tl_sp]; decide) fun p hp => (item_free (h p hp)).2.2.1⟩
    have sp := split_sp c fun p hp => (item_free (h p hp)).2.1
    unfold words
    rw [if_neg ?_, sp]
    intro e
    have : Txt.split ("-" : Str) " " = ws := by rw [← e]; exact sp
    have k : Txt.split ("-" : Str) " " = [("-" : Str)] := by decide +kernel
    rw [k] at this
    exact (item_free (h "-" (by rw [← this]; simp))).2.2.2.1 rfl
theorem good_of {ws : List Str} (h1 : ∀ w ∈ ws, okItem w = true) (h2 : ws.Nodup) (h3 : sortS ws = ws) : good ws = true := by
  unfold good
  rw [List.all_eq_true.mpr h1, decide_eq_true h2, h3]; simp
theorem res_parts {a b : List Str} (h1 : ∀ w ∈ a, okItem w = true) (h2 : ∀ w ∈ b, okItem w = true) (s1 : sortS a = a) (s2 : sortS b = b) (nd : (a ++ b).Nodup) (hl : a.length + b.length ≤ 40) : res (partS a ++ " | " ++ partS b) = some (a, b) := by
  obtain ⟨x1, x2⟩ := words_part h1
  obtain ⟨y1, y2⟩ := words_part h2
  obtain ⟨n1, n2, _⟩ := List.nodup_append.mp nd
  unfold res
  rw [split_bar x2 y2, resP_two, x1, y1, good_of h1 n1 s1, good_of h2 n2 s2, decide_eq_true nd, List.length_append, decide_eq_true hl]
  rfl
def dtext (a b : List Str) : Str := partS a ++ " | " ++ partS b
theorem dtext_ok {a b : List Str} (h1 : ∀ w ∈ a, okItem w = true) (h2 : ∀ w ∈ b, okItem w = true) (la : a.length ≤ 40) (lb : b.length ≤ 40) : OkT (dtext a b) := by
  obtain ⟨x1, x2, _, _⟩ := part_ok h1 la
  obtain ⟨y1, y2, _, _⟩ := part_ok h2 lb
  unfold dtext
  refine ⟨sok_app (sok_app x1 spx.2.2.1) y1, ?_⟩
  rw [app_len, app_len, spx.2.2.2.1]; omega
theorem format_division_spec {a b : List Str} (h1 : ∀ w ∈ a, okItem w = true) (h2 : ∀ w ∈ b, okItem w = true) (la : a.length ≤ 40) (lb : b.length ≤ 40) : sem_format_division [] [.tup [T a, T b]] = .ok (.str (dtext a b)) ⟨[], []⟩ := by
  have t1 := call_1 (format_set_spec h1 la) (by simp) rfl
  have t2 := call_1 (format_set_spec h2 lb) (by simp) rfl
  obtain ⟨x1, x2, _, _⟩ := part_ok h1 la
  obtain ⟨y1, y2, _, _⟩ := part_ok h2 lb
  unfold dtext
  obtain ⟨P, hP⟩ : ∃ P, P = partS a := ⟨_, rfl⟩
  obtain ⟨Q, hQ⟩ : ∃ Q, Q = partS b := ⟨_, rfl⟩
  rw [← hP] at t1 x2 ⊢
  rw [← hQ] at t2 y2 ⊢
  have l1 := app_len P " | "
  have b3 := spx.2.2.2.1
  have d1 : dAdd (.str P) (.str " | ") = some (.str (P ++ " | ")) := dAdd_str (by omega)
  have d2 : dAdd (.str (P ++ " | ")) (.str Q) = some (.str (P ++ " | " ++ Q)) := dAdd_str (by omega)
  have a0 : ∀ x y : D, atI [x, y] 0 = some x := fun _ _ => rfl
  have a1 : ∀ x y : D, atI [x, y] 1 = some y := fun _ _ => rfl
  simp [sem_format_division, m_format_division, a0, a1, t1, t2, d1, d2]
end LP

set_option pp.maxSteps 300
/-! K05a: what is shown of the law's values. -/
namespace K05
open PySem L2 DL LB
open PySem.Spec PyProof.Rows
/-- plain data of depth n, weight w -/
structure Qd (n w : Nat) (x : D) : Prop where
  ex : ∃ p, pe x = some p ∧ PyData.showable p = true ∧ PyData.depth p ≤ n ∧ PyData.leavesShort 8 p = true ∧ PyData.weight p ≤ w
theorem Qd.mono {n w m v : Nat} {x : D} (h : Qd n w x) (h1 : n ≤ m) (h2 : w ≤ v) : Qd m v x := by
  obtain ⟨p, e, a, b, c, d⟩ := h.ex
  exact ⟨p, e, a, Nat.le_trans b h1, c, Nat.le_trans d h2⟩
theorem sok_short {z : Str} (h : okItem z = true) : PyData.leavesShort 8 (.str z) = true := by
  simp only [PyData.leavesShort]
  rw [List.all_eq_true]
  intro c hc
  have := LT.sok_mem (okItem_ok h) c hc
  exact decide_eq_true (by omega)
theorem q_str {z : Str} (h : okItem z = true) : Qd 0 8 (.str z) := ⟨.str z, rfl, rfl, Nat.le_refl _, sok_short h, okItem_len h⟩
theorem q_all {n w : Nat} : ∀ {xs : List D}, (∀ x ∈ xs, Qd n w x) → ∃ ps, peL xs = some ps ∧ PyData.showableAll ps = true ∧ PyData.depthAll ps ≤ n ∧ PyData.leavesShortAll 8 ps = true ∧ PyData.weightAll ps ≤ xs.length * (w + 1)
  | [], _ => ⟨[], rfl, rfl, Nat.zero_le _, rfl, Nat.zero_le _⟩
  | x :: xs, h => by
    obtain ⟨p, e, a, b, c, d⟩ := (h x (List.mem_cons_self ..)).ex
    obtain ⟨ps, e2, a2, b2, c2, d2⟩ := q_all fun y hy => h y (List.mem_cons_of_mem _ hy)
    refine ⟨p :: ps, by simp only [peL, e, e2, Option.map_some], ?_, ?_, ?_, ?_⟩
    · simp only [PyData.showableAll, a, a2, Bool.and_self]
    · simp only [PyData.depthAll]; omega
    · simp only [PyData.leavesShortAll, c, c2, Bool.and_self]
    · simp only [PyData.weightAll, List.length_cons, Nat.succ_mul]; omega
theorem q_tup {n w k : Nat} {xs : List D} (h : ∀ x ∈ xs, Qd n w x) (hk : xs.length ≤ k) : Qd (n + 1) (k * (w + 1) + 1) (.tup xs) := by
  obtain ⟨ps, e, a, b, c, d⟩ := q_all h
  have := Nat.mul_le_mul_right (w + 1) hk
  exact ⟨.tuple ps, by simp only [pe, e, Option.map_some], by simpa only [PyData.showable] using a, by simp only [PyData.depth]; omega, by simpa only [PyData.leavesShort] using c, by simp only [PyData.weight]; omega⟩
theorem q_lst {n w k : Nat} {xs : List D} (h : ∀ x ∈ xs, Qd n w x) (hk : xs.length ≤ k) : Qd (n + 1) (k * (w + 1) + 1) (.lst xs) := by
  obtain ⟨ps, e, a, b, c, d⟩ := q_all h
  have := Nat.mul_le_mul_right (w + 1) hk
  exact ⟨.list ps, by simp only [pe, e, Option.map_some], by simpa only [PyData.showable] using a, by simp only [PyData.depth]; omega, by simpa only [PyData.leavesShort] using c, by simp only [PyData.weight]; omega⟩
theorem q_non : Qd 0 8 .non := ⟨.none, rfl, rfl, Nat.le_refl _, rfl, by decide⟩
theorem q_dct : Qd 1 8 (.dct []) := ⟨.dict [], rfl, rfl, by decide, rfl, by decide⟩
/-- its repr is a text -/
def Shown (x : D) : Prop := ∃ z : Str, dReprZ [x] = some (.str z)
theorem str_of {x : D} {o : Option D} (h : ∀ d, dReprY [x] = some d → ∃ z : Str, d = .str z) (h2 : ∃ z : Str, dReprE x = some (.str z)) : Shown x := by
  unfold Shown
  show ∃ z, orC dReprY (g1 dReprE) [x] = _
  unfold orC
  cases e : dReprY [x] with
  | none => exact h2
  | some d =>
    obtain ⟨z, rfl⟩ := h d e
    exact ⟨z, rfl⟩
theorem repr_str {x d : D} (h : dRepr x = some d) : ∃ z : Str, d = .str z := by
  unfold dRepr at h
  split at h
  · split at h
    · cases h; exact ⟨_, rfl⟩
    · cases h
  · cases h
theorem e_of {x : D} {n w : Nat} (h : Qd n w x) (hn : n ≤ 60) (hw : w ≤ 90000) (hk : (∃ xs, x = .lst xs) ∨ ∃ xs, x = .tup xs) : ∃ z : Str, dReprE x = some (.str z) := by
  obtain ⟨p, e, a, b, c, d⟩ := h.ex
  have ln := PyData.shown_le 8 (by decide) p c
  have lm : le1m p.shown.length = true := by unfold le1m; exact decide_eq_true (by omega)
  refine ⟨p.shown, ?_⟩
  unfold dReprE
  rw [e]
  have : sheOk p = true := by
    rcases hk with ⟨xs, rfl⟩ | ⟨xs, rfl⟩
    · simp only [pe, Option.map_eq_some_iff] at e
      obtain ⟨ps, _, rfl⟩ := e
      have e' : sheOk (.list ps) = ((PyData.list ps).showable && (decide ((PyData.list ps).depth ≤ 60) && le1m (PyData.list ps).shown.length)) := rfl
      rw [e', a, lm, decide_eq_true (Nat.le_trans b hn)]; rfl
    · simp only [pe, Option.map_eq_some_iff] at e
      obtain ⟨ps, _, rfl⟩ := e
      have e' : sheOk (.tuple ps) = ((PyData.tuple ps).showable && (decide ((PyData.tuple ps).depth ≤ 60) && le1m (PyData.tuple ps).shown.length)) := rfl
      rw [e', a, lm, decide_eq_true (Nat.le_trans b hn)]; rfl
  dsimp only
  rw [if_pos this]
theorem shown_lst {xs : List D} {n w : Nat} (h : Qd n w (.lst xs)) (hn : n ≤ 60) (hw : w ≤ 90000) : Shown (.lst xs) := by
  refine str_of (o := none) (fun d hd => ?_) (e_of h hn hw (.inl ⟨xs, rfl⟩))
  have : dReprY [.lst xs] = dRepr (.lst xs) := rfl
  rw [this] at hd
  exact repr_str hd
theorem shown_tup {xs : List D} {n w : Nat} (h : Qd n w (.tup xs)) (hn : n ≤ 60) (hw : w ≤ 90000) : Shown (.tup xs) := by
  refine str_of (o := none) (fun d hd => ?_) (e_of h hn hw (.inr ⟨xs, rfl⟩))
  have : dReprY [.tup xs] = dRepr (.tup xs) := rfl
  rw [this] at hd
  exact repr_str hd
theorem shown_non : Shown .non := ⟨_, rfl⟩
theorem shown_dct : Shown (.dct []) := ⟨(PyData.dict []).shown, rfl⟩
theorem shown_ab : Shown (.str "ab") := by
  have e : dReprF (.str "ab") = some (.str (reprText "ab")) := by
    unfold dReprF
    exact if_pos (by decide +kernel)
  refine ⟨reprText "ab", ?_⟩
  show orC (orC (orC (g1 dReprB) (g1 dReprF)) (g1 dRepr)) (g1 dReprE) [.str "ab"] = _
  have b : g1 dReprB [.str "ab"] = none := rfl
  have f : g1 dReprF [.str "ab"] = some (.str (reprText "ab")) := e
  simp only [orC, b, f]
theorem shown_5 : Shown (.int 5) := ⟨_, rfl⟩
end K05

set_option pp.maxSteps 300
/-! K05b: what is answered of a value. -/
namespace K05
open PySem L2 DL LB
open PySem.Spec PyProof.Rows
/-- the elements that come up -/
inductive Ex : D → Prop
  | pair (a b : Str) : okItem a = true → okItem b = true → Ex (.tup [.str a, .str b])
  | lst2 (a b : Str) : okItem a = true → okItem b = true → Ex (.lst [.str a, .str b])
  | one (a : Str) : okItem a = true → Ex (.tup [.str a])
  | three (a b c : Str) : okItem a = true → okItem b = true → okItem c = true → Ex (.tup [.str a, .str b, .str c])
  | pn (a : Str) : okItem a = true → Ex (.tup [.str a, .non])
  | non : Ex .non
  | str (a : Str) : okItem a = true → Ex (.str a)
  | lp (a b : Str) : okItem a = true → okItem b = true → Ex (.tup [.lst [.str a], .str b])
  | pd (a : Str) : okItem a = true → Ex (.tup [.str a, .dct []])
  | nil : Ex (.tup [])
def good : D → Option (Str × Str)
  | .tup [.str a, .str b] => some (a, b)
  | _ => none
abbrev Pd (p : Str × Str) : D := .tup [.str p.1, .str p.2]
theorem good_some {x : D} {p : Str × Str} (h : good x = some p) : x = Pd p := by
  unfold good at h
  split at h
  · cases h; rfl
  · cases h
theorem Ex.np {x : D} (h : Ex x) : DL.np x = true := by cases h <;> rfl
theorem Ex.q {x : D} (h : Ex x) : Qd 3 40 x := by
  have two : ∀ {y z : D}, Qd 1 10 y → Qd 1 10 z → Qd 3 40 (.tup [y, z]) := fun hy hz => (q_tup (n := 1) (w := 10) (k := 2) (fun x hx => by
    simp only [List.mem_cons, List.not_mem_nil, or_false] at hx
    rcases hx with rfl | rfl
    · exact hy
    · exact hz) (by simp)).mono (by omega) (by omega)
  have s : ∀ {a : Str}, okItem a = true → Qd 1 10 (.str a) := fun h => (q_str h).mono (by omega) (by omega)
  have l1 : ∀ {a : Str}, okItem a = true → Qd 1 10 (.lst [.str a]) := fun h => (q_lst (n := 0) (w := 8) (k := 1) (fun x hx => by
    simp only [List.mem_cons, List.not_mem_nil, or_false] at hx
    subst hx
    exact q_str h) (by simp)).mono (by omega) (by omega)
  cases h with
  | pair a b h1 h2 => exact two (s h1) (s h2)
  | lst2 a b h1 h2 =>
    exact (q_lst (n := 0) (w := 8) (k := 2) (fun x hx => by
      simp only [List.mem_cons, List.not_mem_nil, or_false] at hx
      rcases hx with rfl | rfl
      · exact q_str h1
      · exact q_str h2) (by simp)).mono (by omega) (by omega)
  | one a h1 =>
    exact (q_tup (n := 0) (w := 8) (k := 1) (fun x hx => by
      simp only [List.mem_cons, List.not_mem_nil, or_false] at hx
      subst hx
      exact q_str h1) (by simp)).mono (by omega) (by omega)
  | three a b c h1 h2 h3 =>
    exact (q_tup (n := 0) (w := 8) (k := 3) (fun x hx => by
      simp only [List.mem_cons, List.not_mem_nil, or_false] at hx
      rcases hx with rfl | rfl | rfl
      · exact q_str h1
      · exact q_str h2
      · exact q_str h3) (by simp)).mono (by omega) (by omega)
  | pn a h1 => exact two (s h1) (q_non.mono (by omega) (by omega))
  | non => exact q_non.mono (by omega) (by omega)
  | str a h1 => exact (q_str h1).mono (by omega) (by omega)
  | lp a b h1 h2 => exact two (l1 h1) (s h2)
  | pd a h1 => exact two (s h1) (q_dct.mono (by omega) (by omega))
  | nil => exact (q_tup (n := 0) (w := 8) (k := 0) (fun x hx => by cases hx) (by simp)).mono (by omega) (by omega)
/-- all are pairs of texts -/
def goods : List D → Option (List (Str × Str))
  | [] => some []
  | x :: r => (good x).bind fun p => (goods r).map fun ps => p :: ps
theorem goods_some : ∀ {xs : List D} {ps : List (Str × Str)}, goods xs = some ps → xs = ps.map Pd
  | [], ps, h => by cases h; rfl
  | x :: r, ps, h => by
    unfold goods at h
    obtain ⟨p, h1, h⟩ := Option.bind_eq_some_iff.mp h
    obtain ⟨r', h2, rfl⟩ := Option.map_eq_some_iff.mp h
    rw [good_some h1, goods_some h2]; rfl
theorem goods_none : ∀ {xs : List D}, goods xs = none → ∃ x ∈ xs, good x = none
  | [], h => by cases h
  | x :: r, h => by
    unfold goods at h
    cases h1 : good x with
    | none => exact ⟨x, List.mem_cons_self .., h1⟩
    | some p =>
      rw [h1] at h
      have h : (goods r).map (fun ps => p :: ps) = none := h
      obtain ⟨y, hy, e⟩ := goods_none (Option.map_eq_none_iff.mp h)
      exact ⟨y, List.mem_cons_of_mem _ hy, e⟩
theorem goods_all {xs : List D} {ps : List (Str × Str)} (h : goods xs = some ps) : ∀ x ∈ xs, good x ≠ none := fun x hx e => by
  rw [goods_some h] at hx
  obtain ⟨p, _, rfl⟩ := List.mem_map.mp hx
  cases e
def verd (row w b : List Str) (ps : List (Str × Str)) : Bool := decide (sortS (ps.map (·.1)) = w) && (decide (sortS (ps.map (·.2)) = b) && ps.all fun p => decide (row.idxOf p.2 ≤ row.idxOf p.1))
def verdict (row w b : List Str) (xs : List D) : Bool := match goods xs with
  | some ps => verd row w b ps
  | none => false

@[simp] theorem i_tt (xs : List D) : dIsi (.tup xs) (.raw (.ty "tuple")) = some (.bl true) := (rfl)
@[simp] theorem i_lt (xs : List D) : dIsi (.lst xs) (.raw (.ty "tuple")) = some (.bl false) := (rfl)
@[simp] theorem i_nt : dIsi .non (.raw (.ty "tuple")) = some (.bl false) := (rfl)
@[simp] theorem i_st (z : Str) : dIsi (.str z) (.raw (.ty "tuple")) = some (.bl false) := (rfl)
@[simp] theorem i_ll (xs : List D) : dIsi (.lst xs) (.raw (.ty "list")) = some (.bl true) := (rfl)
@[simp] theorem i_tl (xs : List D) : dIsi (.tup xs) (.raw (.ty "list")) = some (.bl false) := (rfl)
@[simp] theorem i_nl : dIsi .non (.raw (.ty "list")) = some (.bl false) := (rfl)
@[simp] theorem i_sl (z : Str) : dIsi (.str z) (.raw (.ty "list")) = some (.bl false) := (rfl)
@[simp] theorem i_il (z : Int) : dIsi (.int z) (.raw (.ty "list")) = some (.bl false) := (rfl)
@[simp] theorem i_dl : dIsi (.dct []) (.raw (.ty "list")) = some (.bl false) := (rfl)
@[simp] theorem i_ss (z : Str) : dIsi (.str z) (.raw (.ty "str")) = some (.bl true) := (rfl)
@[simp] theorem i_ns : dIsi .non (.raw (.ty "str")) = some (.bl false) := (rfl)
@[simp] theorem i_ls (xs : List D) : dIsi (.lst xs) (.raw (.ty "str")) = some (.bl false) := (rfl)
@[simp] theorem i_ds : dIsi (.dct []) (.raw (.ty "str")) = some (.bl false) := (rfl)
@[simp] theorem at_0 (x y : D) : atI [x, y] 0 = some x := (rfl)
@[simp] theorem at_1 (x y : D) : atI [x, y] 1 = some y := (rfl)
/-- a turn of the first loop, by the law -/
theorem due_turn {x r w b v : D} (h : Ex x) : (good x ≠ none ∧ b1__law_due ⟨[some r, some w, some b, some v, some x], []⟩ = .ok .nx ⟨[some r, some w, some b, some v, some x], []⟩) ∨
    (good x = none ∧ b1__law_due ⟨[some r, some w, some b, some v, some x], []⟩ = .ok (.ret (.bl false)) ⟨[some r, some w, some b, some v, some x], []⟩) := by
  cases h with
  | pair a b _ _ => exact .inl ⟨by simp [good], by simp [b1__law_due]⟩
  | lst2 a b _ _ => exact .inr ⟨rfl, by simp [b1__law_due]⟩
  | one a _ => exact .inr ⟨rfl, by simp [b1__law_due]⟩
  | three a b c _ _ _ => exact .inr ⟨rfl, by simp [b1__law_due]⟩
  | pn a _ => exact .inr ⟨rfl, by simp [b1__law_due]⟩
  | non => exact .inr ⟨rfl, by simp [b1__law_due]⟩
  | str a _ => exact .inr ⟨rfl, by simp [b1__law_due]⟩
  | lp a b _ _ => exact .inr ⟨rfl, by simp [b1__law_due]⟩
  | pd a _ => exact .inr ⟨rfl, by simp [b1__law_due]⟩
  | nil => exact .inr ⟨rfl, by simp [b1__law_due]⟩
theorem view_nil (x : D) : view [] x = x := by cases x <;> rfl
/-- .. by the program -/
theorem prog_turn {x r w b v : D} {o : Option D} (h : Ex x) : (good x ≠ none ∧ b2_is_matching_of ⟨[some r, some w, some b, some v, some x, o], []⟩ = .ok .nx ⟨[some r, some w, some b, some v, some x, o], []⟩) ∨
    (good x = none ∧ b2_is_matching_of ⟨[some r, some w, some b, some v, some x, o], []⟩ = .ok (.ret (.bl false)) ⟨[some r, some w, some b, some v, some x, o], []⟩) := by
  have comp : ∀ (xs : List D) (f : D → Bool), (∀ x ∈ xs, dIsi x (.raw (.ty "str")) = some (.bl (f x))) → xs.length < 1000 →
      lcL (.tup xs) [] [some r, some w, some b, some v, some (.tup xs), none] (gVar 5) tYesM e1_is_matching_of xs [] [] = .ok (xs.map fun x => D.bl (f x)) ⟨[some r, some w, some b, some v, some (.tup xs), none], []⟩ := fun xs f hf hl => by
    have := lcL_each (d := .tup xs) (M0 := []) (env0 := [some r, some w, some b, some v, some (.tup xs), none]) (g := gVar 5) (tt := tYesM) (fe := e1_is_matching_of) (M := []) id xs (fun x => D.bl (f x)) (by rfl) (fun x hx => by
      have e := hf x hx
      simp [lcS, e1_is_matching_of, e, view_nil]) (by omega)
    rw [List.map_id] at this
    exact this
  cases h with
  | pair a b _ _ =>
    have c := comp [.str a, .str b] (fun _ => true) (fun x hx => by simp only [List.mem_cons, List.not_mem_nil, or_false] at hx; rcases hx with rfl | rfl <;> rfl) (by simp)
    exact .inl ⟨by simp [good], by simp [b2_is_matching_of, c, dAll, blsD]⟩
  | lst2 a b _ _ => exact .inr ⟨rfl, by simp [b2_is_matching_of]⟩
  | one a _ => exact .inr ⟨rfl, by simp [b2_is_matching_of]⟩
  | three a b c _ _ _ => exact .inr ⟨rfl, by simp [b2_is_matching_of]⟩
  | pn a _ =>
    have c := comp [.str a, .non] (fun x => match x with | .str _ => true | _ => false) (fun x hx => by simp only [List.mem_cons, List.not_mem_nil, or_false] at hx; rcases hx with rfl | rfl <;> rfl) (by simp)
    exact .inr ⟨rfl, by simp [b2_is_matching_of, c, dAll, blsD]⟩
  | non => exact .inr ⟨rfl, by simp [b2_is_matching_of]⟩
  | str a _ => exact .inr ⟨rfl, by simp [b2_is_matching_of]⟩
  | lp a b _ _ =>
    have c := comp [.lst [.str a], .str b] (fun x => match x with | .str _ => true | _ => false) (fun x hx => by simp only [List.mem_cons, List.not_mem_nil, or_false] at hx; rcases hx with rfl | rfl <;> rfl) (by simp)
    exact .inr ⟨rfl, by simp [b2_is_matching_of, c, dAll, blsD]⟩
  | pd a _ =>
    have c := comp [.str a, .dct []] (fun x => match x with | .str _ => true | _ => false) (fun x hx => by simp only [List.mem_cons, List.not_mem_nil, or_false] at hx; rcases hx with rfl | rfl <;> rfl) (by simp)
    exact .inr ⟨rfl, by simp [b2_is_matching_of, c, dAll, blsD]⟩
  | nil => exact .inr ⟨rfl, by simp [b2_is_matching_of]⟩
end K05

set_option pp.maxSteps 300
/-! K05c: the verdicts of both. -/
namespace K05
open PySem L2 DL LB
open PySem.Spec PyProof.Rows
theorem dGt_nat (m n : Nat) : dGtI (.int m) (.int n) = some (.bl (decide (n < m))) := by
  show some (D.bl (decide ((n : Int) < (m : Int)))) = _
  congr 2
  exact decide_eq_decide.mpr (by omega)
theorem dLe_nat (m n : Nat) : dLeI (.int m) (.int n) = some (.bl (decide (m ≤ n))) := by
  show some (D.bl (decide ((m : Int) ≤ (n : Int)))) = _
  congr 2
  exact decide_eq_decide.mpr (by omega)
theorem ix_T {zs : List Str} {z : Str} (h : z ∈ zs) : dIndex (T zs) (.str z) = some (.int (zs.idxOf z : Nat)) := by
  simp [dIndex, strsD_T, h]
abbrev pP (p : Str × Str) : PyData := .tuple [.str p.1, .str p.2]
theorem pdL_pairs : ∀ ps : List (Str × Str), pdL (ps.map Pd) = some (ps.map pP)
  | [] => rfl
  | p :: ps => by
    rw [List.map_cons, List.map_cons]
    simp only [pdL, pd, pdL_pairs ps, Option.map_some]
theorem lay_pairs : ∀ {ps : List (Str × Str)}, (∀ p ∈ ps, okItem p.1 = true ∧ okItem p.2 = true) → PyData.canLayAll0 (ps.map pP) = true ∧ PyData.depthAll (ps.map pP) ≤ 1
  | [], _ => ⟨rfl, Nat.zero_le _⟩
  | p :: ps, h => by
    obtain ⟨h1, h2⟩ := h p (List.mem_cons_self ..)
    obtain ⟨i1, i2⟩ := lay_pairs fun q hq => h q (List.mem_cons_of_mem _ hq)
    rw [List.map_cons]
    refine ⟨?_, ?_⟩
    · simp only [PyData.canLayAll0, PyData.canLay0, okItem_ok h1, okItem_ok h2, i1, Bool.and_self]
    · simp only [PyData.depthAll, PyData.depth]; omega
theorem eq_nil {ps : List (Str × Str)} (h : ∀ p ∈ ps, okItem p.1 = true ∧ okItem p.2 = true) : dEq (.lst (ps.map Pd)) (.lst []) = some (.bl ps.isEmpty) := by
  obtain ⟨h1, h2⟩ := lay_pairs h
  have s1 : SeqAt.shaped (.list (ps.map pP)) = true := by
    unfold SeqAt.shaped
    simp only [PyData.canLay0, h1, PyData.depth, Bool.true_and]
    exact decide_eq_true (by omega)
  have s2 : SeqAt.shaped (.list []) = true := by decide +kernel
  rw [dEq_pd (p := .list (ps.map pP)) (q := .list []) (by simp only [pd, pdL_pairs, Option.map_some]) rfl s1 s2 rfl]
  cases ps with
  | nil => simp [PyData.eqv, PyData.eqvAll]
  | cons p ps => simp [PyData.eqv, PyData.eqvAll]
/-- the sets of a ranking -/
structure Wh (row w b : List Str) : Prop where
  r : Rk row
  w : ∀ z ∈ w, z ∈ row
  b : ∀ z ∈ b, z ∈ row
theorem Wh.okw {row w b : List Str} (h : Wh row w b) : DL.Ok w := fun z hz => okItem_ok (h.r.ok z (h.w z hz))
theorem Wh.okb {row w b : List Str} (h : Wh row w b) : DL.Ok b := fun z hz => okItem_ok (h.r.ok z (h.b z hz))
theorem Ex.oks {a b : Str} (h : Ex (Pd (a, b))) : okItem a = true ∧ okItem b = true := by
  cases h with
  | pair _ _ h1 h2 => exact ⟨h1, h2⟩
theorem fold_bad {xs : List D} (h : ∃ x ∈ xs, good x = none) (row w b : List Str) : verdict row w b xs = false := by
  unfold verdict
  cases e : goods xs with
  | none => rfl
  | some ps =>
    obtain ⟨x, hx, h⟩ := h
    exact absurd h (goods_all e x hx)
theorem due_spec {row w b : List Str} {xs : List D} (h : Wh row w b) (hx : ∀ x ∈ xs, Ex x) (hl : xs.length < 1000) : sem__law_due [] [T row, T w, T b, .lst xs] = .ok (.bl (verdict row w b xs)) ⟨[], []⟩ := by
  have main := forL_find (d := .lst xs) (M0 := []) (g := gVar 4) (body := b1__law_due) (els := sNx) id xs
    (fun p s => (∀ x ∈ p, good x ≠ none) ∧ ∃ o, s = ⟨[some (T row), some (T w), some (T b), some (.lst xs), o], []⟩)
    (fun r => ((∀ x ∈ xs, good x ≠ none) ∧ ∃ o, r = .ok .nx ⟨[some (T row), some (T w), some (T b), some (.lst xs), o], []⟩) ∨ ((∃ x ∈ xs, good x = none) ∧ ∃ o, r = .ok (.ret (.bl false)) ⟨[some (T row), some (T w), some (T b), some (.lst xs), o], []⟩))
    (fun p x r s e ⟨hg, o, es⟩ => by
      subst es
      have hm : x ∈ xs := by rw [e]; simp
      refine ⟨⟨[some (T row), some (T w), some (T b), some (.lst xs), some x], []⟩, rfl, ?_⟩
      rcases due_turn (r := T row) (w := T w) (b := T b) (v := .lst xs) (hx x hm) with ⟨g, e1⟩ | ⟨g, e1⟩
      · refine .inl ⟨_, .inl e1, rfl, fun y hy => ?_, _, rfl⟩
        rcases List.mem_append.mp hy with hy | hy
        · exact hg y hy
        · rw [List.mem_singleton.mp hy]; exact g
      · exact .inr ⟨_, _, e1, .inr ⟨⟨x, hm, g⟩, _, rfl⟩⟩)
    (s := ⟨[some (T row), some (T w), some (T b), some (.lst xs), none], []⟩) ⟨fun x hx => (by cases hx), _, rfl⟩ (fun s' ⟨hg, o, es⟩ => .inl ⟨hg, o, (by rw [es]; rfl)⟩)
  rw [List.map_id] at main
  rcases main with ⟨hg, o, e⟩ | ⟨hb, o, e⟩
  · cases hgo : goods xs with
    | none =>
      obtain ⟨x, hm, hn⟩ := goods_none hgo
      exact absurd hn (hg x hm)
    | some ps =>
      have exs := goods_some hgo
      have okp : ∀ p ∈ ps, okItem p.1 = true ∧ okItem p.2 = true := fun p hp => by
        have := hx (Pd p) (by rw [exs]; exact List.mem_map_of_mem hp)
        exact Ex.oks this
      have lp : ps.length < 1000 := by rw [exs, List.length_map] at hl; exact hl
      have c2 := lcL_each (d := .lst xs) (M0 := []) (env0 := [some (T row), some (T w), some (T b), some (.lst xs), none]) (g := gVar 4) (tt := tYesM) (fe := e2__law_due) (M := []) Pd ps (fun p => .str p.1) (by rfl) (fun p hp => by
        simp [lcS, e2__law_due]) (by omega)
      have c3 := lcL_each (d := .lst xs) (M0 := []) (env0 := [some (T row), some (T w), some (T b), some (.lst xs), none]) (g := gVar 4) (tt := tYesM) (fe := e3__law_due) (M := []) Pd ps (fun p => .str p.2) (by rfl) (fun p hp => by
        simp [lcS, e3__law_due]) (by omega)
      have m1 : ps.map (fun p => D.str p.1) = (ps.map (·.1)).map D.str := by rw [List.map_map]; rfl
      have m2 : ps.map (fun p => D.str p.2) = (ps.map (·.2)).map D.str := by rw [List.map_map]; rfl
      rw [m1, ← exs] at c2
      rw [m2, ← exs] at c3
      obtain ⟨f1, hf1⟩ : ∃ f, f = ps.map (·.1) := ⟨_, rfl⟩
      obtain ⟨f2, hf2⟩ : ∃ f, f = ps.map (·.2) := ⟨_, rfl⟩
      rw [← hf1] at c2
      rw [← hf2] at c3
      have l1 : f1.length ≤ 1000000 := by rw [hf1, List.length_map]; omega
      have l2 : f2.length ≤ 1000000 := by rw [hf2, List.length_map]; omega
      have ok1 : DL.Ok f1 := fun z hz => by
        rw [hf1] at hz
        obtain ⟨p, hp, rfl⟩ := List.mem_map.mp hz
        exact okItem_ok (okp p hp).1
      have ok2 : DL.Ok f2 := fun z hz => by
        rw [hf2] at hz
        obtain ⟨p, hp, rfl⟩ := List.mem_map.mp hz
        exact okItem_ok (okp p hp).2
      have s1 := srt_lst l1
      have s2 := srt_lst l2
      have n1 := LT.dNe_L (Ok.sort ok1) h.okw
      have n2 := LT.dNe_L (Ok.sort ok2) h.okb
      have lw : (lstOf (T w)).map D.lst = some (.lst (w.map .str)) := rfl
      have lb : (lstOf (T b)).map D.lst = some (.lst (b.map .str)) := rfl
      have ev : verdict row w b xs = verd row w b ps := by unfold verdict; rw [hgo]
      rw [ev]
      unfold verd
      rw [← hf1, ← hf2]
      by_cases q1 : sortS f1 = w
      · by_cases q2 : sortS f2 = b
        · rw [decide_eq_true q1] at n1
          rw [decide_eq_true q2] at n2
          have in1 : ∀ p ∈ ps, p.1 ∈ row := fun p hp => h.w _ (by rw [← q1]; exact (sortS_perm f1).mem_iff.mpr (by rw [hf1]; exact List.mem_map_of_mem hp))
          have in2 : ∀ p ∈ ps, p.2 ∈ row := fun p hp => h.b _ (by rw [← q2]; exact (sortS_perm f2).mem_iff.mpr (by rw [hf2]; exact List.mem_map_of_mem hp))
          have c4 := lcL_pure (d := .lst xs) (M0 := []) (env0 := [some (T row), some (T w), some (T b), some (.lst xs), none]) (g := gVar 4) (tt := (tOf (eOp dGtI (eIndex (eVar 0) (aCons (eOp dSub (eVar 4) (eC (.int 1))) aNil)) (eIndex (eVar 0) (aCons (eOp dSub (eVar 4) (eC (.int 0))) aNil))))) (fe := e4__law_due) (M := []) Pd ps (fun p => decide (row.idxOf p.1 < row.idxOf p.2)) Pd (by rfl) (fun p hp => by
            have x1 := ix_T (in1 p hp)
            have x2 := ix_T (in2 p hp)
            have g1 := dGt_nat (row.idxOf p.2) (row.idxOf p.1)
            have sq : isSeqIx (T row) = true := rfl
            by_cases c : row.idxOf p.1 < row.idxOf p.2
            · rw [decide_eq_true c] at g1
              simp [lcS, e4__law_due, x1, x2, g1, sq, c]
            · rw [decide_eq_false c] at g1
              simp [lcS, e4__law_due, x1, x2, g1, sq, c]) (by omega)
          rw [← exs] at c4
          obtain ⟨fl, hfl⟩ : ∃ fl, fl = ps.filter (fun p => decide (row.idxOf p.1 < row.idxOf p.2)) := ⟨_, rfl⟩
          rw [← hfl] at c4
          have en := eq_nil (ps := fl) fun p hp => okp p (by rw [hfl] at hp; exact (List.mem_filter.mp hp).1)
          have ee : fl.isEmpty = ps.all (fun p => decide (row.idxOf p.2 ≤ row.idxOf p.1)) := by
            rw [hfl, Bool.eq_iff_iff, List.isEmpty_iff, List.filter_eq_nil_iff, List.all_eq_true]
            constructor
            · intro hh p hp
              have := hh p hp
              simp only [decide_eq_true_eq] at this ⊢
              omega
            · intro hh p hp
              have := hh p hp
              simp only [decide_eq_true_eq] at this ⊢
              omega
          rw [ee] at en
          rw [decide_eq_true q1, decide_eq_true q2]
          simp [sem__law_due, m__law_due, e, c2, c3, c4, s1, s2, n1, n2, lw, lb, en]
        · rw [decide_eq_true q1] at n1
          rw [decide_eq_false q2] at n2
          rw [decide_eq_true q1, decide_eq_false q2]
          simp [sem__law_due, m__law_due, e, c2, c3, s1, s2, n1, n2, lw, lb]
      · rw [decide_eq_false q1] at n1
        rw [decide_eq_false q1]
        simp [sem__law_due, m__law_due, e, c2, s1, n1, lw]
  · rw [fold_bad hb]
    simp [sem__law_due, m__law_due, e]
end K05

set_option pp.maxSteps 300
/-! K05d: the program's verdict. -/
namespace K05
open PySem L2 DL LB
open PySem.Spec PyProof.Rows
theorem np_pairs (ps : List (Str × Str)) : npL (ps.map Pd) = true := npL_iff.mpr fun x hx => by
  obtain ⟨p, _, rfl⟩ := List.mem_map.mp hx
  rfl
theorem fits_spec {row : List Str} {ps : List (Str × Str)} (h1 : ∀ p ∈ ps, p.1 ∈ row) (h2 : ∀ p ∈ ps, p.2 ∈ row) (hl : ps.length < 1000) : sem_fits [] [T row, .lst (ps.map Pd)] = .ok (.bl (ps.all fun p => decide (row.idxOf p.2 ≤ row.idxOf p.1))) ⟨[], []⟩ := by
  have c := lcL_each (d := .lst (ps.map Pd)) (M0 := []) (env0 := [some (T row), some (.lst (ps.map Pd)), none, none]) (g := gTupD (gMore (gVar 2) (gMore (gVar 3) gNone))) (tt := tYesM) (fe := e1_fits) (M := []) Pd ps (fun p => .bl (decide (row.idxOf p.2 ≤ row.idxOf p.1))) (by rfl) (fun p hp => by
    have x1 := ix_T (h1 p hp)
    have x2 := ix_T (h2 p hp)
    have g1 := dLe_nat (row.idxOf p.2) (row.idxOf p.1)
    have sq : isSeqIx (T row) = true := rfl
    simp [lcS, e1_fits, x1, x2, g1, sq]) (by omega)
  have a := dAll_map (fun p : Str × Str => decide (row.idxOf p.2 ≤ row.idxOf p.1)) ps
  simp [sem_fits, m_fits, c, a]
theorem of_spec {row w b : List Str} {xs : List D} (h : Wh row w b) (hx : ∀ x ∈ xs, Ex x) (hl : xs.length < 1000) : sem_is_matching_of [] [T row, T w, T b, .lst xs] = .ok (.bl (verdict row w b xs)) ⟨[], []⟩ := by
  have main := forL_find (d := .lst xs) (M0 := []) (g := gVar 4) (body := b2_is_matching_of) (els := sNx) id xs
    (fun p s => (∀ x ∈ p, good x ≠ none) ∧ ∃ o, s = ⟨[some (T row), some (T w), some (T b), some (.lst xs), o, none], []⟩)
    (fun r => ((∀ x ∈ xs, good x ≠ none) ∧ ∃ o, r = .ok .nx ⟨[some (T row), some (T w), some (T b), some (.lst xs), o, none], []⟩) ∨ ((∃ x ∈ xs, good x = none) ∧ ∃ o, r = .ok (.ret (.bl false)) ⟨[some (T row), some (T w), some (T b), some (.lst xs), o, none], []⟩))
    (fun p x r s e ⟨hg, o, es⟩ => by
      subst es
      have hm : x ∈ xs := by rw [e]; simp
      refine ⟨⟨[some (T row), some (T w), some (T b), some (.lst xs), some x, none], []⟩, rfl, ?_⟩
      rcases prog_turn (r := T row) (w := T w) (b := T b) (v := .lst xs) (o := none) (hx x hm) with ⟨g, e1⟩ | ⟨g, e1⟩
      · refine .inl ⟨_, .inl e1, rfl, fun y hy => ?_, _, rfl⟩
        rcases List.mem_append.mp hy with hy | hy
        · exact hg y hy
        · rw [List.mem_singleton.mp hy]; exact g
      · exact .inr ⟨_, _, e1, .inr ⟨⟨x, hm, g⟩, _, rfl⟩⟩)
    (s := ⟨[some (T row), some (T w), some (T b), some (.lst xs), none, none], []⟩) ⟨fun x hx => (by cases hx), _, rfl⟩ (fun s' ⟨hg, o, es⟩ => .inl ⟨hg, o, (by rw [es]; rfl)⟩)
  rw [List.map_id] at main
  rcases main with ⟨hg, o, e⟩ | ⟨hb, o, e⟩
  · cases hgo : goods xs with
    | none =>
      obtain ⟨x, hm, hn⟩ := goods_none hgo
      exact absurd hn (hg x hm)
    | some ps =>
      have exs := goods_some hgo
      have okp : ∀ p ∈ ps, okItem p.1 = true ∧ okItem p.2 = true := fun p hp => by
        have := hx (Pd p) (by rw [exs]; exact List.mem_map_of_mem hp)
        exact Ex.oks this
      have lp : ps.length < 1000 := by rw [exs, List.length_map] at hl; exact hl
      have c2 := lcL_each (d := .lst xs) (M0 := []) (env0 := [some (T row), some (T w), some (T b), some (.lst xs), none, none]) (g := gVar 4) (tt := tYesM) (fe := e3_is_matching_of) (M := []) Pd ps (fun p => .str p.1) (by rfl) (fun p hp => by
        simp [lcS, e3_is_matching_of]) (by omega)
      have c3 := lcL_each (d := .lst xs) (M0 := []) (env0 := [some (T row), some (T w), some (T b), some (.lst xs), none, none]) (g := gVar 4) (tt := tYesM) (fe := e4_is_matching_of) (M := []) Pd ps (fun p => .str p.2) (by rfl) (fun p hp => by
        simp [lcS, e4_is_matching_of]) (by omega)
      have m1 : ps.map (fun p => D.str p.1) = (ps.map (·.1)).map D.str := by rw [List.map_map]; rfl
      have m2 : ps.map (fun p => D.str p.2) = (ps.map (·.2)).map D.str := by rw [List.map_map]; rfl
      rw [m1, ← exs] at c2
      rw [m2, ← exs] at c3
      obtain ⟨f1, hf1⟩ : ∃ f, f = ps.map (·.1) := ⟨_, rfl⟩
      obtain ⟨f2, hf2⟩ : ∃ f, f = ps.map (·.2) := ⟨_, rfl⟩
      rw [← hf1] at c2
      rw [← hf2] at c3
      have l1 : f1.length ≤ 1000000 := by rw [hf1, List.length_map]; omega
      have l2 : f2.length ≤ 1000000 := by rw [hf2, List.length_map]; omega
      have ok1 : DL.Ok f1 := fun z hz => by
        rw [hf1] at hz
        obtain ⟨p, hp, rfl⟩ := List.mem_map.mp hz
        exact okItem_ok (okp p hp).1
      have ok2 : DL.Ok f2 := fun z hz => by
        rw [hf2] at hz
        obtain ⟨p, hp, rfl⟩ := List.mem_map.mp hz
        exact okItem_ok (okp p hp).2
      have s1 := srt_lst l1
      have s2 := srt_lst l2
      have n1 := LT.dNe_L (Ok.sort ok1) h.okw
      have n2 := LT.dNe_L (Ok.sort ok2) h.okb
      have lw : (lstOf (T w)).map D.lst = some (.lst (w.map .str)) := rfl
      have lb : (lstOf (T b)).map D.lst = some (.lst (b.map .str)) := rfl
      have ev : verdict row w b xs = verd row w b ps := by unfold verdict; rw [hgo]
      rw [ev]
      unfold verd
      rw [← hf1, ← hf2]
      by_cases q1 : sortS f1 = w
      · by_cases q2 : sortS f2 = b
        · rw [decide_eq_true q1] at n1
          rw [decide_eq_true q2] at n2
          have in1 : ∀ p ∈ ps, p.1 ∈ row := fun p hp => h.w _ (by rw [← q1]; exact (sortS_perm f1).mem_iff.mpr (by rw [hf1]; exact List.mem_map_of_mem hp))
          have in2 : ∀ p ∈ ps, p.2 ∈ row := fun p hp => h.b _ (by rw [← q2]; exact (sortS_perm f2).mem_iff.mpr (by rw [hf2]; exact List.mem_map_of_mem hp))
          have t := call_2 (fits_spec in1 in2 lp) (by simp) (show DL.np (.lst (ps.map Pd)) = true from np_pairs ps) rfl
          rw [← exs] at t
          rw [decide_eq_true q1, decide_eq_true q2]
          simp [sem_is_matching_of, m_is_matching_of, e, c2, c3, s1, s2, n1, n2, lw, lb, t]
        · rw [decide_eq_true q1] at n1
          rw [decide_eq_false q2] at n2
          rw [decide_eq_true q1, decide_eq_false q2]
          simp [sem_is_matching_of, m_is_matching_of, e, c2, c3, s1, s2, n1, n2, lw, lb]
      · rw [decide_eq_false q1] at n1
        rw [decide_eq_false q1]
        simp [sem_is_matching_of, m_is_matching_of, e, c2, s1, n1, lw]
  · rw [fold_bad hb]
    simp [sem_is_matching_of, m_is_matching_of, e]
/-- values that are no list -/
theorem due_odd {r w b v : D} (h : dIsi v (.raw (.ty "list")) = some (.bl false)) (hv : ∀ M, view M v = v) : sem__law_due [] [r, w, b, v] = .ok (.bl false) ⟨[], []⟩ := by
  simp [sem__law_due, m__law_due, h, hv]
theorem of_odd {r w b v : D} (h : dIsi v (.raw (.ty "list")) = some (.bl false)) (hv : ∀ M, view M v = v) : sem_is_matching_of [] [r, w, b, v] = .ok (.bl false) ⟨[], []⟩ := by
  simp [sem_is_matching_of, m_is_matching_of, h, hv]
theorem sets_spec {row w b : List Str} (hr : Rk row) (hw : LB.St w row) (hb : LB.St b row) (hl : w.length = b.length) (hn : w.length < 3000) : sem_check_sets [] [T row, T w, T b] = .ok .non ⟨[], []⟩ := by
  have t1 := call_1 (check_ranking_Rk hr) (by simp) rfl
  have t2 := call_2 (is_set_of_St hw hn) (by simp) (by simp) rfl
  have t3 := call_2 (is_set_of_St hb (by omega)) (by simp) (by simp) rfl
  have nn : ∀ k : Int, dNe (.int k) (.int k) = some (.bl false) := fun k => by
    simp [dNe, orD, dNeF, eqF, flatD, scal]
  simp [sem_check_sets, m_check_sets, starD, t1, forL, b1_check_sets, t2, t3, hl, nn]
end K05

set_option pp.maxSteps 300
/-! K05e: the law's pairs. -/
namespace K05
open PySem L2 DL LB
open LF2 (Pool take_spec call_pool call_last call_tf)
open PySem.Spec PyProof.Rows
/-- a call that writes the last cell but one -/
theorem call_pre {sem : DL.Sem} {c c' : C} {d r : D} {y : Option C} (hs : sem [c] [.ptr 0, d] = .ok r ⟨[], [some c']⟩) (hc : c.np = true) (hd : DL.np d = true) (hr : DL.np r = true) (hc' : c'.np = true) (env : List (Option D)) (M : List (Option C)) :
    callS [true, false] sem [.ptr M.length, d] ⟨env, M ++ [some c, y]⟩ = .ok r ⟨env, M ++ [some c', y]⟩ := by
  have nd : ∀ k, d ≠ .ptr k := fun k e => by subst e; cases hd
  have e1 : (M ++ [some c, y])[M.length]? = some (some c) := by rw [List.getElem?_append_right (Nat.le_refl _), Nat.sub_self]; rfl
  unfold callS
  rw [prep_t]
  dsimp only
  rw [e1]
  dsimp only
  rw [if_pos hc, prep_fv nd, if_pos hd, prep_nil]
  dsimp only [Option.map_some]
  rw [if_pos ⟨by simp, by simp⟩, hs]
  simp [hr, hc', hc]
theorem call_pre3 {sem : DL.Sem} {c c' : C} {d e r : D} {y : Option C} (hs : sem [c] [.ptr 0, d, e] = .ok r ⟨[], [some c']⟩) (hc : c.np = true) (hd : DL.np d = true) (he : DL.np e = true) (hr : DL.np r = true) (hc' : c'.np = true) (env : List (Option D)) (M : List (Option C)) :
    callS [true, false, false] sem [.ptr M.length, d, e] ⟨env, M ++ [some c, y]⟩ = .ok r ⟨env, M ++ [some c', y]⟩ := by
  have nd : ∀ k, d ≠ .ptr k := fun k e => by subst e; cases hd
  have ne : ∀ k, e ≠ .ptr k := fun k q => by subst q; cases he
  have e1 : (M ++ [some c, y])[M.length]? = some (some c) := by rw [List.getElem?_append_right (Nat.le_refl _), Nat.sub_self]; rfl
  unfold callS
  rw [prep_t]
  dsimp only
  rw [e1]
  dsimp only
  rw [if_pos hc, prep_fv nd, if_pos hd, prep_fv ne, if_pos he, prep_nil]
  dsimp only [Option.map_some]
  rw [if_pos ⟨by simp, by simp⟩, hs]
  simp [hr, hc', hc]
/-- pairs of items -/
structure Prs (ps : List (Str × Str)) : Prop where
  ok : ∀ p ∈ ps, okItem p.1 = true ∧ okItem p.2 = true
  le : ps.length ≤ 13
theorem in_flt {row s : List Str} {env : List (Option D)} {Ms : List (Option C)} {v : Nat} {fe : M D} {k : Nat} (hk : k ≠ v) (hv : v < env.length) (e : env[k]? = some (some (T s))) (hfe : fe = eVar v) (hl : row.length < 1000000) :
    lcL (T row) Ms env (gVar v) (tOf (eOp dIn (eVar v) (eVar k))) fe (row.map D.str) [] Ms = .ok ((row.filter fun z => decide (z ∈ s)).map D.str) ⟨env, Ms⟩ := by
  subst hfe
  refine lcL_pure (d := T row) (M0 := Ms) D.str row (fun z => decide (z ∈ s)) D.str (by rfl) (fun y hy => ?_) hl
  have e1 : (env.set v (some (D.str y)))[k]? = some (some (T s)) := by rw [List.getElem?_set_ne (Ne.symm hk)]; exact e
  have i : dIn (.str y) (T s) = some (.bl (decide (y ∈ s))) := dIn_T y s
  by_cases c : y ∈ s <;> simp [lcS, e1, hv, i, c]
theorem flt_len2 {row s : List Str} (hr : row.Nodup) (hs : s.Nodup) (h : ∀ z ∈ s, z ∈ row) : (row.filter fun z => decide (z ∈ s)).length = s.length := by
  refine List.Perm.length_eq ((List.perm_ext_iff_of_nodup (hr.filter _) hs).mpr fun z => ?_)
  rw [List.mem_filter, decide_eq_true_eq]
  exact ⟨fun x => x.2, fun x => ⟨h z x, x⟩⟩
theorem sp_spec {row w b : List Str} (hr : Rk row) (hw : LB.St w row) (hb : LB.St b row) (hl : w.length = b.length) (hn : w.length ≤ 13) :
    ∃ ps, Prs ps ∧ ps.length = w.length ∧ sem__law_sorted_pairs [] [T row, T w, T b] = .ok (.lst (ps.map Pd)) ⟨[], []⟩ := by
  have lr := hr.le
  obtain ⟨rest, hrest⟩ : ∃ rest, rest = row.filter fun z => decide (z ∈ b) := ⟨_, rfl⟩
  obtain ⟨ws, hws⟩ : ∃ ws, ws = row.filter fun z => decide (z ∈ w) := ⟨_, rfl⟩
  have l1 : rest.length = b.length := by rw [hrest]; exact flt_len2 hr.nd hb.nd hb.sub
  have l2 : ws.length = w.length := by rw [hws]; exact flt_len2 hr.nd hw.nd hw.sub
  have c1 := in_flt (row := row) (s := b) (env := [some (T row), some (T w), some (T b), none, none, none, none, none]) (Ms := []) (v := 6) (fe := e1__law_sorted_pairs) (k := 2) (by decide) (by simp) rfl rfl (by omega)
  rw [← hrest] at c1
  have c2 := in_flt (row := row) (s := w) (env := [some (T row), some (T w), some (T b), some (.lst (rest.map .str)), some (.ptr 0), none, none, none]) (Ms := [some (.lst [])]) (v := 7) (fe := e2__law_sorted_pairs) (k := 1) (by decide) (by simp) rfl rfl (by omega)
  rw [← hws] at c2
  have okr : ∀ z ∈ rest, okItem z = true := fun z hz => by rw [hrest] at hz; exact hr.ok z (List.mem_filter.mp hz).1
  have okw : ∀ z ∈ ws, okItem z = true := fun z hz => by rw [hws] at hz; exact hr.ok z (List.mem_filter.mp hz).1
  obtain ⟨s', ⟨acc, a1, a2, o5, o6, rfl⟩, h⟩ := forL_each (d := .lst (ws.map .str)) (M0 := [some (.lst [])]) (g := gTupD (gMore (gVar 5) (gMore (gVar 6) gNone))) (body := b3__law_sorted_pairs) (els := sNx)
    (fun p : Str × Nat => D.kt [.int (p.2 : Nat), .str p.1]) ws.zipIdx
    (fun p s => ∃ acc : List (Str × Str), acc.length = p.length ∧ (∀ q ∈ acc, okItem q.1 = true ∧ okItem q.2 = true) ∧ ∃ o5 o6, s = (⟨[some (T row), some (T w), some (T b), some (.lst (rest.map .str)), some (.ptr 0), o5, o6, none], [some (.lst (acc.map Pd))]⟩ : DL.S))
    (fun p a r s e ⟨acc, h1, h2, o5, o6, es⟩ => by
      subst es
      have at_ : ws.zipIdx[p.length]? = some a := by rw [e, List.getElem?_append_right (Nat.le_refl _), Nat.sub_self]; rfl
      rw [List.getElem?_zipIdx] at at_
      obtain ⟨z, hz, rfl⟩ := Option.map_eq_some_iff.mp at_
      obtain ⟨hlt, hz'⟩ := List.getElem?_eq_some_iff.mp hz
      have hlr : p.length < rest.length := by omega
      have oz : okItem z = true := okw z (by rw [← hz']; exact List.getElem_mem hlt)
      obtain ⟨y, hy⟩ : ∃ y, rest[p.length]? = some y := ⟨_, List.getElem?_eq_getElem hlr⟩
      have oy : okItem y = true := okr y (List.mem_of_getElem? hy)
      have ht : atI (rest.map D.str) ((p.length : Nat) : Int) = some (.str y) := by
        have := atI_nat (xs := rest.map D.str) (i := p.length) (by rw [List.length_map]; exact hlr)
        rw [this, List.getElem?_map, hy]; rfl
      have la : (acc.map Pd).length < 1000000 := by rw [List.length_map]; omega
      refine ⟨⟨[some (T row), some (T w), some (T b), some (.lst (rest.map .str)), some (.ptr 0), some (.int ((p.length : Nat) : Int)), some (.str z), none], [some (.lst (acc.map Pd))]⟩, ⟨[some (T row), some (T w), some (T b), some (.lst (rest.map .str)), some (.ptr 0), some (.int ((p.length : Nat) : Int)), some (.str z), none], [some (.lst ((acc ++ [(z, y)]).map Pd))]⟩, by simp, .inl ?_, by rfl, acc ++ [(z, y)], by simp [h1], fun q hq => ?_, _, _, rfl⟩
      · rw [List.map_append]
        rw [List.length_map] at la
        simp [b3__law_sorted_pairs, ht, cAppend, la]
      · rcases List.mem_append.mp hq with hq | hq
        · exact h2 q hq
        · rw [List.mem_singleton.mp hq]; exact ⟨oz, oy⟩)
    (s := ⟨[some (T row), some (T w), some (T b), some (.lst (rest.map .str)), some (.ptr 0), none, none, none], [some (.lst [])]⟩) ⟨[], rfl, fun q hq => (by cases hq), none, none, rfl⟩
  rw [List.length_zipIdx] at a1
  have en := enumL_strs ws 0
  rw [← en] at h
  have nn := np_pairs acc
  refine ⟨acc, ⟨a2, by omega⟩, by omega, ?_⟩
  simp [sem__law_sorted_pairs, m__law_sorted_pairs, c1, c2, h, outD, nn]
end K05

set_option pp.maxSteps 300
/-! K05f: the law's bent values. -/
namespace K05
open PySem L2 DL LB
open LF2 (Pool take_spec call_pool call_last call_tf)
open PySem.Spec PyProof.Rows
/-- the values that come up -/
inductive GV : D → Prop
  | lst (xs : List D) : (∀ x ∈ xs, Ex x) → xs.length ≤ 30 → GV (.lst xs)
  | tup (xs : List D) : (∀ x ∈ xs, Ex x) → xs.length ≤ 30 → GV (.tup xs)
  | non : GV .non
  | dct : GV (.dct [])
  | ab : GV (.str "ab")
  | five : GV (.int 5)
theorem exs_np {xs : List D} (h : ∀ x ∈ xs, Ex x) : npL xs = true := npL_iff.mpr fun x hx => (h x hx).np
theorem GV.np {v : D} (h : GV v) : DL.np v = true := by
  cases h with
  | lst xs h _ => exact exs_np h
  | tup xs h _ => exact exs_np h
  | non => rfl
  | dct => rfl
  | ab => rfl
  | five => rfl
theorem GV.shown {v : D} (h : GV v) : Shown v := by
  cases h with
  | lst xs h hl => exact shown_lst (q_lst (fun x hx => (h x hx).q) hl) (by decide) (by decide)
  | tup xs h hl => exact shown_tup (q_tup (fun x hx => (h x hx).q) hl) (by decide) (by decide)
  | non => exact shown_non
  | dct => exact shown_dct
  | ab => exact shown_ab
  | five => exact shown_5
theorem Prs.ex {ps : List (Str × Str)} (h : Prs ps) : ∀ x ∈ ps.map Pd, Ex x := fun x hx => by
  obtain ⟨p, hp, rfl⟩ := List.mem_map.mp hx
  exact .pair _ _ (h.ok p hp).1 (h.ok p hp).2
theorem at_first {row : List Str} (h0 : row ≠ []) (hr : ∀ z ∈ row, okItem z = true) : ∃ z, okItem z = true ∧ atI (row.map D.str) 0 = some (.str z) := by
  cases row with
  | nil => exact absurd rfl h0
  | cons z r => exact ⟨z, hr z (List.mem_cons_self ..), (by rw [show (0 : Int) = ((0 : Nat) : Int) from rfl, DL.atI_nat (by simp)]; rfl)⟩
theorem at_end {row : List Str} (h0 : row ≠ []) (hr : ∀ z ∈ row, okItem z = true) : ∃ z, okItem z = true ∧ atI (row.map D.str) (-1) = some (.str z) := by
  have hl : 0 < row.length := List.length_pos_iff.mpr h0
  obtain ⟨z, hz⟩ : ∃ z, row[row.length - 1]? = some z := ⟨_, List.getElem?_eq_getElem (by omega)⟩
  refine ⟨z, hr z (List.mem_of_getElem? hz), ?_⟩
  have ix : ixN (row.map D.str).length (-1) = some (row.length - 1) := by
    unfold ixN
    rw [List.length_map, if_neg (by decide), if_pos (by omega)]
    congr 1
    omega
  unfold atI
  rw [ix]
  show (row.map D.str)[row.length - 1]? = _
  rw [List.getElem?_map, hz]; rfl
abbrev L6 (w o z : Str) : List D := [.tup [.str o, .str w], .lst [.str w, .str o], .tup [.str w], .tup [.str w, .str o, .str o], .tup [.str w, .non], .tup [.str w, .str z]]
abbrev L5 (w o z : Str) : List D := [.tup [.str z, .str o], .non, .str w, .tup [.lst [.str w], .str o], .tup [.str w, .dct []]]
theorem odd_at {w o y z : Str} (hw : okItem w = true) (ho : okItem o = true) (hy : okItem y = true) (hz : okItem z = true) : ∀ {k : Nat}, k < 11 → ∃ x, atI (L6 w o y ++ L5 w o z) (k : Int) = some x ∧ Ex x := by
  intro k hk
  rw [DL.atI_nat (by simpa using hk)]
  match k, hk with
  | 0, _ => exact ⟨_, rfl, .pair _ _ ho hw⟩
  | 1, _ => exact ⟨_, rfl, .lst2 _ _ hw ho⟩
  | 2, _ => exact ⟨_, rfl, .one _ hw⟩
  | 3, _ => exact ⟨_, rfl, .three _ _ _ hw ho ho⟩
  | 4, _ => exact ⟨_, rfl, .pn _ hw⟩
  | 5, _ => exact ⟨_, rfl, .pair _ _ hw hy⟩
  | 6, _ => exact ⟨_, rfl, .pair _ _ hz ho⟩
  | 7, _ => exact ⟨_, rfl, .non⟩
  | 8, _ => exact ⟨_, rfl, .str _ hw⟩
  | 9, _ => exact ⟨_, rfl, .lp _ _ hw ho⟩
  | 10, _ => exact ⟨_, rfl, .pd _ hw⟩
theorem zz_ok : okItem "zz" = true := by decide +kernel
theorem a_ok : okItem "a" = true := by decide +kernel
abbrev L8 (xs : List D) : List D := [.lst (xs ++ [.tup [.str "zz", .str "zz"]]), .lst (xs.drop 1), .tup xs, .non, .dct [], .str "ab", .lst (xs ++ xs), .int 5]
theorem opt_at {xs : List D} (hx : ∀ x ∈ xs, Ex x) (hl : xs.length ≤ 13) : ∀ {k : Nat}, k < 8 → ∃ v, atI (L8 xs) (k : Int) = some v ∧ GV v := by
  intro k hk
  rw [DL.atI_nat (by simpa using hk)]
  match k, hk with
  | 0, _ =>
    refine ⟨_, rfl, .lst _ (fun x h => ?_) (by rw [List.length_append]; simp; omega)⟩
    rcases List.mem_append.mp h with h | h
    · exact hx x h
    · rw [List.mem_singleton.mp h]; exact .pair _ _ zz_ok zz_ok
  | 1, _ => exact ⟨_, rfl, .lst _ (fun x h => hx x (List.mem_of_mem_drop h)) (by rw [List.length_drop]; omega)⟩
  | 2, _ => exact ⟨_, rfl, .tup _ hx (by omega)⟩
  | 3, _ => exact ⟨_, rfl, .non⟩
  | 4, _ => exact ⟨_, rfl, .dct⟩
  | 5, _ => exact ⟨_, rfl, .ab⟩
  | 6, _ =>
    refine ⟨_, rfl, .lst _ (fun x h => ?_) (by rw [List.length_append]; omega)⟩
    rcases List.mem_append.mp h with h | h <;> exact hx x h
  | 7, _ => exact ⟨_, rfl, .five⟩
theorem bent_loop {c : C} {ps : List (Str × Str)} {row : List Str} {j k : Nat} {d : D} {M0 : List (Option C)} (hd : ∀ M, chkP d M0 M = true) (hp : Prs ps) (hr : ∀ z ∈ row, okItem z = true) (h0 : row ≠ []) (hj : ps ≠ [] → j < ps.length) (hk : k < 11) :
    ∃ xs o6 o7 o8, (∀ x ∈ xs, Ex x) ∧ xs.length = ps.length ∧ forL d M0 (gTupD (gMore (gVar 6) (gMore (gVar 7) gNone))) b1__law_bent sNx (((ps.map Pd).take (j + 1)).drop j) ⟨[some (.ptr 0), some (.lst (ps.map Pd)), some (T row), some (.ptr 1), some (.int (j : Nat)), some (.int (k : Nat)), none, none, none], [some c, some (.lst (ps.map Pd))]⟩ =
      .ok .nx ⟨[some (.ptr 0), some (.lst (ps.map Pd)), some (T row), some (.ptr 1), some (.int (j : Nat)), some (.int (k : Nat)), o6, o7, o8], [some c, some (.lst xs)]⟩ := by
  by_cases hps : ps = []
  · subst hps
    refine ⟨[], none, none, none, fun x hx => (by cases hx), rfl, ?_⟩
    have e : ((([] : List (Str × Str)).map Pd).take (j + 1)).drop j = [] := by simp
    rw [e]; rfl
  · have hj := hj hps
    obtain ⟨⟨w, o⟩, hp'⟩ : ∃ p, ps[j]? = some p := ⟨_, List.getElem?_eq_getElem hj⟩
    have okp := hp.ok _ (List.mem_of_getElem? hp')
    have e : ((ps.map Pd).take (j + 1)).drop j = [Pd (w, o)] := by
      rw [List.take_succ, List.drop_append_of_le_length (by rw [List.length_take, List.length_map]; omega), List.getElem?_map, hp']
      have : ((ps.map Pd).take j).drop j = [] := by rw [List.drop_eq_nil_iff]; rw [List.length_take]; omega
      rw [this]; rfl
    obtain ⟨y, oy, e1⟩ := at_first h0 hr
    obtain ⟨z, oz, e2⟩ := at_end h0 hr
    obtain ⟨x, ex, hx⟩ := odd_at okp.1 okp.2 oy oz hk
    have a1 : dAdd (.lst (L6 w o y)) (.lst (L5 w o z)) = some (.lst (L6 w o y ++ L5 w o z)) := by rw [LF2.dAdd_lst, if_pos (by simp)]
    have ix : ixN (ps.map Pd).length (j : Int) = some j := ixN_nat (by rw [List.length_map]; exact hj)
    have ix' : ixN ps.length (j : Int) = some j := ixN_nat hj
    refine ⟨(ps.map Pd).set j x, some (.str w), some (.str o), some (.lst (L6 w o y ++ L5 w o z)), fun q hq => ?_, by rw [List.length_set, List.length_map], ?_⟩
    · rcases List.mem_or_eq_of_mem_set hq with h | h
      · exact hp.ex q h
      · rw [h]; exact hx
    · rw [e]
      have b : b1__law_bent ⟨[some (.ptr 0), some (.lst (ps.map Pd)), some (T row), some (.ptr 1), some (.int (j : Nat)), some (.int (k : Nat)), some (.str w), some (.str o), none], [some c, some (.lst (ps.map Pd))]⟩ =
          .ok .nx ⟨[some (.ptr 0), some (.lst (ps.map Pd)), some (T row), some (.ptr 1), some (.int (j : Nat)), some (.int (k : Nat)), some (.str w), some (.str o), some (.lst (L6 w o y ++ L5 w o z))], [some c, some (.lst ((ps.map Pd).set j x))]⟩ := by
        obtain ⟨LL, hLL⟩ : ∃ LL, LL = L6 w o y ++ L5 w o z := ⟨_, rfl⟩
        rw [← hLL] at ex a1 ⊢
        simp [b1__law_bent, e1, e2, a1, ex, ix, ix']
      simp [forL, b, hd]
end K05

set_option pp.maxSteps 300
/-! K05h: a bent value; a turn of the law's innermost loop. -/
namespace K05
open PySem L2 DL LB
open LF2 (Pool take_spec call_pool call_last call_tf)
open PySem.Spec PyProof.Rows
theorem nil_nil : dEq (.lst []) (.lst []) = some (.bl true) := by
  have := (cmp_nil (ds := []) fun d h => by cases h).1
  simpa using this
theorem outD_np {u : D} {n : Nat} {s : DL.S} (hu : DL.np u = true) : outD n s u = some u := by
  cases u <;> first | (cases hu; done) | (unfold outD; dsimp only; rw [hu]; rfl) | rfl
theorem fin_np {u : D} {c : C} {y : Option C} {env : List (Option D)} (hu : DL.np u = true) (hc : c.np = true) : fin 1 (.ok (.ret u) ⟨env, [some c, y]⟩) = .ok u ⟨[], [some c]⟩ := by
  unfold fin
  dsimp only
  rw [outD_np hu]
  simp [hc]
theorem bent_spec {c : C} {ps : List (Str × Str)} {row : List Str} (hc : Pool c) (hp : Prs ps) (hr : ∀ z ∈ row, okItem z = true) (h0 : row ≠ []) :
    ∃ c' v, Pool c' ∧ GV v ∧ sem__law_bent [c] [.ptr 0, .lst (ps.map Pd), T row] = .ok v ⟨[], [some c']⟩ := by
  have lp := hp.le
  obtain ⟨n, mx, n0, n1, nj⟩ : ∃ n : Int, dMax2 (.int 1) (.int ((ps.length : Nat) : Int)) = some (.int n) ∧ 0 < n ∧ n < 1000000 ∧ (ps ≠ [] → n = (ps.length : Nat)) := by
    refine ⟨if ((ps.length : Nat) : Int) > 1 then ((ps.length : Nat) : Int) else 1, dMax2_int _ _, ?_, ?_, fun h => ?_⟩
    · split <;> omega
    · split <;> omega
    · have := List.length_pos_iff.mpr h
      split <;> omega
  obtain ⟨c1, j, hc1, j0, j1, h1⟩ := take_spec hc n0 n1
  obtain ⟨j, rfl⟩ : ∃ k : Nat, j = (k : Int) := ⟨j.toNat, by omega⟩
  obtain ⟨c2, k, hc2, k0, k1, h2⟩ := take_spec (n := 11) hc1 (by decide) (by decide)
  obtain ⟨k, rfl⟩ : ∃ i : Nat, k = (i : Int) := ⟨k.toNat, by omega⟩
  obtain ⟨c3, r5, hc3, _, _, h3⟩ := take_spec (n := 5) hc2 (by decide) (by decide)
  obtain ⟨c4, r8, hc4, r80, r81, h4⟩ := take_spec (n := 8) hc3 (by decide) (by decide)
  obtain ⟨r8, rfl⟩ : ∃ i : Nat, r8 = (i : Int) := ⟨r8.toNat, by omega⟩
  obtain ⟨c5, q8, hc5, q80, q81, h5⟩ := take_spec (n := 8) hc2 (by decide) (by decide)
  obtain ⟨q8, rfl⟩ : ∃ i : Nat, q8 = (i : Int) := ⟨q8.toNat, by omega⟩
  obtain ⟨sl, hsl⟩ : ∃ sl, sl = ((ps.map Pd).take (j + 1)).drop j := ⟨_, rfl⟩
  obtain ⟨xs, o6, o7, o8, hx, hxl, lp1⟩ := bent_loop (c := c2) (d := .lst sl) (M0 := [some c2, some (.lst (ps.map Pd))]) (j := j) (k := k) (fun _ => rfl) hp hr h0 (fun h => by have := nj h; omega) (by omega)
  rw [← hsl] at lp1
  have s1 : dSl (.lst (ps.map Pd)) (some (j : Int)) (some ((j : Int) + 1)) = some (.lst sl) := by
    show some (D.lst (cutD _ _ _)) = _
    rw [show ((j : Int) + 1) = ((j + 1 : Nat) : Int) from by omega, LF2.cut_mid, hsl]
  have t1 := call_tf h1 hc.np rfl rfl hc1.np
  have t2 := call_tf h2 hc1.np rfl rfl hc2.np
  have t3 := call_tf h3 hc2.np rfl rfl hc3.np
  have t4 := call_tf h4 hc3.np rfl rfl hc4.np
  have t5 := call_tf h5 hc2.np rfl rfl hc5.np
  have a1 : dAdd (.lst xs) (.lst [.tup [.str "zz", .str "zz"]]) = some (.lst (xs ++ [.tup [.str "zz", .str "zz"]])) := by rw [LF2.dAdd_lst, if_pos (by simp; omega)]
  have a2 : dAdd (.lst xs) (.lst xs) = some (.lst (xs ++ xs)) := by rw [LF2.dAdd_lst, if_pos (by omega)]
  have a3 : dSl (.lst xs) (some 1) none = some (.lst (xs.drop 1)) := by
    show some (D.lst (cutD _ _ _)) = _
    rw [show (1 : Int) = ((1 : Nat) : Int) from rfl, LF2.cut_from]
  have a4 : dTuple (.lst xs) = some (.tup xs) := rfl
  obtain ⟨v, e8, hv⟩ := opt_at hx (by omega) (show r8 < 8 by omega)
  obtain ⟨u, f8, hu⟩ := opt_at hx (by omega) (show q8 < 8 by omega)
  have nv := hv.np
  have nu := hu.np
  have lo : (gL1 lstOf [.lst (ps.map Pd)]) = some (ps.map Pd) := rfl
  have nx := exs_np hx
  obtain ⟨LL, hLL⟩ : ∃ LL, LL = L8 xs := ⟨_, rfl⟩
  rw [← hLL] at e8 f8
  have mk : (eLst (aCons (eOp dAdd (eVar 3) (eLst (aCons (eTup (aCons (eC (.str "zz")) (aCons (eC (.str "zz")) aNil))) aNil))) (aCons (eSl dSl (eVar 3) (oSome (eC (.int 1))) oNone) (aCons (eCB (g1 dTuple) (aCons (eVar 3) aNil)) (aCons (eC .non) (aCons (eC (.dct [])) (aCons (eC (.str "ab")) (aCons (eOp dAdd (eVar 3) (eVar 3)) (aCons (eC (.int 5)) aNil)))))))))
      ⟨[some (.ptr 0), some (.lst (ps.map Pd)), some (T row), some (.ptr 1), some (.int (j : Nat)), some (.int (k : Nat)), o6, o7, o8], [some c2, some (.lst xs)]⟩ = .ok (.lst LL) ⟨[some (.ptr 0), some (.lst (ps.map Pd)), some (T row), some (.ptr 1), some (.int (j : Nat)), some (.int (k : Nat)), o6, o7, o8], [some c2, some (.lst xs)]⟩ := by
    rw [hLL]
    simp [a1, a2, a3, a4]
  have mk3 : (eLst (aCons (eOp dAdd (eVar 3) (eLst (aCons (eTup (aCons (eC (.str "zz")) (aCons (eC (.str "zz")) aNil))) aNil))) (aCons (eSl dSl (eVar 3) (oSome (eC (.int 1))) oNone) (aCons (eCB (g1 dTuple) (aCons (eVar 3) aNil)) (aCons (eC .non) (aCons (eC (.dct [])) (aCons (eC (.str "ab")) (aCons (eOp dAdd (eVar 3) (eVar 3)) (aCons (eC (.int 5)) aNil)))))))))
      ⟨[some (.ptr 0), some (.lst (ps.map Pd)), some (T row), some (.ptr 1), some (.int (j : Nat)), some (.int (k : Nat)), o6, o7, o8], [some c3, some (.lst xs)]⟩ = .ok (.lst LL) ⟨[some (.ptr 0), some (.lst (ps.map Pd)), some (T row), some (.ptr 1), some (.int (j : Nat)), some (.int (k : Nat)), o6, o7, o8], [some c3, some (.lst xs)]⟩ := by
    rw [hLL]
    simp [a1, a2, a3, a4]
  obtain ⟨MK, hMK⟩ : ∃ MK : M D, MK = (eLst (aCons (eOp dAdd (eVar 3) (eLst (aCons (eTup (aCons (eC (.str "zz")) (aCons (eC (.str "zz")) aNil))) aNil))) (aCons (eSl dSl (eVar 3) (oSome (eC (.int 1))) oNone) (aCons (eCB (g1 dTuple) (aCons (eVar 3) aNil)) (aCons (eC .non) (aCons (eC (.dct [])) (aCons (eC (.str "ab")) (aCons (eOp dAdd (eVar 3) (eVar 3)) (aCons (eC (.int 5)) aNil))))))))) := ⟨_, rfl⟩
  rw [← hMK] at mk mk3
  cases xs with
  | nil =>
    have d0 : dEqZ (.lst []) (.lst []) = some (.bl true) := dEqZ_of nil_nil
    refine ⟨c5, u, hc5, hu, ?_⟩
    simp only [sem__law_bent, m__law_bent]
    rw [← hMK]
    simp [-dMax2_int, mx, t1, t2, s1, lp1, lo, d0, mk, t5, f8, fin_np nu hc5.np]
  | cons x xs =>
    have d0 := dEqZ_nil x xs
    by_cases hz : r5 = 0
    · subst hz
      have d1 : dEqZ (.int 0) (.int 0) = some (.bl true) := dEqZ_of (by simp)
      refine ⟨c4, v, hc4, hv, ?_⟩
      simp only [sem__law_bent, m__law_bent]
      rw [← hMK]
      simp [-dMax2_int, mx, t1, t2, s1, lp1, lo, d0, d1, t3, mk3, t4, e8, fin_np nv hc4.np]
    · have d1 : dEqZ (.int r5) (.int 0) = some (.bl false) := dEqZ_of (by simp [hz])
      refine ⟨c3, .lst (x :: xs), hc3, .lst _ hx (by omega), ?_⟩
      have nx' : (DL.np x && npL xs) = true := nx
      obtain ⟨m1, m2⟩ := Bool.and_eq_true_iff.mp nx'
      simp only [sem__law_bent, m__law_bent]
      rw [← hMK]
      simp [-dMax2_int, mx, t1, t2, s1, lp1, lo, d0, d1, t3, outD, m1, m2, hc3.np]
end K05

set_option pp.maxSteps 300
/-! K05i: the law's inner loops. -/
namespace K05
open PySem L2 DL LB
open LF2 (Pool take_spec call_pool call_last call_tf)
open PySem.Spec PyProof.Rows
/-- a ranking and two sets of it, as large -/
structure Trio (row w b : List Str) : Prop where
  fr : Rk row
  fw : LB.St w row
  fb : LB.St b row
  fl : w.length = b.length
  fn : w.length ≤ 13
theorem Trio.wh {row w b : List Str} (h : Trio row w b) : Wh row w b := ⟨h.fr, h.fw.sub, h.fb.sub⟩
theorem Trio.swap {row w b : List Str} (h : Trio row w b) : Trio row b w := ⟨h.fr, h.fb, h.fw, h.fl.symm, by have := h.fn; have := h.fl; omega⟩
theorem Trio.same {row w b : List Str} (h : Trio row w b) : Trio row w w := ⟨h.fr, h.fw, h.fw, rfl, h.fn⟩
theorem gv_view {v : D} (h : GV v) (M : List (Option C)) : view M v = v := by cases h <;> rfl
theorem both {row w b : List Str} {v : D} (h : Trio row w b) (g : GV v) : ∃ B, sem__law_due [] [T row, T w, T b, v] = .ok (.bl B) ⟨[], []⟩ ∧ sem_is_matching_of [] [T row, T w, T b, v] = .ok (.bl B) ⟨[], []⟩ := by
  cases g with
  | lst xs hx hl => exact ⟨_, due_spec h.wh hx (by omega), of_spec h.wh hx (by omega)⟩
  | tup xs hx hl => exact ⟨false, due_odd (i_tl xs) fun _ => rfl, of_odd (i_tl xs) fun _ => rfl⟩
  | non => exact ⟨false, due_odd i_nl fun _ => rfl, of_odd i_nl fun _ => rfl⟩
  | dct => exact ⟨false, due_odd i_dl fun _ => rfl, of_odd i_dl fun _ => rfl⟩
  | ab => exact ⟨false, due_odd (i_sl _) fun _ => rfl, of_odd (i_sl _) fun _ => rfl⟩
  | five => exact ⟨false, due_odd (i_il _) fun _ => rfl, of_odd (i_il _) fun _ => rfl⟩
theorem m_spec {row w b : List Str} {v : D} (h : Trio row w b) (g : GV v) : ∃ B, sem__law_due [] [T row, T w, T b, v] = .ok (.bl B) ⟨[], []⟩ ∧ sem_is_matching [] [T row, T w, T b, v] = .ok (.bl B) ⟨[], []⟩ := by
  obtain ⟨B, h1, h2⟩ := both h g
  have t1 := call_3 (sets_spec h.fr h.fw h.fb h.fl (by have := h.fn; omega)) (by simp) (by simp) (by simp) rfl
  have t2 := call_4 h2 (by simp) (by simp) (by simp) g.np rfl
  refine ⟨B, h1, ?_⟩
  simp [sem_is_matching, m_is_matching, t1, t2, List.replicate]
theorem b3_turn {row w b : List Str} {v : D} (h : Trio row w b) (g : GV v) (o0 o1 o2 o4 o5 o6 o7 o8 o9 o13 o14 o15 : Option D) (M : List (Option C)) :
    ∃ p13, b3_law ⟨[o0, o1, o2, some (T row), o4, o5, o6, o7, o8, o9, some v, some (T w), some (T b), o13, o14, o15], M⟩ = .ok .nx ⟨[o0, o1, o2, some (T row), o4, o5, o6, o7, o8, o9, some v, some (T w), some (T b), p13, o14, o15], M⟩ := by
  obtain ⟨B, h1, h2⟩ := m_spec h g
  obtain ⟨z, hz⟩ := g.shown
  have vw := gv_view g M
  have t1 := call_4 h1 (by simp) (by simp) (by simp) g.np rfl
  have t2 := call_4 h2 (by simp) (by simp) (by simp) g.np rfl
  refine ⟨some (.str z), ?_⟩
  simp [b3_law, vw, hz, t1, t2]
abbrev env16 (o0 o1 o2 row o4 o5 o6 o7 o8 o9 o10 o11 o12 o13 o14 o15 : Option D) : List (Option D) := [o0, o1, o2, row, o4, o5, o6, o7, o8, o9, o10, o11, o12, o13, o14, o15]
theorem b4_turn {row w b : List Str} {v : D} (h : Trio row w b) (g : GV v) (o0 o1 o2 o4 o7 o8 o9 o11 o12 o13 o14 o15 : Option D) (M : List (Option C)) :
    ∃ p11 p12 p13, b4_law ⟨[o0, o1, o2, some (T row), o4, some (T w), some (T b), o7, o8, o9, some v, o11, o12, o13, o14, o15], M⟩ = .ok .nx ⟨[o0, o1, o2, some (T row), o4, some (T w), some (T b), o7, o8, o9, some v, p11, p12, p13, o14, o15], M⟩ := by
  obtain ⟨pairs, hpairs⟩ : ∃ l : List (List Str × List Str), l = [(w, b), (b, w), (w, w)] := ⟨_, rfl⟩
  have ok : ∀ p ∈ pairs, Trio row p.1 p.2 := fun p hp => by
    rw [hpairs] at hp
    simp only [List.mem_cons, List.not_mem_nil, or_false] at hp
    rcases hp with rfl | rfl | rfl
    · exact h
    · exact h.swap
    · exact h.same
  obtain ⟨s', ⟨q11, q12, q13, rfl⟩, hl⟩ := forL_each (d := .lst (pairs.map fun p : List Str × List Str => .tup [T p.1, T p.2])) (M0 := M) (g := gTupD (gMore (gVar 11) (gMore (gVar 12) gNone))) (body := b3_law) (els := sNx)
    (fun p : List Str × List Str => D.tup [T p.1, T p.2]) pairs
    (fun p s => ∃ q11 q12 q13, s = (⟨[o0, o1, o2, some (T row), o4, some (T w), some (T b), o7, o8, o9, some v, q11, q12, q13, o14, o15], M⟩ : DL.S))
    (fun p a r s e ⟨q11, q12, q13, es⟩ => by
      subst es
      obtain ⟨p13, hb⟩ := b3_turn (ok a (by rw [e]; simp)) g o0 o1 o2 o4 (some (T w)) (some (T b)) o7 o8 o9 q13 o14 o15 M
      exact ⟨⟨[o0, o1, o2, some (T row), o4, some (T w), some (T b), o7, o8, o9, some v, some (T a.1), some (T a.2), q13, o14, o15], M⟩, _, by simp, .inl hb, by rfl, _, _, _, rfl⟩)
    (s := ⟨[o0, o1, o2, some (T row), o4, some (T w), some (T b), o7, o8, o9, some v, o11, o12, o13, o14, o15], M⟩) ⟨_, _, _, rfl⟩
  refine ⟨q11, q12, q13, ?_⟩
  rw [hpairs] at hl
  have hl : forL (.lst [.tup [T w, T b], .tup [T b, T w], .tup [T w, T w]]) M (gTupD (gMore (gVar 11) (gMore (gVar 12) gNone))) b3_law sNx [.tup [T w, T b], .tup [T b, T w], .tup [T w, T w]] ⟨[o0, o1, o2, some (T row), o4, some (T w), some (T b), o7, o8, o9, some v, o11, o12, o13, o14, o15], M⟩ = _ := hl
  simp [b4_law, hl]
theorem vals_loop {row w b : List Str} {L : List D} {d : D} {M : List (Option C)} (hd : chkP d M M = true) (h : Trio row w b) (hL : ∀ v ∈ L, GV v) (o0 o1 o2 o4 o7 o8 o9 o10 o11 o12 o13 o14 o15 : Option D) :
    ∃ p10 p11 p12 p13, forL d M (gVar 10) b4_law sNx L ⟨[o0, o1, o2, some (T row), o4, some (T w), some (T b), o7, o8, o9, o10, o11, o12, o13, o14, o15], M⟩ = .ok .nx ⟨[o0, o1, o2, some (T row), o4, some (T w), some (T b), o7, o8, o9, p10, p11, p12, p13, o14, o15], M⟩ := by
  obtain ⟨s', ⟨q10, q11, q12, q13, rfl⟩, hl⟩ := forL_each (d := d) (M0 := M) (g := gVar 10) (body := b4_law) (els := sNx) id L
    (fun p s => ∃ q10 q11 q12 q13, s = (⟨[o0, o1, o2, some (T row), o4, some (T w), some (T b), o7, o8, o9, q10, q11, q12, q13, o14, o15], M⟩ : DL.S))
    (fun p a r s e ⟨q10, q11, q12, q13, es⟩ => by
      subst es
      obtain ⟨p11, p12, p13, hb⟩ := b4_turn (v := a) h (hL a (by rw [e]; simp)) o0 o1 o2 o4 o7 o8 o9 q11 q12 q13 o14 o15 M
      exact ⟨⟨[o0, o1, o2, some (T row), o4, some (T w), some (T b), o7, o8, o9, some a, q11, q12, q13, o14, o15], M⟩, _, by simp, .inl hb, hd, _, _, _, _, rfl⟩)
    (s := ⟨[o0, o1, o2, some (T row), o4, some (T w), some (T b), o7, o8, o9, o10, o11, o12, o13, o14, o15], M⟩) ⟨_, _, _, _, rfl⟩
  rw [List.map_id] at hl
  exact ⟨q10, q11, q12, q13, hl⟩
/-- the first three are pairs -/
structure Vals3 (L : List D) (n : Nat) : Prop where
  l : L.length = 3 + n
  p : ∀ i, i < 3 → ∃ ps, Prs ps ∧ L[i]? = some (.lst (ps.map Pd))
  g : ∀ v ∈ L, GV v
theorem b2_turn {row : List Str} {L : List D} {n : Nat} {c : C} (hc : Pool c) (hr : ∀ z ∈ row, okItem z = true) (h0 : row ≠ []) (hL : Vals3 L n) (hn : n < 100) (o0 o1 o4 o5 o6 o7 o9 o10 o11 o12 o13 o14 o15 : Option D) (M : List (Option C)) :
    ∃ c' v, Pool c' ∧ Vals3 (L ++ [v]) (n + 1) ∧ b2_law ⟨[o0, o1, some (.ptr M.length), some (T row), o4, o5, o6, o7, some (.ptr (M.length + 1)), o9, o10, o11, o12, o13, o14, o15], M ++ [some c, some (.lst L)]⟩ =
      .ok .nx ⟨[o0, o1, some (.ptr M.length), some (T row), o4, o5, o6, o7, some (.ptr (M.length + 1)), o9, o10, o11, o12, o13, o14, o15], M ++ [some c', some (.lst (L ++ [v]))]⟩ := by
  obtain ⟨c1, r, hc1, r0, r1, h1⟩ := take_spec (n := 3) hc (by decide) (by decide)
  obtain ⟨r, rfl⟩ : ∃ i : Nat, r = (i : Int) := ⟨r.toNat, by omega⟩
  obtain ⟨ps, hps, at_⟩ := hL.p r (by omega)
  obtain ⟨c2, v, hc2, gv, h2⟩ := bent_spec hc1 hps hr h0
  have hl := hL.l
  have ea : atI L (r : Int) = some (.lst (ps.map Pd)) := by rw [DL.atI_nat (by omega)]; exact at_
  have t1 := call_pre h1 hc.np rfl rfl hc1.np (y := some (.lst L))
  have t2 := call_pre3 h2 hc1.np (show DL.np (.lst (ps.map Pd)) = true from np_pairs ps) (by simp) gv.np hc2.np (y := some (.lst L))
  have g1 : ∀ c : C, (M ++ [some c, some (.lst L)])[M.length + 1]? = some (some (.lst L)) := fun c => by
    rw [List.getElem?_append_right (by omega), Nat.add_sub_cancel_left]; rfl
  have s1 : ∀ (c : C) (y : Option C), (M ++ [some c, some (.lst L)]).set (M.length + 1) y = M ++ [some c, y] := fun c y => by
    rw [List.set_append_right _ _ (by omega), Nat.add_sub_cancel_left]; rfl
  refine ⟨c2, v, hc2, ⟨by rw [List.length_append, hl]; rfl, fun i hi => ?_, fun x hx => ?_⟩, ?_⟩
  · obtain ⟨qs, h1, h2⟩ := hL.p i hi
    exact ⟨qs, h1, by rw [List.getElem?_append_left (by omega)]; exact h2⟩
  · rcases List.mem_append.mp hx with hx | hx
    · exact hL.g x hx
    · rw [List.mem_singleton.mp hx]; exact gv
  · have vg : ∀ Ms, view Ms v = v := gv_view gv
    have ll : L.length < 1000000 := by omega
    have vw : ∀ c : C, view (M ++ [some c, some (.lst L)]) (.ptr (M.length + 1)) = .lst L := fun c => by
      unfold view
      dsimp only
      rw [g1 c]
      rfl
    simp [b2_law, g1, vw, t1, t2, ea, s1, cAppend, ll, vg]
end K05

set_option pp.maxSteps 300
/-! K05j: the law. -/
namespace K05
open PySem L2 DL LB
open LF2 (Pool take_spec call_pool call_last call_tf)
open PySem.Spec PyProof.Rows
theorem pdo_item {z : Str} (h : okItem z = true) : Pdo (.str z) := Pdo.str (okItem_ok h)
theorem pdo_pair {p : Str × Str} (h : okItem p.1 = true ∧ okItem p.2 = true) : Pdo (Pd p) := ⟨pP p, rfl, by simp only [PyData.canLay0, PyData.canLayAll0, okItem_ok h.1, okItem_ok h.2, Bool.and_self], by simp [PyData.depth, PyData.depthAll]⟩
theorem shuf_strs {c : C} {d : D} {zs : List Str} (hd : d = .lst (zs.map .str) ∨ d = T zs) (hc : Pool c) (ho : ∀ z ∈ zs, okItem z = true) (hl : zs.length < 90000) : ∃ c' ys, Pool c' ∧ List.Perm ys zs ∧ LF1.sem__law_shuffled [c] [.ptr 0, d] = .ok (.lst (ys.map .str)) ⟨[], [some c']⟩ := by
  obtain ⟨c', ys, hc', hp, h⟩ := LF1.shuffled_spec (c := c) (d := d) (xs := zs.map .str) (by rcases hd with rfl | rfl <;> rfl) (by rcases hd with rfl | rfl <;> intro M <;> rfl) hc (by simp) (fun x hx => by
    obtain ⟨z, hz, rfl⟩ := List.mem_map.mp hx
    exact pdo_item (ho z hz)) (by rw [List.length_map]; exact hl)
  obtain ⟨l, e, p⟩ := LF2.map_perm hp.symm rfl
  exact ⟨c', l, hc', p.symm, by rw [h, e]⟩
theorem shuf_pairs {c : C} {ps : List (Str × Str)} (hc : Pool c) (hp : Prs ps) : ∃ c' qs, Pool c' ∧ Prs qs ∧ LF1.sem__law_shuffled [c] [.ptr 0, .lst (ps.map Pd)] = .ok (.lst (qs.map Pd)) ⟨[], [some c']⟩ := by
  have := hp.le
  obtain ⟨c', ys, hc', hq, h⟩ := LF1.shuffled_spec (c := c) (d := .lst (ps.map Pd)) (xs := ps.map Pd) rfl (fun _ => rfl) hc (np_pairs ps) (fun x hx => by
    obtain ⟨p, hm, rfl⟩ := List.mem_map.mp hx
    exact pdo_pair (hp.ok p hm)) (by rw [List.length_map]; omega)
  obtain ⟨l, e, p⟩ := LF2.map_perm hq.symm rfl
  refine ⟨c', l, hc', ⟨fun q hm => hp.ok q (p.mem_iff.mpr hm), by rw [← p.length_eq]; exact this⟩, by rw [h, e]⟩
/-- a set of some of a ranking -/
theorem st_cut {row ys : List Str} {k : Nat} (hr : Rk row) (hp : ys.Perm row) : LB.St (sortS (ys.take k)) row := by
  have sub : ∀ z ∈ sortS (ys.take k), z ∈ row := fun z hz => hp.mem_iff.mp (List.mem_of_mem_take ((sortS_perm _).mem_iff.mp hz))
  refine ⟨fun z hz => hr.ok z (sub z hz), ?_, ?_, sub⟩
  · exact (sortS_perm _).nodup_iff.mpr ((hp.nodup_iff.mpr hr.nd).sublist (List.take_sublist _ _))
  · exact (sortS_uniq (List.Perm.refl _) (sortS_pw _)).symm
/-- the third list of pairs -/
theorem third {one rnd : List Str} {env : List (Option D)} {Ms : List (Option C)} (h7 : env[7]? = some (some (.lst (rnd.map .str)))) (hv : env.length = 16) (hl : one.length = rnd.length) (hn : one.length ≤ 13) (h1 : ∀ z ∈ one, okItem z = true) (h2 : ∀ z ∈ rnd, okItem z = true) :
    ∃ ps, Prs ps ∧ lcL (T one) Ms env (gTupD (gMore (gVar 14) (gMore (gVar 15) gNone))) tYesM e1_law (enumL 0 (one.map D.str)) [] Ms = .ok (ps.map Pd) ⟨env, Ms⟩ := by
  have c := lcL_each (d := T one) (M0 := Ms) (env0 := env) (g := gTupD (gMore (gVar 14) (gMore (gVar 15) gNone))) (tt := tYesM) (fe := e1_law) (M := Ms) (fun p : Str × Nat => D.kt [.int (p.2 : Nat), .str p.1]) one.zipIdx (fun p => Pd (p.1, rnd.getD p.2 "")) (by rfl) (fun p hp => by
    obtain ⟨i, hi⟩ := List.getElem?_of_mem hp
    rw [List.getElem?_zipIdx] at hi
    obtain ⟨z, hz, e⟩ := Option.map_eq_some_iff.mp hi
    have li := (List.getElem?_eq_some_iff.mp hz).1
    subst e
    obtain ⟨y, hy⟩ : ∃ y, rnd[i]? = some y := ⟨_, List.getElem?_eq_getElem (by omega)⟩
    have a : atI (rnd.map D.str) ((0 + i : Nat) : Int) = some (.str y) := by
      rw [DL.atI_nat (by rw [List.length_map]; omega), List.getElem?_map, Nat.zero_add, hy]; rfl
    have gd : rnd.getD (0 + i) "" = y := by rw [List.getD_eq_getElem?_getD, Nat.zero_add, hy]; rfl
    have e7 : ∀ x y : D, ((env.set 14 (some x)).set 15 (some y))[7]? = some (some (.lst (rnd.map .str))) := fun x y => by
      rw [List.getElem?_set_ne (by decide), List.getElem?_set_ne (by decide)]; exact h7
    have l14 : 14 < env.length := by omega
    have l15 : 15 < env.length := by omega
    simp only [Nat.zero_add] at a gd
    simp [lcS, e1_law, l14, l15, e7, a, hy]) (by rw [List.length_zipIdx]; omega)
  rw [enumL_strs]
  refine ⟨one.zipIdx.map fun p => (p.1, rnd.getD p.2 ""), ⟨fun q hq => ?_, by rw [List.length_map, List.length_zipIdx]; exact hn⟩, ?_⟩
  · obtain ⟨p, hp, rfl⟩ := List.mem_map.mp hq
    obtain ⟨i, hi⟩ := List.getElem?_of_mem hp
    rw [List.getElem?_zipIdx] at hi
    obtain ⟨z, hz, e⟩ := Option.map_eq_some_iff.mp hi
    have li := (List.getElem?_eq_some_iff.mp hz).1
    subst e
    refine ⟨h1 z (List.mem_of_getElem? hz), ?_⟩
    obtain ⟨y, hy⟩ : ∃ y, rnd[i]? = some y := ⟨_, List.getElem?_eq_getElem (by omega)⟩
    have gd : rnd.getD (0 + i) "" = y := by rw [List.getD_eq_getElem?_getD, Nat.zero_add, hy]; rfl
    show okItem (rnd.getD (0 + i) "") = true
    rw [gd]
    exact h2 y (List.mem_of_getElem? hy)
  · rw [List.map_map]
    exact c
theorem bents {row : List Str} {L : List D} {c : C} (hc : Pool c) (hr : ∀ z ∈ row, okItem z = true) (h0 : row ≠ []) (hL : Vals3 L 0) (o0 o1 o4 o5 o6 o7 o9 o10 o11 o12 o13 o14 o15 : Option D) (M : List (Option C)) {d : D} {M0 : List (Option C)} (hd : ∀ M, chkP d M0 M = true) :
    ∃ c' L' p9, Pool c' ∧ Vals3 L' 8 ∧ forL d M0 (gVar 9) b2_law sNx ((List.range 8).map fun (i : Nat) => D.int (i : Nat)) ⟨[o0, o1, some (.ptr M.length), some (T row), o4, o5, o6, o7, some (.ptr (M.length + 1)), o9, o10, o11, o12, o13, o14, o15], M ++ [some c, some (.lst L)]⟩ =
      .ok .nx ⟨[o0, o1, some (.ptr M.length), some (T row), o4, o5, o6, o7, some (.ptr (M.length + 1)), p9, o10, o11, o12, o13, o14, o15], M ++ [some c', some (.lst L')]⟩ := by
  obtain ⟨s', ⟨c', L', q9, hc', hL', rfl⟩, h⟩ := forL_each (d := d) (M0 := M0) (g := gVar 9) (body := b2_law) (els := sNx) (fun i : Nat => D.int (i : Nat)) (List.range 8)
    (fun p s => ∃ c L q9, Pool c ∧ Vals3 L p.length ∧ s = (⟨[o0, o1, some (.ptr M.length), some (T row), o4, o5, o6, o7, some (.ptr (M.length + 1)), q9, o10, o11, o12, o13, o14, o15], M ++ [some c, some (.lst L)]⟩ : DL.S))
    (fun p a r s e ⟨c, L, q9, hc, hL, es⟩ => by
      subst es
      have hl : p.length < 100 := by
        have := congrArg List.length e
        rw [List.length_append, List.length_cons, List.length_range] at this
        omega
      obtain ⟨c2, v, hc2, hv, hb⟩ := b2_turn hc hr h0 hL hl o0 o1 o4 o5 o6 o7 (some (.int (a : Nat))) o10 o11 o12 o13 o14 o15 M
      exact ⟨⟨[o0, o1, some (.ptr M.length), some (T row), o4, o5, o6, o7, some (.ptr (M.length + 1)), some (.int (a : Nat)), o10, o11, o12, o13, o14, o15], M ++ [some c, some (.lst L)]⟩, _, by simp, .inl hb, hd _, c2, _, _, hc2, by rw [List.length_append]; exact hv, rfl⟩)
    (s := ⟨[o0, o1, some (.ptr M.length), some (T row), o4, o5, o6, o7, some (.ptr (M.length + 1)), o9, o10, o11, o12, o13, o14, o15], M ++ [some c, some (.lst L)]⟩) ⟨c, L, o9, hc, hL, rfl⟩
  rw [List.length_range] at hL'
  exact ⟨c', L', q9, hc', hL', h⟩
end K05

set_option pp.maxSteps 300
/-! K05k: a cell of the script; the law. -/
namespace K05
open PySem L2 DL LB
open LF2 (Pool take_spec call_pool call_last call_tf)
open PySem.Spec PyProof.Rows
theorem cell (ns : List Int) (k : Nat) (hk : k < 1000) (o2 o3 o4 o5 o6 o7 o8 o9 o10 o11 o12 o13 : Option D) (M : List (Option C)) :
    ∃ p2 p3 p4 p5 p6 p7 p8 p9 p10 p11 p12 p13 M', b5_law ⟨[some (.slst (ns.map .int)), some (.int k), o2, o3, o4, o5, o6, o7, o8, o9, o10, o11, o12, o13, none, none], M⟩ = .ok .nx ⟨[some (.slst (ns.map .int)), some (.int k), p2, p3, p4, p5, p6, p7, p8, p9, p10, p11, p12, p13, none, none], M'⟩ := by
  obtain ⟨c, hc, h0⟩ := LF1.pool_spec (ns := ns) hk
  obtain ⟨c1, r1, hc1, r10, r11, h1⟩ := take_spec (n := 11) hc (by decide) (by decide)
  obtain ⟨r1, rfl⟩ : ∃ i : Nat, r1 = (i : Int) := ⟨r1.toNat, by omega⟩
  obtain ⟨c2, w, hc2, hw, h2⟩ := LF1.names_spec (n := 2 + r1) hc1 (by omega)
  obtain ⟨zs, hzs⟩ : ∃ zs, zs = LF1.nms w (2 + r1) := ⟨_, rfl⟩
  have zl : zs.length = 2 + r1 := by rw [hzs]; unfold LF1.nms; simp
  obtain ⟨zok, znd⟩ := LF1.nms_ok (n := 2 + r1) hw (by omega)
  rw [← hzs] at h2 zok znd
  have e2 : ((2 + r1 : Nat) : Int) = 2 + (r1 : Int) := by omega
  rw [e2] at h2
  obtain ⟨c3, row, hc3, rp, h3⟩ := shuf_strs (d := .lst (zs.map .str)) (.inl rfl) hc2 zok (by omega)
  have rl : row.length = 2 + r1 := by rw [rp.length_eq, zl]
  have hr : Rk row := ⟨fun z hz => zok z (rp.mem_iff.mp hz), rp.nodup_iff.mpr znd, by omega⟩
  have rne : row ≠ [] := fun h => by
    rw [h] at rl
    have rl : (0 : Nat) = 2 + r1 := rl
    omega
  obtain ⟨c4, m, hc4, m0, m1, h4⟩ := take_spec (n := (row.length : Int) + 1) hc3 (by omega) (by omega)
  obtain ⟨m, rfl⟩ : ∃ i : Nat, m = (i : Int) := ⟨m.toNat, by omega⟩
  obtain ⟨c5, ya, hc5, pa, h5⟩ := shuf_strs (d := T row) (.inr rfl) hc4 hr.ok (by omega)
  obtain ⟨c6, yb, hc6, pb, h6⟩ := shuf_strs (d := T row) (.inr rfl) hc5 hr.ok (by omega)
  obtain ⟨one, hone⟩ : ∃ one, one = sortS (ya.take m) := ⟨_, rfl⟩
  obtain ⟨oth, hoth⟩ : ∃ oth, oth = sortS (yb.take m) := ⟨_, rfl⟩
  have so : LB.St one row := hone ▸ st_cut hr pa
  have st : LB.St oth row := hoth ▸ st_cut hr pb
  have lo : one.length = m := by rw [hone, sortS_len, List.length_take, pa.length_eq]; omega
  have lt : oth.length = m := by rw [hoth, sortS_len, List.length_take, pb.length_eq]; omega
  have tr : Trio row one oth := ⟨hr, so, st, by omega, by omega⟩
  obtain ⟨c7, rnd, hc7, pr, h7⟩ := shuf_strs (d := .lst (oth.map .str)) (.inl rfl) hc6 st.ok (by omega)
  have lr : rnd.length = oth.length := pr.length_eq
  obtain ⟨p1, hp1, _, s1⟩ := sp_spec hr so st (by omega) (by omega)
  obtain ⟨p2, hp2, _, s2⟩ := sp_spec hr st so (by omega) (by omega)
  obtain ⟨c8, q2, hc8, hq2, h8⟩ := shuf_pairs hc7 hp2
  have t0 := call_pool h0 (by simp) rfl hc.np
  have t1 := call_last h1 hc.np rfl rfl hc1.np
  have t2 := call_last h2 hc1.np rfl (by simp) hc2.np
  have t3 := call_last h3 hc2.np (by simp) (by simp) hc3.np
  have t4 := call_last h4 hc3.np rfl rfl hc4.np
  have t5 := call_last h5 hc4.np (by simp) (by simp) hc5.np
  have t6 := call_last h6 hc5.np (by simp) (by simp) hc6.np
  have t7 := call_last h7 hc6.np (by simp) (by simp) hc7.np
  have np1 : DL.np (.lst (p1.map Pd)) = true := np_pairs p1
  have np2 : DL.np (.lst (p2.map Pd)) = true := np_pairs p2
  have nq2 : DL.np (.lst (q2.map Pd)) = true := np_pairs q2
  have t8 := call_last h8 hc7.np np2 nq2 hc8.np
  have u1 := call_3 s1 (by simp) (by simp) (by simp) np1
  have u2 := call_3 s2 (by simp) (by simp) (by simp) np2
  have ca : dSl (.lst (ya.map .str)) none (some (m : Int)) = some (.lst ((ya.take m).map .str)) := by rw [LF2.dSl_lst_to, List.map_take]
  have cb : dSl (.lst (yb.map .str)) none (some (m : Int)) = some (.lst ((yb.take m).map .str)) := by rw [LF2.dSl_lst_to, List.map_take]
  have lya : ya.length = row.length := pa.length_eq
  have lyb : yb.length = row.length := pb.length_eq
  have sa := srt_lst (zs := ya.take m) (by rw [List.length_take]; omega)
  have sb := srt_lst (zs := yb.take m) (by rw [List.length_take]; omega)
  rw [← hone] at sa
  rw [← hoth] at sb
  obtain ⟨ka, hka⟩ : ∃ ka, ka = ya.take m := ⟨_, rfl⟩
  obtain ⟨kb, hkb⟩ : ∃ kb, kb = yb.take m := ⟨_, rfl⟩
  rw [← hka] at ca sa
  rw [← hkb] at cb sb
  have tpl : ∀ zs : List Str, dTuple (.lst (zs.map .str)) = some (T zs) := fun _ => rfl
  have lsT : ∀ zs : List Str, (lstOf (T zs)).map D.lst = some (.lst (zs.map .str)) := fun _ => rfl
  let ev : Option D → List (Option D) := fun q8 => [some (.slst (ns.map .int)), some (.int k), some (.ptr M.length), some (T row), some (.int (m : Nat)), some (T one), some (T oth), some (.lst (rnd.map .str)), q8, o9, o10, o11, o12, o13, none, none]
  obtain ⟨p3, hp3, h9⟩ := third (one := one) (rnd := rnd) (env := ev (some (.ptr (M.length + 1)))) (Ms := M ++ [some c8, some (.lst [.lst (p1.map Pd), .lst (q2.map Pd)])]) rfl rfl (by omega) (by omega) so.ok (fun z hz => st.ok z (pr.mem_iff.mp hz))
  have v3 : Vals3 [.lst (p1.map Pd), .lst (q2.map Pd), .lst (p3.map Pd)] 0 := by
    refine ⟨rfl, fun i hi => ?_, fun v hv => ?_⟩
    · match i, hi with
      | 0, _ => exact ⟨p1, hp1, rfl⟩
      | 1, _ => exact ⟨q2, hq2, rfl⟩
      | 2, _ => exact ⟨p3, hp3, rfl⟩
    · simp only [List.mem_cons, List.not_mem_nil, or_false] at hv
      have ll : ∀ {ps : List (Str × Str)}, Prs ps → GV (.lst (ps.map Pd)) := fun h => .lst _ h.ex (by rw [List.length_map]; have := h.le; omega)
      rcases hv with rfl | rfl | rfl
      · exact ll hp1
      · exact ll hq2
      · exact ll hp3
  obtain ⟨c9, L, q9, hc9, hL, lp⟩ := bents (d := .tup [.int 0, .int 8]) (M0 := M ++ [some c8, some (.lst [.lst (p1.map Pd), .lst (q2.map Pd), .lst (p3.map Pd)])]) hc8 hr.ok rne v3 (some (.slst (ns.map .int))) (some (.int k)) (some (.int (m : Nat))) (some (T one)) (some (T oth)) (some (.lst (rnd.map .str))) o9 o10 o11 o12 o13 none none M (fun _ => rfl)
  obtain ⟨E, hE⟩ : ∃ E : List D, E = [.non, .lst [], .tup [], .lst [.non], .lst [.tup []], .lst [.tup [.str "a"]]] := ⟨_, rfl⟩
  have gE : ∀ v ∈ E, GV v := fun v hv => by
    rw [hE] at hv
    simp only [List.mem_cons, List.not_mem_nil, or_false] at hv
    rcases hv with rfl | rfl | rfl | rfl | rfl | rfl
    · exact .non
    · exact .lst _ (fun x h => by cases h) (by decide)
    · exact .tup _ (fun x h => by cases h) (by decide)
    · exact .lst _ (fun x h => by rw [List.mem_singleton.mp h]; exact .non) (by decide)
    · exact .lst _ (fun x h => by rw [List.mem_singleton.mp h]; exact .nil) (by decide)
    · exact .lst _ (fun x h => by rw [List.mem_singleton.mp h]; exact .one _ a_ok) (by decide)
  have Ll := hL.l
  have ad : dAdd (.lst L) (.lst E) = some (.lst (L ++ E)) := by rw [LF2.dAdd_lst, if_pos (by rw [hE, Ll]; decide)]
  obtain ⟨q10, q11, q12, q13, lv⟩ := vals_loop (L := L ++ E) (d := .lst (L ++ E)) (M := M ++ [some c9, some (.lst L)]) rfl tr (fun v hv => (List.mem_append.mp hv).elim (hL.g v) (gE v)) (some (.slst (ns.map .int))) (some (.int k)) (some (.ptr M.length)) (some (.int (m : Nat))) (some (.lst (rnd.map .str))) (some (.ptr (M.length + 1))) q9 o10 o11 o12 o13 none none
  have g1 : ∀ (c : C) (L : List D), (M ++ [some c, some (.lst L)])[M.length + 1]? = some (some (.lst L)) := fun c L => by
    rw [List.getElem?_append_right (by omega), Nat.add_sub_cancel_left]; rfl
  have st1 : ∀ (c : C) (L : List D) (y : Option C), (M ++ [some c, some (.lst L)]).set (M.length + 1) y = M ++ [some c, y] := fun c L y => by
    rw [List.set_append_right _ _ (by omega), Nat.add_sub_cancel_left]; rfl
  have vw : ∀ (c : C) (L : List D), view (M ++ [some c, some (.lst L)]) (.ptr (M.length + 1)) = .lst L := fun c L => by
    unfold view
    dsimp only
    rw [g1 c L]
    rfl
  have mkE : ∀ s : DL.S, (eLst (aCons (eC .non) (aCons (eLst aNil) (aCons (eTup aNil) (aCons (eLst (aCons (eC .non) aNil)) (aCons (eLst (aCons (eTup aNil) aNil)) (aCons (eLst (aCons (eTup (aCons (eC (.str "a")) aNil)) aNil)) aNil))))))) s = .ok (.lst E) s := fun s => by
    rw [hE]; simp
  obtain ⟨EE, hEE⟩ : ∃ EE : DL.M D, EE = (eLst (aCons (eC .non) (aCons (eLst aNil) (aCons (eTup aNil) (aCons (eLst (aCons (eC .non) aNil)) (aCons (eLst (aCons (eTup aNil) aNil)) (aCons (eLst (aCons (eTup (aCons (eC (.str "a")) aNil)) aNil)) aNil))))))) := ⟨_, rfl⟩
  rw [← hEE] at mkE
  have rg : rngOk 8 = true := by decide
  obtain ⟨R8, hR8⟩ : ∃ R : List D, R = (List.range 8).map fun (i : Nat) => D.int (i : Nat) := ⟨_, rfl⟩
  rw [← hR8] at lp
  have i8 : itRng (.tup [.int 0, .int 8]) = some R8 := by rw [hR8]; rfl
  refine ⟨some (.ptr M.length), some (T row), some (.int (m : Nat)), some (T one), some (T oth), some (.lst (rnd.map .str)), some (.ptr (M.length + 1)), q9, q10, q11, q12, q13, M ++ [some c9, some (.lst L)], ?_⟩
  simp only [b5_law]
  rw [← hEE]
  simp only [ev] at h9
  simp [t0, t1, t2, t3, t4, t5, t6, t7, t8, u1, u2, ca, cb, sa, sb, tpl, lsT, h9, g1, vw, st1, cAppend, rg, i8, lp, mkE, ad, lv]
theorem law_spec (ns : List Int) : ∃ s', sem_law [] [.slst (ns.map .int)] = .ok (.bl true) s' := by
  obtain ⟨n, hn, hn2⟩ : ∃ n : Nat, (if (if (10 : Int) < (ns.length : Int) then (10 : Int) else (ns.length : Int)) > 1 then (if (10 : Int) < (ns.length : Int) then (10 : Int) else (ns.length : Int)) else 1) = (n : Int) ∧ n ≤ 10 := by
    refine ⟨(if (if (10 : Int) < (ns.length : Int) then (10 : Int) else (ns.length : Int)) > 1 then (if (10 : Int) < (ns.length : Int) then (10 : Int) else (ns.length : Int)) else 1).toNat, ?_, ?_⟩ <;> split <;> split <;> omega
  obtain ⟨s', ⟨o1, o2, o3, o4, o5, o6, o7, o8, o9, o10, o11, o12, o13, M, rfl⟩, h⟩ := forL_inv (d := .tup [.int 0, .int n]) (M0 := []) (g := gVar 1) (body := b5_law) (els := sNx) (ds := (List.range n).map fun (i : Nat) => D.int i)
    (fun i s => ∃ o1 o2 o3 o4 o5 o6 o7 o8 o9 o10 o11 o12 o13 M, s = ⟨[some (.slst (ns.map .int)), o1, o2, o3, o4, o5, o6, o7, o8, o9, o10, o11, o12, o13, none, none], M⟩)
    (fun i x s e ⟨o1, o2, o3, o4, o5, o6, o7, o8, o9, o10, o11, o12, o13, M, es⟩ => by
      subst es
      have hi : i < n := by have := (List.getElem?_eq_some_iff.mp e).1; simpa using this
      have ex : x = .int i := by
        rw [List.getElem?_map, List.getElem?_range hi] at e
        exact (Option.some.inj e).symm
      subst ex
      obtain ⟨p2, p3, p4, p5, p6, p7, p8, p9, p10, p11, p12, p13, M', hb⟩ := cell ns i (by omega) o2 o3 o4 o5 o6 o7 o8 o9 o10 o11 o12 o13 M
      exact ⟨⟨[some (.slst (ns.map .int)), some (.int i), o2, o3, o4, o5, o6, o7, o8, o9, o10, o11, o12, o13, none, none], M⟩, _, by simp, .inl hb, by simp, _, _, _, _, _, _, _, _, _, _, _, _, _, M', rfl⟩) (s := ⟨[some (.slst (ns.map .int)), none, none, none, none, none, none, none, none, none, none, none, none, none, none, none], []⟩) ⟨_, _, _, _, _, _, _, _, _, _, _, _, _, _, rfl⟩
  have rng : rngOk (n : Int) = true := by simp [rngOk]; omega
  refine ⟨⟨[], []⟩, ?_⟩
  simp only [gt_iff_lt] at hn
  simp [sem_law, m_law, hn, rng, h]
end K05

open PySem PySem.W PySem.Calls PyProof.Rows
theorem PySem.Challenge.cw_lastchoicefirst_k05_is_matching_holds : PySem.Challenge.rw_lastchoicefirst_k05_is_matching.Holds := by
  w_on; o_law
  refine HandSHeadRun.head_any (r := OpenLaw.row PySem.Challenge.rw_lastchoicefirst_k05_is_matching) (q := view (OpenLaw.row PySem.Challenge.rw_lastchoicefirst_k05_is_matching).prog [27]) (H := K05.hook) (ob := K05.ob) (M := 4000) (loose := [("PickingError" : PySem.Str), ("InvalidRanking" : PySem.Str), ("InvalidSet" : PySem.Str), ("LETTERS" : PySem.Str), ("MAX_LETTERS" : PySem.Str), ("MAX_ITEMS" : PySem.Str), ("is_item" : PySem.Str), ("are_items" : PySem.Str), ("is_ranking" : PySem.Str), ("as_set" : PySem.Str), ("is_set_of" : PySem.Str), ("check_ranking" : PySem.Str), ("check_sets" : PySem.Str), ("fits" : PySem.Str), ("is_matching_of" : PySem.Str), ("is_matching" : PySem.Str), ("_law_pool" : PySem.Str), ("_law_take" : PySem.Str), ("_law_names" : PySem.Str), ("_law_shuffled" : PySem.Str), ("_law_due" : PySem.Str), ("_law_sorted_pairs" : PySem.Str), ("_law_bent" : PySem.Str)]) (d := HandSHeadRun.topDef (OpenLaw.row PySem.Challenge.rw_lastchoicefirst_k05_is_matching).prog 27) (kwd := []) K05.ob_eq
    (by kernel_rfl) (fun s => by kernel_rfl) K05.runs (by kernel_rfl) (by kernel_rfl) (by kernel_rfl) (by rfl) (by first | assumption | decide +kernel) (by decide +kernel) ⟨rfl, rfl, rfl, rfl, rfl, by decide +kernel⟩ ?hw ?hc
  case hw => w_witness2
  case hc =>
    refine DL.walk_GS (l := PySem.Challenge.rw_lastchoicefirst_k05_is_matching) (n := 63) (k := 7) (x := "_law_script") rfl (by decide) (by kernel_rfl) ⟨rfl, by decide, by decide⟩ ?F
    intro w mg fa h Y G hmg0
    obtain ⟨sm, K, KX, c⟩ := Y
    have hmg : mg ("law" : PySem.Str) = some (.ref fa) := by
      have e : (HandSHeadRun.topDef (OpenLaw.row PySem.Challenge.rw_lastchoicefirst_k05_is_matching).prog 27).name = ("law" : PySem.Str) := by kernel_rfl
      rw [← e]
      exact hmg0
    obtain ⟨L⟩ := K05.lw_of KX G c
    have ef := hmg.symm.trans L.g_law
    cases ef
    refine ⟨sm, ?_⟩
    exact ⟨K, He.ga K, L.fd_law, K05.sem_law, KX, fun s u => L.F_law.bindsA (ps := ["_law_script"]) (fun _ _ _ _ _ _ us hl => match us, hl with | [_], _ => rfl) s [u] rfl, fun ns _ => K05.law_spec ns, fun base _ _ hb => K05.fg_law hb L⟩
