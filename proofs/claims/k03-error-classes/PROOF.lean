import PyProof.Rows.All
import Wide.All
import OpenK.AllK
import Wide.FinOn
import HandS.ForMost
import HandS.ForExc
import HandS.CallSlots
import HandS.Defaults
import HandS.TupAny
import HandS.TupMul
import HandS.Lambda
import HandS.Wide
import HandS.Style
import HandS.Deep
import HandS.Flow
import HandS.IsInst
import HandS.Text
import HandS.Replace
import HandS.SetFor
import HandS.StrMore
import HandS.SortInts
import PyProof.Rows.SortShellAny
import PyProof.CollectStr
import PyProof.ReprRoads
import HandS.Zip
import KE.KRevSl
import HandS.HeadEnd
import HandS.Head0
import HandS.Head1
import HandS.Head2
import HandS.HeadHook1
import HandS.HeadHook2
import HandS.HeadHook3
import HandS.HeadHook4
import PyProof.WalksMore
import PyProof.StrWalks
import PyProof.Walks
import KE.GoesEnumKw
import HandS.SetKeys
import HandS.Strs
import HandS.DictComp
import HandS.Star
import KE.GoesMore
import HandS.Dict
import HandS.Property
import HandS.HeadNt
import HandS.ExcInit
import HandS.ExcField
import HandS.TryMany
import PyProof.ListStr
import PyProof.Rows.StrMul
import PyProof.StrLawsIn
import KE.KUnpackStar
import HandS.Codes
import KE.KExcIs
import HandS.GenBody
import HandS.GenYield
import HandS.GenCall
import HandS.GenList
import HandS.Iter
import PyProof.SeqRoads2
import HandS.ClsMeth
import HandS.CallLocal
import HandS.EndTab
import KE.KDictDisplayH
import KE.DataMinMax
import PySem.Challenge.RW_lastchoicefirst_k03_error_classes
set_option Elab.async false
set_option linter.all false
set_option maxRecDepth 100000
set_option maxHeartbeats 4000000
set_option autoImplicit false
/-! DlA0: new tuples, known as the objects that they are (no dict of their own). -/
namespace DL
open PySem PySem.Spec PyProof.Rows L2
/-- a tuple's object has no dict -/
def NoD (K : PySem.W.Frag) (H : Hp) (a : Addr) : Prop := (∃ o u, H a = some (.frz o u) ∧ o.dict = none) ∨ ∃ o, K.lookup a = some o ∧ o.dict = none
def SqN (K : PySem.W.Frag) (H : Hp) (a : Addr) (xs : List V) : Prop := SqT K H a xs ∧ NoD K H a
theorem SqN.of {K : PySem.W.Frag} {H : Hp} {a : Addr} {xs : List V} {o : Obj} (h : H a = some (.frz o (.tup xs))) (d : o.dict = none) : SqN K H a xs := ⟨.inl (.inr ⟨o, h⟩), .inl ⟨o, _, h, d⟩⟩
section
variable {X : Cx}
theorem SqN.dict {pins : List (Addr × Obj)} {σ : L2.St} {H : Hp} {s : Shared} {a : Addr} {xs : List V} (I : Inv X pins σ H s) (h : SqN X.K H a xs) : ∃ ob, s.heap.get? a = some ob ∧ ob.dict = none := by
  rcases h.2 with ⟨o, u, e, d⟩ | ⟨o, e, d⟩
  · exact ⟨o, (I.hok a _ e).1, d⟩
  · exact ⟨o, I.kIn _ _ e, d⟩
/-- a new tuple, laid as the object that it is -/
theorem new_frz {pins : List (Addr × Obj)} {σ : L2.St} {H : Hp} {s : Shared} {us : List Value} {xs : List V} {t' : Nat} (I : Inv X pins σ H s) (r : Vals xs us) (z : xs.length ≤ sizeLine) :
    Inv X pins σ (upd H s.heap.objs.size (.frz { cls := .type "tuple", data := .seq us.toArray } (.tup xs))) { s with heap := s.heap.push { cls := .type "tuple", data := .seq us.toArray }, toks := t' } :=
  I.laid (t' := t') (fun b u e => Heap.get?_push_of_some _ e) (Nat.le_refl _) ⟨Heap.get?_push_size _ rfl, z, us, r, ⟨_, Heap.get?_push_size _ rfl, rfl, _, rfl⟩⟩
/-- what is wanted of a new tuple of xs -/
abbrev NewN (H : Hp) (xs : List V) (Q : VK) : Prop := ∀ p, H p = none → ∀ o : Obj, o.dict = none → Q (.ref p) (upd H p (.frz o (.tup xs)))
def tTupN (t : TA) : TE := fun σ H Q => t σ H fun xs H1 => xs.length ≤ sizeLine ∧ NewN H1 xs Q
theorem pe_tupN {es : List Expr} {t : TA} {k : Nat} {pos : Pos} (h : PA X es t) : PE X (.Tuple es k pos) (tTupN t) := by
  refine ⟨fun pins s σ H Q I hq => ?_⟩
  refine wpAny_Tuple_spliced (thn (h.run pos pins s σ H _ I hq) fun us s1 ⟨xs, H1, I1, r, z, q⟩ => ⟨by rw [← r.length]; exact z, ?_⟩)
  exact ⟨.ref s1.heap.objs.size, _, new_frz (t' := s1.toks) I1 r z, rfl, q _ (I1.hok.fresh (Nat.le_refl _)) _ rfl⟩
/-- t + u -/
def rCatN (K : PySem.W.Frag) : R2 := fun x y H Q => ∃ a b xs ys, x = .ref a ∧ y = .ref b ∧ SqT K H a xs ∧ SqT K H b ys ∧ xs.length + ys.length ≤ sizeLine ∧
  (xs = [] → Q (.ref b) H) ∧ (xs ≠ [] → ys = [] → Q (.ref a) H) ∧ (xs ≠ [] → ys ≠ [] → NewN H (xs ++ ys) Q)
theorem op_catN : OpR X (binaryOp .Add) (rCatN X.K) := by
  intro pins s σ H x y v u Q I rx ry h
  obtain ⟨a, b, xs, ys, rfl, rfl, ha, hb, hz, q0, q1, q2⟩ := h
  by_cases hx : xs = []
  · subst hx
    exact op_catA pins s σ H _ _ v u Q I rx ry ⟨a, b, [], ys, rfl, rfl, ha, hb, hz, q0, fun h => absurd rfl h, fun h => absurd rfl h⟩
  · cases rx
    cases ry
    obtain ⟨its, r1, p1, _⟩ := I.tuple ha
    obtain ⟨its2, r2, p2, _⟩ := I.tuple hb
    refine HT.cat_tup p1 p2 (fun z => hx (r1.nil_iff.mp z)) (fun z => ⟨.ref a, H, I, rfl, q1 hx (r2.nil_iff.mp z)⟩) (fun z => ?_) (by rw [← r1.length, ← r2.length]; exact hz)
    exact ⟨.ref s.heap.objs.size, _, new_frz (t' := s.toks) I (r1.append r2) (by rw [List.length_append]; exact hz), rfl, q2 hx (fun w => z (r2.nil_iff.mpr w)) _ (I.hok.fresh (Nat.le_refl _)) _ rfl⟩
/-- t[lo:hi] -/
def rSlN (K : PySem.W.Frag) : V → Option Int → Option Int → Hp → VK → Prop := fun x lo hi H Q => ∃ a xs, x = .ref a ∧ SqT K H a xs ∧
  (HT.sIx xs.length 0 lo = 0 ∧ HT.sIx xs.length xs.length hi = xs.length → Q (.ref a) H) ∧ (¬ (HT.sIx xs.length 0 lo = 0 ∧ HT.sIx xs.length xs.length hi = xs.length) → NewN H (cutV xs lo hi) Q)
/-! ### t[::-1] -/
def tRevT (K : PySem.W.Frag) (te : TE) : TE := fun σ H Q => te σ H fun x H1 => ∃ a xs, x = .ref a ∧ SqT K H1 a xs ∧ NewN H1 xs.reverse Q
theorem PE.or {e : Expr} {t1 t2 : TE} (h1 : PE X e t1) (h2 : PE X e t2) : PE X e (fun σ H Q => t1 σ H Q ∨ t2 σ H Q) :=
  ⟨fun pins s σ H Q I h => h.elim (h1.run pins s σ H Q I) (h2.run pins s σ H Q I)⟩
end
end DL

/-! DlA: data without addresses, what stands for them in the abstract heap, the state's invariant and its steps. -/
namespace DL
open PySem L2

/-- data. ptr k: the k-th cell of the run (a thing that changes) -/
inductive D where
  | non | bl (b : Bool) | int (i : Int) | str (s : Str)
  | tup (xs : List D) | kt (xs : List D) | lst (xs : List D) | slst (xs : List D)
  | dct (kvs : List (Key × D)) | dcu (kvs : List (List Key × D))
  | obj (c : Str) (fs : List (Str × D)) | xd (fs : List (Str × D))
  | ptr (k : Nat) | raw (v : V) | opq | exn (c : Str) (fs : List (Str × D))
/-- what a cell holds -/
inductive C where
  | lst (xs : List D) | dct (kvs : List (Key × D)) | dcu (kvs : List (List Key × D)) | obj (c : Str) (fs : List (Str × D))
  | tbl (P : Addr) (q : Str) (gs : List (D × V)) (cs : List Addr) | lck (kvs : List (Key × D)) | lcu (kvs : List (List Key × D))
structure S where
  env : List (Option D)
  M : List (Option C)
inductive Out (α : Type) where
  | fail
  | ok (a : α) (s : S)
  | exc (c : Str) (fs : List (Str × D)) (s : S)
abbrev M (α : Type) := S → Out α
def Out.bind {α β : Type} (o : Out α) (f : α → S → Out β) : Out β := match o with
  | .fail => .fail
  | .ok a s => f a s
  | .exc c fs s => .exc c fs s
def C.dat : C → D
  | .lst xs => .lst xs | .dct kvs => .dct kvs | .dcu kvs => .dcu kvs | .obj c fs => .obj c fs
  | .tbl _ _ _ _ => .opq | .lck kvs => .dct kvs | .lcu kvs => .dcu kvs
/-- what may be written -/
def C.free : C → Bool
  | .tbl _ _ _ _ => false | .lck _ => false | .lcu _ => false
  | _ => true
/-- a pointer's cell as data; other data as they are -/
def view (m : List (Option C)) : D → D
  | .ptr k => match m[k]? with
    | some (some c) => c.dat
    | _ => .ptr k
  | d => d

section
variable (K : PySem.W.Frag) (cl : Str → Addr) (H : Hp) (F : Addr → Prop) (α : List Addr)
mutual
inductive Rep : D → V → Prop
  | non : Rep .non .non
  | bl {b} : Rep (.bl b) (.bl b)
  | int {i} : Rep (.int i) (.int i)
  | str {s} : Rep (.str s) (.str s)
  | tup {a vs ds} : SqN K H a vs → RepL ds vs → Rep (.tup ds) (.ref a)
  | kt {a vs ds} : H a = some (.tup vs) → RepL ds vs → Rep (.kt ds) (.ref a)
  | lst {a vs ds} : H a = some (.lst vs) → F a → RepL ds vs → Rep (.lst ds) (.ref a)
  | slst {a vs ds} : Rd H a (.lst vs) → F a → RepL ds vs → Rep (.slst ds) (.ref a)
  | slstK {a vs ds} : (∀ H', SqL K H' a vs) → RepL ds vs → Rep (.slst ds) (.ref a)
  | dct {a kvs vs} : H a = some (.dK vs) → F a → RepK kvs vs → Rep (.dct kvs) (.ref a)
  | dcu {a kvs vs} : H a = some (.dT vs) → F a → RepU kvs vs → Rep (.dcu kvs) (.ref a)
  | obj {a dx c fs vs} : H a = some (.ins (cl c) dx vs) → F a → RepF fs vs → Rep (.obj c fs) (.ref a)
  | xd {a fs vs} : H a = some (.xd vs) → F a → RepF fs vs → Rep (.xd fs) (.ref a)
  | ptr {k a} : α[k]? = some a → Rep (.ptr k) (.ref a)
  | raw {v} : Rep (.raw v) v
  | dctZ {a o kvs vs} : H a = some (.frz o (.dK vs)) → RepK kvs vs → Rep (.dct kvs) (.ref a)
  | dcuZ {a o kvs vs} : H a = some (.frz o (.dT vs)) → RepU kvs vs → Rep (.dcu kvs) (.ref a)
  | opq {v} : Rep .opq v
  | exn {a dd oe n fs vs} : H a = some (.ext fun h => h.get? a = some oe) → F a → Zc (.ref (cl n)) (some dd) oe → (∃ zs, oe.data = .fields zs) → H dd = some (.xd vs) → F dd → RepF fs vs → Rep (.exn n fs) (.ref a)
  | exn0 {a oe n} : H a = some (.ext fun h => h.get? a = some oe) → F a → Zc (.ref (cl n)) none oe → (∃ zs, oe.data = .fields zs) → Rep (.exn n []) (.ref a)
inductive RepL : List D → List V → Prop
  | nil : RepL [] []
  | cons {d v ds vs} : Rep d v → RepL ds vs → RepL (d :: ds) (v :: vs)
inductive RepF : List (Str × D) → List (Str × V) → Prop
  | nil : RepF [] []
  | cons {f d v ds vs} : Rep d v → RepF ds vs → RepF ((f, d) :: ds) ((f, v) :: vs)
inductive RepK : List (Key × D) → List (Key × V) → Prop
  | nil : RepK [] []
  | cons {f d v ds vs} : Rep d v → RepK ds vs → RepK ((f, d) :: ds) ((f, v) :: vs)
inductive RepU : List (List Key × D) → List (List Key × V) → Prop
  | nil : RepU [] []
  | cons {f d v ds vs} : Rep d v → RepU ds vs → RepU ((f, d) :: ds) ((f, v) :: vs)
end
end

/-- from (H, F, α) to (H', F', α') all that is frozen stands -/
structure Ext (H : Hp) (F : Addr → Prop) (α : List Addr) (H' : Hp) (F' : Addr → Prop) (α' : List Addr) : Prop where
  keep : ∀ b, F b → H' b = H b
  fr : ∀ b, F b → F' b
  tups : ∀ b xs, H b = some (.tup xs) → H' b = some (.tup xs)
  frzs : ∀ b o u, H b = some (.frz o u) → H' b = some (.frz o u)
  al : ∀ (k : Nat) (a : Addr), α[k]? = some a → α'[k]? = some a
theorem Ext.refl {H : Hp} {F : Addr → Prop} {α : List Addr} : Ext H F α H F α := ⟨fun _ _ => rfl, fun _ h => h, fun _ _ h => h, fun _ _ _ h => h, fun _ _ h => h⟩
theorem Ext.trans {H H1 H2 : Hp} {F F1 F2 : Addr → Prop} {α α1 α2 : List Addr} (a : Ext H F α H1 F1 α1) (b : Ext H1 F1 α1 H2 F2 α2) : Ext H F α H2 F2 α2 :=
  ⟨fun x h => (b.keep x (a.fr x h)).trans (a.keep x h), fun x h => b.fr x (a.fr x h), fun x xs h => b.tups x xs (a.tups x xs h), fun x o u h => b.frzs x o u (a.frzs x o u h), fun k x h => b.al k x (a.al k x h)⟩

section
variable {K : PySem.W.Frag} {cl : Str → Addr} {H H' : Hp} {F F' : Addr → Prop} {α α' : List Addr}
theorem Ext.rd (e : Ext H F α H' F' α') {a : Addr} {u : HO} (h : Rd H a u) (hf : F a) : Rd H' a u := by
  rcases h with h | ⟨o, h⟩
  · exact .inl ((e.keep a hf).trans h)
  · exact .inr ⟨o, e.frzs a o u h⟩
theorem Ext.sqT (e : Ext H F α H' F' α') {a : Addr} {xs : List V} (h : SqT K H a xs) : SqT K H' a xs := by
  rcases h with (h | ⟨o, h⟩) | h
  · exact .inl (.inl (e.tups a xs h))
  · exact .inl (.inr ⟨o, e.frzs a o _ h⟩)
  · exact .inr h
theorem Ext.sqN (e : Ext H F α H' F' α') {a : Addr} {xs : List V} (h : SqN K H a xs) : SqN K H' a xs :=
  ⟨e.sqT h.1, h.2.elim (fun ⟨o, u, q, d⟩ => .inl ⟨o, u, e.frzs a o u q, d⟩) .inr⟩
mutual
theorem Rep.ext (e : Ext H F α H' F' α') {d : D} {v : V} : Rep K cl H F α d v → Rep K cl H' F' α' d v
  | .non => .non
  | .bl => .bl
  | .int => .int
  | .str => .str
  | .tup h r => .tup (e.sqN h) (RepL.ext e r)
  | .kt h r => .kt (e.tups _ _ h) (RepL.ext e r)
  | .lst h f r => .lst ((e.keep _ f).trans h) (e.fr _ f) (RepL.ext e r)
  | .slst h f r => .slst (e.rd h f) (e.fr _ f) (RepL.ext e r)
  | .slstK h r => .slstK h (RepL.ext e r)
  | .dct h f r => .dct ((e.keep _ f).trans h) (e.fr _ f) (RepK.ext e r)
  | .dcu h f r => .dcu ((e.keep _ f).trans h) (e.fr _ f) (RepU.ext e r)
  | .obj h f r => .obj ((e.keep _ f).trans h) (e.fr _ f) (RepF.ext e r)
  | .xd h f r => .xd ((e.keep _ f).trans h) (e.fr _ f) (RepF.ext e r)
  | .ptr h => .ptr (e.al _ _ h)
  | .raw => .raw
  | .dctZ h r => .dctZ (e.frzs _ _ _ h) (RepK.ext e r)
  | .dcuZ h r => .dcuZ (e.frzs _ _ _ h) (RepU.ext e r)
  | .opq => .opq
  | .exn h f z d h2 f2 r => .exn ((e.keep _ f).trans h) (e.fr _ f) z d ((e.keep _ f2).trans h2) (e.fr _ f2) (RepF.ext e r)
  | .exn0 h f z d => .exn0 ((e.keep _ f).trans h) (e.fr _ f) z d
theorem RepL.ext (e : Ext H F α H' F' α') {d : List D} {v : List V} : RepL K cl H F α d v → RepL K cl H' F' α' d v
  | .nil => .nil
  | .cons h r => .cons (Rep.ext e h) (RepL.ext e r)
theorem RepF.ext (e : Ext H F α H' F' α') {d : List (Str × D)} {v : List (Str × V)} : RepF K cl H F α d v → RepF K cl H' F' α' d v
  | .nil => .nil
  | .cons h r => .cons (Rep.ext e h) (RepF.ext e r)
theorem RepK.ext (e : Ext H F α H' F' α') {d : List (Key × D)} {v : List (Key × V)} : RepK K cl H F α d v → RepK K cl H' F' α' d v
  | .nil => .nil
  | .cons h r => .cons (Rep.ext e h) (RepK.ext e r)
theorem RepU.ext (e : Ext H F α H' F' α') {d : List (List Key × D)} {v : List (List Key × V)} : RepU K cl H F α d v → RepU K cl H' F' α' d v
  | .nil => .nil
  | .cons h r => .cons (Rep.ext e h) (RepU.ext e r)
end
theorem RepL.length : ∀ {ds : List D} {vs : List V}, RepL K cl H F α ds vs → ds.length = vs.length
  | _, _, .nil => rfl
  | _, _, .cons _ r => congrArg Nat.succ r.length
theorem RepL.get : ∀ {ds : List D} {vs : List V} {i : Nat} {d : D}, RepL K cl H F α ds vs → ds[i]? = some d → ∃ v, vs[i]? = some v ∧ Rep K cl H F α d v
  | _, _, _, _, .nil, e => by simp at e
  | _, _, 0, _, .cons r _, e => by simp at e; subst e; exact ⟨_, rfl, r⟩
  | _, _, i + 1, d, .cons _ t, e => by
    obtain ⟨v, h1, h2⟩ := RepL.get (i := i) (d := d) t (by simpa using e)
    exact ⟨v, by simpa using h1, h2⟩
theorem RepL.append : ∀ {ds es : List D} {vs ws : List V}, RepL K cl H F α ds vs → RepL K cl H F α es ws → RepL K cl H F α (ds ++ es) (vs ++ ws)
  | _, _, _, _, .nil, s => s
  | _, _, _, _, .cons r t, s => .cons r (RepL.append t s)
theorem RepL.set {d : D} {v : V} (r : Rep K cl H F α d v) : ∀ {ds : List D} {vs : List V} (i : Nat), RepL K cl H F α ds vs → RepL K cl H F α (ds.set i d) (vs.set i v)
  | _, _, _, .nil => .nil
  | _, _, 0, .cons _ t => .cons r t
  | _, _, i + 1, .cons q t => .cons q (RepL.set r i t)
theorem RepL.take : ∀ {ds : List D} {vs : List V} (n : Nat), RepL K cl H F α ds vs → RepL K cl H F α (ds.take n) (vs.take n)
  | _, _, 0, _ => .nil
  | _, _, _ + 1, .nil => .nil
  | _, _, n + 1, .cons r t => .cons r (RepL.take n t)
theorem RepL.drop : ∀ {ds : List D} {vs : List V} (n : Nat), RepL K cl H F α ds vs → RepL K cl H F α (ds.drop n) (vs.drop n)
  | _, _, 0, r => r
  | _, _, _ + 1, .nil => .nil
  | _, _, n + 1, .cons _ t => RepL.drop n t
theorem RepL.reverse {ds : List D} {vs : List V} (h : RepL K cl H F α ds vs) : RepL K cl H F α ds.reverse vs.reverse := by
  induction ds generalizing vs with
  | nil => cases h; exact .nil
  | cons d ds ih =>
    cases h with
    | cons r t =>
      rw [List.reverse_cons, List.reverse_cons]
      exact (ih t).append (.cons r .nil)
theorem RepL.eraseIdx : ∀ {ds : List D} {vs : List V} (i : Nat), RepL K cl H F α ds vs → RepL K cl H F α (ds.eraseIdx i) (vs.eraseIdx i)
  | _, _, _, .nil => .nil
  | _, _, 0, .cons _ t => t
  | _, _, i + 1, .cons r t => .cons r (RepL.eraseIdx i t)
theorem RepL.dropLast {ds : List D} {vs : List V} (h : RepL K cl H F α ds vs) : RepL K cl H F α ds.dropLast vs.dropLast := by
  rw [List.dropLast_eq_take, List.dropLast_eq_take, h.length]
  exact h.take _
theorem RepF.lookup : ∀ {fs : List (Str × D)} {vs : List (Str × V)} {f : Str}, RepF K cl H F α fs vs → (fs.lookup f = none ∧ vs.lookup f = none) ∨ ∃ d v, fs.lookup f = some d ∧ vs.lookup f = some v ∧ Rep K cl H F α d v
  | _, _, _, .nil => .inl ⟨rfl, rfl⟩
  | _, _, f, .cons (f := g) r t => by
    rw [List.lookup_cons, List.lookup_cons]
    cases h : f == g with
    | true => exact .inr ⟨_, _, rfl, rfl, r⟩
    | false => exact RepF.lookup t
theorem RepF.length : ∀ {ds : List (Str × D)} {vs : List (Str × V)}, RepF K cl H F α ds vs → ds.length = vs.length
  | _, _, .nil => rfl
  | _, _, .cons _ r => congrArg Nat.succ r.length
end

/-- what holds of a cell -/
def RepC (K : PySem.W.Frag) (cl : Str → Addr) (H : Hp) (F : Addr → Prop) (α : List Addr) (a : Addr) : C → Prop
  | .lst ds => ∃ vs, H a = some (.lst vs) ∧ RepL K cl H F α ds vs
  | .dct kvs => ∃ vs, H a = some (.dK vs) ∧ RepK K cl H F α kvs vs
  | .dcu kvs => ∃ vs, H a = some (.dT vs) ∧ RepU K cl H F α kvs vs
  | .obj c fs => ∃ dx vs, H a = some (.ins (cl c) dx vs) ∧ RepF K cl H F α fs vs
  | .tbl P q gs cs => a = P ∧ (∃ ps : Array Value, H a = some (.tbl ps) ∧ TriplesOk ps.toList ∧ ∀ (pos : Pos) (cv : Value), codeAmong pos ps.toList = some cv → ∃ c, cv = .ref c ∧ H c = some (LamX.CodeO c q) ∧ F c) ∧ (∀ p ∈ gs, Rep K cl H F α p.1 p.2) ∧ ∀ c ∈ cs, H c = some (LamX.CodeO c q) ∧ F c
  | .lck kvs => ∃ o vs, H a = some (.frz o (.dK vs)) ∧ RepK K cl H F α kvs vs
  | .lcu kvs => ∃ o vs, H a = some (.frz o (.dT vs)) ∧ RepU K cl H F α kvs vs

/-- where a run began: the heap, the cells that it was given, what was frozen then -/
structure Cz where
  H0 : Hp
  β : List Addr
  F0 : Addr → Prop

structure SIx (K : PySem.W.Frag) (cl : Str → Addr) (c : Cz) (H : Hp) (σ : L2.St) (s : S) (T : List (D × V)) (F : Addr → Prop) (α : List Addr) : Prop where
  env : ∀ (i : Nat) (d : D), s.env[i]? = some (some d) → ∃ v, σ[i]? = some (some v) ∧ Rep K cl H F α d v
  el : s.env.length = σ.length
  tmp : ∀ p ∈ T, Rep K cl H F α p.1 p.2
  len : α.length = s.M.length
  cel : ∀ (k : Nat) (x : C) (a : Addr), s.M[k]? = some (some x) → α[k]? = some a → RepC K cl H F α a x ∧ ¬ F a
  nd : α.Nodup
  dom : ∀ a ∈ α, ∃ o, H a = some o
  inα : ∀ a ∈ α, a ∈ c.β ∨ c.H0 a = none
  domF : ∀ b, F b → ∃ o, H b = some o
  inF : ∀ b, F b → b ∈ c.β ∨ c.F0 b ∨ c.H0 b = none
  pre : ∀ (k : Nat) (a : Addr), c.β[k]? = some a → α[k]? = some a
  keep : ∀ b o, c.H0 b = some o → b ∉ c.β → H b = some o
  tups : ∀ b xs, c.H0 b = some (.tup xs) → H b = some (.tup xs)
  frzs : ∀ b o u, c.H0 b = some (.frz o u) → H b = some (.frz o u)
def SI (K : PySem.W.Frag) (cl : Str → Addr) (c : Cz) (H : Hp) (σ : L2.St) (s : S) (T : List (D × V)) : Prop := ∃ F α, SIx K cl c H σ s T F α

section
variable {K : PySem.W.Frag} {cl : Str → Addr} {c : Cz} {H H' : Hp} {σ σ' : L2.St} {s : S} {T T' : List (D × V)} {F F' : Addr → Prop} {α α' : List Addr}
theorem SI.sub (h : SI K cl c H σ s T) (hs : ∀ p ∈ T', p ∈ T) : SI K cl c H σ s T' := by
  obtain ⟨F, α, h⟩ := h
  exact ⟨F, α, { h with tmp := fun p hp => h.tmp p (hs p hp) }⟩
theorem SI.pop {p : D × V} (h : SI K cl c H σ s (p :: T)) : SI K cl c H σ s T := h.sub fun _ hp => List.mem_cons_of_mem _ hp
theorem SIx.si (h : SIx K cl c H σ s T F α) : SI K cl c H σ s T := ⟨F, α, h⟩
theorem SIx.push {d : D} {v : V} (h : SIx K cl c H σ s T F α) (r : Rep K cl H F α d v) : SIx K cl c H σ s ((d, v) :: T) F α :=
  { h with tmp := fun p hp => (List.mem_cons.mp hp).elim (fun e => by subst e; exact r) (fun hp => h.tmp p hp) }
theorem SI.var {i : Nat} {d : D} (h : SI K cl c H σ s T) (e : s.env[i]? = some (some d)) : ∃ v, σ[i]? = some (some v) ∧ SI K cl c H σ s ((d, v) :: T) := by
  obtain ⟨F, α, h⟩ := h
  obtain ⟨v, h1, h2⟩ := h.env i d e
  exact ⟨v, h1, F, α, h.push h2⟩
/-- the frozen things, the tuples of what was there -/
theorem Ext.repC (e : Ext H F α H' F' α') {a : Addr} {x : C} (h : RepC K cl H F α a x) (ha : H' a = H a) : RepC K cl H' F' α' a x := by
  cases x with
  | lst ds => obtain ⟨vs, h1, h2⟩ := h; exact ⟨vs, ha.trans h1, RepL.ext e h2⟩
  | dct ds => obtain ⟨vs, h1, h2⟩ := h; exact ⟨vs, ha.trans h1, RepK.ext e h2⟩
  | dcu ds => obtain ⟨vs, h1, h2⟩ := h; exact ⟨vs, ha.trans h1, RepU.ext e h2⟩
  | obj c fs => obtain ⟨dx, vs, h1, h2⟩ := h; exact ⟨dx, vs, ha.trans h1, RepF.ext e h2⟩
  | tbl P q gs cs =>
    obtain ⟨h0, ⟨ps, h1, h2, h3⟩, h4, h5⟩ := h
    exact ⟨h0, ⟨ps, ha.trans h1, h2, fun pos cv hc => by
      obtain ⟨c, e1, e2, e3⟩ := h3 pos cv hc
      exact ⟨c, e1, (e.keep c e3).trans e2, e.fr c e3⟩⟩, fun p hp => (h4 p hp).ext e, fun c hc => ⟨(e.keep c (h5 c hc).2).trans (h5 c hc).1, e.fr c (h5 c hc).2⟩⟩
  | lck ds => obtain ⟨o, vs, h1, h2⟩ := h; exact ⟨o, vs, ha.trans h1, RepK.ext e h2⟩
  | lcu ds => obtain ⟨o, vs, h1, h2⟩ := h; exact ⟨o, vs, ha.trans h1, RepU.ext e h2⟩
/-- a new object at p, tracked, frozen if fz -/
theorem ext_new {p : Addr} {o : HO} (h : SIx K cl c H σ s T F α) (hp : H p = none) : Ext H F α (upd H p o) (fun b => F b ∨ b = p) α :=
  ⟨fun b hb => upd_ne (fun e => by
      obtain ⟨o', q⟩ := h.domF b hb
      rw [e, hp] at q; cases q), fun _ hb => .inl hb, fun b xs q => by rw [upd_ne (ne_of_none q hp)]; exact q, fun b u xs q => by rw [upd_ne (ne_of_none q hp)]; exact q, fun _ _ q => q⟩
theorem SIx.newF {p : Addr} {o : HO} (h : SIx K cl c H σ s T F α) (hp : H p = none) : SIx K cl c (upd H p o) σ s T (fun b => F b ∨ b = p) α := by
  have e := ext_new (o := o) h hp
  have hnew : ∀ b o', H b = some o' → upd H p o b = some o' := fun b o' q => by rw [upd_ne (ne_of_none q hp)]; exact q
  have npα : ∀ a ∈ α, a ≠ p := fun a ha q => by
    obtain ⟨o', z⟩ := h.dom a ha
    rw [q, hp] at z; cases z
  have c0 : c.H0 p = none ∨ p ∈ c.β := by
    cases q : c.H0 p with
    | none => exact .inl rfl
    | some u =>
      by_cases hb : p ∈ c.β
      · exact .inr hb
      · have := h.keep p u q hb
        rw [hp] at this; cases this
  refine ⟨fun i d q => ?_, ?_, fun q hq => (h.tmp q hq).ext e, h.len, fun k x a q1 q2 => ?_, h.nd, fun a ha => ?_, h.inα, fun b hb => ?_, fun b hb => ?_, h.pre, fun b u q1 q2 => hnew _ _ (h.keep b u q1 q2), fun b xs q => hnew _ _ (h.tups b xs q), fun b u xs q => hnew _ _ (h.frzs b u xs q)⟩
  · obtain ⟨v, h1, h2⟩ := h.env i d q
    exact ⟨v, h1, h2.ext e⟩
  · exact h.el
  · obtain ⟨h1, h2⟩ := h.cel k x a q1 q2
    have na := npα a (List.mem_of_getElem? q2)
    exact ⟨e.repC h1 (upd_ne na), fun z => z.elim h2 na⟩
  · obtain ⟨o', z⟩ := h.dom a ha
    exact ⟨o', hnew _ _ z⟩
  · rcases hb with hb | rfl
    · obtain ⟨o', z⟩ := h.domF b hb
      exact ⟨o', hnew _ _ z⟩
    · exact ⟨o, upd_same⟩
  · rcases hb with hb | rfl
    · exact h.inF b hb
    · rcases c0 with z | z
      · exact .inr (.inr z)
      · exact .inl z
/-- a new list of the temps' values, frozen -/
theorem SI.newLst {p : Addr} {ds : List D} {vs : List V} (h : SI K cl c H σ s T) (hp : H p = none) (hr : ∀ F α, SIx K cl c H σ s T F α → RepL K cl H F α ds vs) : SI K cl c (upd H p (.lst vs)) σ s ((.lst ds, .ref p) :: T) := by
  obtain ⟨F, α, h⟩ := h
  exact ⟨_, α, (h.newF hp).push (.lst upd_same (.inr rfl) ((hr F α h).ext (ext_new h hp)))⟩
theorem SI.newTup {p : Addr} {ds : List D} {vs : List V} {o : Obj} (hd : o.dict = none) (h : SI K cl c H σ s T) (hp : H p = none) (hr : ∀ F α, SIx K cl c H σ s T F α → RepL K cl H F α ds vs) : SI K cl c (upd H p (.frz o (.tup vs))) σ s ((.tup ds, .ref p) :: T) := by
  obtain ⟨F, α, h⟩ := h
  exact ⟨_, α, (h.newF hp).push (.tup (SqN.of upd_same hd) ((hr F α h).ext (ext_new h hp)))⟩
/-- a cell's object is changed -/
theorem ext_set {k : Nat} {a : Addr} {x : C} {o : HO} (h : SIx K cl c H σ s T F α) (hk : s.M[k]? = some (some x)) (ha : α[k]? = some a) (hfr : x.free = true := by rfl) : Ext H F α (upd H a o) F α := by
  obtain ⟨h1, h2⟩ := h.cel k x a hk ha
  have hx : ∀ u, H a = some u → (∀ xs, u ≠ .tup xs) ∧ ∀ o v, u ≠ .frz o v := by
    intro u q
    cases x with
    | lst ds => obtain ⟨vs, e, _⟩ := h1; rw [e] at q; cases q; exact ⟨fun _ z => (by cases z), fun _ _ z => (by cases z)⟩
    | dct ds => obtain ⟨vs, e, _⟩ := h1; rw [e] at q; cases q; exact ⟨fun _ z => (by cases z), fun _ _ z => (by cases z)⟩
    | dcu ds => obtain ⟨vs, e, _⟩ := h1; rw [e] at q; cases q; exact ⟨fun _ z => (by cases z), fun _ _ z => (by cases z)⟩
    | obj c fs => obtain ⟨dx, vs, e, _⟩ := h1; rw [e] at q; cases q; exact ⟨fun _ z => (by cases z), fun _ _ z => (by cases z)⟩
    | tbl _ _ _ _ => cases hfr
    | lck _ => cases hfr
    | lcu _ => cases hfr
  refine ⟨fun b hb => upd_ne fun e => h2 (e ▸ hb), fun _ hb => hb, fun b xs q => ?_, fun b u xs q => ?_, fun _ _ q => q⟩
  · rw [upd_ne]; exact q
    intro e; subst e
    exact (hx _ q).1 _ rfl
  · rw [upd_ne]; exact q
    intro e; subst e
    exact (hx _ q).2 _ _ rfl
theorem SIx.setCell {k : Nat} {a : Addr} {x y : C} {o : HO} (h : SIx K cl c H σ s T F α) (hk : s.M[k]? = some (some x)) (ha : α[k]? = some a)
    (hy : Ext H F α (upd H a o) F α → RepC K cl (upd H a o) F α a y) (hfr : x.free = true := by rfl) : SIx K cl c (upd H a o) σ { s with M := s.M.set k (some y) } T F α := by
  have e := ext_set (o := o) h hk ha hfr
  have hkl : k < s.M.length := (List.getElem?_eq_some_iff.mp hk).1
  obtain ⟨h1, h2⟩ := h.cel k x a hk ha
  have hx : ∀ u, H a = some u → (∀ xs, u ≠ .tup xs) ∧ ∀ o v, u ≠ .frz o v := by
    intro u q
    refine ⟨fun xs z => ?_, fun o' v z => ?_⟩
    · subst z
      cases x with
      | lst ds => obtain ⟨vs, e, _⟩ := h1; rw [e] at q; cases q
      | dct ds => obtain ⟨vs, e, _⟩ := h1; rw [e] at q; cases q
      | dcu ds => obtain ⟨vs, e, _⟩ := h1; rw [e] at q; cases q
      | obj c fs => obtain ⟨dx, vs, e, _⟩ := h1; rw [e] at q; cases q
      | tbl _ _ _ _ => cases hfr
      | lck _ => cases hfr
      | lcu _ => cases hfr
    · subst z
      cases x with
      | lst ds => obtain ⟨vs, e, _⟩ := h1; rw [e] at q; cases q
      | dct ds => obtain ⟨vs, e, _⟩ := h1; rw [e] at q; cases q
      | dcu ds => obtain ⟨vs, e, _⟩ := h1; rw [e] at q; cases q
      | obj c fs => obtain ⟨dx, vs, e, _⟩ := h1; rw [e] at q; cases q
      | tbl _ _ _ _ => cases hfr
      | lck _ => cases hfr
      | lcu _ => cases hfr
  have ain : a ∈ c.β ∨ c.H0 a = none := h.inα a (List.mem_of_getElem? ha)
  refine ⟨fun i d q => ?_, h.el, fun q hq => (h.tmp q hq).ext e, by show α.length = (s.M.set k (some y)).length; rw [List.length_set]; exact h.len, fun j z b q1 q2 => ?_, h.nd, fun b hb => ?_, h.inα, fun b hb => ?_, h.inF, h.pre, fun b u q1 q2 => ?_, fun b xs q => e.tups b xs (h.tups b xs q), fun b u xs q => e.frzs b u xs (h.frzs b u xs q)⟩
  · obtain ⟨v, h3, h4⟩ := h.env i d q
    exact ⟨v, h3, h4.ext e⟩
  · have q1' : (s.M.set k (some y))[j]? = some (some z) := q1
    by_cases hj : k = j
    · subst hj
      rw [List.getElem?_set_self hkl] at q1'
      cases q1'
      rw [ha] at q2; cases q2
      exact ⟨hy e, h2⟩
    · rw [List.getElem?_set_ne hj] at q1'
      obtain ⟨h3, h4⟩ := h.cel j z b q1' q2
      have nb : b ≠ a := fun w => by
        subst w
        exact hj ((List.getElem?_inj (by rw [h.len]; exact hkl) h.nd).mp (ha.trans q2.symm))
      exact ⟨e.repC h3 (upd_ne nb), h4⟩
  · by_cases hb' : b = a
    · subst hb'; exact ⟨o, upd_same⟩
    · rw [upd_ne hb']; exact h.dom b hb
  · by_cases hb' : b = a
    · subst hb'; exact ⟨o, upd_same⟩
    · rw [upd_ne hb']; exact h.domF b hb
  · have nb : b ≠ a := fun w => by
      subst w
      rcases ain with z | z
      · exact q2 z
      · rw [q1] at z; cases z
    rw [upd_ne nb]; exact h.keep b u q1 q2
/-- a new cell at p -/
theorem SIx.newCell {p : Addr} {x : C} {o : HO} (h : SIx K cl c H σ s T F α) (hp : H p = none)
    (hy : Ext H F α (upd H p o) F (α ++ [p]) → RepC K cl (upd H p o) F (α ++ [p]) p x) : SIx K cl c (upd H p o) σ { s with M := s.M ++ [some x] } ((.ptr s.M.length, .ref p) :: T) F (α ++ [p]) := by
  have hnew : ∀ b o', H b = some o' → upd H p o b = some o' := fun b o' q => by rw [upd_ne (ne_of_none q hp)]; exact q
  have npα : ∀ a ∈ α, a ≠ p := fun a ha q => by
    obtain ⟨o', z⟩ := h.dom a ha
    rw [q, hp] at z; cases z
  have nF : ¬ F p := fun z => by
    obtain ⟨o', q⟩ := h.domF p z
    rw [hp] at q; cases q
  have al : ∀ (k : Nat) (a : Addr), α[k]? = some a → (α ++ [p])[k]? = some a := fun k a q => by
    rw [List.getElem?_append_left (List.getElem?_eq_some_iff.mp q).1]; exact q
  have e : Ext H F α (upd H p o) F (α ++ [p]) := ⟨fun b hb => upd_ne fun w => nF (w ▸ hb), fun _ hb => hb, fun b xs q => hnew _ _ q, fun b u xs q => hnew _ _ q, al⟩
  have c0 : p ∈ c.β ∨ c.H0 p = none := by
    cases q : c.H0 p with
    | none => exact .inr rfl
    | some u =>
      by_cases hb : p ∈ c.β
      · exact .inl hb
      · have := h.keep p u q hb
        rw [hp] at this; cases this
  refine ⟨fun i d q => ?_, h.el, fun q hq => ?_, ?_, fun j z b q1 q2 => ?_, ?_, fun b hb => ?_, fun b hb => ?_, fun b hb => ?_, h.inF, fun k a q => al k a (h.pre k a q), fun b u q1 q2 => hnew _ _ (h.keep b u q1 q2), fun b xs q => hnew _ _ (h.tups b xs q), fun b u xs q => hnew _ _ (h.frzs b u xs q)⟩
  · obtain ⟨v, h3, h4⟩ := h.env i d q
    exact ⟨v, h3, h4.ext e⟩
  · rcases List.mem_cons.mp hq with z | hq
    · subst z
      refine .ptr ?_
      rw [← h.len]
      exact List.getElem?_concat_length
    · exact (h.tmp q hq).ext e
  · show (α ++ [p]).length = (s.M ++ [some x]).length
    rw [List.length_append, List.length_append, h.len]; rfl
  · have q1' : (s.M ++ [some x])[j]? = some (some z) := q1
    by_cases hj : j < s.M.length
    · rw [List.getElem?_append_left hj] at q1'
      rw [List.getElem?_append_left (by rw [h.len]; exact hj)] at q2
      obtain ⟨h3, h4⟩ := h.cel j z b q1' q2
      exact ⟨e.repC h3 (upd_ne (npα b (List.mem_of_getElem? q2))), h4⟩
    · have hj' : j = s.M.length := by
        have := (List.getElem?_eq_some_iff.mp q1').1
        rw [List.length_append] at this
        simp at this; omega
      subst hj'
      rw [List.getElem?_concat_length] at q1'
      cases q1'
      rw [← h.len, List.getElem?_concat_length] at q2
      cases q2
      exact ⟨hy e, nF⟩
  · rw [List.nodup_append]
    exact ⟨h.nd, by simp, fun a ha b hb => by rw [List.mem_singleton.mp hb]; exact npα a ha⟩
  · rcases List.mem_append.mp hb with hb | hb
    · obtain ⟨o', z⟩ := h.dom b hb
      exact ⟨o', hnew _ _ z⟩
    · rw [List.mem_singleton.mp hb]; exact ⟨o, upd_same⟩
  · rcases List.mem_append.mp hb with hb | hb
    · exact h.inα b hb
    · rw [List.mem_singleton.mp hb]; exact c0
  · obtain ⟨o', z⟩ := h.domF b hb
    exact ⟨o', hnew _ _ z⟩

/-- what a datum is as it is read: itself, or its cell -/
theorem SIx.view {d : D} {v : V} (h : SIx K cl c H σ s T F α) (r : Rep K cl H F α d v) : Rep K cl H F α (view s.M d) v ∨ ∃ k x a, d = .ptr k ∧ v = .ref a ∧ s.M[k]? = some (some x) ∧ α[k]? = some a ∧ view s.M d = x.dat ∧ RepC K cl H F α a x := by
  cases d with
  | ptr k =>
    cases r with
    | ptr e =>
      rename_i a
      cases q2 : s.M[k]? with
      | none =>
        have e2 : DL.view s.M (.ptr k) = .ptr k := by simp only [DL.view, q2]
        rw [e2]; exact .inl (.ptr e)
      | some o =>
        cases o with
        | none =>
          have e2 : DL.view s.M (.ptr k) = .ptr k := by simp only [DL.view, q2]
          rw [e2]; exact .inl (.ptr e)
        | some x =>
          have e2 : DL.view s.M (.ptr k) = x.dat := by simp only [DL.view, q2]
          exact .inr ⟨k, x, a, rfl, rfl, q2, e, e2, (h.cel k x a q2 e).1⟩
  | _ => exact .inl r
theorem SI.bind {i : Nat} {d : D} {v : V} (h : SI K cl c H σ s ((d, v) :: T)) (hi : i < s.env.length) : SI K cl c H (σ.set i (some v)) { s with env := s.env.set i (some d) } T := by
  obtain ⟨F, α, h⟩ := h
  have hi : i < σ.length := by rw [← h.el]; exact hi
  refine ⟨F, α, { h with el := by show (s.env.set i (some d)).length = (σ.set i (some v)).length; rw [List.length_set, List.length_set]; exact h.el, env := fun j e q => ?_, tmp := fun p hp => h.tmp p (List.mem_cons_of_mem _ hp) }⟩
  have q' : (s.env.set i (some d))[j]? = some (some e) := q
  by_cases hj : i = j
  · subst hj
    have hl : i < s.env.length := by
      have := (List.getElem?_eq_some_iff.mp q').1
      rwa [List.length_set] at this
    rw [List.getElem?_set_self hl] at q'
    cases q'
    exact ⟨v, List.getElem?_set_self hi, h.tmp (d, v) (List.mem_cons_self ..)⟩
  · rw [List.getElem?_set_ne hj] at q'
    rw [List.getElem?_set_ne hj]
    exact h.env j e q'
end
end DL

/-! DlB: expressions, tests, argument lists as functions of the state. -/
namespace DL
open PySem L2

/-- an exception's own dict, among the temps -/
def xt (fs : List (Str × D)) : Option Addr → List (D × V)
  | none => []
  | some a => [(.xd fs, .ref a)]
/-- what is wanted behind a run -/
def Want (K : PySem.W.Frag) (cl : Str → Addr) (W : WX) (c : Cz) (σ : L2.St) (T : List (D × V)) (o : Out D) (Q : VK) : Prop := match o with
  | .fail => False
  | .ok d s => ∀ v H, SI K cl c H σ s ((d, v) :: T) → Q v H
  | .exc n fs s => ∀ dx H, (dx = none → fs = []) → SI K cl c H σ s (xt fs dx ++ T) → W (.ref (cl n)) dx σ H
/-- of a test -/
def WantB (K : PySem.W.Frag) (cl : Str → Addr) (W : WX) (c : Cz) (σ : L2.St) (T : List (D × V)) (o : Out Bool) (Q : Bool → Hp → Prop) : Prop := match o with
  | .fail => False
  | .ok b s => ∀ H, SI K cl c H σ s T → Q b H
  | .exc n fs s => ∀ dx H, (dx = none → fs = []) → SI K cl c H σ s (xt fs dx ++ T) → W (.ref (cl n)) dx σ H
/-- the values of an argument list lie over T, the last one on top -/
def zipT : List D → List V → List (D × V) → List (D × V)
  | d :: ds, v :: vs, T => zipT ds vs ((d, v) :: T)
  | _, _, T => T
def WantA (K : PySem.W.Frag) (cl : Str → Addr) (W : WX) (c : Cz) (σ : L2.St) (T : List (D × V)) (o : Out (List D)) (Q : List V → Hp → Prop) : Prop := match o with
  | .fail => False
  | .ok ds s => ∀ vs H, ds.length = vs.length → SI K cl c H σ s (zipT ds vs T) → Q vs H
  | .exc n fs s => ∀ dx H, (dx = none → fs = []) → SI K cl c H σ s (xt fs dx ++ T) → W (.ref (cl n)) dx σ H

structure DE (X : Cx) (cl : Str → Addr) (W : WX) (e : Expr) (f : M D) : Prop where
  ex : ∃ te, PE X e te ∧ ∀ c σ s T H Q, SI X.K cl c H σ s T → Want X.K cl W c σ T (f s) Q → te σ H Q
structure DT (X : Cx) (cl : Str → Addr) (W : WX) (e : Expr) (f : M Bool) : Prop where
  ex : ∃ te, PT X e te ∧ ∀ c σ s T H Q, SI X.K cl c H σ s T → WantB X.K cl W c σ T (f s) Q → te σ H Q
structure DW (X : Cx) (cl : Str → Addr) (W : WX) (e : Expr) (f : M Bool) : Prop where
  ex : ∃ te, PW X e te ∧ ∀ c σ s T H Q, SI X.K cl c H σ s T → WantB X.K cl W c σ T (f s) Q → te σ H Q
structure DA (X : Cx) (cl : Str → Addr) (W : WX) (es : List Expr) (f : M (List D)) : Prop where
  ex : ∃ te, PA X es te ∧ ∀ c σ s T H Q, SI X.K cl c H σ s T → WantA X.K cl W c σ T (f s) Q → te σ H Q

section
variable {K : PySem.W.Frag} {cl : Str → Addr} {W : WX} {c : Cz} {σ : L2.St} {T : List (D × V)} {H : Hp}
theorem SI.app {s : S} {p : List (D × V)} (h : SI K cl c H σ s (p ++ T)) : SI K cl c H σ s T := h.sub fun q hq => List.mem_append_right _ hq
theorem SI.xt {s : S} {fs : List (Str × D)} {dx : Option Addr} {T' : List (D × V)} (h : SI K cl c H σ s (DL.xt fs dx ++ T)) (hs : ∀ p ∈ T', p ∈ T) : SI K cl c H σ s (DL.xt fs dx ++ T') :=
  h.sub fun q hq => by
    rcases List.mem_append.mp hq with z | z
    · exact List.mem_append_left _ z
    · exact List.mem_append_right _ (hs q z)
/-- one run, then another -/
theorem Want.bind {o : Out D} {k : D → S → Out D} {Q Q1 : VK} (h : Want K cl W c σ T (o.bind k) Q)
    (hk : ∀ d s, o = .ok d s → Want K cl W c σ T (k d s) Q → ∀ v H, SI K cl c H σ s ((d, v) :: T) → Q1 v H) : Want K cl W c σ T o Q1 := by
  cases o with
  | fail => exact h
  | ok d s => exact hk d s rfl h
  | exc n fs s => exact h
theorem Want.bindB {o : Out Bool} {k : Bool → S → Out D} {Q : VK} {Q1 : Bool → Hp → Prop} (h : Want K cl W c σ T (o.bind k) Q)
    (hk : ∀ d s, o = .ok d s → Want K cl W c σ T (k d s) Q → ∀ H, SI K cl c H σ s T → Q1 d H) : WantB K cl W c σ T o Q1 := by
  cases o with
  | fail => exact h
  | ok d s => exact hk d s rfl h
  | exc n fs s => exact h
theorem WantB.bind {o : Out Bool} {k : Bool → S → Out Bool} {Q Q1 : Bool → Hp → Prop} (h : WantB K cl W c σ T (o.bind k) Q)
    (hk : ∀ d s, o = .ok d s → WantB K cl W c σ T (k d s) Q → ∀ H, SI K cl c H σ s T → Q1 d H) : WantB K cl W c σ T o Q1 := by
  cases o with
  | fail => exact h
  | ok d s => exact hk d s rfl h
  | exc n fs s => exact h
theorem WantB.bindD {o : Out D} {k : D → S → Out Bool} {Q : Bool → Hp → Prop} {Q1 : VK} (h : WantB K cl W c σ T (o.bind k) Q)
    (hk : ∀ d s, o = .ok d s → WantB K cl W c σ T (k d s) Q → ∀ v H, SI K cl c H σ s ((d, v) :: T) → Q1 v H) : Want K cl W c σ T o Q1 := by
  cases o with
  | fail => exact h
  | ok d s => exact hk d s rfl h
  | exc n fs s => exact h
theorem Want.bindA {o : Out (List D)} {k : List D → S → Out D} {Q : VK} {Q1 : List V → Hp → Prop} (h : Want K cl W c σ T (o.bind k) Q)
    (hk : ∀ ds s, o = .ok ds s → Want K cl W c σ T (k ds s) Q → ∀ vs H, ds.length = vs.length → SI K cl c H σ s (zipT ds vs T) → Q1 vs H) : WantA K cl W c σ T o Q1 := by
  cases o with
  | fail => exact h
  | ok d s => exact hk d s rfl h
  | exc n fs s => exact h
/-- temps that lie below do no harm: a want over a deeper stack -/
theorem Want.deeper {o : Out D} {Q : VK} {T' : List (D × V)} (h : Want K cl W c σ T o Q) (hs : ∀ p ∈ T, p ∈ T') : Want K cl W c σ T' o Q := by
  cases o with
  | fail => exact h
  | ok d s => exact fun v H i => h v H (i.sub fun q hq => by
      rcases List.mem_cons.mp hq with z | z
      · exact z ▸ List.mem_cons_self ..
      · exact List.mem_cons_of_mem _ (hs q z))
  | exc n fs s => exact fun dx H e i => h dx H e (i.xt hs)
theorem WantB.deeper {o : Out Bool} {Q : Bool → Hp → Prop} {T' : List (D × V)} (h : WantB K cl W c σ T o Q) (hs : ∀ p ∈ T, p ∈ T') : WantB K cl W c σ T' o Q := by
  cases o with
  | fail => exact h
  | ok d s => exact fun H i => h H (i.sub hs)
  | exc n fs s => exact fun dx H e i => h dx H e (i.xt hs)
theorem zipT_sub : ∀ (ds : List D) (vs : List V) (T : List (D × V)), ∀ p ∈ T, p ∈ zipT ds vs T
  | [], _, T, p, h => h
  | _ :: _, [], T, p, h => h
  | d :: ds, v :: vs, T, p, h => zipT_sub ds vs _ p (List.mem_cons_of_mem _ h)
theorem zipT_mem : ∀ {ds : List D} {vs : List V} {T : List (D × V)} {i : Nat} {d : D} {v : V}, ds[i]? = some d → vs[i]? = some v → (d, v) ∈ zipT ds vs T
  | [], _, T, i, d, v, h, _ => by simp at h
  | _ :: _, [], T, i, d, v, _, h => by simp at h
  | d :: ds, v :: vs, T, 0, e, u, h1, h2 => by
    simp at h1 h2; subst h1 h2
    exact zipT_sub ds vs _ _ (List.mem_cons_self ..)
  | d :: ds, v :: vs, T, i + 1, e, u, h1, h2 => zipT_mem (ds := ds) (vs := vs) (i := i) (by simpa using h1) (by simpa using h2)
theorem WantA.deeper {o : Out (List D)} {Q : List V → Hp → Prop} {T' : List (D × V)} (h : WantA K cl W c σ T o Q) (hs : ∀ p ∈ T, p ∈ T') : WantA K cl W c σ T' o Q := by
  cases o with
  | fail => exact h
  | ok ds s =>
    refine fun vs H e i => h vs H e (i.sub fun q hq => ?_)
    have key : ∀ (ds : List D) (vs : List V) (T T' : List (D × V)), (∀ p ∈ T, p ∈ T') → ∀ q ∈ zipT ds vs T, q ∈ zipT ds vs T' := by
      intro ds
      induction ds with
      | nil => intro vs T T' hs q hq; exact hs q hq
      | cons d ds ih =>
        intro vs T T' hs q hq
        cases vs with
        | nil => exact hs q hq
        | cons v vs =>
          refine ih vs _ _ (fun p hp => ?_) q hq
          rcases List.mem_cons.mp hp with z | z
          · exact z ▸ List.mem_cons_self ..
          · exact List.mem_cons_of_mem _ (hs p z)
    exact key ds vs T T' hs q hq
  | exc n fs s => exact fun dx H e i => h dx H e (i.xt hs)
theorem SIx.repL {s : S} {F : Addr → Prop} {α : List Addr} : ∀ {ds : List D} {vs : List V}, ds.length = vs.length → (∀ (i : Nat) (d : D) (v : V), ds[i]? = some d → vs[i]? = some v → Rep K cl H F α d v) → RepL K cl H F α ds vs
  | [], [], _, _ => .nil
  | d :: ds, v :: vs, hl, h => .cons (h 0 d v rfl rfl) (SIx.repL (s := s) (by simpa using hl) fun i d v h1 h2 => h (i + 1) d v (by simpa using h1) (by simpa using h2))
  | [], _ :: _, hl, _ => by simp at hl
  | _ :: _, [], hl, _ => by simp at hl
theorem SIx.args {s : S} {F : Addr → Prop} {α : List Addr} {ds : List D} {vs : List V} (h : SIx K cl c H σ s (zipT ds vs T) F α) (hl : ds.length = vs.length) : RepL K cl H F α ds vs :=
  SIx.repL (s := s) hl fun _ _ _ h1 h2 => h.tmp (_, _) (zipT_mem h1 h2)
end

/-! ### names, constants -/
def eVar (i : Nat) : M D := fun s => match s.env[i]? with
  | some (some d) => .ok d s
  | _ => .fail
def eC (d : D) : M D := fun s => .ok d s
section
variable {X : Cx} {cl : Str → Addr} {W : WX}
theorem de_var {i : Nat} {x : Str} {pos : Pos} (hN : X.N[i]? = some x) (hv : Vis X.env.scope x) (hd : (x == ("__debug__" : Str)) = false := by decide) (hcd : (x == ("__classdict__" : Str)) = false := by decide) : DE X cl W (.Name x pos) (eVar i) := by
  refine ⟨_, pe_var hN hv hd hcd, fun c σ s T H Q I w => ?_⟩
  unfold eVar at w
  split at w
  · rename_i d e
    obtain ⟨v, h1, h2⟩ := I.var e
    exact ⟨v, h1, w v H h2⟩
  · exact w.elim
/-- a datum without objects, its value -/
def flatD : D → Option V
  | .non => some .non | .bl b => some (.bl b) | .int i => some (.int i) | .str s => some (.str s) | .raw v => some v
  | _ => none
theorem flat_rep {K : PySem.W.Frag} {H : Hp} {F : Addr → Prop} {α : List Addr} {d : D} {v : V} (h : flatD d = some v) : Rep K cl H F α d v := by
  cases d <;> simp [flatD] at h <;> subst h
  · exact .non
  · exact .bl
  · exact .int
  · exact .str
  · exact .raw
theorem SI.flat {K : PySem.W.Frag} {c : Cz} {H : Hp} {σ : L2.St} {s : S} {T : List (D × V)} {d : D} {v : V} (h : flatD d = some v) (I : SI K cl c H σ s T) : SI K cl c H σ s ((d, v) :: T) := by
  obtain ⟨F, α, I⟩ := I
  exact ⟨F, α, I.push (flat_rep h)⟩
theorem de_of {e : Expr} {d : D} {v : V} (h : PE X e (tC v)) (hd : flatD d = some v) : DE X cl W e (eC d) := ⟨_, h, fun _ _ _ _ H _ I w => w v H (I.flat hd)⟩
theorem de_int {i j pos} : DE X cl W (.Constant (.int i) j pos) (eC (.int i)) := de_of pe_int rfl
theorem de_bl {b j pos} : DE X cl W (.Constant (.bool b) j pos) (eC (.bl b)) := de_of pe_bl rfl
theorem de_non {j pos} : DE X cl W (.Constant .none j pos) (eC .non) := de_of pe_non rfl
theorem de_str {x j pos} : DE X cl W (.Constant (.str x) j pos) (eC (.str x)) := de_of pe_str rfl
/-! ### operators on two values that make no object -/
/-- g d e = a flat datum; the rule gives its value -/
structure OpF (X : Cx) (cl : Str → Addr) (op : Value → Value → Sem Value) (g : D → D → Option D) : Prop where
  ex : ∃ r : R2, OpR X op r ∧ ∀ H F α d e x y z Q, Rep X.K cl H F α d x → Rep X.K cl H F α e y → g d e = some z → (∀ v, flatD z = some v → Q v H) → r x y H Q
def oOf (o : Option D) (s : S) : Out D := match o with
  | some d => .ok d s
  | none => .fail
def eOp (g : D → D → Option D) (fa fb : M D) : M D := fun s => (fa s).bind fun x s => (fb s).bind fun y s => oOf (g (view s.M x) (view s.M y)) s
end
end DL

/-! DlC: reading what data stand for; operators. -/
namespace DL
open PySem L2

mutual
/-- plain data, as the library has them -/
def pd : D → Option PyData
  | .non => some .none
  | .bl b => some (.bool b)
  | .int i => some (.int i)
  | .str s => some (.str s)
  | .tup xs => (pdL xs).map .tuple
  | .kt xs => (pdL xs).map .tuple
  | .lst xs => (pdL xs).map .list
  | _ => none
def pdL : List D → Option (List PyData)
  | [] => some []
  | x :: xs => match pd x with
    | none => none
    | some p => (pdL xs).map (p :: ·)
end
/-- a tuple's items -/
def tpD : D → Option (List D)
  | .tup xs => some xs
  | .kt xs => some xs
  | _ => none
/-- a sequence's items -/
def seqD : D → Option (List D)
  | .tup xs => some xs
  | .kt xs => some xs
  | .lst xs => some xs
  | .slst xs => some xs
  | _ => none

section
variable {K : PySem.W.Frag} {cl : Str → Addr} {c : Cz} {H H' : Hp} {σ σ' : L2.St} {s : S} {T T' : List (D × V)} {F F' : Addr → Prop} {α α' : List Addr}
mutual
theorem Rep.dp : ∀ {d : D} {v : V} {p : PyData}, Rep K cl H F α d v → pd d = some p → Dp K H v p
  | _, _, _, .non, e => by simp [pd] at e; subst e; exact .non
  | _, _, _, .bl, e => by simp [pd] at e; subst e; exact .bl _
  | _, _, _, .int, e => by simp [pd] at e; subst e; exact .int _
  | _, _, _, .str, e => by simp [pd] at e; subst e; exact .str _
  | _, _, _, .tup h r, e => by
    simp only [pd, Option.map_eq_some_iff] at e
    obtain ⟨ps, e1, rfl⟩ := e
    exact .tup h.1 (RepL.dp r e1)
  | _, _, _, .kt h r, e => by
    simp only [pd, Option.map_eq_some_iff] at e
    obtain ⟨ps, e1, rfl⟩ := e
    exact .tup (SqT.of h) (RepL.dp r e1)
  | _, _, _, .lst h _ r, e => by
    simp only [pd, Option.map_eq_some_iff] at e
    obtain ⟨ps, e1, rfl⟩ := e
    exact .lst (SqL.of h) (RepL.dp r e1)
  | _, _, _, .slst _ _ _, e => by simp [pd] at e
  | _, _, _, .slstK _ _, e => by simp [pd] at e
  | _, _, _, .dct _ _ _, e => by simp [pd] at e
  | _, _, _, .dcu _ _ _, e => by simp [pd] at e
  | _, _, _, .obj _ _ _, e => by simp [pd] at e
  | _, _, _, .xd _ _ _, e => by simp [pd] at e
  | _, _, _, .ptr _, e => by simp [pd] at e
  | _, _, _, .raw, e => by simp [pd] at e
  | _, _, _, .dctZ _ _, e => by simp [pd] at e
  | _, _, _, .dcuZ _ _, e => by simp [pd] at e
  | _, _, _, .opq, e => by simp [pd] at e
  | _, _, _, .exn _ _ _ _ _ _ _, e => by simp [pd] at e
  | _, _, _, .exn0 _ _ _ _, e => by simp [pd] at e
theorem RepL.dp : ∀ {d : List D} {v : List V} {p : List PyData}, RepL K cl H F α d v → pdL d = some p → DpAll K H v p
  | _, _, _, .nil, e => by simp [pdL] at e; subst e; exact .nil
  | _, _, _, .cons (d := d) h r, e => by
    simp only [pdL] at e
    cases q : pd d with
    | none => rw [q] at e; simp at e
    | some p =>
      rw [q] at e
      simp only [Option.map_eq_some_iff] at e
      obtain ⟨ps, e1, rfl⟩ := e
      exact .cons (Rep.dp h q) (RepL.dp r e1)
end
theorem Rep.seq : ∀ {d : D} {v : V} {ds : List D}, Rep K cl H F α d v → seqD d = some ds → ∃ a vs, v = .ref a ∧ (SqL K H a vs ∨ SqT K H a vs) ∧ RepL K cl H F α ds vs
  | _, _, _, .non, e => by simp [seqD] at e
  | _, _, _, .bl, e => by simp [seqD] at e
  | _, _, _, .int, e => by simp [seqD] at e
  | _, _, _, .str, e => by simp [seqD] at e
  | _, _, _, .tup h r, e => by simp [seqD] at e; subst e; exact ⟨_, _, rfl, .inr h.1, r⟩
  | _, _, _, .kt h r, e => by simp [seqD] at e; subst e; exact ⟨_, _, rfl, .inr (SqT.of h), r⟩
  | _, _, _, .lst h _ r, e => by simp [seqD] at e; subst e; exact ⟨_, _, rfl, .inl (SqL.of h), r⟩
  | _, _, _, .slst h _ r, e => by simp [seqD] at e; subst e; exact ⟨_, _, rfl, .inl (.inl h), r⟩
  | _, _, _, .slstK h r, e => by simp [seqD] at e; subst e; exact ⟨_, _, rfl, .inl (h H), r⟩
  | _, _, _, .dct _ _ _, e => by simp [seqD] at e
  | _, _, _, .dcu _ _ _, e => by simp [seqD] at e
  | _, _, _, .obj _ _ _, e => by simp [seqD] at e
  | _, _, _, .xd _ _ _, e => by simp [seqD] at e
  | _, _, _, .ptr _, e => by simp [seqD] at e
  | _, _, _, .raw, e => by simp [seqD] at e
  | _, _, _, .dctZ _ _, e => by simp [seqD] at e
  | _, _, _, .dcuZ _ _, e => by simp [seqD] at e
  | _, _, _, .opq, e => by simp [seqD] at e
  | _, _, _, .exn _ _ _ _ _ _ _, e => by simp [seqD] at e
  | _, _, _, .exn0 _ _ _ _, e => by simp [seqD] at e
/-- the kinds of a view -/
theorem SIx.vInt {d : D} {v : V} {i : Int} (h : SIx K cl c H σ s T F α) (r : Rep K cl H F α d v) (e : DL.view s.M d = .int i) : v = .int i := by
  rcases h.view r with r | ⟨k, x, a, _, _, _, _, e2, _⟩
  · rw [e] at r; cases r; rfl
  · rw [e] at e2; cases x <;> cases e2
theorem SIx.vBl {d : D} {v : V} {i : Bool} (h : SIx K cl c H σ s T F α) (r : Rep K cl H F α d v) (e : DL.view s.M d = .bl i) : v = .bl i := by
  rcases h.view r with r | ⟨k, x, a, _, _, _, _, e2, _⟩
  · rw [e] at r; cases r; rfl
  · rw [e] at e2; cases x <;> cases e2
theorem SIx.vStr {d : D} {v : V} {i : Str} (h : SIx K cl c H σ s T F α) (r : Rep K cl H F α d v) (e : DL.view s.M d = .str i) : v = .str i := by
  rcases h.view r with r | ⟨k, x, a, _, _, _, _, e2, _⟩
  · rw [e] at r; cases r; rfl
  · rw [e] at e2; cases x <;> cases e2
theorem SIx.vNon {d : D} {v : V} (h : SIx K cl c H σ s T F α) (r : Rep K cl H F α d v) (e : DL.view s.M d = .non) : v = .non := by
  rcases h.view r with r | ⟨k, x, a, _, _, _, _, e2, _⟩
  · rw [e] at r; cases r; rfl
  · rw [e] at e2; cases x <;> cases e2
theorem SIx.vLst {d : D} {v : V} {ds : List D} (h : SIx K cl c H σ s T F α) (r : Rep K cl H F α d v) (e : DL.view s.M d = .lst ds) : ∃ a vs, v = .ref a ∧ H a = some (.lst vs) ∧ RepL K cl H F α ds vs := by
  rcases h.view r with r | ⟨k, x, a, _, rfl, _, _, e2, rc⟩
  · rw [e] at r; cases r; rename_i h1 h2 h3; exact ⟨_, _, rfl, h1, h3⟩
  · rw [e] at e2
    cases x <;> cases e2
    obtain ⟨vs, h1, h2⟩ := rc
    exact ⟨a, vs, rfl, h1, h2⟩
theorem SIx.vTupN {d : D} {v : V} {ds : List D} (h : SIx K cl c H σ s T F α) (r : Rep K cl H F α d v) (e : DL.view s.M d = .tup ds) : ∃ a vs, v = .ref a ∧ SqN K H a vs ∧ RepL K cl H F α ds vs := by
  rcases h.view r with r | ⟨k, x, a, _, rfl, _, _, e2, rc⟩
  · rw [e] at r; cases r; rename_i h1 h2; exact ⟨_, _, rfl, h1, h2⟩
  · rw [e] at e2
    cases x <;> cases e2
theorem SIx.vTup {d : D} {v : V} {ds : List D} (h : SIx K cl c H σ s T F α) (r : Rep K cl H F α d v) (e : DL.view s.M d = .tup ds) : ∃ a vs, v = .ref a ∧ SqT K H a vs ∧ RepL K cl H F α ds vs :=
  let ⟨a, vs, h1, h2, h3⟩ := h.vTupN r e
  ⟨a, vs, h1, h2.1, h3⟩
theorem SIx.vTp {d : D} {v : V} {ds : List D} (h : SIx K cl c H σ s T F α) (r : Rep K cl H F α d v) (e : tpD (DL.view s.M d) = some ds) : ∃ a vs, v = .ref a ∧ SqT K H a vs ∧ RepL K cl H F α ds vs := by
  rcases h.view r with r | ⟨k, x, a, _, rfl, _, _, e2, rc⟩
  · revert r e
    generalize DL.view s.M d = u
    intro e r
    cases r <;> simp [tpD] at e
    · subst e; rename_i h1 h2; exact ⟨_, _, rfl, h1.1, h2⟩
    · subst e; rename_i h1 h2; exact ⟨_, _, rfl, SqT.of h1, h2⟩
  · rw [e2] at e
    cases x <;> simp [C.dat, tpD] at e
theorem SIx.vSeq {d : D} {v : V} {ds : List D} (h : SIx K cl c H σ s T F α) (r : Rep K cl H F α d v) (e : seqD (DL.view s.M d) = some ds) : ∃ a vs, v = .ref a ∧ (SqL K H a vs ∨ SqT K H a vs) ∧ RepL K cl H F α ds vs := by
  rcases h.view r with r | ⟨k, x, a, _, rfl, _, _, e2, rc⟩
  · exact Rep.seq r e
  · rw [e2] at e
    cases x <;> simp [C.dat, seqD] at e <;> subst e
    obtain ⟨vs, h1, h2⟩ := rc
    exact ⟨a, vs, rfl, .inl (SqL.of h1), h2⟩
theorem SIx.vDp {d : D} {v : V} {p : PyData} (h : SIx K cl c H σ s T F α) (r : Rep K cl H F α d v) (e : pd (DL.view s.M d) = some p) : Dp K H v p := by
  rcases h.view r with r | ⟨k, x, a, _, rfl, _, _, e2, rc⟩
  · exact r.dp e
  · rw [e2] at e
    cases x with
    | lst ds =>
      simp only [C.dat, pd, Option.map_eq_some_iff] at e
      obtain ⟨ps, e1, rfl⟩ := e
      obtain ⟨vs, h1, h2⟩ := rc
      exact .lst (SqL.of h1) (RepL.dp h2 e1)
    | dct _ => simp [C.dat, pd] at e
    | dcu _ => simp [C.dat, pd] at e
    | obj _ _ => simp [C.dat, pd] at e
    | tbl _ _ _ _ => simp [C.dat, pd] at e
    | lck _ => simp [C.dat, pd] at e
    | lcu _ => simp [C.dat, pd] at e
end

theorem SI.drop2 {K : PySem.W.Frag} {cl : Str → Addr} {c : Cz} {H : Hp} {σ : L2.St} {s : S} {T : List (D × V)} {p q : D × V} (h : SI K cl c H σ s (p :: q :: T)) : SI K cl c H σ s (p :: T) := h.sub fun _ hq => (List.mem_cons.mp hq).elim (fun z => z ▸ List.mem_cons_self ..) fun z => List.mem_cons_of_mem _ (List.mem_cons_of_mem _ z)
/-! ### operators -/
structure OpD (X : Cx) (cl : Str → Addr) (op : Value → Value → Sem Value) (g : D → D → Option D) : Prop where
  ex : ∃ r : R2, OpR X op r ∧ ∀ c σ s T H d x e y z Q, SI X.K cl c H σ s ((e, y) :: (d, x) :: T) → g (DL.view s.M d) (DL.view s.M e) = some z → (∀ v H', SI X.K cl c H' σ s ((z, v) :: (e, y) :: (d, x) :: T) → Q v H') → r x y H Q
def orD (g h : D → D → Option D) : D → D → Option D := fun a b => match g a b with
  | some z => some z
  | none => h a b
section
variable {X : Cx} {cl : Str → Addr} {W : WX} {op : Value → Value → Sem Value} {g h : D → D → Option D}
theorem OpD.or (a : OpD X cl op g) (b : OpD X cl op h) : OpD X cl op (orD g h) := by
  obtain ⟨r, hr, q⟩ := a
  obtain ⟨r', hr', q'⟩ := b
  refine ⟨_, hr.or hr', fun c σ s T H d x e y z Q I hz k => ?_⟩
  unfold orD at hz
  split at hz
  · rename_i z' e1
    cases hz
    exact .inl (q c σ s T H d x e y z Q I e1 k)
  · exact .inr (q' c σ s T H d x e y z Q I hz k)
/-- of two flat data a flat one -/
theorem OpD.flat {r : R2} (hr : OpR X op r) (hq : ∀ H F α d e x y z Q, Rep X.K cl H F α d x → Rep X.K cl H F α e y → g d e = some z → (∀ v, flatD z = some v → Q v H) → r x y H Q)
    (hd : ∀ d e z, g d e = some z → (∀ y : DL.C, d ≠ y.dat) ∧ ∀ y : DL.C, e ≠ y.dat) (hf : ∀ d e z, g d e = some z → ∃ v, flatD z = some v) : OpD X cl op g := by
  refine ⟨r, hr, fun c σ s T H d x e y z Q ⟨F, α, I⟩ hz k => ?_⟩
  obtain ⟨n1, n2⟩ := hd _ _ _ hz
  have r1 : Rep X.K cl H F α (DL.view s.M d) x := (I.view (I.tmp (d, x) (List.mem_cons_of_mem _ (List.mem_cons_self ..)))).elim id fun ⟨_, C, _, _, _, _, _, e2, _⟩ => (n1 C e2).elim
  have r2 : Rep X.K cl H F α (DL.view s.M e) y := (I.view (I.tmp (e, y) (List.mem_cons_self ..))).elim id fun ⟨_, C, _, _, _, _, _, e2, _⟩ => (n2 C e2).elim
  exact hq H F α _ _ x y z Q r1 r2 hz fun v hv => k v H (SI.flat hv ⟨F, α, I⟩)
/-- two ints -/
def gI (f : Int → Int → Option D) : D → D → Option D
  | .int i, .int j => f i j
  | _, _ => none
theorem gI_some {f : Int → Int → Option D} {d e z : D} (h : gI f d e = some z) : ∃ i j, d = .int i ∧ e = .int j ∧ f i j = some z := by
  cases d <;> first | (cases e <;> first | exact ⟨_, _, rfl, rfl, h⟩ | (simp [gI] at h)) | (simp [gI] at h)
theorem OpD.int {r : R2} {f : Int → Int → Option D} (hr : OpR X op r) (hq : ∀ i j z v H Q, f i j = some z → flatD z = some v → Q v H → r (.int i) (.int j) H Q) (hf : ∀ i j z, f i j = some z → ∃ v, flatD z = some v) : OpD X cl op (gI f) := by
  refine OpD.flat hr (fun H F α d e x y z Q r1 r2 hz k => ?_) (fun d e z hz => ?_) (fun d e z hz => ?_)
  · obtain ⟨i, j, rfl, rfl, hz⟩ := gI_some hz
    cases r1; cases r2
    obtain ⟨v, hv⟩ := hf i j z hz
    exact hq i j z v H Q hz hv (k v hv)
  · obtain ⟨i, j, rfl, rfl, hz⟩ := gI_some hz
    exact ⟨fun y q => (by cases y <;> cases q), fun y q => (by cases y <;> cases q)⟩
  · obtain ⟨i, j, rfl, rfl, hz⟩ := gI_some hz
    exact hf i j z hz
def gIf (c : Int → Int → Bool) (g : Int → Int → Int) (i j : Int) : Option D := match c i j with
  | true => some (.int (g i j))
  | false => none
theorem gIf_some {c : Int → Int → Bool} {g : Int → Int → Int} {i j : Int} {z : D} (h : gIf c g i j = some z) : c i j = true ∧ z = .int (g i j) := by
  unfold gIf at h
  cases q : c i j with
  | true => rw [q] at h; cases h; exact ⟨rfl, rfl⟩
  | false => rw [q] at h; cases h
theorem OpD.intIf {P : Int → Int → Prop} {c : Int → Int → Bool} {f : Int → Int → Int} (hr : OpR X op (rI P fun i j => .int (f i j))) (hc : ∀ i j, c i j = true → P i j) : OpD X cl op (gI (gIf c f)) :=
  OpD.int hr (fun i j z v H Q e q k => by
    obtain ⟨h1, rfl⟩ := gIf_some e
    cases q
    exact ⟨i, j, rfl, rfl, hc i j h1, k⟩) fun i j z e => by
    obtain ⟨h1, rfl⟩ := gIf_some e
    exact ⟨_, rfl⟩
def dAddI : D → D → Option D := gI fun i j => some (.int (i + j))
def dSubI : D → D → Option D := gI fun i j => some (.int (i - j))
def small64 (i : Int) : Bool := decide (-(2 ^ 64) < i) && decide (i < 2 ^ 64)
def dMulI : D → D → Option D := gI (gIf (fun i j => small64 i || small64 j) fun i j => i * j)
def dDivI : D → D → Option D := gI (gIf (fun _ j => decide (0 < j) && decide (j < 1073741824)) fun i j => i / j)
def dModI : D → D → Option D := gI (gIf (fun _ j => decide (0 < j)) fun i j => i % j)
def dPowI : D → D → Option D := gI (gIf (fun i j => decide (0 ≤ j) && decide (j ≤ 1000000) && decide (i.natAbs < 2 ^ 64)) fun i j => i ^ j.toNat)
theorem od_addI : OpD X cl (binaryOp .Add) dAddI := OpD.int op_add (fun i j z v H Q e f q => by cases e; cases f; exact ⟨i, j, rfl, rfl, q⟩) (fun i j z e => by cases e; exact ⟨_, rfl⟩)
theorem od_mulI : OpD X cl (binaryOp .Mult) dMulI := OpD.intIf op_mul fun i j h => by
  simpa [small64, Bool.or_eq_true, Bool.and_eq_true, CMul] using h
theorem od_divI : OpD X cl (binaryOp .FloorDiv) dDivI := OpD.intIf op_fdiv fun i j h => by simpa [CDiv, Bool.and_eq_true] using h
theorem od_modI : OpD X cl (binaryOp .Mod) dModI := OpD.intIf op_mod fun i j h => by simpa using h
theorem od_powI : OpD X cl (binaryOp .Pow) dPowI := OpD.intIf op_pow fun i j h => by simpa [CPow, Bool.and_eq_true, and_assoc] using h
def gCmp (p : Int → Int → Bool) : D → D → Option D := gI fun i j => some (.bl (p i j))
def dLtI := gCmp fun i j => decide (i < j)
def dLeI := gCmp fun i j => decide (i ≤ j)
def dGtI := gCmp fun i j => decide (j < i)
def dGeI := gCmp fun i j => decide (j ≤ i)
theorem od_ltI : OpD X cl (compareOp .Lt) dLtI := OpD.int op_lt (fun i j z v H Q e f q => by cases e; cases f; exact ⟨i, j, rfl, rfl, q⟩) (fun i j z e => by cases e; exact ⟨_, rfl⟩)
theorem od_gtI : OpD X cl (compareOp .Gt) dGtI := OpD.int op_gt (fun i j z v H Q e f q => by cases e; cases f; exact ⟨i, j, rfl, rfl, q⟩) (fun i j z e => by cases e; exact ⟨_, rfl⟩)
theorem od_geI : OpD X cl (compareOp .GtE) dGeI := OpD.int op_ge (fun i j z v H Q e f q => by cases e; cases f; exact ⟨i, j, rfl, rfl, q⟩) (fun i j z e => by cases e; exact ⟨_, rfl⟩)
/-- two texts -/
def dAddS : D → D → Option D
  | .str a, .str b => if a.length + b.length ≤ 1000000 then some (.str (a ++ b)) else none
  | _, _ => none
theorem line1m {n : Nat} (h : n ≤ 1000000) : n ≤ sizeLine := by rw [sizeLine_eq]; omega
theorem od_addS : OpD X cl (binaryOp .Add) dAddS := by
  have key : ∀ d e z, dAddS d e = some z → ∃ a b, d = .str a ∧ e = .str b ∧ a.length + b.length ≤ 1000000 ∧ z = .str (a ++ b) := fun d e z h => by
    cases d <;> first | (cases e <;> first | (simp only [dAddS] at h; split at h; (· rename_i hc; cases h; exact ⟨_, _, rfl, rfl, hc, rfl⟩); (· cases h)) | (simp [dAddS] at h)) | (simp [dAddS] at h)
  refine OpD.flat op_add_str (fun H F α d e x y z Q r1 r2 hz k => ?_) (fun d e z hz => ?_) (fun d e z hz => ?_)
  · obtain ⟨a, b, rfl, rfl, hl, rfl⟩ := key _ _ _ hz
    cases r1; cases r2
    exact ⟨a, b, rfl, rfl, line1m hl, k _ rfl⟩
  · obtain ⟨a, b, rfl, rfl, hl, rfl⟩ := key _ _ _ hz
    exact ⟨fun y q => (by cases y <;> cases q), fun y q => (by cases y <;> cases q)⟩
  · obtain ⟨a, b, rfl, rfl, hl, rfl⟩ := key _ _ _ hz
    exact ⟨_, rfl⟩
theorem RepL.nil_iff {K : PySem.W.Frag} {H : Hp} {F : Addr → Prop} {α : List Addr} {ds : List D} {vs : List V} (r : RepL K cl H F α ds vs) : vs = [] ↔ ds = [] := by
  cases r <;> simp
/-- two tuples -/
def dAddT : D → D → Option D
  | .tup a, .tup b => if a.length + b.length ≤ 1000000 then some (.tup (a ++ b)) else none
  | _, _ => none
theorem od_addT : OpD X cl (binaryOp .Add) dAddT := by
  refine ⟨_, op_catN, fun c σ s T H d x e y z Q ⟨F, α, I⟩ hz k => ?_⟩
  have r1 := I.tmp (d, x) (List.mem_cons_of_mem _ (List.mem_cons_self ..))
  have r2 := I.tmp (e, y) (List.mem_cons_self ..)
  unfold dAddT at hz
  split at hz
  · rename_i a b e1 e2
    split at hz
    · rename_i hl
      cases hz
      obtain ⟨p, vs, e3, h1, q1⟩ := I.vTupN r1 e1
      obtain ⟨p', ws, e4, h2, q2⟩ := I.vTupN r2 e2
      have e3 : x = .ref p := e3
      have e4 : y = .ref p' := e4
      subst e3 e4
      refine ⟨p, p', vs, ws, rfl, rfl, h1.1, h2.1, by rw [← q1.length, ← q2.length]; exact line1m hl, fun hx => ?_, fun hx hy => ?_, fun hx hy q hq ob hd => ?_⟩
      · have := q1.nil_iff.mp hx; subst this
        exact k _ _ ((I.push (d := .tup ([] ++ b)) (.tup h2 (by rw [List.nil_append]; exact q2))).si)
      · have := q2.nil_iff.mp hy; subst this
        exact k _ _ ((I.push (d := .tup (a ++ [])) (.tup h1 (by rw [List.append_nil]; exact q1))).si)
      · have e := ext_new (o := .frz ob (.tup (vs ++ ws))) I hq
        exact k _ _ (((I.newF hq).push (.tup (SqN.of upd_same hd) ((q1.append q2).ext e))).si)
    · cases hz
  · cases hz
/-- two lists -/
def dAddL : D → D → Option D
  | .lst a, .lst b => if a.length + b.length ≤ 1000000 then some (.lst (a ++ b)) else none
  | _, _ => none
theorem od_addL : OpD X cl (binaryOp .Add) dAddL := by
  refine ⟨_, op_cat, fun c σ s T H d x e y z Q ⟨F, α, I⟩ hz k => ?_⟩
  have r1 := I.tmp (d, x) (List.mem_cons_of_mem _ (List.mem_cons_self ..))
  have r2 := I.tmp (e, y) (List.mem_cons_self ..)
  unfold dAddL at hz
  split at hz
  · rename_i a b e1 e2
    split at hz
    · rename_i hl
      cases hz
      obtain ⟨p, vs, e3, h1, q1⟩ := I.vLst r1 e1
      obtain ⟨p', ws, e4, h2, q2⟩ := I.vLst r2 e2
      have e3 : x = .ref p := e3
      have e4 : y = .ref p' := e4
      subst e3 e4
      refine ⟨p, p', vs, ws, rfl, rfl, h1, h2, by rw [← q1.length, ← q2.length]; exact line1m hl, fun q hq => ?_⟩
      have e := ext_new (o := .lst (vs ++ ws)) I hq
      exact k _ _ (((I.newF hq).push (.lst upd_same (.inr rfl) ((q1.append q2).ext e))).si)
    · cases hz
  · cases hz
def dAdd : D → D → Option D := orD dAddI (orD dAddS (orD dAddT dAddL))
theorem od_add : OpD X cl (binaryOp .Add) dAdd := od_addI.or (od_addS.or (od_addT.or od_addL))
theorem de_op {o : Operator} {a b : Expr} {fa fb : M D} {pos : Pos} (ho : OpD X cl (binaryOp o) g) (ha : DE X cl W a fa) (hb : DE X cl W b fb) : DE X cl W (.BinOp a o b pos) (eOp g fa fb) := by
  obtain ⟨ta, pa, qa⟩ := ha
  obtain ⟨tb, pb, qb⟩ := hb
  obtain ⟨r, hr, q⟩ := ho
  refine ⟨_, pe_op hr pa pb, fun c σ s T H Q I w => ?_⟩
  refine qa c σ s T H _ I (w.bind fun d s1 _ w1 v H1 I1 => ?_)
  refine qb c σ s1 _ H1 _ I1 ((w1.deeper fun p hp => List.mem_cons_of_mem _ hp).bind fun e s2 _ w2 u H2 I2 => ?_)
  unfold oOf at w2
  split at w2
  · rename_i z hz
    exact q c σ s2 T H2 d v e u z Q I2 hz fun v' H' I' => w2 v' H' I'.drop2
  · exact w2.elim
theorem de_cmp {o : CmpOp} {a b : Expr} {fa fb : M D} {pos : Pos} (ho : OpD X cl (compareOp o) g) (ha : DE X cl W a fa) (hb : DE X cl W b fb) (hm : behindInMarks o b = false) : DE X cl W (.Compare a [o] [b] pos) (eOp g fa fb) := by
  obtain ⟨ta, pa, qa⟩ := ha
  obtain ⟨tb, pb, qb⟩ := hb
  obtain ⟨r, hr, q⟩ := ho
  refine ⟨_, pe_cmpR hr pa pb hm, fun c σ s T H Q I w => ?_⟩
  refine qa c σ s T H _ I (w.bind fun d s1 _ w1 v H1 I1 => ?_)
  refine qb c σ s1 _ H1 _ I1 ((w1.deeper fun p hp => List.mem_cons_of_mem _ hp).bind fun e s2 _ w2 u H2 I2 => ?_)
  unfold oOf at w2
  split at w2
  · rename_i z hz
    exact q c σ s2 T H2 d v e u z Q I2 hz fun v' H' I' => w2 v' H' I'.drop2
  · exact w2.elim
end
end DL

/-! DlD: comparisons, tests, displays, argument lists. -/
namespace DL
open PySem L2

section
variable {X : Cx} {cl : Str → Addr} {W : WX}
/-! ### == and its kin -/
def eqF : D → D → Option Bool
  | .int i, .int j => some (decide (i = j))
  | .str i, .str j => some (decide (i = j))
  | .bl i, .bl j => some (decide (i = j))
  | .non, .non => some true
  | .non, .int _ => some false | .int _, .non => some false
  | .non, .str _ => some false | .str _, .non => some false
  | .non, .bl _ => some false | .bl _, .non => some false
  | .int _, .str _ => some false | .str _, .int _ => some false
  | .bl _, .str _ => some false | .str _, .bl _ => some false
  | _, _ => none
def dEqF (d e : D) : Option D := (eqF d e).map .bl
def dNeF (d e : D) : Option D := (eqF d e).map fun b => .bl (!b)
theorem eqF_some {d e : D} {b : Bool} (h : eqF d e = some b) : ∃ x y, flatD d = some x ∧ flatD e = some y ∧ scal x y = true ∧ b = decide (x = y) := by
  cases d <;> first | (cases e <;> first | (simp only [eqF] at h; cases h; exact ⟨_, _, rfl, rfl, rfl, by simp⟩) | (simp [eqF] at h)) | (simp [eqF] at h)
theorem flat_view {s : S} {K : PySem.W.Frag} {c : Cz} {H : Hp} {σ : L2.St} {T : List (D × V)} {F : Addr → Prop} {α : List Addr} {d : D} {v x : V} (I : SIx K cl c H σ s T F α) (r : Rep K cl H F α d v) (hx : flatD (view s.M d) = some x) (hr : ∀ u, view s.M d ≠ .raw u) : v = x := by
  rcases I.view r with r | ⟨k, y, a, _, _, _, _, e2, _⟩
  · revert r hx hr
    generalize view s.M d = z
    intro hx hr r
    cases z <;> simp [flatD] at hx <;> subst hx
    · cases r; rfl
    · cases r; rfl
    · cases r; rfl
    · cases r; rfl
    · exact absurd rfl (hr _)
  · rw [e2] at hx
    cases y <;> cases hx
theorem eqF_raw {d e : D} {b : Bool} (h : eqF d e = some b) : (∀ u, d ≠ .raw u) ∧ ∀ u, e ≠ .raw u := by
  refine ⟨fun u q => ?_, fun u q => ?_⟩
  · subst q; cases e <;> simp [eqF] at h
  · subst q; cases d <;> simp [eqF] at h
theorem od_eqF : OpD X cl (compareOp .Eq) dEqF := by
  refine ⟨_, op_eq, fun c σ s T H d x e y z Q ⟨F, α, I⟩ hz k => ?_⟩
  unfold dEqF at hz
  cases q : eqF (view s.M d) (view s.M e) with
  | none => rw [q] at hz; cases hz
  | some b =>
    rw [q] at hz; cases hz
    obtain ⟨u, w, h1, h2, h3, rfl⟩ := eqF_some q
    obtain ⟨n1, n2⟩ := eqF_raw q
    have e1 := flat_view I (I.tmp (d, x) (List.mem_cons_of_mem _ (List.mem_cons_self ..))) h1 n1
    have e2 := flat_view I (I.tmp (e, y) (List.mem_cons_self ..)) h2 n2
    have e1 : x = u := e1
    have e2 : y = w := e2
    subst e1 e2
    exact ⟨h3, k _ H (SI.flat rfl ⟨F, α, I⟩)⟩
theorem od_neF : OpD X cl (compareOp .NotEq) dNeF := by
  refine ⟨_, op_ne, fun c σ s T H d x e y z Q ⟨F, α, I⟩ hz k => ?_⟩
  unfold dNeF at hz
  cases q : eqF (view s.M d) (view s.M e) with
  | none => rw [q] at hz; cases hz
  | some b =>
    rw [q] at hz; cases hz
    obtain ⟨u, w, h1, h2, h3, rfl⟩ := eqF_some q
    obtain ⟨n1, n2⟩ := eqF_raw q
    have e1 := flat_view I (I.tmp (d, x) (List.mem_cons_of_mem _ (List.mem_cons_self ..))) h1 n1
    have e2 := flat_view I (I.tmp (e, y) (List.mem_cons_self ..)) h2 n2
    have e1 : x = u := e1
    have e2 : y = w := e2
    subst e1 e2
    exact ⟨h3, k _ H (SI.flat rfl ⟨F, α, I⟩)⟩
def eqP (d e : D) : Option Bool := match pd d, pd e with
  | some p, some q => if SeqAt.shaped p && SeqAt.shaped q then some (PyData.eqv p q) else none
  | _, _ => none
theorem eqP_some {d e : D} {b : Bool} (h : eqP d e = some b) : ∃ p q, pd d = some p ∧ pd e = some q ∧ SeqAt.shaped p = true ∧ SeqAt.shaped q = true ∧ b = PyData.eqv p q := by
  unfold eqP at h
  split at h
  · rename_i p q e1 e2
    cases hc : (SeqAt.shaped p && SeqAt.shaped q) with
    | true =>
      rw [hc] at h; cases h
      obtain ⟨h1, h2⟩ := Bool.and_eq_true_iff.mp hc
      exact ⟨p, q, e1, e2, h1, h2, rfl⟩
    | false => rw [hc] at h; cases h
  · cases h
def dEqP (d e : D) : Option D := (eqP d e).map .bl
def dNeP (d e : D) : Option D := (eqP d e).map fun b => .bl (!b)
theorem od_eqP (hu : X.A.units + 64 < cLine) : OpD X cl (compareOp .Eq) dEqP := by
  refine ⟨_, op_eqD hu, fun c σ s T H d x e y z Q ⟨F, α, I⟩ hz k => ?_⟩
  unfold dEqP at hz
  cases q : eqP (view s.M d) (view s.M e) with
  | none => rw [q] at hz; cases hz
  | some b =>
    rw [q] at hz; cases hz
    obtain ⟨p, r, h1, h2, h3, h4, rfl⟩ := eqP_some q
    exact ⟨p, r, I.vDp (I.tmp (d, x) (List.mem_cons_of_mem _ (List.mem_cons_self ..))) h1, I.vDp (I.tmp (e, y) (List.mem_cons_self ..)) h2, h3, h4, k _ H (SI.flat rfl ⟨F, α, I⟩)⟩
theorem od_neP (hu : X.A.units + 64 < cLine) : OpD X cl (compareOp .NotEq) dNeP := by
  refine ⟨_, op_neD hu, fun c σ s T H d x e y z Q ⟨F, α, I⟩ hz k => ?_⟩
  unfold dNeP at hz
  cases q : eqP (view s.M d) (view s.M e) with
  | none => rw [q] at hz; cases hz
  | some b =>
    rw [q] at hz; cases hz
    obtain ⟨p, r, h1, h2, h3, h4, rfl⟩ := eqP_some q
    exact ⟨p, r, I.vDp (I.tmp (d, x) (List.mem_cons_of_mem _ (List.mem_cons_self ..))) h1, I.vDp (I.tmp (e, y) (List.mem_cons_self ..)) h2, h3, h4, k _ H (SI.flat rfl ⟨F, α, I⟩)⟩
def dEq : D → D → Option D := orD dEqF dEqP
def dNe : D → D → Option D := orD dNeF dNeP
theorem od_eq (hu : X.A.units + 64 < cLine) : OpD X cl (compareOp .Eq) dEq := od_eqF.or (od_eqP hu)
theorem od_ne (hu : X.A.units + 64 < cLine) : OpD X cl (compareOp .NotEq) dNe := od_neF.or (od_neP hu)
/-! ### is -/
def isNon : D → Option Bool
  | .non => some true
  | .raw _ => none
  | .opq => none
  | _ => some false
def dIsN (d e : D) : Option D := match e with
  | .non => (isNon d).map .bl
  | _ => none
def dNotN (d e : D) : Option D := match e with
  | .non => (isNon d).map fun b => .bl (!b)
  | _ => none
def dIsB (d e : D) : Option D := match d, e with
  | .bl a, .bl b => some (.bl (decide (a = b)))
  | _, _ => none
def dNotB (d e : D) : Option D := match d, e with
  | .bl a, .bl b => some (.bl (!decide (a = b)))
  | _, _ => none
def dIs : D → D → Option D := orD dIsN dIsB
def dNot : D → D → Option D := orD dNotN dNotB
/-! ### in -/
def flatO : D → Option V
  | .non => some .non | .bl b => some (.bl b) | .int i => some (.int i) | .str s => some (.str s)
  | _ => none
def flatsO : List D → Option (List V)
  | [] => some []
  | d :: ds => match flatO d, flatsO ds with
    | some v, some vs => some (v :: vs)
    | _, _ => none
def inSeq (d e : D) : Option Bool := match flatO d, seqD e with
  | some v, some ds => (flatsO ds).map (inV v)
  | _, _ => none
def dInQ (d e : D) : Option D := (inSeq d e).map .bl
def dNotInQ (d e : D) : Option D := (inSeq d e).map fun b => .bl (!b)
def found (i j : Str) : Bool := !(Builtin.Str.occurrences j i 0 j.length 1).isEmpty
def dInS (d e : D) : Option D := match d, e with
  | .str i, .str j => some (.bl (found i j))
  | _, _ => none
def dNotInS (d e : D) : Option D := match d, e with
  | .str i, .str j => some (.bl (!found i j))
  | _, _ => none
def dIn : D → D → Option D := orD dInS dInQ
def dNotIn : D → D → Option D := orD dNotInS dNotInQ
/-! ### tests -/
def bOf (d : D) (s : S) : Out Bool := match d with
  | .bl b => .ok b s
  | _ => .fail
def tOf (f : M D) : M Bool := fun s => (f s).bind bOf
theorem bOf_ok {d : D} {s : S} {K : PySem.W.Frag} {c : Cz} {σ : L2.St} {T : List (D × V)} {Q : Bool → Hp → Prop} (h : WantB K cl W c σ T (bOf d s) Q) : ∃ b, d = .bl b ∧ ∀ H, SI K cl c H σ s T → Q b H := by
  cases d <;> first | exact h.elim | exact ⟨_, rfl, h⟩
theorem dt_val {e : Expr} {f : M D} (h : DE X cl W e f) (he : ∀ whole, isTrue e X.env whole = (do let v ← whole; standAt e.pos; holding [v] (truthy v)) := by intro _; rfl) : DT X cl W e (tOf f) := by
  obtain ⟨te, pe, q⟩ := h
  refine ⟨_, pt_val pe he, fun c σ s T H Q I w => ?_⟩
  refine q c σ s T H _ I (w.bindD fun d s1 _ w1 v H1 I1 => ?_)
  obtain ⟨b, rfl, k⟩ := bOf_ok w1
  obtain ⟨F, α, J⟩ := id I1
  have r : v = .bl b := by
    have := J.tmp (.bl b, v) (List.mem_cons_self ..)
    cases this; rfl
  exact ⟨b, r, k H1 I1.pop⟩
theorem dt_cmp {o : CmpOp} {a b : Expr} {fa fb : M D} {pos : Pos} {g : D → D → Option D} (ho : OpD X cl (compareOp o) g) (ha : DE X cl W a fa) (hb : DE X cl W b fb) (hm : behindInMarks o b = false) : DT X cl W (.Compare a [o] [b] pos) (tOf (eOp g fa fb)) := by
  obtain ⟨ta, pa, qa⟩ := ha
  obtain ⟨tb, pb, qb⟩ := hb
  obtain ⟨r, hr, q⟩ := ho
  refine ⟨_, pt_cmpR hr pa pb hm, fun c σ s T H Q I w => ?_⟩
  have key : Want X.K cl W c σ T (eOp g fa fb s) (fun x H' => ∃ k, x = .bl k ∧ Q k H') := w.bindD fun d s1 _ w1 v H1 I1 => by
    obtain ⟨b, rfl, k⟩ := bOf_ok w1
    obtain ⟨F, α, J⟩ := id I1
    have r : v = .bl b := by
      have := J.tmp (.bl b, v) (List.mem_cons_self ..)
      cases this; rfl
    exact ⟨b, r, k H1 I1.pop⟩
  refine qa c σ s T H _ I (key.bind fun d s1 _ w1 v H1 I1 => ?_)
  refine qb c σ s1 _ H1 _ I1 ((w1.deeper fun p hp => List.mem_cons_of_mem _ hp).bind fun e s2 _ w2 u H2 I2 => ?_)
  unfold oOf at w2
  split at w2
  · rename_i z hz
    exact q c σ s2 T H2 d v e u z _ I2 hz fun v' H' I' => w2 v' H' I'.drop2
  · exact w2.elim
def tAndM (f g : M Bool) : M Bool := fun s => (f s).bind fun b s => if b = true then g s else .ok false s
def tOrM (f g : M Bool) : M Bool := fun s => (f s).bind fun b s => if b = true then .ok true s else g s
def tNotM (f : M Bool) : M Bool := fun s => (f s).bind fun b s => .ok (!b) s
theorem DW.dt {e : Expr} {f : M Bool} (h : DW X cl W e f) : DT X cl W e f := by
  obtain ⟨te, pe, q⟩ := h
  exact ⟨_, pe.pt, q⟩
/-! ### as values -/
def eAnd (f g : M D) : M D := fun s => (f s).bind fun d s => match d with
  | .bl true => g s
  | .bl false => .ok (.bl false) s
  | _ => .fail
def eOr (f g : M D) : M D := fun s => (f s).bind fun d s => match d with
  | .bl true => .ok (.bl true) s
  | .bl false => g s
  | _ => .fail
def eNot (f : M D) : M D := fun s => (f s).bind fun d s => match d with
  | .bl b => .ok (.bl (!b)) s
  | _ => .fail
def eIf (t : M Bool) (f g : M D) : M D := fun s => (t s).bind fun b s => if b = true then f s else g s
def eNeg (f : M D) : M D := fun s => (f s).bind fun d s => match d with
  | .int i => .ok (.int (-i)) s
  | _ => .fail
theorem rep_int {K : PySem.W.Frag} {c : Cz} {H : Hp} {σ : L2.St} {s : S} {T : List (D × V)} {b : Int} {v : V} (I : SI K cl c H σ s ((.int b, v) :: T)) : v = .int b := by
  obtain ⟨F, α, J⟩ := I
  have := J.tmp (.int b, v) (List.mem_cons_self ..)
  cases this; rfl
theorem rep_str {K : PySem.W.Frag} {c : Cz} {H : Hp} {σ : L2.St} {s : S} {T : List (D × V)} {b : Str} {v : V} (I : SI K cl c H σ s ((.str b, v) :: T)) : v = .str b := by
  obtain ⟨F, α, J⟩ := I
  have := J.tmp (.str b, v) (List.mem_cons_self ..)
  cases this; rfl
theorem de_neg {a : Expr} {f : M D} {pos : Pos} (h : DE X cl W a f) : DE X cl W (.UnaryOp .USub a pos) (eNeg f) := by
  obtain ⟨te, pe, q⟩ := h
  refine ⟨_, pe_un un_neg pe, fun c σ s T H Q I w => ?_⟩
  refine q c σ s T H _ I (w.bind fun d s1 _ w1 v H1 I1 => ?_)
  split at w1
  · exact ⟨_, rep_int I1, w1 _ H1 (SI.flat rfl I1.pop)⟩
  · exact w1.elim
/-! ### argument lists, displays -/
def aNil : M (List D) := fun s => .ok [] s
def aCons (f : M D) (g : M (List D)) : M (List D) := fun s => (f s).bind fun d s => (g s).bind fun ds s => .ok (d :: ds) s
theorem da_nil : DA X cl W [] aNil := ⟨_, pa_nil, fun c σ s T H Q I w => w [] H rfl I⟩
theorem WantA.bind {K : PySem.W.Frag} {c : Cz} {σ : L2.St} {T : List (D × V)} {o : Out D} {k : D → S → Out (List D)} {Q : List V → Hp → Prop} {Q1 : VK} (h : WantA K cl W c σ T (o.bind k) Q)
    (hk : ∀ d s, o = .ok d s → WantA K cl W c σ T (k d s) Q → ∀ v H, SI K cl c H σ s ((d, v) :: T) → Q1 v H) : Want K cl W c σ T o Q1 := by
  cases o with
  | fail => exact h
  | ok d s => exact hk d s rfl h
  | exc n fs s => exact h
theorem WantA.bindA {K : PySem.W.Frag} {c : Cz} {σ : L2.St} {T : List (D × V)} {o : Out (List D)} {k : List D → S → Out (List D)} {Q : List V → Hp → Prop} {Q1 : List V → Hp → Prop} (h : WantA K cl W c σ T (o.bind k) Q)
    (hk : ∀ d s, o = .ok d s → WantA K cl W c σ T (k d s) Q → ∀ vs H, d.length = vs.length → SI K cl c H σ s (zipT d vs T) → Q1 vs H) : WantA K cl W c σ T o Q1 := by
  cases o with
  | fail => exact h
  | ok d s => exact hk d s rfl h
  | exc n fs s => exact h
theorem WantA.same {K : PySem.W.Frag} {c : Cz} {σ : L2.St} {T : List (D × V)} {o : Out (List D)} {Q Q1 : List V → Hp → Prop} (h : WantA K cl W c σ T o Q) (hk : ∀ vs H, Q vs H → Q1 vs H) : WantA K cl W c σ T o Q1 := by
  cases o with
  | fail => exact h
  | ok d s => exact fun vs H e I => hk vs H (h vs H e I)
  | exc n fs s => exact h
theorem da_cons {e : Expr} {es : List Expr} {f : M D} {g : M (List D)} (h : DE X cl W e f) (hr : DA X cl W es g) (hs : starEach (e :: es) X.env = (false, eval e X.env) :: starEach es X.env := by rfl) : DA X cl W (e :: es) (aCons f g) := by
  obtain ⟨te, pe, q⟩ := h
  obtain ⟨ta, pa, qa⟩ := hr
  refine ⟨_, pa_cons pe pa hs, fun c σ s T H Q I w => ?_⟩
  refine q c σ s T H _ I (w.bind fun d s1 _ w1 v H1 I1 => ?_)
  refine qa c σ s1 _ H1 _ I1 (WantA.bindA (k := fun ds s => .ok ds s) (Q := fun vs H' => Q (v :: vs) H') ?_ fun ds s2 _ w2 vs H2 hl I2 => w2 vs H2 hl I2)
  -- the want of the rest over (d, v) :: T
  cases hg : g s1 with
  | fail => rw [hg] at w1; exact w1
  | exc n fs s2 => rw [hg] at w1; exact fun dx H e i => w1 dx H e (i.xt fun p hp => List.mem_cons_of_mem _ hp)
  | ok ds s2 =>
    rw [hg] at w1
    exact fun vs H2 hl I2 => w1 (v :: vs) H2 (by rw [List.length_cons, List.length_cons, hl]) I2
def eTup (f : M (List D)) : M D := fun s => (f s).bind fun ds s => if ds.length ≤ 1000000 then .ok (.tup ds) s else .fail
def eLst (f : M (List D)) : M D := fun s => (f s).bind fun ds s => if ds.length ≤ 1000000 then .ok (.lst ds) s else .fail
theorem SI.unzip {K : PySem.W.Frag} {c : Cz} {H : Hp} {σ : L2.St} {s : S} {T : List (D × V)} {ds : List D} {vs : List V} {p : D × V} (I : SI K cl c H σ s (p :: zipT ds vs T)) : SI K cl c H σ s (p :: T) := I.sub fun q hq => (List.mem_cons.mp hq).elim (fun z => z ▸ List.mem_cons_self ..) fun z => List.mem_cons_of_mem _ (zipT_sub ds vs T q z)
theorem de_tup {es : List Expr} {f : M (List D)} {k : Nat} {pos : Pos} (h : DA X cl W es f) : DE X cl W (.Tuple es k pos) (eTup f) := by
  obtain ⟨te, pe, q⟩ := h
  refine ⟨_, pe_tupN pe, fun c σ s T H Q I w => ?_⟩
  refine q c σ s T H _ I (w.bindA fun ds s1 _ w1 vs H1 hl I1 => ?_)
  split at w1
  · rename_i hz
    exact ⟨by rw [← hl]; exact line1m hz, fun p hp o hd => w1 _ _ (SI.unzip (I1.newTup hd hp fun F α J => J.args hl))⟩
  · exact w1.elim
theorem de_lst {es : List Expr} {f : M (List D)} {pos : Pos} (h : DA X cl W es f) : DE X cl W (.List es pos) (eLst f) := by
  obtain ⟨te, pe, q⟩ := h
  refine ⟨_, pe_lst pe, fun c σ s T H Q I w => ?_⟩
  refine q c σ s T H _ I (w.bindA fun ds s1 _ w1 vs H1 hl I1 => ?_)
  split at w1
  · rename_i hz
    exact ⟨by rw [← hl]; exact line1m hz, fun p hp => w1 _ _ (SI.unzip (I1.newLst hp fun F α J => J.args hl))⟩
  · exact w1.elim
/-- a list display that is to change: a new cell -/
def eLstC (f : M (List D)) : M D := fun s => (f s).bind fun ds s => if ds.length ≤ 1000000 then .ok (.ptr s.M.length) { s with M := s.M ++ [some (.lst ds)] } else .fail
theorem SI.newCellL {K : PySem.W.Frag} {c : Cz} {H : Hp} {σ : L2.St} {s : S} {T : List (D × V)} {p : Addr} {ds : List D} {vs : List V} (h : SI K cl c H σ s T) (hp : H p = none) (hr : ∀ F α, SIx K cl c H σ s T F α → RepL K cl H F α ds vs) :
    SI K cl c (upd H p (.lst vs)) σ { s with M := s.M ++ [some (.lst ds)] } ((.ptr s.M.length, .ref p) :: T) := by
  obtain ⟨F, α, h⟩ := h
  exact ⟨F, _, h.newCell hp fun e => ⟨vs, upd_same, (hr F α h).ext e⟩⟩
theorem de_lstC {es : List Expr} {f : M (List D)} {pos : Pos} (h : DA X cl W es f) : DE X cl W (.List es pos) (eLstC f) := by
  obtain ⟨te, pe, q⟩ := h
  refine ⟨_, pe_lst pe, fun c σ s T H Q I w => ?_⟩
  refine q c σ s T H _ I (w.bindA fun ds s1 _ w1 vs H1 hl I1 => ?_)
  split at w1
  · rename_i hz
    exact ⟨by rw [← hl]; exact line1m hz, fun p hp => w1 _ _ (SI.unzip (I1.newCellL hp fun F α J => J.args hl))⟩
  · exact w1.elim
end
end DL

/-! DlE: what a def promises over data; its call. -/
namespace DL
open PySem L2

mutual
/-- no pointer within -/
def np : D → Bool
  | .tup xs => npL xs | .kt xs => npL xs | .lst xs => npL xs | .slst xs => npL xs
  | .dct kvs => npK kvs | .dcu kvs => npU kvs
  | .obj _ fs => npF fs | .xd fs => npF fs
  | .ptr _ => false | .exn _ _ => false
  | _ => true
def npL : List D → Bool
  | [] => true
  | d :: ds => np d && npL ds
def npF : List (Str × D) → Bool
  | [] => true
  | (_, d) :: ds => np d && npF ds
def npK : List (Key × D) → Bool
  | [] => true
  | (_, d) :: ds => np d && npK ds
def npU : List (List Key × D) → Bool
  | [] => true
  | (_, d) :: ds => np d && npU ds
end
mutual
/-- nothing within that could change -/
def nm : D → Bool
  | .tup xs => nmL xs | .kt xs => nmL xs
  | .non => true | .bl _ => true | .int _ => true | .str _ => true | .raw _ => true | .opq => true
  | _ => false
def nmL : List D → Bool
  | [] => true
  | d :: ds => nm d && nmL ds
end
def nmF : List (Str × D) → Bool
  | [] => true
  | (_, d) :: ds => nm d && nmF ds
def C.np : C → Bool
  | .lst xs => npL xs | .dct kvs => npK kvs | .dcu kvs => npU kvs | .obj _ fs => npF fs
  | .tbl _ _ gs _ => gs.all fun p => DL.np p.1
  | .lck kvs => npK kvs | .lcu kvs => npU kvs
def C.nm : C → Bool
  | .lst xs => nmL xs
  | .dct kvs => nmL (kvs.map (·.2)) | .dcu kvs => nmL (kvs.map (·.2)) | .obj _ fs => nmL (fs.map (·.2))
  | .tbl _ _ _ _ => false | .lck kvs => nmL (kvs.map (·.2)) | .lcu kvs => nmL (kvs.map (·.2))

section
variable {K : PySem.W.Frag} {cl : Str → Addr} {H H' : Hp} {F F' : Addr → Prop} {α α' : List Addr}
mutual
theorem Rep.np (hF : ∀ b, F b → F' b) : ∀ {d : D} {v : V}, Rep K cl H F α d v → DL.np d = true → Rep K cl H F' α' d v
  | _, _, .non, _ => .non
  | _, _, .bl, _ => .bl
  | _, _, .int, _ => .int
  | _, _, .str, _ => .str
  | _, _, .tup h r, e => .tup h (RepL.np hF r (by simpa [DL.np] using e))
  | _, _, .kt h r, e => .kt h (RepL.np hF r (by simpa [DL.np] using e))
  | _, _, .lst h f r, e => .lst h (hF _ f) (RepL.np hF r (by simpa [DL.np] using e))
  | _, _, .slst h f r, e => .slst h (hF _ f) (RepL.np hF r (by simpa [DL.np] using e))
  | _, _, .slstK h r, e => .slstK h (RepL.np hF r (by simpa [DL.np] using e))
  | _, _, .dct h f r, e => .dct h (hF _ f) (RepK.np hF r (by simpa [DL.np] using e))
  | _, _, .dcu h f r, e => .dcu h (hF _ f) (RepU.np hF r (by simpa [DL.np] using e))
  | _, _, .obj h f r, e => .obj h (hF _ f) (RepF.np hF r (by simpa [DL.np] using e))
  | _, _, .xd h f r, e => .xd h (hF _ f) (RepF.np hF r (by simpa [DL.np] using e))
  | _, _, .ptr _, e => by simp [DL.np] at e
  | _, _, .raw, _ => .raw
  | _, _, .dctZ h r, e => .dctZ h (RepK.np hF r (by simpa [DL.np] using e))
  | _, _, .dcuZ h r, e => .dcuZ h (RepU.np hF r (by simpa [DL.np] using e))
  | _, _, .opq, _ => .opq
  | _, _, .exn _ _ _ _ _ _ _, e => by simp [DL.np] at e
  | _, _, .exn0 _ _ _ _, e => by simp [DL.np] at e
theorem RepL.np (hF : ∀ b, F b → F' b) : ∀ {d : List D} {v : List V}, RepL K cl H F α d v → npL d = true → RepL K cl H F' α' d v
  | _, _, .nil, _ => .nil
  | _, _, .cons h r, e => .cons (Rep.np hF h (by simp [npL] at e; exact e.1)) (RepL.np hF r (by simp [npL] at e; exact e.2))
theorem RepF.np (hF : ∀ b, F b → F' b) : ∀ {d : List (Str × D)} {v : List (Str × V)}, RepF K cl H F α d v → npF d = true → RepF K cl H F' α' d v
  | _, _, .nil, _ => .nil
  | _, _, .cons h r, e => .cons (Rep.np hF h (by simp [npF] at e; exact e.1)) (RepF.np hF r (by simp [npF] at e; exact e.2))
theorem RepK.np (hF : ∀ b, F b → F' b) : ∀ {d : List (Key × D)} {v : List (Key × V)}, RepK K cl H F α d v → npK d = true → RepK K cl H F' α' d v
  | _, _, .nil, _ => .nil
  | _, _, .cons h r, e => .cons (Rep.np hF h (by simp [npK] at e; exact e.1)) (RepK.np hF r (by simp [npK] at e; exact e.2))
theorem RepU.np (hF : ∀ b, F b → F' b) : ∀ {d : List (List Key × D)} {v : List (List Key × V)}, RepU K cl H F α d v → npU d = true → RepU K cl H F' α' d v
  | _, _, .nil, _ => .nil
  | _, _, .cons h r, e => .cons (Rep.np hF h (by simp [npU] at e; exact e.1)) (RepU.np hF r (by simp [npU] at e; exact e.2))
end
mutual
theorem Rep.nm : ∀ {d : D} {v : V}, Rep K cl H F α d v → DL.nm d = true → Rep K cl H F' α' d v
  | _, _, .non, _ => .non
  | _, _, .bl, _ => .bl
  | _, _, .int, _ => .int
  | _, _, .str, _ => .str
  | _, _, .tup h r, e => .tup h (RepL.nm r (by simpa [DL.nm] using e))
  | _, _, .kt h r, e => .kt h (RepL.nm r (by simpa [DL.nm] using e))
  | _, _, .lst h f r, e => by simp [DL.nm] at e
  | _, _, .slst h f r, e => by simp [DL.nm] at e
  | _, _, .slstK h r, e => by simp [DL.nm] at e
  | _, _, .dct h f r, e => by simp [DL.nm] at e
  | _, _, .dcu h f r, e => by simp [DL.nm] at e
  | _, _, .obj h f r, e => by simp [DL.nm] at e
  | _, _, .xd h f r, e => by simp [DL.nm] at e
  | _, _, .ptr _, e => by simp [DL.nm] at e
  | _, _, .raw, _ => .raw
  | _, _, .dctZ _ _, e => by simp [DL.nm] at e
  | _, _, .dcuZ _ _, e => by simp [DL.nm] at e
  | _, _, .opq, _ => .opq
  | _, _, .exn _ _ _ _ _ _ _, e => by simp [DL.nm] at e
  | _, _, .exn0 _ _ _ _, e => by simp [DL.nm] at e
theorem RepL.nm : ∀ {d : List D} {v : List V}, RepL K cl H F α d v → nmL d = true → RepL K cl H F' α' d v
  | _, _, .nil, _ => .nil
  | _, _, .cons h r, e => .cons (Rep.nm h (by simp [nmL] at e; exact e.1)) (RepL.nm r (by simp [nmL] at e; exact e.2))
end
theorem RepF.nm : ∀ {d : List (Str × D)} {v : List (Str × V)}, RepF K cl H F α d v → nmL (d.map (·.2)) = true → RepF K cl H F' α' d v
  | _, _, .nil, _ => .nil
  | _, _, .cons h r, e => .cons (Rep.nm h (by simp [nmL] at e; exact e.1)) (RepF.nm r (by simp [nmL] at e ⊢; exact e.2))
theorem RepK.nm : ∀ {d : List (Key × D)} {v : List (Key × V)}, RepK K cl H F α d v → nmL (d.map (·.2)) = true → RepK K cl H F' α' d v
  | _, _, .nil, _ => .nil
  | _, _, .cons h r, e => .cons (Rep.nm h (by simp [nmL] at e; exact e.1)) (RepK.nm r (by simp [nmL] at e ⊢; exact e.2))
theorem RepU.nm : ∀ {d : List (List Key × D)} {v : List (List Key × V)}, RepU K cl H F α d v → nmL (d.map (·.2)) = true → RepU K cl H F' α' d v
  | _, _, .nil, _ => .nil
  | _, _, .cons h r, e => .cons (Rep.nm h (by simp [nmL] at e; exact e.1)) (RepU.nm r (by simp [nmL] at e ⊢; exact e.2))
theorem RepC.np (hF : ∀ b, F b → F' b) {a : Addr} {x : C} (h : RepC K cl H F α a x) (e : x.np = true) : RepC K cl H F' α' a x := by
  cases x with
  | lst ds => obtain ⟨vs, h1, h2⟩ := h; exact ⟨vs, h1, h2.np hF e⟩
  | dct ds => obtain ⟨vs, h1, h2⟩ := h; exact ⟨vs, h1, h2.np hF e⟩
  | dcu ds => obtain ⟨vs, h1, h2⟩ := h; exact ⟨vs, h1, h2.np hF e⟩
  | obj c fs => obtain ⟨dx, vs, h1, h2⟩ := h; exact ⟨dx, vs, h1, h2.np hF e⟩
  | tbl P q gs cs =>
    obtain ⟨h0, ⟨ps, h1, h2, h3⟩, h4, h5⟩ := h
    exact ⟨h0, ⟨ps, h1, h2, fun pos cv hc => by
      obtain ⟨c, e1, e2, e3⟩ := h3 pos cv hc
      exact ⟨c, e1, e2, hF c e3⟩⟩, fun p hp => (h4 p hp).np hF (List.all_eq_true.mp e p hp), fun c hc => ⟨(h5 c hc).1, hF c (h5 c hc).2⟩⟩
  | lck ds => obtain ⟨o, vs, h1, h2⟩ := h; exact ⟨o, vs, h1, h2.np hF e⟩
  | lcu ds => obtain ⟨o, vs, h1, h2⟩ := h; exact ⟨o, vs, h1, h2.np hF e⟩
theorem RepC.nm {a : Addr} {x : C} (h : RepC K cl H F α a x) (e : x.nm = true) : RepC K cl H F' α' a x := by
  cases x with
  | lst ds => obtain ⟨vs, h1, h2⟩ := h; exact ⟨vs, h1, h2.nm e⟩
  | dct ds => obtain ⟨vs, h1, h2⟩ := h; exact ⟨vs, h1, h2.nm e⟩
  | dcu ds => obtain ⟨vs, h1, h2⟩ := h; exact ⟨vs, h1, h2.nm e⟩
  | obj c fs => obtain ⟨dx, vs, h1, h2⟩ := h; exact ⟨dx, vs, h1, h2.nm e⟩
  | tbl P q gs cs => cases e
  | lck ds => obtain ⟨o, vs, h1, h2⟩ := h; exact ⟨o, vs, h1, h2.nm e⟩
  | lcu ds => obtain ⟨o, vs, h1, h2⟩ := h; exact ⟨o, vs, h1, h2.nm e⟩
/-- a cell that is frozen is plain data -/
theorem RepC.rep {a : Addr} {x : C} (h : RepC K cl H F α a x) (f : F a) : Rep K cl H F α x.dat (.ref a) := by
  cases x with
  | lst ds => obtain ⟨vs, h1, h2⟩ := h; exact .lst h1 f h2
  | dct ds => obtain ⟨vs, h1, h2⟩ := h; exact .dct h1 f h2
  | dcu ds => obtain ⟨vs, h1, h2⟩ := h; exact .dcu h1 f h2
  | obj c fs => obtain ⟨dx, vs, h1, h2⟩ := h; exact .obj h1 f h2
  | tbl P q gs cs => exact .opq
  | lck ds => obtain ⟨o, vs, h1, h2⟩ := h; exact .dctZ h1 h2
  | lcu ds => obtain ⟨o, vs, h1, h2⟩ := h; exact .dcuZ h1 h2
end

/-- a def's meaning: the cells that it is given (by its inout parameters, in their order), its arguments -/
abbrev Sem := List C → List D → Out D
/-- what a def promises -/
def dsp (K : PySem.W.Frag) (cl : Str → Addr) (sem : Sem) : Sp := fun vs H Q E => ∃ (F : Addr → Prop) (β : List Addr) (m : List C) (ds : List D), ds.length = vs.length ∧
  SIx K cl ⟨H, β, F⟩ H [] ⟨[], m.map some⟩ (zipT ds vs []) F β ∧ Want K cl (fun cls dx _ H' => E cls dx H') ⟨H, β, F⟩ [] [] (match sem m ds with
    | .fail => .fail
    | .ok d s => .ok d ⟨[], s.M⟩
    | .exc n fs s => .exc n fs ⟨[], s.M⟩) Q
structure FnG (P : Program) (w : World) (K : PySem.W.Frag) (mg : Str → Option Value) (base : Heap) (cl : Str → Addr) (k : Nat) (f : Addr) (fd : FuncData) (ps : List Str) (sem : Sem) : Prop where
  run : ∀ (A : Around) (outer : List Env) (s : Shared) (H : Hp) (args : Args) (us : List Value) (vs : List V) (Q : VK) (E : XK), Room k A → A.guards = some [] → Env0 P w K mg base A outer s H → BindsTo s fd args (ps.zip us) → Vals vs us →
    vs.length = ps.length → dsp K cl sem vs H Q E → codeAny (model P w) A (.call (.ref f) args) (CR (L2.CX P w) outer P w H s Q E) s
theorem FnG.mono {P : Program} {w : World} {K : PySem.W.Frag} {mg : Str → Option Value} {base : Heap} {cl : Str → Addr} {j k : Nat} {f : Addr} {fd : FuncData} {ps : List Str} {sem : Sem} (F : FnG P w K mg base cl j f fd ps sem) (h : j ≤ k) :
    FnG P w K mg base cl k f fd ps sem := ⟨fun A outer s H args us vs Q E hr => F.run A outer s H args us vs Q E (hr.mono h)⟩

/-! ### a call: what the callee is given, what comes back -/
/-- per argument: the inout ones' cells (their places, contents), the arguments as the callee has them, whether one is lent -/
structure Prep where
  ks : List Nat
  m : List C
  ds : List D
  ls : List Nat
def prep (M : List (Option C)) : List Bool → List D → Nat → Option Prep
  | [], [], _ => some ⟨[], [], [], []⟩
  | true :: io, .ptr k :: ds, j => match M[k]? with
    | some (some x) => if x.np then (prep M io ds (j + 1)).map fun p => ⟨k :: p.ks, x :: p.m, .ptr j :: p.ds, p.ls⟩ else none
    | _ => none
  | false :: io, .ptr k :: ds, j => match M[k]? with
    | some (some x) => if x.np then (prep M io ds j).map fun p => ⟨p.ks, p.m, x.dat :: p.ds, k :: p.ls⟩ else none
    | _ => none
  | false :: io, d :: ds, j => if np d then (prep M io ds j).map fun p => ⟨p.ks, p.m, d :: p.ds, p.ls⟩ else none
  | _, _, _ => none
/-- the callee's cells put back -/
def putC (M : List (Option C)) : List Nat → List (Option C) → List (Option C)
  | k :: ks, c :: cs => putC (M.set k c) ks cs
  | _, _ => M
def cNm : List (Option C) → Bool
  | [] => true
  | some c :: cs => c.nm && cNm cs
  | none :: cs => cNm cs
def cNp : List (Option C) → Bool
  | [] => true
  | some c :: cs => c.np && cNp cs
  | none :: cs => cNp cs
/-- an instance with nothing within that could change -/
def nmO : D → Bool
  | .obj _ fs => nmL (fs.map (·.2))
  | _ => false
/-- none of these cells is an instance -/
def lnO (M : List (Option C)) (ls : List Nat) : Bool := ls.all fun k => match M[k]? with
  | some (some (.obj _ _)) => false
  | _ => true
def callS (io : List Bool) (sem : Sem) (ds : List D) (s : S) : Out D := match prep s.M io ds 0 with
  | none => .fail
  | some p => if p.ks.Nodup ∧ (∀ k ∈ p.ls, k ∉ p.ks) then
      match sem p.m p.ds with
      | .fail => .fail
      | .ok d s' => if np d && cNp (s'.M.take p.ks.length) && (p.ls.isEmpty || ((nm d || (nmO d && lnO s.M p.ls)) && cNm (s'.M.take p.ks.length))) then .ok d { s with M := putC s.M p.ks s'.M } else .fail
      | .exc n fs s' => if npF fs && cNp (s'.M.take p.ks.length) && (p.ls.isEmpty || (nmL (fs.map (·.2)) && cNm (s'.M.take p.ks.length))) then .exc n fs { s with M := putC s.M p.ks s'.M } else .fail
    else .fail
end DL

/-! DlF: a call keeps the state's invariant. -/
namespace DL
open PySem L2
section
variable {K : PySem.W.Frag} {cl : Str → Addr} {c : Cz} {H : Hp} {σ : L2.St} {s : S} {T : List (D × V)} {F F' : Addr → Prop} {α : List Addr}

theorem prep_true {M : List (Option C)} {io : List Bool} {k : Nat} {ds : List D} {j : Nat} {p : Prep} (h : prep M (true :: io) (.ptr k :: ds) j = some p) :
    ∃ x q, M[k]? = some (some x) ∧ x.np = true ∧ prep M io ds (j + 1) = some q ∧ p = ⟨k :: q.ks, x :: q.m, .ptr j :: q.ds, q.ls⟩ := by
  simp only [prep] at h
  cases e : M[k]? with
  | none => rw [e] at h; cases h
  | some o =>
    cases o with
    | none => rw [e] at h; cases h
    | some x =>
      rw [e] at h
      dsimp only at h
      cases hx : x.np with
      | false => rw [hx] at h; cases h
      | true =>
        rw [hx] at h
        obtain ⟨q, h1, h2⟩ := Option.map_eq_some_iff.mp h
        exact ⟨x, q, rfl, hx, h1, h2.symm⟩
theorem prep_ptr {M : List (Option C)} {io : List Bool} {k : Nat} {ds : List D} {j : Nat} {p : Prep} (h : prep M (false :: io) (.ptr k :: ds) j = some p) :
    ∃ x q, M[k]? = some (some x) ∧ x.np = true ∧ prep M io ds j = some q ∧ p = ⟨q.ks, q.m, x.dat :: q.ds, k :: q.ls⟩ := by
  simp only [prep] at h
  cases e : M[k]? with
  | none => rw [e] at h; cases h
  | some o =>
    cases o with
    | none => rw [e] at h; cases h
    | some x =>
      rw [e] at h
      dsimp only at h
      cases hx : x.np with
      | false => rw [hx] at h; cases h
      | true =>
        rw [hx] at h
        obtain ⟨q, h1, h2⟩ := Option.map_eq_some_iff.mp h
        exact ⟨x, q, rfl, hx, h1, h2.symm⟩
theorem prep_val {M : List (Option C)} {io : List Bool} {d : D} {ds : List D} {j : Nat} {p : Prep} (hd : ∀ k, d ≠ .ptr k) (h : prep M (false :: io) (d :: ds) j = some p) :
    ∃ q, np d = true ∧ prep M io ds j = some q ∧ p = ⟨q.ks, q.m, d :: q.ds, q.ls⟩ := by
  have h' : (if np d then (prep M io ds j).map fun p => (⟨p.ks, p.m, d :: p.ds, p.ls⟩ : Prep) else none) = some p := by
    cases d <;> first | exact h | exact absurd rfl (hd _)
  cases hx : np d with
  | false => rw [hx] at h'; cases h'
  | true =>
    rw [hx] at h'
    obtain ⟨q, h1, h2⟩ := Option.map_eq_some_iff.mp h'
    exact ⟨q, rfl, h1, h2.symm⟩
theorem prep_bad {M : List (Option C)} {io : List Bool} {d : D} {ds : List D} {j : Nat} {p : Prep} (hd : ∀ k, d ≠ .ptr k) (h : prep M (true :: io) (d :: ds) j = some p) : False := by
  cases d <;> first | exact absurd rfl (hd _) | (simp [prep] at h)
theorem ptr_or (d : D) : (∃ k, d = .ptr k) ∨ ∀ k, d ≠ .ptr k := by
  cases d <;> first | exact .inl ⟨_, rfl⟩ | exact .inr fun k q => (by cases q)
theorem prep_rep (I : SIx K cl c H σ s T F α) : ∀ {io : List Bool} {ds : List D} {vs : List V} {j : Nat} {p : Prep}, prep s.M io ds j = some p → RepL K cl H F α ds vs → ∀ {β : List Addr} {F' : Addr → Prop}, (∀ b, F b → F' b) →
    (∀ (i k : Nat) (a : Addr), p.ks[i]? = some k → α[k]? = some a → β[j + i]? = some a) → (∀ (k : Nat) (a : Addr), k ∈ p.ls → α[k]? = some a → F' a) → RepL K cl H F' β p.ds vs := by
  intro io
  induction io with
  | nil =>
    intro ds vs j p h r β F' hF hβ hl
    cases ds with
    | nil => simp [prep] at h; subst h; cases r; exact .nil
    | cons d ds => simp [prep] at h
  | cons b io ih =>
    intro ds vs j p h r β F' hF hβ hl
    cases ds with
    | nil => cases b <;> simp [prep] at h
    | cons d ds =>
      cases r with
      | cons r t =>
        rename_i v vs
        rcases ptr_or d with ⟨k, rfl⟩ | hd
        · cases r with
          | ptr ha =>
            rename_i a
            cases b with
            | true =>
              obtain ⟨x, q, h1, h2, h3, rfl⟩ := prep_true h
              refine .cons (.ptr ?_) (ih h3 t hF (fun i k' a' e1 e2 => ?_) fun k' a' e1 e2 => hl k' a' e1 e2)
              · have := hβ 0 k a rfl ha
                simpa using this
              · have := hβ (i + 1) k' a' (by simpa using e1) e2
                rw [show j + 1 + i = j + (i + 1) by omega]; exact this
            | false =>
              obtain ⟨x, q, h1, h2, h3, rfl⟩ := prep_ptr h
              obtain ⟨rc, _⟩ := I.cel k x a h1 ha
              refine .cons ?_ (ih h3 t hF (fun i k' a' e1 e2 => hβ i k' a' e1 e2) fun k' a' e1 e2 => hl k' a' (List.mem_cons_of_mem _ e1) e2)
              exact (rc.np hF h2).rep (hl k a (List.mem_cons_self ..) ha)
        · cases b with
          | true => exact (prep_bad hd h).elim
          | false =>
            obtain ⟨q, h2, h3, rfl⟩ := prep_val hd h
            exact .cons (r.np hF h2) (ih h3 t hF (fun i k' a' e1 e2 => hβ i k' a' e1 e2) fun k' a' e1 e2 => hl k' a' e1 e2)
theorem prep_cells : ∀ {M : List (Option C)} {io : List Bool} {ds : List D} {j : Nat} {p : Prep}, prep M io ds j = some p →
    p.m.length = p.ks.length ∧ (∀ (i : Nat) (x : C), p.m[i]? = some x → ∃ k, p.ks[i]? = some k ∧ M[k]? = some (some x) ∧ x.np = true) ∧ ∀ k ∈ p.ls, ∃ x, M[k]? = some (some x) := by
  intro M io
  induction io with
  | nil =>
    intro ds j p h
    cases ds with
    | nil => simp [prep] at h; subst h; exact ⟨rfl, fun i x e => by simp at e, fun k hk => by simp at hk⟩
    | cons d ds => simp [prep] at h
  | cons b io ih =>
    intro ds j p h
    cases ds with
    | nil => cases b <;> simp [prep] at h
    | cons d ds =>
      rcases ptr_or d with ⟨k, rfl⟩ | hd
      · cases b with
        | true =>
          obtain ⟨x, q, h1, h2, h3, rfl⟩ := prep_true h
          obtain ⟨a1, a2, a3⟩ := ih h3
          refine ⟨by simp [a1], fun i y e => ?_, a3⟩
          cases i with
          | zero => simp at e; subst e; exact ⟨k, rfl, h1, h2⟩
          | succ i => exact a2 i y (by simpa using e)
        | false =>
          obtain ⟨x, q, h1, h2, h3, rfl⟩ := prep_ptr h
          obtain ⟨a1, a2, a3⟩ := ih h3
          refine ⟨a1, a2, fun k' hk => ?_⟩
          rcases List.mem_cons.mp hk with rfl | hk
          · exact ⟨x, h1⟩
          · exact a3 k' hk
      · cases b with
        | true => exact (prep_bad hd h).elim
        | false =>
          obtain ⟨q, h2, h3, rfl⟩ := prep_val hd h
          obtain ⟨a1, a2, a3⟩ := ih h3
          exact ⟨a1, a2, a3⟩
/-- the addresses of the cells at ks -/
def adrs (α : List Addr) (ks : List Nat) : List Addr := ks.map fun k => (α[k]?).getD 0
theorem adrs_get {ks : List Nat} {i k : Nat} {a : Addr} (h : ks[i]? = some k) (ha : α[k]? = some a) : (adrs α ks)[i]? = some a := by
  unfold adrs
  rw [List.getElem?_map, h]
  simp [ha]
theorem adrs_of {ks : List Nat} (hk : ∀ k ∈ ks, k < α.length) {a : Addr} (h : a ∈ adrs α ks) : ∃ k, k ∈ ks ∧ α[k]? = some a := by
  unfold adrs at h
  obtain ⟨k, h1, h2⟩ := List.mem_map.mp h
  refine ⟨k, h1, ?_⟩
  obtain ⟨b, hb⟩ : ∃ b, α[k]? = some b := ⟨α[k]'(hk k h1), List.getElem?_eq_getElem _⟩
  rw [hb] at h2
  simp at h2
  rw [hb, h2]
theorem adrs_nodup (hn : α.Nodup) : ∀ {ks : List Nat}, ks.Nodup → (∀ k ∈ ks, k < α.length) → (adrs α ks).Nodup
  | [], _, _ => List.nodup_nil
  | k :: ks, h, hk => by
    have h1 := List.nodup_cons.mp h
    unfold adrs
    rw [List.map_cons, List.nodup_cons]
    refine ⟨fun hm => ?_, adrs_nodup hn h1.2 fun k hk' => hk k (List.mem_cons_of_mem _ hk')⟩
    obtain ⟨k', h2, h3⟩ := adrs_of (fun k hk' => hk k (List.mem_cons_of_mem _ hk')) hm
    have hkl := hk k (List.mem_cons_self ..)
    have e : α[k]? = some ((α[k]?).getD 0) := by rw [List.getElem?_eq_getElem hkl]; rfl
    exact h1.1 (((List.getElem?_inj hkl hn).mp (e.trans h3.symm)) ▸ h2)
/-- what putC leaves -/
theorem putC_len : ∀ (ks : List Nat) (cs M : List (Option C)), (putC M ks cs).length = M.length
  | [], cs, M => by cases cs <;> rfl
  | k :: ks, [], M => rfl
  | k :: ks, x :: cs, M => by
    show (putC (M.set k x) ks cs).length = _
    rw [putC_len ks cs, List.length_set]
theorem putC_out : ∀ {ks : List Nat} {cs M : List (Option C)} {j : Nat}, j ∉ ks → (putC M ks cs)[j]? = M[j]?
  | [], cs, M, j, _ => by cases cs <;> rfl
  | k :: ks, [], M, j, _ => rfl
  | k :: ks, x :: cs, M, j, h => by
    show (putC (M.set k x) ks cs)[j]? = _
    rw [putC_out (ks := ks) fun q => h (List.mem_cons_of_mem _ q), List.getElem?_set_ne]
    intro e; exact h (e ▸ List.mem_cons_self ..)
theorem putC_in : ∀ {ks : List Nat} {cs M : List (Option C)} {j : Nat} {x : C}, ks.Nodup → j ∈ ks → (putC M ks cs)[j]? = some (some x) → (∃ i : Nat, ks[i]? = some j ∧ cs[i]? = some (some x)) ∨ (M[j]? = some (some x) ∧ ∃ i : Nat, ks[i]? = some j ∧ cs.length ≤ i)
  | [], cs, M, j, x, _, h, _ => by simp at h
  | k :: ks, [], M, j, x, hn, h, e => by
    obtain ⟨i, hi⟩ := List.getElem?_of_mem h
    exact .inr ⟨e, i, hi, Nat.zero_le _⟩
  | k :: ks, y :: cs, M, j, x, hn, h, e => by
    have hn' := List.nodup_cons.mp hn
    have e' : (putC (M.set k y) ks cs)[j]? = some (some x) := e
    by_cases hj : j = k
    · subst hj
      rw [putC_out hn'.1] at e'
      by_cases hl : j < M.length
      · rw [List.getElem?_set_self hl] at e'
        exact .inl ⟨0, rfl, by simpa using e'⟩
      · rw [List.getElem?_eq_none (by rw [List.length_set]; omega)] at e'
        cases e'
    · have hj' : j ∈ ks := (List.mem_cons.mp h).resolve_left hj
      rcases putC_in hn'.2 hj' e' with ⟨i, h1, h2⟩ | ⟨h1, i, h2, h3⟩
      · exact .inl ⟨i + 1, by simpa using h1, by simpa using h2⟩
      · rw [List.getElem?_set_ne (fun q => hj q.symm)] at h1
        exact .inr ⟨h1, i + 1, by simpa using h2, by simpa using h3⟩
theorem cNp_get : ∀ {cs : List (Option C)} {i : Nat} {x : C}, cNp cs = true → cs[i]? = some (some x) → x.np = true
  | [], i, x, _, e => by simp at e
  | y :: cs, 0, x, h, e => by
    simp at e; subst e
    simp only [cNp, Bool.and_eq_true] at h; exact h.1
  | none :: cs, i + 1, x, h, e => cNp_get (cs := cs) (by simpa [cNp] using h) (by simpa using e)
  | some y :: cs, i + 1, x, h, e => cNp_get (cs := cs) (by simp only [cNp, Bool.and_eq_true] at h; exact h.2) (by simpa using e)
theorem cNm_get : ∀ {cs : List (Option C)} {i : Nat} {x : C}, cNm cs = true → cs[i]? = some (some x) → x.nm = true
  | [], i, x, _, e => by simp at e
  | y :: cs, 0, x, h, e => by
    simp at e; subst e
    simp only [cNm, Bool.and_eq_true] at h; exact h.1
  | none :: cs, i + 1, x, h, e => cNm_get (cs := cs) (by simpa [cNm] using h) (by simpa using e)
  | some y :: cs, i + 1, x, h, e => cNm_get (cs := cs) (by simp only [cNm, Bool.and_eq_true] at h; exact h.2) (by simpa using e)

/-- behind the callee's run: the caller's state again (no one lent: what the callee froze is frozen; else nothing more is) -/
theorem backY {p : Prep} {H' : Hp} {s' : S} {T' : List (D × V)} {Fp G : Addr → Prop} {γ : List Addr} (Y : Addr → Prop) (I : SIx K cl c H σ s T F α) (hks : p.ks.Nodup) (hkl : ∀ k ∈ p.ks, k < α.length) (hlive : ∀ k ∈ p.ks, ∃ x, s.M[k]? = some (some x))
    (hFp : ∀ b, Fp b ↔ F b ∨ ∃ k, k ∈ p.ls ∧ α[k]? = some b) (J : SIx K cl ⟨H, adrs α p.ks, Fp⟩ H' [] ⟨[], s'.M⟩ T' G γ) (hlen : p.ks.length ≤ s'.M.length)
    (hY : ∀ b, Y b → G b → ∀ k, k ∈ p.ls → α[k]? ≠ some b)
    (hC : ∀ F2 : Addr → Prop, (∀ b, Y b → G b → F2 b) → ∀ (i : Nat) (x : C) (a : Addr), (s'.M.take p.ks.length)[i]? = some (some x) → RepC K cl H' G γ a x → RepC K cl H' F2 α a x)
    (hT : ∀ F2 : Addr → Prop, (∀ b, Y b → G b → F2 b) → ∀ q ∈ T', Rep K cl H' G γ q.1 q.2 → Rep K cl H' F2 α q.1 q.2) :
    ∃ F2 : Addr → Prop, (∀ b, F b → F2 b) ∧ (∀ b, Y b → G b → F2 b) ∧ (∀ b, F2 b → F b ∨ (Y b ∧ G b)) ∧ SIx K cl c H' σ { s with M := putC s.M p.ks s'.M } (T' ++ T) F2 α := by
  have hβ : ∀ a ∈ adrs α p.ks, a ∈ α := fun a ha => by
    obtain ⟨k, _, e⟩ := adrs_of hkl ha
    exact List.mem_of_getElem? e
  -- what is frozen behind the call
  obtain ⟨F2, hF2, hG, hF2G⟩ : ∃ F2 : Addr → Prop, (∀ b, F b → F2 b) ∧ (∀ b, Y b → G b → F2 b) ∧ ∀ b, F2 b → F b ∨ (Y b ∧ G b) :=
    ⟨fun b => F b ∨ (Y b ∧ G b), fun b h => .inl h, fun b e h => .inr ⟨e, h⟩, fun b h => h⟩
  have nfα : ∀ b, F b → b ∉ adrs α p.ks := fun b hb hm => by
    obtain ⟨k, h1, h2⟩ := adrs_of hkl hm
    obtain ⟨x, hx⟩ := hlive k h1
    exact (I.cel k x b hx h2).2 hb
  have keep : ∀ b o, H b = some o → b ∉ adrs α p.ks → H' b = some o := J.keep
  have E : Ext H F α H' F2 α := ⟨fun b hb => by
      obtain ⟨o, e⟩ := I.domF b hb
      rw [e]; exact keep b o e (nfα b hb), hF2, J.tups, J.frzs, fun _ _ e => e⟩
  have c0 : ∀ b, H b = none → b ∈ c.β ∨ c.H0 b = none := fun b hb => by
    cases q : c.H0 b with
    | none => exact .inr rfl
    | some u =>
      by_cases hm : b ∈ c.β
      · exact .inl hm
      · have := I.keep b u q hm
        rw [hb] at this; cases this
  refine ⟨F2, hF2, hG, hF2G, fun i d e => ?_, I.el, fun q hq => ?_, by show α.length = (putC s.M p.ks s'.M).length; rw [putC_len]; exact I.len, fun j x a e1 e2 => ?_, I.nd, fun a ha => ?_, I.inα, fun b hb => ?_, fun b hb => ?_, I.pre, fun b o e1 e2 => ?_, fun b xs e => J.tups b xs (I.tups b xs e), fun b o u e => J.frzs b o u (I.frzs b o u e)⟩
  · obtain ⟨v, h1, h2⟩ := I.env i d e
    exact ⟨v, h1, h2.ext E⟩
  · rcases List.mem_append.mp hq with hq | hq
    · exact hT F2 hG q hq (J.tmp q hq)
    · exact (I.tmp q hq).ext E
  · have e1 : (putC s.M p.ks s'.M)[j]? = some (some x) := e1
    by_cases hj : j ∈ p.ks
    · rcases putC_in hks hj e1 with ⟨i, h1, h2⟩ | ⟨_, i, h1, h2⟩
      · have hi : i < p.ks.length := (List.getElem?_eq_some_iff.mp h1).1
        have hβi : (adrs α p.ks)[i]? = some a := adrs_get h1 e2
        obtain ⟨rc, nG⟩ := J.cel i x a h2 (J.pre i a hβi)
        have e3 : (s'.M.take p.ks.length)[i]? = some (some x) := by rw [List.getElem?_take_of_lt hi]; exact h2
        have nF : ¬ F a := fun hf => nfα a hf (List.mem_of_getElem? hβi)
        exact ⟨hC F2 hG i x a e3 rc, fun hf => (hF2G a hf).elim nF fun q => nG q.2⟩
      · have hi : i < p.ks.length := (List.getElem?_eq_some_iff.mp h1).1
        omega
    · rw [putC_out hj] at e1
      obtain ⟨rc, nF⟩ := I.cel j x a e1 e2
      have na : a ∉ adrs α p.ks := fun hm => by
        obtain ⟨k, h1, h2⟩ := adrs_of hkl hm
        have := (List.getElem?_inj (hkl k h1) I.nd).mp (h2.trans e2.symm)
        exact hj (this ▸ h1)
      obtain ⟨o, ho⟩ := I.dom a (List.mem_of_getElem? e2)
      refine ⟨E.repC rc ((keep a o ho na).trans ho.symm), fun hf => (hF2G a hf).elim nF fun q => ?_⟩
      rcases J.inF a q.2 with z | z | z
      · exact na z
      · rcases (hFp a).mp z with z | ⟨k, h1, h2⟩
        · exact nF z
        · exact hY a q.1 q.2 k h1 h2
      · have z : H a = none := z
        rw [ho] at z; cases z
  · by_cases hm : a ∈ adrs α p.ks
    · obtain ⟨i, hi⟩ := List.getElem?_of_mem hm
      exact J.dom a (List.mem_of_getElem? (J.pre i a hi))
    · obtain ⟨o, ho⟩ := I.dom a ha
      exact ⟨o, keep a o ho hm⟩
  · rcases hF2G b hb with hb | ⟨_, hb⟩
    · obtain ⟨o, ho⟩ := I.domF b hb
      exact ⟨o, keep b o ho (nfα b hb)⟩
    · exact J.domF b hb
  · rcases hF2G b hb with hb | ⟨e, hb⟩
    · exact I.inF b hb
    · rcases J.inF b hb with z | z | z
      · rcases I.inα b (hβ b z) with w | w
        · exact .inl w
        · exact .inr (.inr w)
      · rcases (hFp b).mp z with z | ⟨k, h1, h2⟩
        · exact I.inF b z
        · exact absurd h2 (hY b e hb k h1)
      · rcases c0 b z with w | w
        · exact .inl w
        · exact .inr (.inr w)
  · have h1 := I.keep b o e1 e2
    refine keep b o h1 fun hm => ?_
    rcases I.inα b (hβ b hm) with w | w
    · exact e2 w
    · rw [w] at e1; cases e1
theorem backX {p : Prep} {H' : Hp} {s' : S} {T' : List (D × V)} {Fp G : Addr → Prop} {γ : List Addr} (I : SIx K cl c H σ s T F α) (hks : p.ks.Nodup) (hkl : ∀ k ∈ p.ks, k < α.length) (hlive : ∀ k ∈ p.ks, ∃ x, s.M[k]? = some (some x))
    (hFp : ∀ b, Fp b ↔ F b ∨ ∃ k, k ∈ p.ls ∧ α[k]? = some b) (J : SIx K cl ⟨H, adrs α p.ks, Fp⟩ H' [] ⟨[], s'.M⟩ T' G γ) (hlen : p.ks.length ≤ s'.M.length) (hnp : cNp (s'.M.take p.ks.length) = true)
    (hb : p.ls = [] ∨ (cNm (s'.M.take p.ks.length) = true ∧ ∀ q ∈ T', nm q.1 = true)) (hT : ∀ q ∈ T', np q.1 = true) :
    ∃ F2 : Addr → Prop, (∀ b, F b → F2 b) ∧ (p.ls = [] → ∀ b, G b → F2 b) ∧ (∀ b, F2 b → F b ∨ (p.ls = [] ∧ G b)) ∧ SIx K cl c H' σ { s with M := putC s.M p.ks s'.M } (T' ++ T) F2 α := by
  obtain ⟨F2, h1, h2, h3, h4⟩ := backY (fun _ => p.ls = []) I hks hkl hlive hFp J hlen (fun b e _ k hk => by rw [e] at hk; simp at hk)
    (fun F2 hG i x a e3 rc => by
      rcases hb with e | ⟨e, _⟩
      · exact rc.np (fun b h => hG b e h) (cNp_get hnp e3)
      · exact rc.nm (cNm_get e e3))
    (fun F2 hG q hq r => by
      rcases hb with e | ⟨_, e⟩
      · exact r.np (fun b h => hG b e h) (hT q hq)
      · exact r.nm (e q hq))
  exact ⟨F2, h1, fun e b h => h2 b e h, h3, h4⟩
/-- an exception behind the callee's run: its names' dict alone is taken over -/
theorem backE {p : Prep} {H' : Hp} {s' : S} {fs : List (Str × D)} {dx : Option Addr} {Fp : Addr → Prop} (I : SIx K cl c H σ s T F α) (hks : p.ks.Nodup) (hkl : ∀ k ∈ p.ks, k < α.length) (hlive : ∀ k ∈ p.ks, ∃ x, s.M[k]? = some (some x))
    (hls : ∀ k ∈ p.ls, k ∉ p.ks) (hll : ∀ k ∈ p.ls, ∃ x, s.M[k]? = some (some x))
    (hFp : ∀ b, Fp b ↔ F b ∨ ∃ k, k ∈ p.ls ∧ α[k]? = some b) (J : SI K cl ⟨H, adrs α p.ks, Fp⟩ H' [] ⟨[], s'.M⟩ (xt fs dx)) (hlen : p.ks.length ≤ s'.M.length) (hm : cNm (s'.M.take p.ks.length) = true)
    (hf : nmL (fs.map (·.2)) = true) : SI K cl c H' σ { s with M := putC s.M p.ks s'.M } (xt fs dx ++ T) := by
  obtain ⟨G, γ, J⟩ := J
  have hx : ∀ a, dx = some a → ∃ vs, H' a = some (.xd vs) := fun a e => by
    subst e
    cases J.tmp (.xd fs, .ref a) (List.mem_singleton.mpr rfl) with
    | xd q1 _ _ => exact ⟨_, q1⟩
  obtain ⟨F2, _, _, _, J2⟩ := backY (fun b => dx = some b) I hks hkl hlive hFp J hlen (fun b e _ k hk ha => by
      obtain ⟨vs, hv⟩ := hx b e
      obtain ⟨x, hxm⟩ := hll k hk
      obtain ⟨rc, _⟩ := I.cel k x b hxm ha
      have nb : b ∉ adrs α p.ks := fun hm => by
        obtain ⟨k', h1, h2⟩ := adrs_of hkl hm
        have hk' : k < α.length := (List.getElem?_eq_some_iff.mp ha).1
        have := (List.getElem?_inj hk' I.nd).mp (ha.trans h2.symm)
        exact hls k hk (this ▸ h1)
      obtain ⟨o, ho⟩ := I.dom b (List.mem_of_getElem? ha)
      have h2 := J.keep b o ho nb
      rw [hv] at h2
      cases h2
      cases x with
      | lst ds => obtain ⟨vs, q1, _⟩ := rc; rw [ho] at q1; cases q1
      | dct ds => obtain ⟨vs, q1, _⟩ := rc; rw [ho] at q1; cases q1
      | dcu ds => obtain ⟨vs, q1, _⟩ := rc; rw [ho] at q1; cases q1
      | obj c fs => obtain ⟨dx, vs, q1, _⟩ := rc; rw [ho] at q1; cases q1
      | tbl P q gs cs => obtain ⟨_, ⟨ps, q1, _⟩, _⟩ := rc; rw [ho] at q1; cases q1
      | lck ds => obtain ⟨o, vs, q1, _⟩ := rc; rw [ho] at q1; cases q1
      | lcu ds => obtain ⟨o, vs, q1, _⟩ := rc; rw [ho] at q1; cases q1)
    (fun F2 hG i x a e3 rc => rc.nm (cNm_get hm e3))
    (fun F2 hG q hq r => by
      cases dx with
      | none => simp [xt] at hq
      | some a =>
        rw [List.mem_singleton.mp hq] at r ⊢
        cases r with
        | xd q1 q2 q3 => exact .xd q1 (hG a rfl q2) (q3.nm hf))
  exact ⟨F2, α, J2⟩
/-- an instance behind the callee's run: it alone is taken over -/
theorem backO {p : Prep} {H' : Hp} {s' : S} {cn : Str} {fs : List (Str × D)} {v : V} {Fp : Addr → Prop} (I : SIx K cl c H σ s T F α) (hks : p.ks.Nodup) (hkl : ∀ k ∈ p.ks, k < α.length) (hlive : ∀ k ∈ p.ks, ∃ x, s.M[k]? = some (some x))
    (hls : ∀ k ∈ p.ls, k ∉ p.ks) (hll : ∀ k ∈ p.ls, ∃ x, s.M[k]? = some (some x)) (hlo : lnO s.M p.ls = true)
    (hFp : ∀ b, Fp b ↔ F b ∨ ∃ k, k ∈ p.ls ∧ α[k]? = some b) (J : SI K cl ⟨H, adrs α p.ks, Fp⟩ H' [] ⟨[], s'.M⟩ [(.obj cn fs, v)]) (hlen : p.ks.length ≤ s'.M.length) (hm : cNm (s'.M.take p.ks.length) = true)
    (hf : nmL (fs.map (·.2)) = true) : SI K cl c H' σ { s with M := putC s.M p.ks s'.M } ((.obj cn fs, v) :: T) := by
  obtain ⟨G, γ, J⟩ := J
  obtain ⟨a, dx, vs, rfl, hv⟩ : ∃ a dx vs, v = .ref a ∧ H' a = some (.ins (cl cn) dx vs) := by
    cases J.tmp (.obj cn fs, v) (List.mem_singleton.mpr rfl) with
    | obj q1 _ _ => exact ⟨_, _, _, rfl, q1⟩
  obtain ⟨F2, _, _, _, J2⟩ := backY (fun b => a = b) I hks hkl hlive hFp J hlen (fun b e _ k hk ha => by
      subst e
      obtain ⟨x, hxm⟩ := hll k hk
      obtain ⟨rc, _⟩ := I.cel k x a hxm ha
      have nb : a ∉ adrs α p.ks := fun hm => by
        obtain ⟨k', h1, h2⟩ := adrs_of hkl hm
        have hk' : k < α.length := (List.getElem?_eq_some_iff.mp ha).1
        have := (List.getElem?_inj hk' I.nd).mp (ha.trans h2.symm)
        exact hls k hk (this ▸ h1)
      obtain ⟨o, ho⟩ := I.dom a (List.mem_of_getElem? ha)
      have h2 := J.keep a o ho nb
      rw [hv] at h2
      cases h2
      have lo := List.all_eq_true.mp hlo k hk
      rw [hxm] at lo
      cases x with
      | lst ds => obtain ⟨vs, q1, _⟩ := rc; rw [ho] at q1; cases q1
      | dct ds => obtain ⟨vs, q1, _⟩ := rc; rw [ho] at q1; cases q1
      | dcu ds => obtain ⟨vs, q1, _⟩ := rc; rw [ho] at q1; cases q1
      | obj c fs => cases lo
      | tbl P q gs cs => obtain ⟨_, ⟨ps, q1, _⟩, _⟩ := rc; rw [ho] at q1; cases q1
      | lck ds => obtain ⟨o, vs, q1, _⟩ := rc; rw [ho] at q1; cases q1
      | lcu ds => obtain ⟨o, vs, q1, _⟩ := rc; rw [ho] at q1; cases q1)
    (fun F2 hG i x b e3 rc => rc.nm (cNm_get hm e3))
    (fun F2 hG q hq r => by
      rw [List.mem_singleton.mp hq] at r ⊢
      cases r with
      | obj q1 q2 q3 => exact .obj q1 (hG a rfl q2) (q3.nm hf))
  exact ⟨F2, α, J2⟩
theorem back {p : Prep} {H' : Hp} {s' : S} {T' : List (D × V)} {Fp : Addr → Prop} (I : SIx K cl c H σ s T F α) (hks : p.ks.Nodup) (hkl : ∀ k ∈ p.ks, k < α.length) (hlive : ∀ k ∈ p.ks, ∃ x, s.M[k]? = some (some x))
    (hFp : ∀ b, Fp b ↔ F b ∨ ∃ k, k ∈ p.ls ∧ α[k]? = some b) (J : SI K cl ⟨H, adrs α p.ks, Fp⟩ H' [] ⟨[], s'.M⟩ T') (hlen : p.ks.length ≤ s'.M.length) (hnp : cNp (s'.M.take p.ks.length) = true)
    (hb : p.ls = [] ∨ (cNm (s'.M.take p.ks.length) = true ∧ ∀ q ∈ T', nm q.1 = true)) (hT : ∀ q ∈ T', np q.1 = true) :
    SI K cl c H' σ { s with M := putC s.M p.ks s'.M } (T' ++ T) := by
  obtain ⟨G, γ, J⟩ := J
  obtain ⟨F2, _, _, _, J2⟩ := backX I hks hkl hlive hFp J hlen hnp hb hT
  exact ⟨F2, α, J2⟩
/-- what is known at a call -/
theorem call_pre {p : Prep} {io : List Bool} {ds : List D} {vs : List V} (I : SIx K cl c H σ s (zipT ds vs T) F α) (hl : ds.length = vs.length) (hp : prep s.M io ds 0 = some p) (hks : p.ks.Nodup) (hls : ∀ k ∈ p.ls, k ∉ p.ks) :
    ∃ Fp : Addr → Prop, (∀ b, Fp b ↔ F b ∨ ∃ k, k ∈ p.ls ∧ α[k]? = some b) ∧ (∀ k ∈ p.ks, k < α.length) ∧ (∀ k ∈ p.ks, ∃ x, s.M[k]? = some (some x)) ∧ p.m.length = p.ks.length ∧ p.ds.length = vs.length ∧
      SIx K cl ⟨H, adrs α p.ks, Fp⟩ H [] ⟨[], p.m.map some⟩ (zipT p.ds vs []) Fp (adrs α p.ks) ∧ SIx K cl c H σ s T F α := by
  obtain ⟨pl, pc, pb⟩ := prep_cells hp
  have hlive : ∀ k ∈ p.ks, ∃ x, s.M[k]? = some (some x) := fun k hk => by
    obtain ⟨i, hi⟩ := List.getElem?_of_mem hk
    have hi' : i < p.m.length := by rw [pl]; exact (List.getElem?_eq_some_iff.mp hi).1
    obtain ⟨k', h1, h2, _⟩ := pc i p.m[i] (List.getElem?_eq_getElem hi')
    rw [hi] at h1; cases h1
    exact ⟨_, h2⟩
  have hkl : ∀ k ∈ p.ks, k < α.length := fun k hk => by
    obtain ⟨x, hx⟩ := hlive k hk
    rw [I.len]; exact (List.getElem?_eq_some_iff.mp hx).1
  obtain ⟨Fp, hFp⟩ : ∃ Fp : Addr → Prop, ∀ b, Fp b ↔ F b ∨ ∃ k, k ∈ p.ls ∧ α[k]? = some b := ⟨fun b => F b ∨ ∃ k, k ∈ p.ls ∧ α[k]? = some b, fun b => Iff.rfl⟩
  have hF : ∀ b, F b → Fp b := fun b h => (hFp b).mpr (.inl h)
  have hβin : ∀ a ∈ adrs α p.ks, ∃ k, k ∈ p.ks ∧ α[k]? = some a := fun a ha => adrs_of hkl ha
  have nFp : ∀ a ∈ adrs α p.ks, ¬ Fp a := fun a ha hf => by
    obtain ⟨k, h1, h2⟩ := hβin a ha
    rcases (hFp a).mp hf with hf | ⟨k', h3, h4⟩
    · obtain ⟨x, hx⟩ := hlive k h1
      exact (I.cel k x a hx h2).2 hf
    · have := (List.getElem?_inj (hkl k h1) I.nd).mp (h2.trans h4.symm)
      exact hls k' h3 (this ▸ h1)
  have domFp : ∀ b, Fp b → ∃ o, H b = some o := fun b hb => by
    rcases (hFp b).mp hb with hb | ⟨k, h1, h2⟩
    · exact I.domF b hb
    · exact I.dom b (List.mem_of_getElem? h2)
  have rl : RepL K cl H Fp (adrs α p.ks) p.ds vs := prep_rep I hp (I.args hl) hF (fun i k a e1 e2 => by rw [Nat.zero_add]; exact adrs_get e1 e2) fun k a h1 h2 => (hFp a).mpr (.inr ⟨k, h1, h2⟩)
  have tm : ∀ (ds : List D) (vs : List V), RepL K cl H Fp (adrs α p.ks) ds vs → ∀ T0 : List (D × V), (∀ q ∈ T0, Rep K cl H Fp (adrs α p.ks) q.1 q.2) → ∀ q ∈ zipT ds vs T0, Rep K cl H Fp (adrs α p.ks) q.1 q.2 := by
    intro ds
    induction ds with
    | nil => intro vs r T0 h0 q hq; cases r; exact h0 q hq
    | cons d ds ih =>
      intro vs r T0 h0 q hq
      cases r with
      | cons r t => exact ih _ t _ (fun q hq => (List.mem_cons.mp hq).elim (fun e => by subst e; exact r) (h0 q)) q hq
  have J0 : SIx K cl ⟨H, adrs α p.ks, Fp⟩ H [] ⟨[], p.m.map some⟩ (zipT p.ds vs []) Fp (adrs α p.ks) := by
    refine ⟨fun i d e => by simp at e, rfl, tm p.ds vs rl [] fun q hq => by simp at hq, by show (adrs α p.ks).length = (p.m.map some).length; unfold adrs; rw [List.length_map, List.length_map, pl], fun j x a e1 e2 => ?_, adrs_nodup I.nd hks hkl, fun a ha => ?_, fun a ha => .inl ha, domFp, fun b hb => .inr (.inl hb), fun _ _ e => e, fun b o e _ => e, fun _ _ e => e, fun _ _ _ e => e⟩
    · have e1 : (p.m.map some)[j]? = some (some x) := e1
      rw [List.getElem?_map] at e1
      obtain ⟨y, h1, h2⟩ := Option.map_eq_some_iff.mp e1
      cases h2
      obtain ⟨k, h3, h4, h5⟩ := pc j x h1
      obtain ⟨a', ha'⟩ : ∃ a', α[k]? = some a' := ⟨_, List.getElem?_eq_getElem (hkl k (List.mem_of_getElem? h3))⟩
      have e3 := adrs_get h3 ha'
      rw [e2] at e3; cases e3
      exact ⟨(I.cel k x a h4 ha').1.np hF h5, nFp a (List.mem_of_getElem? e2)⟩
    · obtain ⟨k, _, h2⟩ := hβin a ha
      exact I.dom a (List.mem_of_getElem? h2)
  have hdl : p.ds.length = vs.length := rl.length
  have IT : SIx K cl c H σ s T F α := { I with tmp := fun q hq => I.tmp q (zipT_sub ds vs T q hq) }
  exact ⟨Fp, hFp, hkl, hlive, pl, hdl, J0, IT⟩
/-- the callee's promise, asked at the caller's arguments -/
theorem call_dsp {W : WX} {io : List Bool} {sem : Sem} {ds : List D} {vs : List V} {Q : VK} (I : SIx K cl c H σ s (zipT ds vs T) F α) (hl : ds.length = vs.length) (w : Want K cl W c σ T (callS io sem ds s) Q)
    (hM : ∀ m ds' d s', sem m ds' = .ok d s' → s'.M.length = m.length) (hM2 : ∀ m ds' n fs s', sem m ds' = .exc n fs s' → s'.M.length = m.length) :
    dsp K cl sem vs H Q (fun cls dx H' => W cls dx σ H') := by
  unfold callS at w
  cases hp : prep s.M io ds 0 with
  | none => rw [hp] at w; exact w.elim
  | some p =>
    rw [hp] at w
    dsimp only at w
    by_cases hc : p.ks.Nodup ∧ ∀ k ∈ p.ls, k ∉ p.ks
    · rw [if_pos hc] at w
      obtain ⟨hks, hls⟩ := hc
      obtain ⟨Fp, hFp, hkl, hlive, pl, hdl, J0, IT⟩ := call_pre I hl hp hks hls
      refine ⟨Fp, adrs α p.ks, p.m, p.ds, hdl, J0, ?_⟩
      cases hs : sem p.m p.ds with
      | fail => rw [hs] at w; exact w.elim
      | ok d s' =>
        rw [hs] at w
        dsimp only at w ⊢
        have hlen : p.ks.length ≤ s'.M.length := by rw [hM _ _ _ _ hs, pl]; exact Nat.le_refl _
        cases hcond : (np d && cNp (s'.M.take p.ks.length) && (p.ls.isEmpty || ((nm d || (nmO d && lnO s.M p.ls)) && cNm (s'.M.take p.ks.length)))) with
        | false => rw [hcond] at w; exact w.elim
        | true =>
          rw [hcond] at w
          simp only [Bool.and_eq_true, Bool.or_eq_true] at hcond
          obtain ⟨⟨h1, h2⟩, h3⟩ := hcond
          intro v H' J
          by_cases hO : nmO d = true ∧ lnO s.M p.ls = true ∧ cNm (s'.M.take p.ks.length) = true
          · obtain ⟨_, _, pb⟩ := prep_cells hp
            obtain ⟨o1, o2, o3⟩ := hO
            cases d with
            | obj cn fs => exact w v H' (backO IT hks hkl hlive hls pb o2 hFp J hlen o3 o1)
            | _ => cases o1
          refine w v H' (back (T' := [(d, v)]) IT hks hkl hlive hFp J hlen h2 ?_ fun q hq => ?_)
          · rcases h3 with h3 | ⟨h3, h4⟩
            · exact .inl (List.isEmpty_iff.mp h3)
            · have h3 : nm d = true := h3.elim id fun q => absurd ⟨q.1, q.2, h4⟩ hO
              refine .inr ⟨h4, fun q hq => ?_⟩
              rw [List.mem_singleton.mp hq]; exact h3
          · rw [List.mem_singleton.mp hq]; exact h1
      | exc n fs s' =>
        rw [hs] at w
        dsimp only at w ⊢
        have hlen : p.ks.length ≤ s'.M.length := by rw [hM2 _ _ _ _ _ hs, pl]; exact Nat.le_refl _
        cases hcond : (npF fs && cNp (s'.M.take p.ks.length) && (p.ls.isEmpty || (nmL (fs.map (·.2)) && cNm (s'.M.take p.ks.length)))) with
        | false => rw [hcond] at w; exact w.elim
        | true =>
          rw [hcond] at w
          simp only [Bool.and_eq_true, Bool.or_eq_true] at hcond
          obtain ⟨⟨h1, h2⟩, h3⟩ := hcond
          intro dx H' hdx J
          rcases h3 with h3 | ⟨h3, h4⟩
          case inr =>
            obtain ⟨_, _, pb⟩ := prep_cells hp
            refine w dx H' hdx (backE IT hks hkl hlive hls pb hFp (by rw [List.append_nil] at J; exact J) hlen h4 h3)
          refine w dx H' hdx (back (T' := xt fs dx) IT hks hkl hlive hFp (by rw [List.append_nil] at J; exact J) hlen h2 (.inl (List.isEmpty_iff.mp h3)) fun q hq => ?_)
          cases dx with
          | none => simp [xt] at hq
          | some a =>
            rw [List.mem_singleton.mp hq]
            show np (.xd fs) = true
            simp only [np]; exact h1
    · rw [if_neg hc] at w; exact w.elim
end
end DL

/-! DlG: calls of the program's own defs; the statements; a def by its body. -/
namespace DL
open PySem L2
open PySem.Spec PyProof.Rows

/-- what a body's rules lean on -/
structure Cok (X : Cx) (W : WX) (k : Nat) : Prop where
  tk : Takes X W
  po : PassesOwn (model X.prog X.w) X.A X.env X.xe
  nd : X.N.Nodup
  calm : X.calm = true
  room : Room k X.A
  gd : X.A.guards = some []
theorem Cok.u64 {X : Cx} {W : WX} {k : Nat} (c : Cok X W k) : X.A.units + 64 < cLine := c.room.units
theorem Cok.blk {X : Cx} {W : WX} {k : Nat} (c : Cok X W k) (s : Shared) (H : Hp) (scope : Scope) (cenv : Env) (fp : List Addr) : Cok (X.blk s H scope cenv fp) (fun _ _ _ _ => False) k :=
  ⟨takes0, PassesOwn.never, c.nd, c.calm, c.room, c.gd⟩

/-- the cells given come back, as many -/
def LenOk (sem : Sem) : Prop := (∀ m ds d s, sem m ds = .ok d s → s.M.length = m.length) ∧ ∀ m ds n fs s, sem m ds = .exc n fs s → s.M.length = m.length
theorem prep_len : ∀ {M : List (Option C)} {io : List Bool} {ds : List D} {j : Nat} {p : Prep}, prep M io ds j = some p → ds.length = io.length := by
  intro M io
  induction io with
  | nil =>
    intro ds j p h
    cases ds with
    | nil => rfl
    | cons d ds => simp [prep] at h
  | cons b io ih =>
    intro ds j p h
    cases ds with
    | nil => cases b <;> simp [prep] at h
    | cons d ds =>
      rcases ptr_or d with ⟨k, rfl⟩ | hd
      · cases b with
        | true => obtain ⟨x, q, _, _, h3, _⟩ := prep_true h; simp [ih h3]
        | false => obtain ⟨x, q, _, _, h3, _⟩ := prep_ptr h; simp [ih h3]
      · cases b with
        | true => exact (prep_bad hd h).elim
        | false => obtain ⟨q, _, h3, _⟩ := prep_val hd h; simp [ih h3]
theorem callS_len {K : PySem.W.Frag} {cl : Str → Addr} {W : WX} {c : Cz} {σ : L2.St} {T : List (D × V)} {io : List Bool} {sem : Sem} {ds : List D} {s : S} {Q : VK} (w : Want K cl W c σ T (callS io sem ds s) Q) : ds.length = io.length := by
  unfold callS at w
  cases hp : prep s.M io ds 0 with
  | none => rw [hp] at w; exact w.elim
  | some p => exact prep_len hp
def eCall (io : List Bool) (sem : Sem) (f : M (List D)) : M D := fun s => (f s).bind fun ds s => callS io sem ds s

section
variable {X : Cx} {cl : Str → Addr} {W : WX} {k : Nat}
/-- the callee runs -/
theorem run_G {fa : Addr} {fd : FuncData} {ps : List Str} {sem : Sem} {dvs : List Value} {pins : List (Addr × Obj)} {σ : L2.St} {H : Hp} {s : Shared} {Q : VK} {us : List Value} {vs : List V} (F : FnG X.prog X.w X.K X.mg X.base cl k fa fd ps sem) (hc : Cok X W k) (hb : Binds X.K fd ps []) (I : Inv X pins σ H s) (r : Vals vs us) (hl : vs.length = ps.length)
    (h : dsp X.K cl sem vs H Q (fun cls dx H' => W cls dx σ H')) : wpAny (model X.prog X.w) X.A (call (.ref fa) us) (EP X pins σ Q) X.xe s := by
  have b := hb s us I.kIn (by rw [List.append_nil, ← r.length]; exact hl)
  rw [List.append_nil] at b
  refine wpAny_call (codeAny_mono (F.run X.A X.stack s H ⟨us, []⟩ us vs Q _ hc.room hc.gd I.env0 b r hl h) fun res s' hq => ?_)
  cases res with
  | error e => exact passAt hc.tk σ pins H s e s' I hq
  | ok fl =>
    cases fl with
    | ret u => exact I.after hq
    | next => exact False.elim hq
    | brk => exact False.elim hq
    | cont => exact False.elim hq
/-- f(e, ..) -/
theorem de_call {x : Str} {fa : Addr} {fd : FuncData} {ps : List Str} {sem : Sem} {io : List Bool} {e : Expr} {es : List Expr} {f : M (List D)} {p pos : Pos} (F : FnG X.prog X.w X.K X.mg X.base cl k fa fd ps sem) (hn : LenOk sem) (hio : io.length = ps.length) (hc : Cok X W k)
    (hm : X.mg x = some (.ref fa)) (hk : PySem.W.keepIn X.K (.ref fa) = true) (hb : Binds X.K fd ps []) (ha : DA X cl W (e :: es) f) (hg : Gl X x := by rfl)
    (hdb : (x == ("__debug__" : Str)) = false := by decide) (he : starEach (e :: es) X.env = (false, eval e X.env) :: starEach es X.env := by rfl) (hpl : (backTo pos (starEach es X.env)).any (·.1) = false := by rfl) :
    DE X cl W (.Call (.Name x p) (e :: es) [] pos) (eCall io sem f) := by
  obtain ⟨ta, pa, qa⟩ := ha
  refine ⟨fun σ H Q => ta σ H fun vs H1 => vs.length = ps.length ∧ dsp X.K cl sem vs H1 Q (fun cls dx H' => W cls dx σ H'), ⟨fun pins s σ H Q I h => ?_⟩, fun c σ s T H Q I w => ?_⟩
  · refine wpAny_Call_Name_kw (ld_glob I hg hm ?_ hdb)
    refine PySem.W.callWith_K (h₀ := X.base) I.ok.mod.kin hk (thn (pa.run pos pins s σ H _ I h) fun us s1 ⟨vs, H1, I1, r, hl, q⟩ => ⟨I1.kIn, ?_⟩) he hpl
    exact run_G (dvs := []) F hc hb I1 r hl q
  · refine qa c σ s T H _ I (w.bindA fun ds s1 _ w1 vs H1 hl I1 => ?_)
    obtain ⟨G, α, J⟩ := I1
    exact ⟨by rw [← hl, callS_len w1, hio], call_dsp J hl w1 hn.1 hn.2⟩
/-! ### statements -/
inductive Fl where
  | nx | ret (d : D) | brk | ct
def WantS (K : PySem.W.Frag) (cl : Str → Addr) (W : WX) (c : Cz) (T : List (D × V)) (o : Out Fl) (E : Ends) : Prop := match o with
  | .fail => False
  | .ok .nx s => ∀ σ H, SI K cl c H σ s T → E.nx σ H
  | .ok .brk s => ∀ σ H, SI K cl c H σ s T → E.bk σ H
  | .ok .ct s => ∀ σ H, SI K cl c H σ s T → E.ct σ H
  | .ok (.ret d) s => ∀ v σ H, SI K cl c H σ s ((d, v) :: T) → E.rt v H
  | .exc n fs s => ∀ dx σ H, (dx = none → fs = []) → SI K cl c H σ s (xt fs dx ++ T) → W (.ref (cl n)) dx σ H
structure DS (X : Cx) (cl : Str → Addr) (W : WX) (st : Stmt) (f : M Fl) : Prop where
  ex : ∃ ts, PS X st ts ∧ ∀ c σ s T H E, SI X.K cl c H σ s T → WantS X.K cl W c T (f s) E → ts E σ H
structure DSs (X : Cx) (cl : Str → Addr) (W : WX) (st : List Stmt) (f : M Fl) : Prop where
  ex : ∃ ts, PSs X st ts ∧ ∀ c σ s T H E, SI X.K cl c H σ s T → WantS X.K cl W c T (f s) E → ts E σ H
theorem WantS.bind {K : PySem.W.Frag} {c : Cz} {σ : L2.St} {T : List (D × V)} {o : Out D} {k : D → S → Out Fl} {E : Ends} {Q1 : VK} (h : WantS K cl W c T (o.bind k) E)
    (hk : ∀ d s, o = .ok d s → WantS K cl W c T (k d s) E → ∀ v H, SI K cl c H σ s ((d, v) :: T) → Q1 v H) : Want K cl W c σ T o Q1 := by
  cases o with
  | fail => exact h
  | ok d s => exact hk d s rfl h
  | exc n fs s => exact fun dx H e I => h dx σ H e I
theorem WantS.bindB {K : PySem.W.Frag} {c : Cz} {σ : L2.St} {T : List (D × V)} {o : Out Bool} {k : Bool → S → Out Fl} {E : Ends} {Q1 : Bool → Hp → Prop} (h : WantS K cl W c T (o.bind k) E)
    (hk : ∀ d s, o = .ok d s → WantS K cl W c T (k d s) E → ∀ H, SI K cl c H σ s T → Q1 d H) : WantB K cl W c σ T o Q1 := by
  cases o with
  | fail => exact h
  | ok d s => exact hk d s rfl h
  | exc n fs s => exact fun dx H e I => h dx σ H e I
theorem WantS.bindA {K : PySem.W.Frag} {c : Cz} {σ : L2.St} {T : List (D × V)} {o : Out (List D)} {k : List D → S → Out Fl} {E : Ends} {Q1 : List V → Hp → Prop} (h : WantS K cl W c T (o.bind k) E)
    (hk : ∀ d s, o = .ok d s → WantS K cl W c T (k d s) E → ∀ vs H, d.length = vs.length → SI K cl c H σ s (zipT d vs T) → Q1 vs H) : WantA K cl W c σ T o Q1 := by
  cases o with
  | fail => exact h
  | ok d s => exact hk d s rfl h
  | exc n fs s => exact fun dx H e I => h dx σ H e I
def sNx : M Fl := fun s => .ok .nx s
def sSeq (f g : M Fl) : M Fl := fun s => (f s).bind fun r s => match r with
  | .nx => g s
  | r => .ok r s
theorem dss_nil : DSs X cl W [] sNx := ⟨_, pss_nil, fun c σ s T H E I w => w σ H I⟩
theorem dss_one {st : Stmt} {f : M Fl} (h : DS X cl W st f) : DSs X cl W [st] f := by
  obtain ⟨t, p, q⟩ := h
  exact ⟨_, pss_one p, q⟩
theorem dss_cons {st : Stmt} {rest : List Stmt} {f g : M Fl} (h : DS X cl W st f) (h2 : DSs X cl W rest g) : DSs X cl W (st :: rest) (sSeq f g) := by
  obtain ⟨t, p, q⟩ := h
  obtain ⟨t2, p2, q2⟩ := h2
  refine ⟨_, pss_cons p p2, fun c σ s T H E I w => ?_⟩
  refine q c σ s T H _ I ?_
  unfold sSeq at w
  cases hf : f s with
  | fail => rw [hf] at w; exact w
  | exc n fs s1 => rw [hf] at w; exact w
  | ok r s1 =>
    rw [hf] at w
    cases r with
    | nx => exact fun σ1 H1 I1 => q2 c σ1 s1 T H1 E I1 w
    | ret d => exact w
    | brk => exact w
    | ct => exact w
def sBrk : M Fl := fun s => .ok .brk s
def sCt : M Fl := fun s => .ok .ct s
def sExpr (f : M D) : M Fl := fun s => (f s).bind fun _ s => .ok .nx s
def sRet (f : M D) : M Fl := fun s => (f s).bind fun d s => .ok (.ret d) s
theorem ds_ret {e : Expr} {f : M D} {pos : Pos} (h : DE X cl W e f) : DS X cl W (.Return (some e) pos) (sRet f) := by
  obtain ⟨t, p, q⟩ := h
  refine ⟨_, ps_ret p, fun c σ s T H E I w => ?_⟩
  exact q c σ s T H _ I (w.bind fun d s1 _ w1 v H1 I1 => w1 v σ H1 I1)
def sIf (t : M Bool) (f g : M Fl) : M Fl := fun s => (t s).bind fun b s => if b = true then f s else g s
theorem ds_if {t : Expr} {a b : List Stmt} {ft : M Bool} {f g : M Fl} {pos : Pos} (ht : DT X cl W t ft) (ha : DSs X cl W a f) (hb : DSs X cl W b g) : DS X cl W (.If t a b pos) (sIf ft f g) := by
  obtain ⟨tt, pt, qt⟩ := ht
  obtain ⟨ta, pa, qa⟩ := ha
  obtain ⟨tb, pb, qb⟩ := hb
  refine ⟨_, ps_if pt pa pb, fun c σ s T H E I w => ?_⟩
  refine qt c σ s T H _ I (w.bindB fun d s1 _ w1 H1 I1 => ?_)
  cases d with
  | true => exact iteT (qa c σ s1 T H1 E I1 w1)
  | false => exact iteF (qb c σ s1 T H1 E I1 w1)
/-- a name is bound -/
def setV (i : Nat) (d : D) (s : S) : Out Fl := if i < s.env.length then .ok .nx { s with env := s.env.set i (some d) } else .fail
def sSet (i : Nat) (f : M D) : M Fl := fun s => (f s).bind fun d s => setV i d s
theorem setV_ok {K : PySem.W.Frag} {c : Cz} {σ : L2.St} {T : List (D × V)} {i : Nat} {d : D} {v : V} {s : S} {H : Hp} {E : Ends} (w : WantS K cl W c T (setV i d s) E) (I : SI K cl c H σ s ((d, v) :: T)) : E.nx (σ.set i (some v)) H := by
  unfold setV at w
  by_cases hi : i < s.env.length
  · rw [if_pos hi] at w; exact w _ _ (I.bind hi)
  · rw [if_neg hi] at w; exact w.elim
theorem ds_set {i : Nat} {x : Str} {e : Expr} {f : M D} {pos pos' : Pos} (hN : X.N.Nodup) (hi : X.N[i]? = some x) (hx : Loc X.env.scope x) (h : DE X cl W e f) (hs : swapsWith e (some (.Name x pos')) pos.line X.env = pure false := by rfl)
    (hf : X.fn x = true ∨ X.env.scope.names.lookup x = some .local := by first | exact .inl rfl | exact .inr rfl | assumption) : DS X cl W (.Assign [.Name x pos'] e pos) (sSet i f) := by
  obtain ⟨t, p, q⟩ := h
  refine ⟨_, ps_set hN hi hx p hs hf, fun c σ s T H E I w => ?_⟩
  exact q c σ s T H _ I (w.bind fun d s1 _ w1 v H1 I1 => setV_ok w1 I1)

/-! ### a def by its body -/
/-- how a body's run ends: the cells given, what is handed back (a pointer to a cell of the body's own: its content, from now on frozen) -/
def outD (n : Nat) (s : S) (d : D) : Option D := match d with
  | .ptr k => if n ≤ k then (match s.M[k]? with
    | some (some x) => if x.np then some x.dat else none
    | _ => none) else none
  | d => if np d then some d else none
def okM (n : Nat) (s : S) : Bool := decide (n ≤ s.M.length) && cNp (s.M.take n)
theorem okM_len {n : Nat} {s : S} (h : okM n s = true) : (s.M.take n).length = n := by
  simp only [okM, Bool.and_eq_true, decide_eq_true_eq] at h
  rw [List.length_take]; omega
def fin (n : Nat) (o : Out Fl) : Out D := match o with
  | .fail => .fail
  | .ok .nx s => if okM n s then .ok .non ⟨[], s.M.take n⟩ else .fail
  | .ok (.ret d) s => match outD n s d with
    | some d => if okM n s then .ok d ⟨[], s.M.take n⟩ else .fail
    | none => .fail
  | .ok _ _ => .fail
  | .exc c fs s => if npF fs && okM n s then .exc c fs ⟨[], s.M.take n⟩ else .fail
def run (N : Nat) (f : M Fl) : Sem := fun m ds => fin m.length (f ⟨ds.map some ++ List.replicate (N - ds.length) none, m.map some⟩)
theorem run_len (N : Nat) (f : M Fl) : LenOk (run N f) := by
  have key : ∀ (n : Nat) (o : Out Fl), (∀ d s, fin n o = .ok d s → s.M.length = n) ∧ ∀ c fs s, fin n o = .exc c fs s → s.M.length = n := by
    intro n o
    cases o with
    | fail => exact ⟨fun d s h => (by cases h), fun c fs s h => (by cases h)⟩
    | exc c fs s =>
      refine ⟨fun d s h => ?_, fun c' fs' s' h => ?_⟩
      · simp only [fin] at h; split at h <;> cases h
      · simp only [fin] at h
        split at h
        · rename_i hc
          cases h
          exact okM_len (Bool.and_eq_true_iff.mp hc).2
        · cases h
    | ok r s =>
      refine ⟨fun d s' h => ?_, fun c fs s' h => ?_⟩
      · cases r with
        | nx =>
          simp only [fin] at h
          split at h
          · rename_i hc
            cases h
            exact okM_len hc
          · cases h
        | brk => cases h
        | ct => cases h
        | ret d =>
          simp only [fin] at h
          split at h
          · split at h
            · rename_i hc
              cases h
              exact okM_len hc
            · cases h
          · cases h
      · cases r with
        | nx => simp only [fin] at h; split at h <;> cases h
        | brk => cases h
        | ct => cases h
        | ret d =>
          simp only [fin] at h
          split at h
          · split at h <;> cases h
          · cases h
  exact ⟨fun m ds d s h => (key _ _).1 d s h, fun m ds n fs s h => (key _ _).2 n fs s h⟩
end
section
variable {K : PySem.W.Frag} {cl : Str → Addr} {c : Cz} {H : Hp} {σ : L2.St} {s : S} {T T' : List (D × V)} {F : Addr → Prop} {α : List Addr}
/-- the cells behind the first n are frozen, the frame is left -/
theorem SIx.leave (I : SIx K cl c H σ s T F α) {n : Nat} (hn : n ≤ s.M.length) (hβ : c.β.length ≤ n) (hT : ∀ F', (∀ b, F b → F' b) → (∀ (k : Nat) (x : C) (a : Addr), n ≤ k → s.M[k]? = some (some x) → α[k]? = some a → F' a) → ∀ q ∈ T', Rep K cl H F' α q.1 q.2 ∧ np q.1 = true) (hc : cNp (s.M.take n) = true) :
    SI K cl c H [] ⟨[], s.M.take n⟩ T' := by
  obtain ⟨F', hF'⟩ : ∃ F' : Addr → Prop, ∀ b, F' b ↔ F b ∨ ∃ (k : Nat) (x : C), n ≤ k ∧ s.M[k]? = some (some x) ∧ α[k]? = some b := ⟨fun b => F b ∨ ∃ (k : Nat) (x : C), n ≤ k ∧ s.M[k]? = some (some x) ∧ α[k]? = some b, fun b => Iff.rfl⟩
  have hF : ∀ b, F b → F' b := fun b h => (hF' b).mpr (.inl h)
  have ht := hT F' hF fun k x a h1 h2 h3 => (hF' a).mpr (.inr ⟨k, x, h1, h2, h3⟩)
  have hl : n ≤ α.length := by rw [I.len]; exact hn
  have tk : ∀ (j : Nat) (a : Addr), (α.take n)[j]? = some a → α[j]? = some a ∧ j < n := fun j a e => by
    have hj : j < (α.take n).length := (List.getElem?_eq_some_iff.mp e).1
    rw [List.length_take] at hj
    have hj' : j < n := by omega
    rw [List.getElem?_take_of_lt hj'] at e
    exact ⟨e, hj'⟩
  refine ⟨F', α.take n, fun i d e => by simp at e, rfl, fun q hq => (ht q hq).1.np (fun b h => h) (ht q hq).2, by show (α.take n).length = (s.M.take n).length; rw [List.length_take, List.length_take, I.len], fun j x a e1 e2 => ?_, I.nd.sublist (List.take_sublist _ _), fun a ha => I.dom a (List.mem_of_mem_take ha), fun a ha => I.inα a (List.mem_of_mem_take ha), fun b hb => ?_, fun b hb => ?_, fun j a e => ?_, I.keep, I.tups, I.frzs⟩
  · have e1 : (s.M.take n)[j]? = some (some x) := e1
    obtain ⟨e3, hj⟩ := tk j a e2
    have hx := cNp_get hc e1
    rw [List.getElem?_take_of_lt hj] at e1
    obtain ⟨rc, nF⟩ := I.cel j x a e1 e3
    refine ⟨rc.np hF hx, fun hf => ?_⟩
    rcases (hF' a).mp hf with hf | ⟨k, y, h1, h2, h3⟩
    · exact nF hf
    · have := (List.getElem?_inj (by omega) I.nd).mp (e3.trans h3.symm)
      omega
  · rcases (hF' b).mp hb with hb | ⟨k, y, h1, h2, h3⟩
    · exact I.domF b hb
    · exact I.dom b (List.mem_of_getElem? h3)
  · rcases (hF' b).mp hb with hb | ⟨k, y, h1, h2, h3⟩
    · exact I.inF b hb
    · rcases I.inα b (List.mem_of_getElem? h3) with z | z
      · exact .inl z
      · exact .inr (.inr z)
  · have hj : j < n := Nat.lt_of_lt_of_le (List.getElem?_eq_some_iff.mp e).1 hβ
    rw [List.getElem?_take_of_lt hj]
    exact I.pre j a e
end
end DL

/-! DlH: a def keeps its promise, by its body. -/
namespace DL
open PySem L2
open PySem.Spec PyProof.Rows

section
variable {K : PySem.W.Frag} {cl : Str → Addr} {H : Hp}
theorem zipT_rev {F : Addr → Prop} {α : List Addr} : ∀ {ds : List D} {vs : List V} {T : List (D × V)}, ds.length = vs.length → (∀ q ∈ zipT ds vs T, Rep K cl H F α q.1 q.2) → RepL K cl H F α ds vs
  | ds, vs, T, hl, h => SIx.repL (s := ⟨[], []⟩) hl fun i d v h1 h2 => h (d, v) (zipT_mem h1 h2)
/-- the state at a def's entry -/
theorem start_SI {F : Addr → Prop} {β : List Addr} {m : List C} {ds : List D} {vs : List V} {N : List Str} (hl : ds.length = vs.length) (J : SIx K cl ⟨H, β, F⟩ H [] ⟨[], m.map some⟩ (zipT ds vs []) F β) :
    SI K cl ⟨H, β, F⟩ H (start N vs) ⟨ds.map some ++ List.replicate (N.length - ds.length) none, m.map some⟩ [] := by
  have rl := zipT_rev hl J.tmp
  refine ⟨F, β, { J with env := fun i d e => ?_, el := ?_, tmp := fun q hq => by simp at hq }⟩
  · have e : (ds.map some ++ List.replicate (N.length - ds.length) none)[i]? = some (some d) := e
    have hi : i < ds.length := by
      by_cases hi : i < ds.length
      · exact hi
      · rw [List.getElem?_append_right (by simpa using hi), List.getElem?_replicate] at e
        split at e <;> cases e
    rw [List.getElem?_append_left (by simpa using hi), List.getElem?_map] at e
    obtain ⟨d', h1, h2⟩ := Option.map_eq_some_iff.mp e
    cases h2
    obtain ⟨v, h3, h4⟩ := rl.get h1
    refine ⟨v, ?_, h4⟩
    unfold L2.start
    rw [List.getElem?_append_left (by rw [List.length_map, ← hl]; exact hi), List.getElem?_map, h3]
    rfl
  · show (ds.map some ++ List.replicate (N.length - ds.length) none).length = (start N vs).length
    unfold L2.start
    rw [List.length_append, List.length_append, List.length_map, List.length_map, List.length_replicate, List.length_replicate, hl]
theorem okM_iff {n : Nat} {s : S} (h : okM n s = true) : n ≤ s.M.length ∧ cNp (s.M.take n) = true := by
  simpa only [okM, Bool.and_eq_true, decide_eq_true_eq] using h
/-- what the caller wants, as the body's end wants it -/
theorem body_want {W : XK} {F : Addr → Prop} {β : List Addr} {n : Nat} {o : Out Fl} {Q : VK} (hβ : β.length = n) (w : Want K cl (fun cls dx _ H' => W cls dx H') ⟨H, β, F⟩ [] [] (match fin n o with
    | .fail => .fail
    | .ok d s => .ok d ⟨[], s.M⟩
    | .exc n fs s => .exc n fs ⟨[], s.M⟩) Q) : WantS K cl (fun cls dx _ H' => W cls dx H') ⟨H, β, F⟩ [] o { nx := fun _ H' => Q .non H', rt := Q } := by
  cases o with
  | fail => exact w
  | exc c fs s =>
    simp only [fin] at w
    cases hc : (npF fs && okM n s) with
    | false => rw [hc] at w; exact w.elim
    | true =>
      rw [hc] at w
      obtain ⟨h1, h2⟩ := Bool.and_eq_true_iff.mp hc
      obtain ⟨h3, h4⟩ := okM_iff h2
      intro dx σ H' hdx I
      obtain ⟨G, α, J⟩ := I
      refine w dx H' hdx (SIx.leave J h3 (by rw [hβ]; exact Nat.le_refl _) (fun F' hF _ q hq => ?_) h4)
      rw [List.append_nil] at hq
      have hq' := J.tmp q (List.mem_append_left _ hq)
      cases dx with
      | none => simp [xt] at hq
      | some a =>
        have e : q = (.xd fs, .ref a) := List.mem_singleton.mp hq
        subst e
        have hn : np (.xd fs) = true := by simp only [np]; exact h1
        exact ⟨hq'.np hF hn, hn⟩
  | ok r s =>
    cases r with
    | brk => exact w.elim
    | ct => exact w.elim
    | nx =>
      simp only [fin] at w
      cases hc : okM n s with
      | false => rw [hc] at w; exact w.elim
      | true =>
        rw [hc] at w
        obtain ⟨h3, h4⟩ := okM_iff hc
        intro σ H' I
        obtain ⟨G, α, J⟩ := I
        refine w .non H' (SIx.leave J h3 (by rw [hβ]; exact Nat.le_refl _) (fun F' hF _ q hq => ?_) h4)
        rw [List.mem_singleton.mp hq]
        exact ⟨.non, rfl⟩
    | ret d =>
      simp only [fin] at w
      cases ho : outD n s d with
      | none => rw [ho] at w; exact w.elim
      | some d' =>
        rw [ho] at w
        dsimp only at w
        cases hc : okM n s with
        | false => rw [hc] at w; exact w.elim
        | true =>
          rw [hc] at w
          obtain ⟨h3, h4⟩ := okM_iff hc
          intro v σ H' I
          obtain ⟨G, α, J⟩ := I
          refine w v H' (SIx.leave J h3 (by rw [hβ]; exact Nat.le_refl _) (fun F' hF hcell q hq => ?_) h4)
          rw [List.mem_singleton.mp hq]
          have r := J.tmp (d, v) (List.mem_cons_self ..)
          rcases ptr_or d with ⟨k, rfl⟩ | hd
          · cases r with
            | ptr ha =>
              rename_i a
              simp only [outD] at ho
              by_cases hk : n ≤ k
              · rw [if_pos hk] at ho
                cases e : s.M[k]? with
                | none => rw [e] at ho; cases ho
                | some z =>
                  cases z with
                  | none => rw [e] at ho; cases ho
                  | some x =>
                    rw [e] at ho
                    dsimp only at ho
                    cases hx : x.np with
                    | false => rw [hx] at ho; cases ho
                    | true =>
                      rw [hx] at ho
                      cases ho
                      obtain ⟨rc, _⟩ := J.cel k x a e ha
                      refine ⟨(rc.np hF hx).rep (hcell k x a hk e ha), ?_⟩
                      cases x <;> first | exact hx | rfl
              · rw [if_neg hk] at ho; cases ho
          · have ho' : (if np d then some d else none) = some d' := by
              cases d <;> first | exact ho | exact absurd rfl (hd _)
            cases hn : np d with
            | false => rw [hn] at ho'; cases ho'
            | true =>
              rw [hn] at ho'
              cases ho'
              exact ⟨r.np hF hn, hn⟩
end
section
variable {P : Program} {w : World} {K : PySem.W.Frag} {mg : Str → Option Value} {base : Heap} {cl : Str → Addr}
theorem guards_deeper {A : Around} {env : Env} (h : A.guards = some []) : (A.deeper env).guards = some [] := h
/-- THE RULE -/
theorem fn_G {k : Nat} {f : Addr} {x qual : Str} {params : Arguments} {body : List Stmt} {scope : Scope} {dvs : List V} {kws : List (Str × V)} {fd : FuncData} {N ps : List Str} {g : M Fl} (F : FunD K x qual params body scope dvs kws f fd) (S : FnScope N ps scope)
    (hbody : ∀ (cdv : Value) (A : Around) (outer : List Env) (s : Shared) (H : Hp) (E : XK), Cok (cxOf (L2.CX P w) P w K mg base N qual scope f cdv A outer s H E) (fun cls dx _ H' => E cls dx H') k →
      DSs (cxOf (L2.CX P w) P w K mg base N qual scope f cdv A outer s H E) cl (fun cls dx _ H' => E cls dx H') body g) : FnG P w K mg base cl (k + 1) f fd ps (run N.length g) := by
  obtain ⟨oc, od, dV, kV, doc, pm, an, cdv, ct, osl, rfl, lk, hcd, _, _⟩ := F.ex
  refine ⟨fun A outer s H args us vs Q E hr hgd e0 hb r hl hsp => ?_⟩
  have KX : K.In s.heap := e0.mod.kin.keeps fun b o e => (e0.bs b o e).1
  have lim : s.heap.NoLimit := e0.mod.nolimit.keeps fun b o e => (e0.bs b o e).1
  have hkind : ∀ y ∈ ps.zip us, scope.names.lookup y.1 = some .local ∨ (scope.names.lookup y.1 = some .cell ∧ ((cellsFrom (s.heap.objs.size + 1) scope.names []).lookup y.1).isSome = true) := fun ⟨n, v⟩ hy =>
    (S.par n (List.of_mem_zip hy).1).elim .inl fun q => .inr ⟨q, PySem.W.cellsFrom_some _ _ _ (.inl q)⟩
  refine codeAny_call_function hr.depth (KX _ _ lk) rfl S.co S.gen rfl (PySem.W.codeRec_of KX hcd) (hb _ _ _ _ ?_)
  refine wpAny_newFunctionEnv_cells S.kind hkind fun env he s1 z => ?_
  subst he
  refine ⟨lim.keeps z.toInCall.keep, codeAny_func ?_⟩
  have cok : Cok (cxOf (L2.CX P w) P w K mg base N qual scope f cdv A outer s H E) (fun cls dx _ H' => E cls dx H') k :=
    ⟨takes_of rfl rfl rfl rfl, passes_of (X := cxOf (L2.CX P w) P w K mg base N qual scope f cdv A outer s H E) (K := fun e s'' => L2.CX P w outer H s E e s'') rfl, S.nd, rfl, hr.deeper _, guards_deeper hgd⟩
  obtain ⟨ts, pt, hq⟩ := hbody cdv A outer s H E cok
  have I : Inv (cxOf (L2.CX P w) P w K mg base N qual scope f cdv A outer s H E) [] (start N vs) H s1 := inv_start S hr.hd e0 hl r z
  obtain ⟨G, β, m, ds, hdl, J, wn⟩ := hsp
  have hβ : β.length = m.length := by
    have := J.len
    rw [this]; show (m.map some).length = m.length
    rw [List.length_map]
  have start_want := body_want hβ wn
  have main := hq ⟨H, β, G⟩ (start N vs) _ [] H { nx := fun _ H' => Q .non H', rt := Q } (start_SI hdl J) start_want
  refine wpAny_mono (pt.run [] s1 (start N vs) H _ I main) (fun fl s' hs => ?_) fun e s' hs => hs
  have ends : ∀ {σ' : L2.St} {H' : Hp} {v : V} {u : Value}, Inv (cxOf (L2.CX P w) P w K mg base N qual scope f cdv A outer s H E) [] σ' H' s' → RelV v u → Q v H' → CE outer P w H s Q u s' :=
    fun {σ' H' v u} J rv q => ⟨v, H', J.os, J.bare, J.base, J.hok, rv, q⟩
  cases fl with
  | ret u =>
    obtain ⟨v, σ', H', J, rv, q⟩ := hs
    exact ends J rv q
  | next =>
    obtain ⟨σ', H', J, q⟩ := hs
    exact ends (v := V.non) (u := Value.none) J rfl q
  | brk => exact hs.elim fun _ h => h.elim fun _ h => h.2.elim
  | cont => exact hs.elim fun _ h => h.elim fun _ h => h.2.elim
end
end DL

/-! DlI: what is walked; for, while, comprehensions. -/
namespace DL
open PySem L2
open PySem.Spec PyProof.Rows

section
variable {K : PySem.W.Frag} {cl : Str → Addr} {c : Cz} {H H' : Hp} {σ σ' : L2.St} {s s' : S} {T T' : List (D × V)} {F : Addr → Prop} {α : List Addr}
/-- a run within the run -/
theorem SIx.nest (I : SIx K cl c H σ s T F α) : SIx K cl ⟨H, α, F⟩ H σ s T F α :=
  { I with inα := fun a ha => .inl ha, inF := fun b hb => .inr (.inl hb), pre := fun _ _ e => e, keep := fun b o e _ => e, tups := fun _ _ e => e, frzs := fun _ _ _ e => e }
theorem SIx.unnest {F' : Addr → Prop} {α' : List Addr} (I : SIx K cl c H σ s T F α) (J : SIx K cl ⟨H, α, F⟩ H' σ' s' T' F' α') : SIx K cl c H' σ' s' T' F' α' := by
  have c0 : ∀ b, H b = none → b ∈ c.β ∨ c.H0 b = none := fun b hb => by
    cases q : c.H0 b with
    | none => exact .inr rfl
    | some u =>
      by_cases hm : b ∈ c.β
      · exact .inl hm
      · have := I.keep b u q hm
        rw [hb] at this; cases this
  refine { J with inα := fun a ha => ?_, inF := fun b hb => ?_, pre := fun k a e => J.pre k a (I.pre k a e), keep := fun b o e hb => J.keep b o (I.keep b o e hb) fun hm => ?_, tups := fun b xs e => J.tups b xs (I.tups b xs e), frzs := fun b o u e => J.frzs b o u (I.frzs b o u e) }
  · rcases J.inα a ha with z | z
    · exact I.inα a z
    · exact c0 a z
  · rcases J.inF b hb with z | z | z
    · rcases I.inα b z with w | w
      · exact .inl w
      · exact .inr (.inr w)
    · exact I.inF b z
    · rcases c0 b z with w | w
      · exact .inl w
      · exact .inr (.inr w)
  · rcases I.inα b hm with z | z
    · exact hb z
    · rw [z] at e; cases e
/-- the frame's names, kept aside -/
def pairs : List (Option D) → List (Option V) → List (D × V)
  | some d :: ds, some v :: vs => (d, v) :: pairs ds vs
  | _ :: ds, _ :: vs => pairs ds vs
  | _, _ => []
theorem pairs_mem : ∀ {ds : List (Option D)} {vs : List (Option V)} {i : Nat} {d : D} {v : V}, ds[i]? = some (some d) → vs[i]? = some (some v) → (d, v) ∈ pairs ds vs
  | [], _, i, d, v, h, _ => by simp at h
  | _ :: _, [], i, d, v, _, h => by simp at h
  | e :: ds, u :: vs, 0, d, v, h1, h2 => by
    simp at h1 h2; subst h1 h2
    exact List.mem_cons_self ..
  | none :: ds, u :: vs, i + 1, d, v, h1, h2 => by cases u <;> exact pairs_mem (ds := ds) (vs := vs) (by simpa using h1) (by simpa using h2)
  | some e :: ds, none :: vs, i + 1, d, v, h1, h2 => pairs_mem (ds := ds) (vs := vs) (by simpa using h1) (by simpa using h2)
  | some e :: ds, some u :: vs, i + 1, d, v, h1, h2 => List.mem_cons_of_mem _ (pairs_mem (ds := ds) (vs := vs) (by simpa using h1) (by simpa using h2))
theorem pairs_of : ∀ {ds : List (Option D)} {vs : List (Option V)} {q : D × V}, q ∈ pairs ds vs → ∃ i : Nat, ds[i]? = some (some q.1) ∧ vs[i]? = some (some q.2)
  | [], vs, q, h => by cases vs <;> simp [pairs] at h
  | e :: ds, [], q, h => by cases e <;> simp [pairs] at h
  | none :: ds, u :: vs, q, h => by
    have h' : q ∈ pairs ds vs := by cases u <;> exact h
    obtain ⟨i, h1, h2⟩ := pairs_of h'
    exact ⟨i + 1, by simpa using h1, by simpa using h2⟩
  | some e :: ds, none :: vs, q, h => by
    obtain ⟨i, h1, h2⟩ := pairs_of (ds := ds) (vs := vs) h
    exact ⟨i + 1, by simpa using h1, by simpa using h2⟩
  | some e :: ds, some u :: vs, q, h => by
    rcases List.mem_cons.mp h with rfl | h
    · exact ⟨0, rfl, rfl⟩
    · obtain ⟨i, h1, h2⟩ := pairs_of (ds := ds) (vs := vs) h
      exact ⟨i + 1, by simpa using h1, by simpa using h2⟩
theorem SIx.temps (I : SIx K cl c H σ s T F α) (h : ∀ q ∈ T', Rep K cl H F α q.1 q.2) : SIx K cl c H σ s T' F α := { I with tmp := h }
theorem SIx.save (I : SIx K cl c H σ s T F α) : SIx K cl c H σ s (pairs s.env σ ++ T) F α := by
  refine I.temps fun q hq => ?_
  rcases List.mem_append.mp hq with hq | hq
  · obtain ⟨i, h1, h2⟩ := pairs_of hq
    obtain ⟨v, h3, h4⟩ := I.env i q.1 h1
    rw [h2] at h3; cases h3
    exact h4
  · exact I.tmp q hq
/-- .. and taken up again: any frame whose names stand among the temps -/
theorem SIx.load {σ0 : L2.St} {env : List (Option D)} (I : SIx K cl c H σ s T F α) (hl : env.length = σ0.length) (h : ∀ (i : Nat) (d : D), env[i]? = some (some d) → ∃ v, σ0[i]? = some (some v) ∧ (d, v) ∈ T) : SIx K cl c H σ0 { s with env := env } T F α := by
  have he : ∀ (i : Nat) (d : D), env[i]? = some (some d) → ∃ v, σ0[i]? = some (some v) ∧ Rep K cl H F α d v := fun i d e => by
    obtain ⟨v, h1, h2⟩ := h i d e
    exact ⟨v, h1, I.tmp (d, v) h2⟩
  exact { I with env := he, el := hl }
end

/-! ### what is walked -/
/-- the iterator J hands out the items of the datum d, read through the cells; P: what it leans on -/
def Drv (K : PySem.W.Frag) (cl : Str → Addr) (J : It) (P : List (D × V)) (its : D → Option (List D)) (d : D) : Prop :=
  ∀ c H σ s T i ds, SI K cl c H σ s (P ++ T) → its (view s.M d) = some ds →
    (∀ e, ds[i]? = some e → J.go i H ∧ ∀ x H', J.yld i H x H' → SI K cl c H' σ s ((e, x) :: (P ++ T))) ∧ (ds.length ≤ i → J.stop i H)
def WantI (K : PySem.W.Frag) (cl : Str → Addr) (W : WX) (its : D → Option (List D)) (c : Cz) (σ : L2.St) (T : List (D × V)) (o : Out D) (R : It → Hp → Prop) : Prop := match o with
  | .fail => False
  | .ok d s => ∀ H J P, SI K cl c H σ s (P ++ T) → Drv K cl J P its d → R J H
  | .exc n fs s => ∀ dx H, (dx = none → fs = []) → SI K cl c H σ s (xt fs dx ++ T) → W (.ref (cl n)) dx σ H
/-- the iterable: f evaluates it; ok says that what came is walked by this rule -/
structure DI (X : Cx) (cl : Str → Addr) (W : WX) (tg iter : Expr) (f : M D) (its : D → Option (List D)) : Prop where
  ex : ∃ wi, PI X tg iter wi ∧ ∀ c σ s T H R, SI X.K cl c H σ s T → WantI X.K cl W its c σ T (f s) R → (∀ d s', f s = .ok d s' → (its (view s'.M d)).isSome = true) → wi σ H R
theorem PI.or {X : Cx} {tg iter : Expr} {w1 w2 : TI} (h1 : PI X tg iter w1) (h2 : PI X tg iter w2) : PI X tg iter (fun σ H R => w1 σ H R ∨ w2 σ H R) :=
  ⟨fun pins s σ H R I h => h.elim (h1.run pins s σ H R I) (h2.run pins s σ H R I)⟩
/-- a sequence's items, a text's signs -/
def itSeq : D → Option (List D)
  | .str z => some (z.cps.toList.map fun c => .str ⟨#[c]⟩)
  | d => seqD d
section
variable {X : Cx} {cl : Str → Addr} {W : WX} {tg : Expr}
theorem WantI.of {K : PySem.W.Frag} {its : D → Option (List D)} {c : Cz} {σ : L2.St} {T : List (D × V)} {o : Out D} {R : It → Hp → Prop} {Q : VK} (w : WantI K cl W its c σ T o R) (hk : ∀ d s, o = .ok d s → (∀ H J P, SI K cl c H σ s (P ++ T) → Drv K cl J P its d → R J H) → ∀ v H, SI K cl c H σ s ((d, v) :: T) → Q v H) : Want K cl W c σ T o Q := by
  cases o with
  | fail => exact w
  | ok d s => exact hk d s rfl w
  | exc n fs s => exact w
theorem view_tp {M : List (Option C)} {d : D} (h : tpD d = none) : tpD (view M d) = none := by
  cases d with
  | ptr k =>
    cases e : M[k]? with
    | none => simp only [view, e]; rfl
    | some o =>
      cases o with
      | none => simp only [view, e]; rfl
      | some x => simp only [view, e]; cases x <;> rfl
  | _ => exact h
theorem tp_view {M : List (Option C)} {d : D} {xs : List D} (h : tpD d = some xs) : tpD (view M d) = some xs := by
  cases d with
  | ptr k => cases h
  | _ => exact h
theorem view_str {M : List (Option C)} {d : D} {z : Str} (h : view M d = .str z) : d = .str z := by
  cases d with
  | ptr k =>
    exfalso
    cases e : M[k]? with
    | none => simp only [view, e] at h; cases h
    | some o =>
      cases o with
      | none => simp only [view, e] at h; cases h
      | some x => simp only [view, e] at h; cases x <;> cases h
  | _ => exact h
theorem Rep.seqL {K : PySem.W.Frag} {H : Hp} {F : Addr → Prop} {α : List Addr} {d : D} {v : V} {ds : List D} (r : Rep K cl H F α d v) (hd : tpD d = none) (e : seqD d = some ds) : ∃ a vs, v = .ref a ∧ SqL K H a vs ∧ RepL K cl H F α ds vs := by
  obtain ⟨a, vs, h1, h2, h3⟩ := r.seq e
  rcases h2 with h2 | h2
  · exact ⟨a, vs, h1, h2, h3⟩
  · cases r with
    | tup _ _ => cases hd
    | kt _ _ => cases hd
    | lst h _ r => simp [seqD] at e; subst e; exact ⟨_, _, rfl, SqL.of h, r⟩
    | slst h _ r => simp [seqD] at e; subst e; exact ⟨_, _, rfl, .inl h, r⟩
    | slstK h r => simp [seqD] at e; subst e; exact ⟨_, _, rfl, h H, r⟩
    | _ => simp [seqD] at e
theorem SIx.vSeqL {K : PySem.W.Frag} {c : Cz} {H : Hp} {σ : L2.St} {s : S} {T : List (D × V)} {F : Addr → Prop} {α : List Addr} {d : D} {v : V} {ds : List D} (h : SIx K cl c H σ s T F α) (r : Rep K cl H F α d v) (hd : tpD d = none) (e : seqD (DL.view s.M d) = some ds) : ∃ a vs, v = .ref a ∧ SqL K H a vs ∧ RepL K cl H F α ds vs := by
  rcases h.view r with r | ⟨k, x, a, _, rfl, _, _, e2, rc⟩
  · exact r.seqL (view_tp hd) e
  · rw [e2] at e
    cases x <;> simp [C.dat, seqD] at e <;> subst e
    obtain ⟨vs, h1, h2⟩ := rc
    exact ⟨a, vs, rfl, SqL.of h1, h2⟩
theorem itSeq_seq {d : D} {ds : List D} (hs : ∀ z, d ≠ .str z) (h : itSeq d = some ds) : seqD d = some ds := by
  cases d <;> first | exact h | exact absurd rfl (hs _)
/-- over range(n), range(a, b) -/
def itRng : D → Option (List D)
  | .tup [.int a, .int b] => some ((List.range (b - a).toNat).map fun i => .int (a + (i : Nat)))
  | _ => none
def rngOk (i : Int) : Bool := decide (-(2 ^ 62) ≤ i) && decide (i < 2 ^ 62)
def eRng1 (f : M (List D)) : M D := fun s => (f s).bind fun ds s => match ds with
  | [.int n] => if rngOk n then .ok (.tup [.int 0, .int n]) s else .fail
  | _ => .fail
def eRng2 (f : M (List D)) : M D := fun s => (f s).bind fun ds s => match ds with
  | [.int a, .int b] => if rngOk a && rngOk b then .ok (.tup [.int a, .int b]) s else .fail
  | _ => .fail
theorem drv_rng {K : PySem.W.Frag} {a b : Int} {n : Nat} (hn : n = (b - a).toNat) : Drv K cl (Itr a n) [] itRng (.tup [.int a, .int b]) := by
  intro c H σ s T i ds I e
  have e' : ds = (List.range (b - a).toNat).map fun i => D.int (a + (i : Nat)) := (Option.some.inj (show some _ = some ds from e)).symm
  subst e' hn
  refine ⟨fun g hg => ?_, fun hl => by rw [List.length_map, List.length_range] at hl; exact hl⟩
  rw [List.getElem?_map] at hg
  obtain ⟨j, h1, rfl⟩ := Option.map_eq_some_iff.mp hg
  obtain ⟨h2, h3⟩ := List.getElem?_eq_some_iff.mp h1
  rw [List.getElem_range] at h3
  subst h3
  refine ⟨by rw [List.length_range] at h2; exact h2, fun x H'' hy => ?_⟩
  obtain ⟨rfl, rfl⟩ := hy
  exact SI.flat rfl I
theorem WantI.bindA {K : PySem.W.Frag} {its : D → Option (List D)} {c : Cz} {σ : L2.St} {T : List (D × V)} {o : Out (List D)} {k : List D → S → Out D} {R : It → Hp → Prop} {Q : List V → Hp → Prop} (h : WantI K cl W its c σ T (o.bind k) R)
    (hk : ∀ ds s, o = .ok ds s → WantI K cl W its c σ T (k ds s) R → ∀ vs H, ds.length = vs.length → SI K cl c H σ s (zipT ds vs T) → Q vs H) : WantA K cl W c σ T o Q := by
  cases o with
  | fail => exact h
  | ok d s => exact hk d s rfl h
  | exc n fs s => exact h
theorem di_rng1 {a : Expr} {f : M (List D)} {p pos : Pos} (h : DA X cl W [a] f) (hm : X.mg "range" = none) (hg : Gl X "range" := by rfl) (hs : starEach [a] X.env = [(false, eval a X.env)] := by rfl) : DI X cl W tg (.Call (.Name "range" p) [a] [] pos) (eRng1 f) itRng := by
  obtain ⟨te, pe, q⟩ := h
  refine ⟨_, pi_range1 hg hm pe hs, fun c σ s T H R I w hsm => ?_⟩
  refine q c σ s T H _ I (w.bindA fun ds s1 hfs w1 vs H1 hl I1 => ?_)
  split at w1
  · rename_i n
    cases hc : rngOk n with
    | false => rw [hc] at w1; exact w1.elim
    | true =>
      rw [hc] at w1
      simp only [rngOk, Bool.and_eq_true, decide_eq_true_eq] at hc
      have w1 : ∀ H J P, SI X.K cl c H σ s1 (P ++ T) → Drv X.K cl J P itRng (.tup [.int 0, .int n]) → R J H := w1
      cases vs with
      | nil => simp at hl
      | cons v vs =>
        cases vs with
        | cons _ _ => simp at hl
        | nil =>
          have ev := rep_int (show SI X.K cl c H1 σ s1 ((.int n, v) :: T) from I1)
          subst ev
          exact ⟨n, rfl, hc.1, hc.2, w1 H1 _ [] (SI.pop (p := (.int n, .int n)) I1) (drv_rng (by simp))⟩
  · exact w1.elim
end
end DL

/-! DlJ: targets; for, while; comprehensions. -/
namespace DL
open PySem L2
open PySem.Spec PyProof.Rows

/-! ### targets -/
structure DG (X : Cx) (cl : Str → Addr) (tg : Expr) (is : List Nat) (g : D → S → Option S) : Prop where
  ex : ∃ t, PG X tg t ∧ ∀ c σ s T H d v Q s', SI X.K cl c H σ s ((d, v) :: T) → g d s = some s' → (∀ σ', (∀ vs : List Nat, (∀ i ∈ is, i ∈ vs) → wipe σ' vs = wipe σ vs) → SI X.K cl c H σ' s' T → Q σ' H) → t v σ H Q
structure DGs (X : Cx) (cl : Str → Addr) (tgs : List Expr) (n : Nat) (is : List Nat) (g : List D → S → Option S) : Prop where
  len : ∀ ds s s', g ds s = some s' → ds.length = n
  ex : ∃ t, PGs X tgs t ∧ ∀ c σ s T H ds vs Q s', (∃ F α, SIx X.K cl c H σ s T F α ∧ RepL X.K cl H F α ds vs) → g ds s = some s' → (∀ σ', (∀ vs : List Nat, (∀ i ∈ is, i ∈ vs) → wipe σ' vs = wipe σ vs) → SI X.K cl c H σ' s' T → Q σ' H) → t vs σ H Q
def gVar (i : Nat) (d : D) (s : S) : Option S := if i < s.env.length then some { s with env := s.env.set i (some d) } else none
def gNone : List D → S → Option S
  | [], s => some s
  | _, _ => none
def gMore (g : D → S → Option S) (h : List D → S → Option S) : List D → S → Option S
  | d :: ds, s => (g d s).bind (h ds)
  | [], _ => none
def gTupD (g : List D → S → Option S) : D → S → Option S
  | .tup ds, s => g ds s
  | .kt ds, s => g ds s
  | _, _ => none
theorem wipe_set {σ : L2.St} {i : Nat} {v : Option V} : ∀ {vs : List Nat}, i ∈ vs → wipe (σ.set i v) vs = wipe σ vs
  | [], h => by simp at h
  | j :: vs, h => by
    show (wipe (σ.set i v) vs).set j none = (wipe σ vs).set j none
    by_cases hv : i ∈ vs
    · rw [wipe_set hv]
    · have hj : i = j := (List.mem_cons.mp h).resolve_right hv
      subst hj
      have key : ∀ (ws : List Nat), i ∉ ws → wipe (σ.set i v) ws = (wipe σ ws).set i v := by
        intro ws
        induction ws with
        | nil => intro _; rfl
        | cons w ws ih =>
          intro hw
          show (wipe (σ.set i v) ws).set w none = ((wipe σ ws).set w none).set i v
          rw [ih fun q => hw (List.mem_cons_of_mem _ q), List.set_comm]
          exact fun q => hw (q ▸ List.mem_cons_self ..)
      rw [key vs hv, List.set_set]
section
variable {X : Cx} {cl : Str → Addr} {W : WX}
theorem dg_name {i : Nat} {x : Str} {pos : Pos} (hN : X.N.Nodup) (hi : X.N[i]? = some x) (hx : Loc X.env.scope x) (hf : X.fn x = true ∨ X.env.scope.names.lookup x = some .local := by first | exact .inl rfl | exact .inr rfl | assumption) : DG X cl (.Name x pos) [i] (gVar i) := by
  refine ⟨_, pg_name hN hi hx hf, fun c σ s T H d v Q s' I h k => ?_⟩
  unfold gVar at h
  by_cases hl : i < s.env.length
  · rw [if_pos hl] at h
    cases h
    exact k _ (fun vs hv => wipe_set (hv i (List.mem_cons_self ..))) (I.bind hl)
  · rw [if_neg hl] at h; cases h
theorem dgs_nil : DGs X cl [] 0 [] gNone := by
  refine ⟨fun ds s s' h => ?_, _, pgs_nil, fun c σ s T H ds vs Q s' ⟨F, α, I, r⟩ h k => ?_⟩
  · cases ds with
    | nil => rfl
    | cons _ _ => cases h
  cases r with
  | nil => cases h; exact ⟨rfl, k σ (fun _ _ => rfl) ⟨F, α, I⟩⟩
  | cons _ _ => cases h
theorem dgs_cons {e : Expr} {es : List Expr} {n : Nat} {is js : List Nat} {g : D → S → Option S} {h : List D → S → Option S} (h1 : DG X cl e is g) (h2 : DGs X cl es n js h) (hs : (assignEach (e :: es) X.env).map (·.2) = assign e X.env :: (assignEach es X.env).map (·.2) := by rfl) : DGs X cl (e :: es) (n + 1) (is ++ js) (gMore g h) := by
  obtain ⟨t, p, q⟩ := h1
  obtain ⟨hlen, t2, p2, q2⟩ := h2
  refine ⟨fun ds s s' hg => ?_, _, pgs_cons p p2 hs, fun c σ s T H ds vs Q s' ⟨F, α, I, r⟩ hg k => ?_⟩
  · cases ds with
    | nil => cases hg
    | cons d ds =>
      obtain ⟨s1, e1, e2⟩ := Option.bind_eq_some_iff.mp (show (g d s).bind (h ds) = some s' from hg)
      rw [List.length_cons, hlen _ _ _ e2]
  cases ds with
  | nil => cases hg
  | cons d ds =>
    cases vs with
    | nil => cases r
    | cons v vs =>
    cases r with
    | cons r1 r2 =>
    have hg' : (g d s).bind (h ds) = some s' := hg
    obtain ⟨s1, e1, e2⟩ := Option.bind_eq_some_iff.mp hg'
    refine ⟨v, vs, rfl, ?_⟩
    -- the rest's values are kept among the temps
    have I1 : SI X.K cl c H σ s ((d, v) :: zipT ds vs T) := by
      refine ⟨F, α, SIx.push ?_ r1⟩
      refine I.temps ?_
      have key : ∀ (ds : List D) (vs : List V), RepL X.K cl H F α ds vs → ∀ T : List (D × V), (∀ q ∈ T, Rep X.K cl H F α q.1 q.2) → ∀ q ∈ zipT ds vs T, Rep X.K cl H F α q.1 q.2 := by
        intro ds
        induction ds with
        | nil => intro vs r T h q hq; cases r; exact h q hq
        | cons d ds ih =>
          intro vs r T h q hq
          cases r with
          | cons r t => exact ih _ t _ (fun q hq => (List.mem_cons.mp hq).elim (fun e => by subst e; exact r) (h q)) q hq
      exact key ds vs r2 T I.tmp
    refine q c σ s _ H d v _ s1 I1 e1 fun σ1 hw I2 => ?_
    obtain ⟨F2, α2, J2⟩ := I2
    refine q2 c σ1 s1 T H ds vs Q s' ⟨F2, α2, J2.temps fun q hq => J2.tmp q (zipT_sub _ _ _ q hq), J2.args r2.length⟩ e2 fun σ2 hw2 I3 => ?_
    exact k σ2 (fun vs hv => (hw2 vs fun i hi => hv i (List.mem_append_right _ hi)).trans (hw vs fun i hi => hv i (List.mem_append_left _ hi))) I3
theorem dg_tup {es : List Expr} {k n : Nat} {pos : Pos} {is : List Nat} {g : List D → S → Option S} (hc : X.calm = true) (h : DGs X cl es n is g) (hn : (assignEach es X.env).length = n := by rfl) (hst : (assignEach es X.env).findIdx? (·.1) = none := by rfl) : DG X cl (.Tuple es k pos) is (gTupD g) := by
  obtain ⟨hlen, t, p, q⟩ := h
  refine ⟨_, pg_tup hc p hn hst, fun c σ s T H d v Q s' I hg kk => ?_⟩
  cases d with
  | tup ds =>
    obtain ⟨F, α, J⟩ := id I
    obtain ⟨a, vs, ev, h1, rl⟩ := J.vTup (J.tmp (.tup ds, v) (List.mem_cons_self ..)) rfl
    have ev : v = .ref a := ev
    have hg : g ds s = some s' := hg
    exact ⟨a, vs, ev, h1, by rw [← rl.length]; exact hlen _ _ _ hg, q c σ s T H ds vs Q s' ⟨F, α, J.temps fun q hq => J.tmp q (List.mem_cons_of_mem _ hq), rl⟩ hg kk⟩
  | kt ds =>
    obtain ⟨F, α, J⟩ := id I
    obtain ⟨a, vs, ev, h1, rl⟩ := J.vTp (J.tmp (.kt ds, v) (List.mem_cons_self ..)) (ds := ds) rfl
    have ev : v = .ref a := ev
    have hg : g ds s = some s' := hg
    exact ⟨a, vs, ev, h1, by rw [← rl.length]; exact hlen _ _ _ hg, q c σ s T H ds vs Q s' ⟨F, α, J.temps fun q hq => J.tmp q (List.mem_cons_of_mem _ hq), rl⟩ hg kk⟩
  | _ => cases hg

/-! ### for -/
/-- the walked cell is as it was -/
noncomputable def chkP (d : D) (M0 M1 : List (Option C)) : Bool := match d with
  | .ptr k => @decide (M1[k]? = M0[k]?) (Classical.propDecidable _)
  | _ => true
theorem chkP_view {d : D} {M0 M1 : List (Option C)} (h : chkP d M0 M1 = true) : view M1 d = view M0 d := by
  cases d with
  | ptr k =>
    have e : M1[k]? = M0[k]? := @of_decide_eq_true _ (Classical.propDecidable _) h
    unfold view
    dsimp only
    rw [e]
  | _ => rfl
noncomputable def forL (d : D) (M0 : List (Option C)) (g : D → S → Option S) (body els : M Fl) : List D → S → Out Fl
  | [], s => els s
  | x :: r, s => match g x s with
    | none => .fail
    | some s1 => match body s1 with
      | .fail => .fail
      | .exc n fs s2 => .exc n fs s2
      | .ok (.ret e) s2 => .ok (.ret e) s2
      | .ok .brk s2 => .ok .nx s2
      | .ok .nx s2 => if chkP d M0 s2.M = true then forL d M0 g body els r s2 else .fail
      | .ok .ct s2 => if chkP d M0 s2.M = true then forL d M0 g body els r s2 else .fail
noncomputable def sFor (f : M D) (its : D → Option (List D)) (g : D → S → Option S) (body els : M Fl) : M Fl := fun s => (f s).bind fun d s => match its (view s.M d) with
  | none => .fail
  | some ds => forL d s.M g body els ds s
theorem WantS.deeper {K : PySem.W.Frag} {c : Cz} {T T' : List (D × V)} {o : Out Fl} {E : Ends} (h : WantS K cl W c T o E) (hs : ∀ p ∈ T, p ∈ T') : WantS K cl W c T' o E := by
  cases o with
  | fail => exact h
  | exc n fs s => exact fun dx σ H e i => h dx σ H e (i.xt hs)
  | ok r s =>
    cases r with
    | nx => exact fun σ H i => h σ H (i.sub hs)
    | brk => exact fun σ H i => h σ H (i.sub hs)
    | ct => exact fun σ H i => h σ H (i.sub hs)
    | ret d => exact fun v σ H i => h v σ H (i.sub fun q hq => (List.mem_cons.mp hq).elim (fun e => e ▸ List.mem_cons_self ..) fun z => List.mem_cons_of_mem _ (hs q z))
/-- the loop's heart, for both rules -/
theorem for_core {tg : Expr} {is : List Nat} {g : D → S → Option S} {body els : M Fl} {its : D → Option (List D)} {t : TG} {tb te : TS} {K : PySem.W.Frag} {c : Cz} {T : List (D × V)} {E : Ends}
    (qg : ∀ c σ s T H d v Q s', SI K cl c H σ s ((d, v) :: T) → g d s = some s' → (∀ σ', (∀ vs : List Nat, (∀ i ∈ is, i ∈ vs) → wipe σ' vs = wipe σ vs) → SI K cl c H σ' s' T → Q σ' H) → t v σ H Q)
    (qb : ∀ c σ s T H E, SI K cl c H σ s T → WantS K cl W c T (body s) E → tb E σ H) (qe : ∀ c σ s T H E, SI K cl c H σ s T → WantS K cl W c T (els s) E → te E σ H)
    {d : D} {ds : List D} {s : S} {σ : L2.St} {H : Hp} {J : It} {P : List (D × V)} (I : SI K cl c H σ s (P ++ T)) (dr : Drv K cl J P its d) (e : its (view s.M d) = some ds) (w : WantS K cl W c T (forL d s.M g body els ds s) E) :
    ∃ Wm : Nat → Nat → L2.St → Hp → Prop, (∃ m, Wm 0 m σ H) ∧ ∀ i m σ H, Wm i m σ H →
      (J.stop i H ∧ te E σ H) ∨ (J.go i H ∧ ∃ N : L2.St → Hp → Prop, (∀ σ' H', N σ' H' → ∃ m', m' < m ∧ Wm (i + 1) m' σ' H') ∧ ∀ x H', J.yld i H x H' → t x σ H' fun σ2 H2 => tb { E with nx := N, ct := N, bk := E.nx } σ2 H2) := by
  obtain ⟨M0, hM0⟩ : ∃ M0, M0 = s.M := ⟨_, rfl⟩
  rw [← hM0] at w e
  have e0 : view s.M d = view M0 d := by rw [hM0]
  refine ⟨fun i m σ H => m = ds.length - i ∧ i ≤ ds.length ∧ ∃ s, SI K cl c H σ s (P ++ T) ∧ view s.M d = view M0 d ∧ WantS K cl W c T (forL d M0 g body els (ds.drop i) s) E, ⟨_, rfl, Nat.zero_le _, s, I, e0, w⟩, ?_⟩
  rintro i m σ H ⟨rfl, hi, s, I, ev, w⟩
  have e1 : its (view s.M d) = some ds := by rw [ev]; exact e
  have d1 := dr c H σ s T i ds I e1
  by_cases hlt : i < ds.length
  · obtain ⟨hgo, hy⟩ := d1.1 _ (List.getElem?_eq_getElem hlt)
    refine .inr ⟨hgo, fun σ' H' => i + 1 ≤ ds.length ∧ ∃ s, SI K cl c H' σ' s (P ++ T) ∧ view s.M d = view M0 d ∧ WantS K cl W c T (forL d M0 g body els (ds.drop (i + 1)) s) E, fun σ' H' h => ⟨ds.length - (i + 1), by omega, rfl, h.1, h.2⟩, fun x H' hx => ?_⟩
    have I1 := hy x H' hx
    rw [List.drop_eq_getElem_cons hlt] at w
    unfold forL at w
    cases hg : g ds[i] s with
    | none => rw [hg] at w; exact w.elim
    | some s1 =>
      rw [hg] at w
      dsimp only at w
      refine qg c σ s (P ++ T) H' _ x _ s1 I1 hg fun σ2 _ I2 => ?_
      refine qb c σ2 s1 (P ++ T) H' _ I2 ?_
      cases hb : body s1 with
      | fail => rw [hb] at w; exact w
      | exc n fs s2 => rw [hb] at w; exact w.deeper fun p hp => List.mem_append_right _ hp
      | ok r s2 =>
        rw [hb] at w
        cases r with
        | ret e => exact WantS.deeper (o := .ok (.ret e) s2) w fun p hp => List.mem_append_right _ hp
        | brk => exact fun σ3 H3 I3 => w σ3 H3 I3.app
        | nx =>
          dsimp only at w
          by_cases hc : chkP d M0 s2.M = true
          · rw [if_pos hc] at w
            exact fun σ3 H3 I3 => ⟨hlt, s2, I3, chkP_view hc, w⟩
          · rw [if_neg hc] at w; exact w.elim
        | ct =>
          dsimp only at w
          by_cases hc : chkP d M0 s2.M = true
          · rw [if_pos hc] at w
            exact fun σ3 H3 I3 => ⟨hlt, s2, I3, chkP_view hc, w⟩
          · rw [if_neg hc] at w; exact w.elim
  · have hi' : i = ds.length := by omega
    subst hi'
    rw [List.drop_length] at w
    exact .inl ⟨d1.2 (Nat.le_refl _), qe c σ s T H E I.app w⟩
theorem WantS.toI {K : PySem.W.Frag} {its : D → Option (List D)} {c : Cz} {σ : L2.St} {T : List (D × V)} {o : Out D} {k : D → S → Out Fl} {E : Ends} {R : It → Hp → Prop} (h : WantS K cl W c T (o.bind k) E)
    (hk : ∀ d s, o = .ok d s → WantS K cl W c T (k d s) E → ∀ H J P, SI K cl c H σ s (P ++ T) → Drv K cl J P its d → R J H) : WantI K cl W its c σ T o R := by
  cases o with
  | fail => exact h
  | ok d s => exact hk d s rfl h
  | exc n fs s => exact fun dx H e I => h dx σ H e I
theorem ds_for {tg iter : Expr} {body : List Stmt} {pos : Pos} {f : M D} {its : D → Option (List D)} {is : List Nat} {g : D → S → Option S} {fb : M Fl} {k : Nat} (hk : Cok X W k) (hi : DI X cl W tg iter f its) (hg : DG X cl tg is g) (hb : DSs X cl W body fb)
    (hs : ∀ x, foldedSetIterable iter X.env x = pure x := by intro _; rfl) : DS X cl W (.For tg iter body [] pos) (sFor f its g fb sNx) := by
  obtain ⟨wi, pi, qi⟩ := hi
  obtain ⟨t, pg, qg⟩ := hg
  obtain ⟨tb, pb, qb⟩ := hb
  refine ⟨_, ps_for hk.po hk.calm pi pg pb hs, fun c σ s T H E I w => ?_⟩
  refine qi c σ s T H _ I (WantS.toI w fun d s1 hf w1 H1 J P I1 dr => ?_) fun d s1 hf => ?_
  · cases e : its (view s1.M d) with
    | none => rw [e] at w1; exact w1.elim
    | some ds =>
      rw [e] at w1
      exact for_core (tg := tg) (te := fun E σ H => E.nx σ H) qg qb (fun c σ s T H E I w => (show WantS X.K cl W c T (.ok .nx s) E from w) σ H I) I1 dr e w1
  · have w' : WantS X.K cl W c T ((f s).bind fun d s => match its (view s.M d) with
      | none => .fail
      | some ds => forL d s.M g fb sNx ds s) E := w
    rw [hf] at w'
    cases e : its (view s1.M d) with
    | none =>
      have w' : WantS X.K cl W c T (match its (view s1.M d) with
        | none => .fail
        | some ds => forL d s1.M g fb sNx ds s1) E := w'
      rw [e] at w'; exact w'.elim
    | some ds => rfl
/-! ### while -/
def whileL (t : M Bool) (body : M Fl) : Nat → S → Out Fl
  | 0, _ => .fail
  | n + 1, s => (t s).bind fun b s => if b = true then (match body s with
    | .fail => .fail
    | .exc n fs s2 => .exc n fs s2
    | .ok (.ret e) s2 => .ok (.ret e) s2
    | .ok .brk s2 => .ok .nx s2
    | .ok .nx s2 => whileL t body n s2
    | .ok .ct s2 => whileL t body n s2) else .ok .nx s
end
end DL

/-! DlK: list comprehensions. -/
namespace DL
open PySem L2
open PySem.Spec PyProof.Rows

/-! ### the reading that a meaning has -/
def uE (K : PySem.W.Frag) (cl : Str → Addr) (W : WX) (f : M D) : TE := fun σ H Q => ∃ c s T, SI K cl c H σ s T ∧ Want K cl W c σ T (f s) Q
def uT (K : PySem.W.Frag) (cl : Str → Addr) (W : WX) (f : M Bool) : TT := fun σ H Q => ∃ c s T, SI K cl c H σ s T ∧ WantB K cl W c σ T (f s) Q
def uG (K : PySem.W.Frag) (cl : Str → Addr) (is : List Nat) (g : D → S → Option S) : TG := fun v σ H Q => ∃ c s T d s', SI K cl c H σ s ((d, v) :: T) ∧ g d s = some s' ∧ ∀ σ', (∀ vs : List Nat, (∀ i ∈ is, i ∈ vs) → wipe σ' vs = wipe σ vs) → SI K cl c H σ' s' T → Q σ' H
section
variable {X : Cx} {cl : Str → Addr} {W : WX}
theorem DE.pe {e : Expr} {f : M D} (h : DE X cl W e f) : PE X e (uE X.K cl W f) := by
  obtain ⟨te, p, q⟩ := h
  exact ⟨fun pins s σ H Q I ⟨c, s0, T, J, w⟩ => p.run pins s σ H Q I (q c σ s0 T H Q J w)⟩
theorem DT.pt {e : Expr} {f : M Bool} (h : DT X cl W e f) : PT X e (uT X.K cl W f) := by
  obtain ⟨te, p, q⟩ := h
  exact ⟨fun pins s σ H Q I ⟨c, s0, T, J, w⟩ => p.run pins s σ H Q I (q c σ s0 T H Q J w)⟩
theorem DG.pg {e : Expr} {is : List Nat} {g : D → S → Option S} (h : DG X cl e is g) : PG X e (uG X.K cl is g) := by
  obtain ⟨t, p, q⟩ := h
  exact ⟨fun pins s σ H v u Q I r ⟨c, s0, T, d, s', J, hg, k⟩ => p.run pins s σ H v u Q I r (q c σ s0 T H d v Q s' J hg k)⟩
structure DTs (X : Cx) (cl : Str → Addr) (W : WX) (ifs : List Expr) (f : M Bool) : Prop where
  pts : PTs X ifs (uT X.K cl W f)
def tYesM : M Bool := fun s => .ok true s
theorem dts_one {e : Expr} {f : M Bool} (h : DT X cl W e f) : DTs X cl W [e] f := ⟨pts_one h.pt⟩
end

section
variable {K : PySem.W.Frag} {cl : Str → Addr} {c : Cz} {H H' : Hp} {σ σ' : L2.St} {s s' : S} {T T' : List (D × V)} {F F' : Addr → Prop} {α α' : List Addr}
/-- an address beside the state: tracked, no cell, not frozen -/
structure Side (c : Cz) (H : Hp) (F : Addr → Prop) (α : List Addr) (a : Addr) (vs : List V) : Prop where
  at_ : H a = some (.lst vs)
  nα : a ∉ α
  nF : ¬ F a
  old : a ∈ c.β ∨ c.H0 a = none
theorem SIx.c0 (I : SIx K cl c H σ s T F α) {b : Addr} (hb : H b = none) : b ∈ c.β ∨ c.H0 b = none := by
  cases q : c.H0 b with
  | none => exact .inr rfl
  | some u =>
    by_cases hm : b ∈ c.β
    · exact .inl hm
    · have := I.keep b u q hm
      rw [hb] at this; cases this
/-- the heap changes at an address that the state does not know -/
theorem SIx.beside {a : Addr} {o : HO} (I : SIx K cl c H σ s T F α) (nα : a ∉ α) (nF : ¬ F a) (old : a ∈ c.β ∨ c.H0 a = none) (hn : H a = none ∨ ∃ vs, H a = some (.lst vs)) : SIx K cl c (upd H a o) σ s T F α := by
  have nt : ∀ u, H a = some u → (∀ xs, u ≠ .tup xs) ∧ ∀ o v, u ≠ .frz o v := fun u q => by
    rcases hn with e | ⟨vs, e⟩
    · rw [e] at q; cases q
    · rw [e] at q; cases q; exact ⟨fun _ z => (by cases z), fun _ _ z => (by cases z)⟩
  have E : Ext H F α (upd H a o) F α := ⟨fun b hb => upd_ne fun e => nF (e ▸ hb), fun _ h => h, fun b xs q => by
      rw [upd_ne]; exact q
      intro e; subst e; exact (nt _ q).1 _ rfl, fun b u xs q => by
      rw [upd_ne]; exact q
      intro e; subst e; exact (nt _ q).2 _ _ rfl, fun _ _ e => e⟩
  refine ⟨fun i d e => ?_, I.el, fun q hq => (I.tmp q hq).ext E, I.len, fun k x b e1 e2 => ?_, I.nd, fun b hb => ?_, I.inα, fun b hb => ?_, I.inF, I.pre, fun b u e1 e2 => ?_, fun b xs e => E.tups b xs (I.tups b xs e), fun b u xs e => E.frzs b u xs (I.frzs b u xs e)⟩
  · obtain ⟨v, h1, h2⟩ := I.env i d e
    exact ⟨v, h1, h2.ext E⟩
  · obtain ⟨h1, h2⟩ := I.cel k x b e1 e2
    exact ⟨E.repC h1 (upd_ne fun e => nα (e ▸ List.mem_of_getElem? e2)), h2⟩
  · obtain ⟨u, e⟩ := I.dom b hb
    exact ⟨u, (upd_ne fun q : b = a => nα (q ▸ hb)).trans e⟩
  · obtain ⟨u, e⟩ := I.domF b hb
    exact ⟨u, (upd_ne fun q : b = a => nF (q ▸ hb)).trans e⟩
  · rw [upd_ne]
    · exact I.keep b u e1 e2
    · intro e; subst e
      rcases old with z | z
      · exact e2 z
      · rw [z] at e1; cases e1
/-- behind a run within -/
theorem Side.after {a : Addr} {vs : List V} (S : Side c H F α a vs) (J : SIx K cl ⟨H, α, F⟩ H' σ' s' T' F' α') : Side c H' F' α' a vs :=
  ⟨J.keep a _ S.at_ S.nα, fun h => (J.inα a h).elim S.nα fun z : H a = none => (by rw [S.at_] at z; cases z), fun h => (J.inF a h).elim S.nα fun z => z.elim S.nF fun z : H a = none => (by rw [S.at_] at z; cases z), S.old⟩
/-- it becomes a frozen list | a cell -/
theorem SIx.adoptF {a : Addr} {vs : List V} {ds : List D} (I : SIx K cl c H σ s T F α) (S : Side c H F α a vs) (r : RepL K cl H F α ds vs) : SI K cl c H σ s ((.lst ds, .ref a) :: T) := by
  have E : Ext H F α H (fun b => F b ∨ b = a) α := ⟨fun _ _ => rfl, fun _ h => .inl h, fun _ _ h => h, fun _ _ _ h => h, fun _ _ h => h⟩
  refine ⟨fun b => F b ∨ b = a, α, SIx.push ⟨fun i d e => ?_, I.el, fun q hq => (I.tmp q hq).ext E, I.len, fun k x b e1 e2 => ?_, I.nd, I.dom, I.inα, fun b hb => ?_, fun b hb => ?_, I.pre, I.keep, I.tups, I.frzs⟩ (.lst S.at_ (.inr rfl) (r.ext E))⟩
  · obtain ⟨v, h1, h2⟩ := I.env i d e
    exact ⟨v, h1, h2.ext E⟩
  · obtain ⟨h1, h2⟩ := I.cel k x b e1 e2
    exact ⟨E.repC h1 rfl, fun z => z.elim h2 fun e => S.nα (e ▸ List.mem_of_getElem? e2)⟩
  · rcases hb with hb | rfl
    · exact I.domF b hb
    · exact ⟨_, S.at_⟩
  · rcases hb with hb | rfl
    · exact I.inF b hb
    · rcases S.old with z | z
      · exact .inl z
      · exact .inr (.inr z)
end

/-! ### the comprehension -/
def wipeE (env : List (Option D)) : List Nat → List (Option D)
  | [] => env
  | v :: vs => (wipeE env vs).set v none
theorem wipeE_len (env : List (Option D)) : ∀ vs : List Nat, (wipeE env vs).length = env.length
  | [] => rfl
  | v :: vs => by show ((wipeE env vs).set v none).length = _; rw [List.length_set, wipeE_len env vs]
theorem wipeE_some {env : List (Option D)} {i : Nat} {d : D} : ∀ {vs : List Nat}, (wipeE env vs)[i]? = some (some d) → env[i]? = some (some d) ∧ i ∉ vs
  | [], h => ⟨h, by simp⟩
  | v :: vs, h => by
    have h : ((wipeE env vs).set v none)[i]? = some (some d) := h
    by_cases hi : v = i
    · subst hi
      by_cases hl : v < (wipeE env vs).length
      · rw [List.getElem?_set_self hl] at h; cases h
      · rw [List.getElem?_eq_none (by rw [List.length_set]; omega)] at h; cases h
    · rw [List.getElem?_set_ne hi] at h
      obtain ⟨h1, h2⟩ := wipeE_some h
      exact ⟨h1, by simp only [List.mem_cons, not_or]; exact ⟨fun e => hi e.symm, h2⟩⟩
theorem wipe_at {σ : L2.St} {i : Nat} : ∀ {vs : List Nat}, i ∉ vs → (wipe σ vs)[i]? = σ[i]?
  | [], _ => rfl
  | v :: vs, h => by
    show ((wipe σ vs).set v none)[i]? = σ[i]?
    rw [List.getElem?_set_ne (fun e : v = i => h (e ▸ List.mem_cons_self ..)), wipe_at fun q => h (List.mem_cons_of_mem _ q)]
theorem wipe_wipe (σ : L2.St) (vs : List Nat) : wipe (wipe σ vs) vs = wipe σ vs := by
  refine List.ext_getElem? fun i => ?_
  by_cases hi : i ∈ vs
  · have key : ∀ (ws : List Nat) (τ : L2.St), i ∈ ws → (wipe τ ws)[i]? = if i < τ.length then some none else none := by
      intro ws
      induction ws with
      | nil => intro τ h; simp at h
      | cons w ws ih =>
        intro τ h
        show ((wipe τ ws).set w none)[i]? = _
        by_cases hw : w = i
        · subst hw
          by_cases hl : w < τ.length
          · rw [List.getElem?_set_self (by rw [wipe_length]; exact hl), if_pos hl]
          · rw [List.getElem?_eq_none (by rw [List.length_set, wipe_length]; omega), if_neg hl]
        · rw [List.getElem?_set_ne hw]
          exact ih τ ((List.mem_cons.mp h).resolve_left fun e => hw e.symm)
    rw [key vs _ hi, key vs _ hi, wipe_length]
  · rw [wipe_at hi]
noncomputable def lcL (d : D) (M0 : List (Option C)) (env0 : List (Option D)) (g : D → S → Option S) (tt : M Bool) (fe : M D) : List D → List D → List (Option C) → Out (List D)
  | [], acc, M => .ok acc ⟨env0, M⟩
  | x :: r, acc, M => match g x ⟨env0, M⟩ with
    | none => .fail
    | some s1 => match tt s1 with
      | .ok true s2 => (match fe s2 with
        | .ok e s3 => if chkP d M0 s3.M = true ∧ acc.length < 1000000 then lcL d M0 env0 g tt fe r (acc ++ [e]) s3.M else .fail
        | _ => .fail)
      | .ok false s2 => if chkP d M0 s2.M = true then lcL d M0 env0 g tt fe r acc s2.M else .fail
      | _ => .fail
noncomputable def eLc (f : M D) (its : D → Option (List D)) (g : D → S → Option S) (tt : M Bool) (fe : M D) (vs : List Nat) : M D := fun s => (f s).bind fun d s1 => match its (view s1.M d) with
  | none => .fail
  | some ds => (lcL d s1.M (wipeE s1.env vs) g tt fe ds [] s1.M).bind fun acc s2 => .ok (.lst acc) { s1 with M := s2.M }
/-- .. to a new cell -/
noncomputable def eLcC (f : M D) (its : D → Option (List D)) (g : D → S → Option S) (tt : M Bool) (fe : M D) (vs : List Nat) : M D := fun s => (f s).bind fun d s1 => match its (view s1.M d) with
  | none => .fail
  | some ds => (lcL d s1.M (wipeE s1.env vs) g tt fe ds [] s1.M).bind fun acc s2 => .ok (.ptr s2.M.length) { s1 with M := s2.M ++ [some (.lst acc)] }
theorem zipT_snoc : ∀ {ds : List D} {vs : List V} {T : List (D × V)} {e : D} {y : V} {q : D × V}, ds.length = vs.length → q ∈ zipT (ds ++ [e]) (vs ++ [y]) T → q = (e, y) ∨ q ∈ zipT ds vs T
  | [], [], T, e, y, q, _, h => by
    rcases List.mem_cons.mp (show q ∈ (e, y) :: T from h) with h | h
    · exact .inl h
    · exact .inr h
  | d :: ds, v :: vs, T, e, y, q, hl, h => zipT_snoc (ds := ds) (vs := vs) (T := (d, v) :: T) (by simpa using hl) h
  | [], _ :: _, _, _, _, _, hl, _ => by simp at hl
  | _ :: _, [], _, _, _, _, hl, _ => by simp at hl
/-- the comprehension's heart: R is what is wanted of the new list's address and the heap, from the list of data made and the cells -/
theorem lc_heart {K : PySem.W.Frag} {cl : Str → Addr} {c : Cz} {σ : L2.St} {T : List (D × V)} {is vs : List Nat} {g : D → S → Option S} {tt : M Bool} {fe : M D} {its : D → Option (List D)} {R : V → Hp → Prop} (his : ∀ i ∈ is, i ∈ vs)
    {d : D} {ds : List D} {s : S} {H : Hp} {J : It} {P : List (D × V)} {Dn : Addr} (I : SI K cl c H σ s (P ++ T)) (dr : Drv K cl J P its d) (e : its (view s.M d) = some ds) (hD : H Dn = none)
    (hne : lcL d s.M (wipeE s.env vs) g tt fe ds [] s.M ≠ .fail)
    (w : ∀ acc s2, lcL d s.M (wipeE s.env vs) g tt fe ds [] s.M = .ok acc s2 → ∀ (H' : Hp) (F : Addr → Prop) (α : List Addr) (vl : List V), SIx K cl c H' σ { s with M := s2.M } T F α → Side c H' F α Dn vl → RepL K cl H' F α acc vl → R (.ref Dn) H') :
    ∃ Wm : Nat → Nat → Hp → Prop, (∃ m, Wm 0 m (upd H Dn (.lst []))) ∧ ∀ i m H, Wm i m H →
      (J.stop i H ∧ R (.ref Dn) H) ∨ (J.go i H ∧ ∃ Nx : Hp → Prop, (∀ H', Nx H' → ∃ m', m' < m ∧ Wm (i + 1) m' H') ∧ ∀ x H', J.yld i H x H' → uG K cl is g x (wipe σ vs) H' fun σ2 H2 => wipe σ2 vs = wipe σ vs ∧ uT K cl (fun _ _ _ _ => False) tt σ2 H2 fun b H3 =>
        if b = true then uE K cl (fun _ _ _ _ => False) fe σ2 H3 fun y H4 => ∃ acc, H4 Dn = some (.lst acc) ∧ acc.length < sizeLine ∧ Nx (upd H4 Dn (.lst (acc ++ [y]))) else Nx H3) := by
  obtain ⟨M0, hM0⟩ : ∃ M0, M0 = s.M := ⟨_, rfl⟩
  obtain ⟨res, hres⟩ : ∃ res, res = lcL d s.M (wipeE s.env vs) g tt fe ds [] s.M := ⟨_, rfl⟩
  rw [← hres] at hne w
  rw [← hM0] at hres e
  have e0 : view s.M d = view M0 d := by rw [hM0]
  -- the frame's names among the temps
  obtain ⟨L, hL⟩ : ∃ L, L = pairs s.env σ := ⟨_, rfl⟩
  obtain ⟨F0, α0, I0⟩ := I
  have hel := I0.el
  have lookL : ∀ (i : Nat) (d : D), s.env[i]? = some (some d) → ∃ v, σ[i]? = some (some v) ∧ (d, v) ∈ L := fun i d h => by
    obtain ⟨v, h1, _⟩ := I0.env i d h
    exact ⟨v, h1, by rw [hL]; exact pairs_mem h h1⟩
  have lookW : ∀ (i : Nat) (d : D), (wipeE s.env vs)[i]? = some (some d) → ∃ v, (wipe σ vs)[i]? = some (some v) ∧ (d, v) ∈ L := fun i d h => by
    obtain ⟨h1, h2⟩ := wipeE_some h
    obtain ⟨v, h3, h4⟩ := lookL i d h1
    exact ⟨v, by rw [wipe_at h2]; exact h3, h4⟩
  have lenW : (wipeE s.env vs).length = (wipe σ vs).length := by rw [wipeE_len, wipe_length]; exact hel
  let Inv' : Nat → Hp → Prop := fun i H => ∃ (M : List (Option C)) (aD : List D) (aV : List V) (F : Addr → Prop) (α : List Addr), SIx K cl c H (wipe σ vs) ⟨wipeE s.env vs, M⟩ (P ++ zipT aD aV (L ++ T)) F α ∧ aD.length = aV.length ∧ Side c H F α Dn aV ∧
    view M d = view M0 d ∧ lcL d M0 (wipeE s.env vs) g tt fe (ds.drop i) aD M = res
  have hstart : Inv' 0 (upd H Dn (.lst [])) := by
    have old := I0.c0 hD
    have nα : Dn ∉ α0 := fun h => by
      obtain ⟨o, q⟩ := I0.dom Dn h
      rw [hD] at q; cases q
    have nF : ¬ F0 Dn := fun h => by
      obtain ⟨o, q⟩ := I0.domF Dn h
      rw [hD] at q; cases q
    have I1 : SIx K cl c (upd H Dn (.lst [])) σ s (pairs s.env σ ++ (P ++ T)) F0 α0 := (I0.save).beside nα nF old (.inl hD)
    have I2 : SIx K cl c (upd H Dn (.lst [])) σ s (P ++ (L ++ T)) F0 α0 := I1.temps fun q hq => I1.tmp q (by
      rw [← hL]
      rcases List.mem_append.mp hq with h | h
      · exact List.mem_append_right _ (List.mem_append_left _ h)
      · rcases List.mem_append.mp h with h | h
        · exact List.mem_append_left _ h
        · exact List.mem_append_right _ (List.mem_append_right _ h))
    have I3 := I2.load lenW fun i d h => by
      obtain ⟨v, h1, h2⟩ := lookW i d h
      exact ⟨v, h1, List.mem_append_right _ (List.mem_append_left _ h2)⟩
    exact ⟨s.M, [], [], F0, α0, I3, rfl, ⟨upd_same, nα, nF, old⟩, e0, by rw [hres, ← hM0]; rfl⟩
  refine ⟨fun i m H => m = ds.length - i ∧ i ≤ ds.length ∧ Inv' i H, ⟨_, rfl, Nat.zero_le _, hstart⟩, ?_⟩
  rintro i m H ⟨rfl, hi, M, aD, aV, F, α, I, hal, SD, ev, hw⟩
  have e1 : its (view M d) = some ds := by rw [ev]; exact e
  by_cases hlt : i < ds.length
  · -- a turn: within the run that begins here
    have In := I.nest
    have d1 := dr ⟨H, α, F⟩ H (wipe σ vs) ⟨wipeE s.env vs, M⟩ (zipT aD aV (L ++ T)) i ds ⟨F, α, In⟩ e1
    obtain ⟨hgo, hy⟩ := d1.1 _ (List.getElem?_eq_getElem hlt)
    refine .inr ⟨hgo, fun H' => i + 1 ≤ ds.length ∧ Inv' (i + 1) H', fun H' h => ⟨ds.length - (i + 1), by omega, rfl, h.1, h.2⟩, fun x H' hx => ?_⟩
    have I1 := hy x H' hx
    rw [List.drop_eq_getElem_cons hlt] at hw
    unfold lcL at hw
    cases hg : g ds[i] ⟨wipeE s.env vs, M⟩ with
    | none => rw [hg] at hw; exact absurd hw.symm hne
    | some s1 =>
      rw [hg] at hw
      dsimp only at hw
      refine ⟨⟨H, α, F⟩, ⟨wipeE s.env vs, M⟩, _, ds[i], s1, I1, hg, fun σ2 hσ2 I2 => ⟨(hσ2 vs his).trans (wipe_wipe σ vs), ?_⟩⟩
      refine ⟨⟨H, α, F⟩, s1, _, I2, ?_⟩
      cases ht : tt s1 with
      | fail => rw [ht] at hw; exact absurd hw.symm hne
      | exc n fs s2 => rw [ht] at hw; exact absurd hw.symm hne
      | ok b s2 =>
        rw [ht] at hw
        intro H3 I3
        cases b with
        | false =>
          dsimp only at hw
          by_cases hc : chkP d M0 s2.M = true
          · rw [if_pos hc] at hw
            refine iteF ⟨hlt, ?_⟩
            obtain ⟨F', α', J3⟩ := I3
            have J4 := (I.unnest J3).load lenW fun i d h => by
              obtain ⟨v, h1, h2⟩ := lookW i d h
              exact ⟨v, h1, List.mem_append_right _ (zipT_sub _ _ _ _ (List.mem_append_left _ h2))⟩
            exact ⟨s2.M, aD, aV, F', α', J4, hal, SD.after J3, chkP_view hc, hw⟩
          · rw [if_neg hc] at hw; exact absurd hw.symm hne
        | true =>
          dsimp only at hw
          refine iteT ⟨⟨H, α, F⟩, s2, _, I3, ?_⟩
          cases hf : fe s2 with
          | fail => rw [hf] at hw; exact absurd hw.symm hne
          | exc n fs s3 => rw [hf] at hw; exact absurd hw.symm hne
          | ok y s3 =>
            rw [hf] at hw
            dsimp only at hw
            by_cases hc : chkP d M0 s3.M = true ∧ aD.length < 1000000
            · rw [if_pos hc] at hw
              intro v H4 I4
              obtain ⟨F', α', J4⟩ := I4
              have SD' := SD.after J4
              refine ⟨aV, SD'.at_, by rw [← hal]; exact Nat.lt_of_lt_of_le hc.2 (line1m (Nat.le_refl _)), hlt, ?_⟩
              have K4 := (I.unnest J4).beside (o := .lst (aV ++ [v])) SD'.nα SD'.nF SD'.old (.inr ⟨_, SD'.at_⟩)
              have K5 := K4.load lenW fun i d h => by
                obtain ⟨u, h1, h2⟩ := lookW i d h
                exact ⟨u, h1, List.mem_cons_of_mem _ (List.mem_append_right _ (zipT_sub _ _ _ _ (List.mem_append_left _ h2)))⟩
              refine ⟨s3.M, aD ++ [y], aV ++ [v], F', α', K5.temps fun q hq => K5.tmp q ?_, by rw [List.length_append, List.length_append, hal]; rfl, ⟨upd_same, SD'.nα, SD'.nF, SD'.old⟩, chkP_view hc.1, hw⟩
              rcases List.mem_append.mp hq with h | h
              · exact List.mem_cons_of_mem _ (List.mem_append_left _ h)
              · rcases zipT_snoc hal h with h | h
                · exact h ▸ List.mem_cons_self ..
                · exact List.mem_cons_of_mem _ (List.mem_append_right _ h)
            · rw [if_neg hc] at hw; exact absurd hw.symm hne
  · have hi' : i = ds.length := by omega
    subst hi'
    have d1 := dr c H (wipe σ vs) ⟨wipeE s.env vs, M⟩ (zipT aD aV (L ++ T)) ds.length ds ⟨F, α, I⟩ e1
    refine .inl ⟨d1.2 (Nat.le_refl _), ?_⟩
    rw [List.drop_length] at hw
    have I5 := I.load (σ0 := σ) (env := s.env) hel fun i d h => by
      obtain ⟨v, h1, h2⟩ := lookL i d h
      exact ⟨v, h1, List.mem_append_right _ (zipT_sub _ _ _ _ (List.mem_append_left _ h2))⟩
    have rl : RepL K cl H F α aD aV := SIx.repL (s := s) hal fun j d v h1 h2 => I.tmp (d, v) (List.mem_append_right _ (zipT_mem h1 h2))
    exact w aD ⟨wipeE s.env vs, M⟩ hw.symm H F α aV (I5.temps fun q hq => I5.tmp q (List.mem_append_right _ (zipT_sub _ _ _ _ (List.mem_append_right _ hq)))) SD rl
section
variable {X : Cx} {cl : Str → Addr} {W : WX}
theorem Want.toI {K : PySem.W.Frag} {its : D → Option (List D)} {c : Cz} {σ : L2.St} {T : List (D × V)} {o : Out D} {k : D → S → Out D} {Q : VK} {R : It → Hp → Prop} (h : Want K cl W c σ T (o.bind k) Q)
    (hk : ∀ d s, o = .ok d s → Want K cl W c σ T (k d s) Q → ∀ H J P, SI K cl c H σ s (P ++ T) → Drv K cl J P its d → R J H) : WantI K cl W its c σ T o R := by
  cases o with
  | fail => exact h
  | ok d s => exact hk d s rfl h
  | exc n fs s => exact h
/-- a comprehension's parts, in the block's own context -/
structure Blk (X : Cx) (cl : Str → Addr) (scope : Scope) (tg : Expr) (ifs : List Expr) (elt : Expr) (is : List Nat) (g : D → S → Option S) (tt : M Bool) (fe : M D) : Prop where
  g_ : ∀ (s : Shared) (H : Hp) (C : Addr) (cc : List (Str × Addr)) (fp : List Addr), DG (X.blk s H scope (compEnvC scope cc C X.env) fp) cl tg is g
  t_ : ∀ (s : Shared) (H : Hp) (C : Addr) (cc : List (Str × Addr)) (fp : List Addr), DTs (X.blk s H scope (compEnvC scope cc C X.env) fp) cl (fun _ _ _ _ => False) ifs tt
  e_ : ∀ (s : Shared) (H : Hp) (C : Addr) (cc : List (Str × Addr)) (fp : List Addr), DE (X.blk s H scope (compEnvC scope cc C X.env) fp) cl (fun _ _ _ _ => False) elt fe
theorem de_lc {elt tg iter : Expr} {ifs : List Expr} {scope : Scope} {own : List (Str × Nat)} {pos : Pos} {f : M D} {its : D → Option (List D)} {is : List Nat} {g : D → S → Option S} {tt : M Bool} {fe : M D} {k : Nat} (hk : Cok X W k) (hi : DI X cl W tg iter f its) (ok : BlkOk X.N X.env.scope scope own)
    (hb : Blk X cl scope tg ifs elt is g tt fe) (his : ∀ i ∈ is, i ∈ own.map (·.2) := by decide) (hs : ∀ x, foldedSetIterable iter X.env x = pure x := by intro _; rfl) :
    DE X cl W (.ListComp elt [⟨tg, iter, ifs, 0⟩] scope pos) (eLc f its g tt fe (own.map (·.2))) := by
  obtain ⟨wi, pi, qi⟩ := hi
  refine ⟨_, pe_lc (g := uG X.K cl is g) (tt := uT X.K cl (fun _ _ _ _ => False) tt) (te := uE X.K cl (fun _ _ _ _ => False) fe) hk.calm hk.nd pi ok (fun s H C cc fp => (hb.g_ s H C cc fp).pg) (fun s H C cc fp => (hb.t_ s H C cc fp).pts) (fun s H C cc fp => (hb.e_ s H C cc fp).pe) hs, fun c σ s T H Q I w => ?_⟩
  have w' : Want X.K cl W c σ T ((f s).bind fun d s1 => match its (view s1.M d) with
    | none => .fail
    | some ds => (lcL d s1.M (wipeE s1.env (own.map (·.2))) g tt fe ds [] s1.M).bind fun acc s2 => .ok (.lst acc) { s1 with M := s2.M }) Q := w
  refine qi c σ s T H _ I (Want.toI w' fun d s1 hf w1 H1 J P I1 dr Dn hD => ?_) fun d s1 hf => ?_
  · cases e : its (view s1.M d) with
    | none => rw [e] at w1; exact w1.elim
    | some ds =>
      rw [e] at w1
      dsimp only at w1
      refine lc_heart his I1 dr e hD (fun h => by rw [h] at w1; exact w1.elim) fun acc s2 h H' F α vl I' SD r => ?_
      rw [h] at w1
      exact w1 _ H' (I'.adoptF SD r)
  · rw [hf] at w'
    cases e : its (view s1.M d) with
    | none =>
      have w' : Want X.K cl W c σ T (match its (view s1.M d) with
        | none => .fail
        | some ds => (lcL d s1.M (wipeE s1.env (own.map (·.2))) g tt fe ds [] s1.M).bind fun acc s2 => .ok (.lst acc) { s1 with M := s2.M }) Q := w'
      rw [e] at w'; exact w'.elim
    | some ds => rfl
end
end DL

/-! DlL: built-in functions and types called; methods; subscripts. -/
namespace DL
open PySem L2
open PySem.Spec PyProof.Rows

theorem SIx.t1i {K : PySem.W.Frag} {cl : Str → Addr} {c : Cz} {H : Hp} {σ : L2.St} {s : S} {T : List (D × V)} {F : Addr → Prop} {α : List Addr} {d : D} {v : V} {i : Int} (J : SIx K cl c H σ s ((d, v) :: T) F α) (h : DL.view s.M d = .int i) : v = .int i := J.vInt (J.tmp (d, v) (List.mem_cons_self ..)) h
theorem SIx.t1b {K : PySem.W.Frag} {cl : Str → Addr} {c : Cz} {H : Hp} {σ : L2.St} {s : S} {T : List (D × V)} {F : Addr → Prop} {α : List Addr} {d : D} {v : V} {i : Bool} (J : SIx K cl c H σ s ((d, v) :: T) F α) (h : DL.view s.M d = .bl i) : v = .bl i := J.vBl (J.tmp (d, v) (List.mem_cons_self ..)) h
theorem SIx.t2i {K : PySem.W.Frag} {cl : Str → Addr} {c : Cz} {H : Hp} {σ : L2.St} {s : S} {T : List (D × V)} {F : Addr → Prop} {α : List Addr} {e d : D} {u v : V} {i : Int} (J : SIx K cl c H σ s ((e, u) :: (d, v) :: T) F α) (h : DL.view s.M d = .int i) : v = .int i := J.vInt (J.tmp (d, v) (List.mem_cons_of_mem _ (List.mem_cons_self ..))) h
theorem SIx.t2s {K : PySem.W.Frag} {cl : Str → Addr} {c : Cz} {H : Hp} {σ : L2.St} {s : S} {T : List (D × V)} {F : Addr → Prop} {α : List Addr} {e d : D} {u v : V} {i : Str} (J : SIx K cl c H σ s ((e, u) :: (d, v) :: T) F α) (h : DL.view s.M d = .str i) : v = .str i := J.vStr (J.tmp (d, v) (List.mem_cons_of_mem _ (List.mem_cons_self ..))) h

structure CD (X : Cx) (cl : Str → Addr) (f : Value) (g : List D → Option D) : Prop where
  ex : ∃ r, CallR X f r ∧ ∀ c σ s T H ds vs z Q, ds.length = vs.length → SI X.K cl c H σ s (zipT ds vs T) → g (ds.map (view s.M)) = some z → (∀ v H', SI X.K cl c H' σ s ((z, v) :: zipT ds vs T) → Q v H') → r vs H Q
/-- .. that makes a list, to be a cell -/
structure CDC (X : Cx) (cl : Str → Addr) (f : Value) (g : List D → Option (List D)) : Prop where
  ex : ∃ r, CallR X f r ∧ ∀ c σ s T H ds vs z Q, ds.length = vs.length → SI X.K cl c H σ s (zipT ds vs T) → g (ds.map (view s.M)) = some z → (∀ v H', SI X.K cl c H' σ { s with M := s.M ++ [some (.lst z)] } ((.ptr s.M.length, v) :: zipT ds vs T) → Q v H') → r vs H Q
def eCB (g : List D → Option D) (f : M (List D)) : M D := fun s => (f s).bind fun ds s => oOf (g (ds.map (view s.M))) s
def eCBC (g : List D → Option (List D)) (f : M (List D)) : M D := fun s => (f s).bind fun ds s => match g (ds.map (view s.M)) with
  | some xs => .ok (.ptr s.M.length) { s with M := s.M ++ [some (.lst xs)] }
  | none => .fail
def orC (g h : List D → Option D) : List D → Option D := fun a => match g a with
  | some z => some z
  | none => h a
section
variable {X : Cx} {cl : Str → Addr} {W : WX} {f : Value} {g h : List D → Option D}
theorem CD.or (a : CD X cl f g) (b : CD X cl f h) : CD X cl f (orC g h) := by
  obtain ⟨r, hr, q⟩ := a
  obtain ⟨r', hr', q'⟩ := b
  refine ⟨_, hr.or hr', fun c σ s T H ds vs z Q hl I hz k => ?_⟩
  unfold orC at hz
  split at hz
  · rename_i z' e1
    cases hz
    exact .inl (q c σ s T H ds vs z Q hl I e1 k)
  · exact .inr (q' c σ s T H ds vs z Q hl I hz k)
theorem de_callB {x : Str} {id : String} {e : Expr} {es : List Expr} {fa : M (List D)} {p pos : Pos} (hc : CD X cl (.builtin id) g) (hm : X.mg x = none) (ha : DA X cl W (e :: es) fa) (hv : bootBuiltins x = some (.builtin id) := by decide +kernel) (hg : Gl X x := by rfl) (hn : x ≠ "__name__" := by decide) (hdb : (x == ("__debug__" : Str)) = false := by decide)
    (he : starEach (e :: es) X.env = (false, eval e X.env) :: starEach es X.env := by rfl) (hpl : (backTo pos (starEach es X.env)).any (·.1) = false := by rfl) : DE X cl W (.Call (.Name x p) (e :: es) [] pos) (eCB g fa) := by
  obtain ⟨ta, pa, qa⟩ := ha
  obtain ⟨r, hr, q⟩ := hc
  refine ⟨_, pe_callB hr hg hm hv pa hn hdb he hpl, fun c σ s T H Q I w => ?_⟩
  refine qa c σ s T H _ I (w.bindA fun ds s1 hfs w1 vs H1 hl I1 => ?_)
  unfold oOf at w1
  split at w1
  · rename_i z hz
    exact q c σ s1 T H1 ds vs z Q hl I1 hz fun v H' I' => w1 v H' I'.unzip
  · exact w1.elim
theorem de_callT {x : Str} {ty : String} {e : Expr} {es : List Expr} {fa : M (List D)} {p pos : Pos} (hc : CD X cl (.type ty) g) (hm : X.mg x = none) (ha : DA X cl W (e :: es) fa) (hv : bootBuiltins x = some (.type ty) := by decide +kernel) (hg : Gl X x := by rfl) (hn : x ≠ "__name__" := by decide) (hdb : (x == ("__debug__" : Str)) = false := by decide)
    (he : starEach (e :: es) X.env = (false, eval e X.env) :: starEach es X.env := by rfl) (hpl : (backTo pos (starEach es X.env)).any (·.1) = false := by rfl) : DE X cl W (.Call (.Name x p) (e :: es) [] pos) (eCB g fa) := by
  obtain ⟨ta, pa, qa⟩ := ha
  obtain ⟨r, hr, q⟩ := hc
  refine ⟨_, pe_callTy hr hg hm hv pa hn hdb he hpl, fun c σ s T H Q I w => ?_⟩
  refine qa c σ s T H _ I (w.bindA fun ds s1 hfs w1 vs H1 hl I1 => ?_)
  unfold oOf at w1
  split at w1
  · rename_i z hz
    exact q c σ s1 T H1 ds vs z Q hl I1 hz fun v H' I' => w1 v H' I'.unzip
  · exact w1.elim
/-! one argument -/
def g1 (g : D → Option D) : List D → Option D
  | [d] => g d
  | _ => none
def g2 (g : D → D → Option D) : List D → Option D
  | [d, e] => g d e
  | _ => none
theorem CD.one {g : D → Option D} {r : List V → Hp → VK → Prop} (hr : CallR X f r) (q : ∀ c σ s T H F α d v z Q, SIx X.K cl c H σ s ((d, v) :: T) F α → g (view s.M d) = some z → (∀ v' H', SI X.K cl c H' σ s ((z, v') :: (d, v) :: T) → Q v' H') → r [v] H Q) : CD X cl f (g1 g) := by
  refine ⟨r, hr, fun c σ s T H ds vs z Q hl I hz k => ?_⟩
  match ds, vs, hl with
  | [e], [v], _ =>
    obtain ⟨F, α, J⟩ := id I
    exact q c σ s T H F α e v z Q J hz k
  | [], [], _ => cases hz
  | _ :: _ :: _, _, _ => cases hz
theorem CD.two {g : D → D → Option D} {r : List V → Hp → VK → Prop} (hr : CallR X f r) (q : ∀ c σ s T H F α d v e u z Q, SIx X.K cl c H σ s ((e, u) :: (d, v) :: T) F α → g (view s.M d) (view s.M e) = some z → (∀ v' H', SI X.K cl c H' σ s ((z, v') :: (e, u) :: (d, v) :: T) → Q v' H') → r [v, u] H Q) : CD X cl f (g2 g) := by
  refine ⟨r, hr, fun c σ s T H ds vs z Q hl I hz k => ?_⟩
  match ds, vs, hl with
  | [d, e], [v, u], _ =>
    obtain ⟨F, α, J⟩ := id I
    exact q c σ s T H F α d v e u z Q J hz k
  | [], [], _ => cases hz
  | [_], [_], _ => cases hz
  | _ :: _ :: _ :: _, _, _ => cases hz
/-- len -/
def dLen : D → Option D
  | .str z => if z.length ≤ 1000000 then some (.int z.length) else none
  | d => (seqD d).map fun xs => .int xs.length
theorem cd_len : CD X cl (.builtin "len") (g1 dLen) := by
  refine CD.one (call_len_seq.or call_len_str) fun c σ s T H F α d v z Q J hz k => ?_
  have r := J.tmp (d, v) (List.mem_cons_self ..)
  by_cases h : ∃ y, view s.M d = .str y
  · obtain ⟨y, e⟩ := h
    rw [e] at hz
    simp only [dLen] at hz
    split at hz
    · rename_i hl
      cases hz
      have ev : v = .str y := J.vStr r e
      subst ev
      exact .inr ⟨y, rfl, line1m hl, k _ H (SI.flat rfl ⟨F, α, J⟩)⟩
    · cases hz
  · have hz' : (seqD (view s.M d)).map (fun xs => D.int xs.length) = some z := by
      revert hz h
      generalize view s.M d = u
      intro hz h
      cases u <;> first | exact hz | exact absurd ⟨_, rfl⟩ h
    obtain ⟨xs, h1, rfl⟩ := Option.map_eq_some_iff.mp hz'
    obtain ⟨a, vs, ev, h2, rl⟩ := J.vSeq r h1
    have ev : v = .ref a := ev
    subst ev
    exact .inl ⟨a, vs, rfl, h2, by rw [← rl.length]; exact k _ H (SI.flat rfl ⟨F, α, J⟩)⟩
/-- abs, int -/
def dAbs : D → Option D
  | .int i => some (.int (if i < 0 then -i else i))
  | _ => none
theorem cd_abs : CD X cl (.builtin "abs") (g1 dAbs) := by
  refine CD.one call_abs fun c σ s T H F α d v z Q J hz k => ?_
  cases e : view s.M d with
  | int i =>
    rw [e] at hz
    cases hz
    exact ⟨i, by rw [J.t1i e], k _ H (SI.flat rfl ⟨F, α, J⟩)⟩
  | _ => rw [e] at hz; cases hz
def dInt : D → Option D
  | .int i => some (.int i)
  | .bl b => some (.int (if b then 1 else 0))
  | _ => none
theorem cd_int : CD X cl (.type "int") (g1 dInt) := by
  refine CD.one call_int1 fun c σ s T H F α d v z Q J hz k => ?_
  cases e : view s.M d with
  | int i =>
    rw [e] at hz
    cases hz
    exact .inl ⟨i, by rw [J.t1i e], k _ H (SI.flat rfl ⟨F, α, J⟩)⟩
  | bl i =>
    rw [e] at hz
    cases hz
    exact .inr ⟨i, by rw [J.t1b e], k _ H (SI.flat rfl ⟨F, α, J⟩)⟩
  | _ => rw [e] at hz; cases hz
def dMax2 : D → D → Option D
  | .int i, .int j => some (.int (if j > i then j else i))
  | _, _ => none
def dMin2 : D → D → Option D
  | .int i, .int j => some (.int (if j < i then j else i))
  | _, _ => none
theorem cd_max2 (hc : X.calm = true) : CD X cl (.builtin "max") (g2 dMax2) := by
  refine CD.two (call_max2 hc) fun c σ s T H F α d v e u z Q J hz k => ?_
  have key : ∀ d e z, dMax2 d e = some z → ∃ i j, d = .int i ∧ e = .int j ∧ z = .int (if j > i then j else i) := fun d e z h => by
    cases d <;> first | (cases e <;> first | (cases h; exact ⟨_, _, rfl, rfl, rfl⟩) | (simp [dMax2] at h)) | (simp [dMax2] at h)
  obtain ⟨i, j, e1, e2, rfl⟩ := key _ _ _ hz
  exact ⟨i, j, by rw [J.t2i e1, J.t1i e2], k _ H (SI.flat rfl ⟨F, α, J⟩)⟩
theorem cd_min2 (hc : X.calm = true) : CD X cl (.builtin "min") (g2 dMin2) := by
  refine CD.two (call_min2 hc) fun c σ s T H F α d v e u z Q J hz k => ?_
  have key : ∀ d e z, dMin2 d e = some z → ∃ i j, d = .int i ∧ e = .int j ∧ z = .int (if j < i then j else i) := fun d e z h => by
    cases d <;> first | (cases e <;> first | (cases h; exact ⟨_, _, rfl, rfl, rfl⟩) | (simp [dMin2] at h)) | (simp [dMin2] at h)
  obtain ⟨i, j, e1, e2, rfl⟩ := key _ _ _ hz
  exact ⟨i, j, by rw [J.t2i e1, J.t1i e2], k _ H (SI.flat rfl ⟨F, α, J⟩)⟩
/-- list(xs), tuple(xs) -/
def dList : D → Option D := fun d => (seqD d).map .lst
theorem SIx.ktNew {K : PySem.W.Frag} {c : Cz} {H : Hp} {σ : L2.St} {s : S} {T : List (D × V)} {F : Addr → Prop} {α : List Addr} {p : Addr} {ds : List D} {vs : List V} (J : SIx K cl c H σ s T F α) (hp : H p = none) (r : RepL K cl H F α ds vs) : SI K cl c (upd H p (.tup vs)) σ s ((.kt ds, .ref p) :: T) :=
  ⟨_, α, (J.newF hp).push (.kt upd_same (r.ext (ext_new J hp)))⟩
def gL1 (g : D → Option (List D)) : List D → Option (List D)
  | [d] => g d
  | _ => none
def dTuple : D → Option D
  | .tup xs => some (.tup xs)
  | .lst xs => some (.tup xs)
  | .slst xs => some (.tup xs)
  | _ => none
/-- all, any of bools -/
def blsD : List D → Option (List Bool)
  | [] => some []
  | .bl b :: ds => (blsD ds).map (b :: ·)
  | _ => none
def dAll : D → Option D
  | .lst ds => (blsD ds).map fun bs => .bl (bs.all id)
  | _ => none
def dAny : D → Option D
  | .lst ds => (blsD ds).map fun bs => .bl (bs.any id)
  | _ => none
/-! ### isinstance -/
inductive Ty where
  | non | bl | int | str | tup | lst | dct
  deriving DecidableEq
def Ty.nm : Ty → String
  | .non => "NoneType" | .bl => "bool" | .int => "int" | .str => "str" | .tup => "tuple" | .lst => "list" | .dct => "dict"
def tyD : D → Option Ty
  | .non => some .non | .bl _ => some .bl | .int _ => some .int | .str _ => some .str | .tup _ => some .tup | .kt _ => some .tup | .lst _ => some .lst | .slst _ => some .lst
  | .dct _ => some .dct
  | _ => none
def isiT (t : Ty) (c : String) : Option Bool :=
  if c = "str" then some (t == .str) else if c = "tuple" then some (t == .tup) else if c = "list" then some (t == .lst) else if c = "int" then some (t == .int || t == .bl) else if c = "bool" then some (t == .bl) else if c = "dict" then some (t == .dct) else none
def dIsi : D → D → Option D
  | d, .raw (.ty c) => match tyD d with
    | some t => (isiT t c).map .bl
    | none => none
  | _, _ => none
end
end DL

/-! DlM: defs that hand back a cell of their own; calls of them. -/
namespace DL
open PySem L2
open PySem.Spec PyProof.Rows

section
variable {K : PySem.W.Frag} {cl : Str → Addr} {c : Cz} {H : Hp} {σ : L2.St} {s : S} {T T' : List (D × V)} {F : Addr → Prop} {α : List Addr}
/-- a cell more, of a list (..) not known so far -/
theorem SIx.addCell {a : Addr} {x : C} (I : SIx K cl c H σ s T F α) (r : RepC K cl H F α a x) (nα : a ∉ α) (nF : ¬ F a) (old : a ∈ c.β ∨ c.H0 a = none) (dm : ∃ o, H a = some o) : SI K cl c H σ { s with M := s.M ++ [some x] } ((.ptr s.M.length, .ref a) :: T) := by
  have al : ∀ (k : Nat) (b : Addr), α[k]? = some b → (α ++ [a])[k]? = some b := fun k b q => by
    rw [List.getElem?_append_left (List.getElem?_eq_some_iff.mp q).1]; exact q
  have E : Ext H F α H F (α ++ [a]) := ⟨fun _ _ => rfl, fun _ h => h, fun _ _ h => h, fun _ _ _ h => h, al⟩
  refine ⟨F, α ++ [a], fun i d e => ?_, I.el, fun q hq => ?_, ?_, fun k y b e1 e2 => ?_, ?_, fun b hb => ?_, fun b hb => ?_, I.domF, I.inF, fun k b e => al k b (I.pre k b e), I.keep, I.tups, I.frzs⟩
  · obtain ⟨v, h1, h2⟩ := I.env i d e
    exact ⟨v, h1, h2.ext E⟩
  · rcases List.mem_cons.mp hq with z | hq
    · subst z
      refine .ptr ?_
      rw [← I.len]
      exact List.getElem?_concat_length
    · exact (I.tmp q hq).ext E
  · show (α ++ [a]).length = (s.M ++ [some x]).length
    rw [List.length_append, List.length_append, I.len]; rfl
  · have e1 : (s.M ++ [some x])[k]? = some (some y) := e1
    by_cases hk : k < s.M.length
    · rw [List.getElem?_append_left hk] at e1
      rw [List.getElem?_append_left (by rw [I.len]; exact hk)] at e2
      obtain ⟨h1, h2⟩ := I.cel k y b e1 e2
      exact ⟨E.repC h1 rfl, h2⟩
    · have hk' : k = s.M.length := by
        have := (List.getElem?_eq_some_iff.mp e1).1
        rw [List.length_append] at this
        simp at this; omega
      subst hk'
      rw [List.getElem?_concat_length] at e1
      cases e1
      rw [← I.len, List.getElem?_concat_length] at e2
      cases e2
      exact ⟨E.repC r rfl, nF⟩
  · rw [List.nodup_append]
    exact ⟨I.nd, by simp, fun x hx y hy e => nα (by rw [← List.mem_singleton.mp hy, ← e]; exact hx)⟩
  · rcases List.mem_append.mp hb with hb | hb
    · exact I.dom b hb
    · rw [List.mem_singleton.mp hb]; exact dm
  · rcases List.mem_append.mp hb with hb | hb
    · exact I.inα b hb
    · rw [List.mem_singleton.mp hb]; exact old
/-- the frame is left, one of its cells is kept -/
theorem SIx.leaveC {k n : Nat} {x : C} {v : V} (I : SIx K cl c H σ s ((.ptr k, v) :: T) F α) (hn : n ≤ k) (hk : s.M[k]? = some (some x)) (hβ : c.β.length ≤ n) (hc : cNp (s.M.take n) = true) (hx : x.np = true) :
    SI K cl c H [] ⟨[], s.M.take n ++ [some x]⟩ [(.ptr n, v)] := by
  have hkl : k < s.M.length := (List.getElem?_eq_some_iff.mp hk).1
  cases I.tmp (.ptr k, v) (List.mem_cons_self ..) with
  | ptr ha =>
    rename_i a
    have hl : n ≤ α.length := by rw [I.len]; omega
    obtain ⟨rc, nF⟩ := I.cel k x a hk ha
    have tk : ∀ (j : Nat) (b : Addr), (α.take n)[j]? = some b → α[j]? = some b ∧ j < n := fun j b e => by
      have hj : j < (α.take n).length := (List.getElem?_eq_some_iff.mp e).1
      rw [List.length_take] at hj
      have hj' : j < n := by omega
      rw [List.getElem?_take_of_lt hj'] at e
      exact ⟨e, hj'⟩
    have I2 : SIx K cl c H [] ⟨[], s.M.take n⟩ [] F (α.take n) := by
      refine ⟨fun i d e => by simp at e, rfl, fun q hq => by simp at hq, by show (α.take n).length = (s.M.take n).length; rw [List.length_take, List.length_take, I.len], fun j y b e1 e2 => ?_, I.nd.sublist (List.take_sublist _ _), fun b hb => I.dom b (List.mem_of_mem_take hb), fun b hb => I.inα b (List.mem_of_mem_take hb), I.domF, I.inF, fun j b e => ?_, I.keep, I.tups, I.frzs⟩
      · have e1 : (s.M.take n)[j]? = some (some y) := e1
        obtain ⟨e3, hj⟩ := tk j b e2
        have hy := cNp_get hc e1
        rw [List.getElem?_take_of_lt hj] at e1
        obtain ⟨rc, nF⟩ := I.cel j y b e1 e3
        exact ⟨rc.np (fun _ h => h) hy, nF⟩
      · have hj : j < n := Nat.lt_of_lt_of_le (List.getElem?_eq_some_iff.mp e).1 hβ
        rw [List.getElem?_take_of_lt hj]
        exact I.pre j b e
    have nα : a ∉ α.take n := fun hm => by
      obtain ⟨j, hj⟩ := List.getElem?_of_mem hm
      obtain ⟨e3, hj'⟩ := tk j a hj
      have := (List.getElem?_inj (by omega) I.nd).mp (e3.trans ha.symm)
      omega
    have Z := I2.addCell (x := x) (rc.np (fun _ h => h) hx) nα nF (I.inα a (List.mem_of_getElem? ha)) (I.dom a (List.mem_of_getElem? ha))
    have e : (s.M.take n).length = n := by rw [List.length_take]; omega
    have Z' : SI K cl c H [] ⟨[], s.M.take n ++ [some x]⟩ ((.ptr (s.M.take n).length, .ref a) :: []) := Z
    rw [e] at Z'
    exact Z'
end
/-- how a body's run ends, a cell of its own handed back -/
def finC (n : Nat) (o : Out Fl) : Out D := match o with
  | .ok (.ret (.ptr k)) s => match s.M[k]? with
    | some (some x) => if decide (n ≤ k) && cNp (s.M.take n) && x.np then .ok (.ptr n) ⟨[], s.M.take n ++ [some x]⟩ else .fail
    | _ => .fail
  | .exc c fs s => if npF fs && okM n s then .exc c fs ⟨[], s.M.take n⟩ else .fail
  | _ => .fail
def runC (N : Nat) (f : M Fl) : Sem := fun m ds => finC m.length (f ⟨ds.map some ++ List.replicate (N - ds.length) none, m.map some⟩)
/-- a def that hands back a cell -/
structure LenC (sem : Sem) : Prop where
  ok : ∀ m ds d s, sem m ds = .ok d s → ∃ x, d = .ptr m.length ∧ s.M.length = m.length + 1 ∧ s.M[m.length]? = some (some x)
  exc : ∀ m ds n fs s, sem m ds = .exc n fs s → s.M.length = m.length
theorem runC_len (N : Nat) (f : M Fl) : LenC (runC N f) := by
  refine ⟨fun m ds d s h => ?_, fun m ds n fs s h => ?_⟩
  · unfold runC at h
    revert h
    generalize f ⟨ds.map some ++ List.replicate (N - ds.length) none, m.map some⟩ = o
    intro h
    unfold finC at h
    split at h
    · rename_i k s1
      split at h
      · rename_i x hx
        split at h
        · rename_i hc
          cases h
          simp only [Bool.and_eq_true, decide_eq_true_eq] at hc
          have hk := (List.getElem?_eq_some_iff.mp hx).1
          have hl : (s1.M.take m.length).length = m.length := by rw [List.length_take]; omega
          refine ⟨x, rfl, ?_, ?_⟩
          · show (s1.M.take m.length ++ [some x]).length = _
            rw [List.length_append, hl]; rfl
          · show (s1.M.take m.length ++ [some x])[m.length]? = _
            rw [List.getElem?_append_right (by omega), hl, Nat.sub_self]; rfl
        · cases h
      · cases h
    · split at h <;> cases h
    · cases h
  · unfold runC at h
    revert h
    generalize f ⟨ds.map some ++ List.replicate (N - ds.length) none, m.map some⟩ = o
    intro h
    unfold finC at h
    split at h
    · split at h
      · split at h <;> cases h
      · cases h
    · split at h
      · rename_i hc
        cases h
        exact okM_len (Bool.and_eq_true_iff.mp hc).2
      · cases h
    · cases h
section
variable {K : PySem.W.Frag} {cl : Str → Addr} {H : Hp}
theorem body_wantC {W : XK} {F : Addr → Prop} {β : List Addr} {n : Nat} {o : Out Fl} {Q : VK} (hβ : β.length = n) (w : Want K cl (fun cls dx _ H' => W cls dx H') ⟨H, β, F⟩ [] [] (match finC n o with
    | .fail => .fail
    | .ok d s => .ok d ⟨[], s.M⟩
    | .exc n fs s => .exc n fs ⟨[], s.M⟩) Q) : WantS K cl (fun cls dx _ H' => W cls dx H') ⟨H, β, F⟩ [] o { nx := fun _ H' => Q .non H', rt := Q } := by
  cases o with
  | fail => exact w
  | exc c fs s => exact body_want (o := .exc c fs s) hβ w
  | ok r s =>
    cases r with
    | brk => exact w.elim
    | ct => exact w.elim
    | nx => exact w.elim
    | ret d =>
      rcases ptr_or d with ⟨k, rfl⟩ | hd
      · simp only [finC] at w
        cases e : s.M[k]? with
        | none => rw [e] at w; exact w.elim
        | some z =>
          cases z with
          | none => rw [e] at w; exact w.elim
          | some x =>
            rw [e] at w
            dsimp only at w
            cases hc : (decide (n ≤ k) && cNp (s.M.take n) && x.np) with
            | false => rw [hc] at w; exact w.elim
            | true =>
              rw [hc] at w
              simp only [Bool.and_eq_true, decide_eq_true_eq] at hc
              intro v σ H' I
              obtain ⟨G, α, J⟩ := I
              exact w v H' (J.leaveC hc.1.1 e (by rw [hβ]; exact Nat.le_refl _) hc.1.2 hc.2)
      · have : finC n (.ok (.ret d) s) = .fail := by
          cases d <;> first | rfl | exact absurd rfl (hd _)
        rw [this] at w
        exact w.elim
end
section
variable {P : Program} {w : World} {K : PySem.W.Frag} {mg : Str → Option Value} {base : Heap} {cl : Str → Addr}
/-- THE RULE, for any reading of the body's end -/
theorem fn_GX {k : Nat} {f : Addr} {x qual : Str} {params : Arguments} {body : List Stmt} {scope : Scope} {dvs : List V} {kws : List (Str × V)} {fd : FuncData} {N ps : List Str} {g : M Fl} {sem : Sem} (F : FunD K x qual params body scope dvs kws f fd) (S : FnScope N ps scope)
    (hsem : ∀ {H : Hp} {W : XK} {G : Addr → Prop} {β : List Addr} {m : List C} {ds : List D} {Q : VK}, β.length = m.length → Want K cl (fun cls dx _ H' => W cls dx H') ⟨H, β, G⟩ [] [] (match sem m ds with
      | .fail => .fail
      | .ok d s => .ok d ⟨[], s.M⟩
      | .exc n fs s => .exc n fs ⟨[], s.M⟩) Q → WantS K cl (fun cls dx _ H' => W cls dx H') ⟨H, β, G⟩ [] (g ⟨ds.map some ++ List.replicate (N.length - ds.length) none, m.map some⟩) { nx := fun _ H' => Q .non H', rt := Q })
    (hbody : ∀ (cdv : Value) (A : Around) (outer : List Env) (s : Shared) (H : Hp) (E : XK), Cok (cxOf (L2.CX P w) P w K mg base N qual scope f cdv A outer s H E) (fun cls dx _ H' => E cls dx H') k →
      DSs (cxOf (L2.CX P w) P w K mg base N qual scope f cdv A outer s H E) cl (fun cls dx _ H' => E cls dx H') body g) : FnG P w K mg base cl (k + 1) f fd ps sem := by
  obtain ⟨oc, od, dV, kV, doc, pm, an, cdv, ct, osl, rfl, lk, hcd, _, _⟩ := F.ex
  refine ⟨fun A outer s H args us vs Q E hr hgd e0 hb r hl hsp => ?_⟩
  have KX : K.In s.heap := e0.mod.kin.keeps fun b o e => (e0.bs b o e).1
  have lim : s.heap.NoLimit := e0.mod.nolimit.keeps fun b o e => (e0.bs b o e).1
  have hkind : ∀ y ∈ ps.zip us, scope.names.lookup y.1 = some .local ∨ (scope.names.lookup y.1 = some .cell ∧ ((cellsFrom (s.heap.objs.size + 1) scope.names []).lookup y.1).isSome = true) := fun ⟨n, v⟩ hy =>
    (S.par n (List.of_mem_zip hy).1).elim .inl fun q => .inr ⟨q, PySem.W.cellsFrom_some _ _ _ (.inl q)⟩
  refine codeAny_call_function hr.depth (KX _ _ lk) rfl S.co S.gen rfl (PySem.W.codeRec_of KX hcd) (hb _ _ _ _ ?_)
  refine wpAny_newFunctionEnv_cells S.kind hkind fun env he s1 z => ?_
  subst he
  refine ⟨lim.keeps z.toInCall.keep, codeAny_func ?_⟩
  have cok : Cok (cxOf (L2.CX P w) P w K mg base N qual scope f cdv A outer s H E) (fun cls dx _ H' => E cls dx H') k :=
    ⟨takes_of rfl rfl rfl rfl, passes_of (X := cxOf (L2.CX P w) P w K mg base N qual scope f cdv A outer s H E) (K := fun e s'' => L2.CX P w outer H s E e s'') rfl, S.nd, rfl, hr.deeper _, guards_deeper hgd⟩
  obtain ⟨ts, pt, hq⟩ := hbody cdv A outer s H E cok
  have I : Inv (cxOf (L2.CX P w) P w K mg base N qual scope f cdv A outer s H E) [] (start N vs) H s1 := inv_start S hr.hd e0 hl r z
  obtain ⟨G, β, m, ds, hdl, J, wn⟩ := hsp
  have hβ : β.length = m.length := by
    have := J.len
    rw [this]; show (m.map some).length = m.length
    rw [List.length_map]
  have start_want := hsem hβ wn
  have main := hq ⟨H, β, G⟩ (start N vs) _ [] H { nx := fun _ H' => Q .non H', rt := Q } (start_SI hdl J) start_want
  refine wpAny_mono (pt.run [] s1 (start N vs) H _ I main) (fun fl s' hs => ?_) fun e s' hs => hs
  have ends : ∀ {σ' : L2.St} {H' : Hp} {v : V} {u : Value}, Inv (cxOf (L2.CX P w) P w K mg base N qual scope f cdv A outer s H E) [] σ' H' s' → RelV v u → Q v H' → CE outer P w H s Q u s' :=
    fun {σ' H' v u} J rv q => ⟨v, H', J.os, J.bare, J.base, J.hok, rv, q⟩
  cases fl with
  | ret u =>
    obtain ⟨v, σ', H', J, rv, q⟩ := hs
    exact ends J rv q
  | next =>
    obtain ⟨σ', H', J, q⟩ := hs
    exact ends (v := V.non) (u := Value.none) J rfl q
  | brk => exact hs.elim fun _ h => h.elim fun _ h => h.2.elim
  | cont => exact hs.elim fun _ h => h.elim fun _ h => h.2.elim
theorem fn_GC {k : Nat} {f : Addr} {x qual : Str} {params : Arguments} {body : List Stmt} {scope : Scope} {dvs : List V} {kws : List (Str × V)} {fd : FuncData} {N ps : List Str} {g : M Fl} (F : FunD K x qual params body scope dvs kws f fd) (S : FnScope N ps scope)
    (hbody : ∀ (cdv : Value) (A : Around) (outer : List Env) (s : Shared) (H : Hp) (E : XK), Cok (cxOf (L2.CX P w) P w K mg base N qual scope f cdv A outer s H E) (fun cls dx _ H' => E cls dx H') k →
      DSs (cxOf (L2.CX P w) P w K mg base N qual scope f cdv A outer s H E) cl (fun cls dx _ H' => E cls dx H') body g) : FnG P w K mg base cl (k + 1) f fd ps (runC N.length g) :=
  fn_GX F S (fun hβ wn => body_wantC hβ wn) hbody
end
/-! ### the call -/
def callSC (io : List Bool) (sem : Sem) (ds : List D) (s : S) : Out D := match prep s.M io ds 0 with
  | none => .fail
  | some p => if p.ks.Nodup ∧ (∀ k ∈ p.ls, k ∉ p.ks) then
      match sem p.m p.ds with
      | .fail => .fail
      | .ok d s' => match s'.M[p.ks.length]? with
        | some (some x) => if x.np && cNp (s'.M.take p.ks.length) && (p.ls.isEmpty || (x.nm && cNm (s'.M.take p.ks.length))) then .ok (.ptr s.M.length) { s with M := putC s.M p.ks s'.M ++ [some x] } else .fail
        | _ => .fail
      | .exc n fs s' => if npF fs && cNp (s'.M.take p.ks.length) && p.ls.isEmpty then .exc n fs { s with M := putC s.M p.ks s'.M } else .fail
    else .fail
section
variable {K : PySem.W.Frag} {cl : Str → Addr} {c : Cz} {H : Hp} {σ : L2.St} {s : S} {T T' : List (D × V)} {F : Addr → Prop} {α : List Addr}
theorem call_dspC {W : WX} {io : List Bool} {sem : Sem} {ds : List D} {vs : List V} {Q : VK} (I : SIx K cl c H σ s (zipT ds vs T) F α) (hl : ds.length = vs.length) (w : Want K cl W c σ T (callSC io sem ds s) Q)
    (hM : LenC sem) : dsp K cl sem vs H Q (fun cls dx H' => W cls dx σ H') := by
  unfold callSC at w
  cases hp : prep s.M io ds 0 with
  | none => rw [hp] at w; exact w.elim
  | some p =>
    rw [hp] at w
    dsimp only at w
    by_cases hc : p.ks.Nodup ∧ ∀ k ∈ p.ls, k ∉ p.ks
    · rw [if_pos hc] at w
      obtain ⟨hks, hls⟩ := hc
      obtain ⟨Fp, hFp, hkl, hlive, pl, hdl, J0, IT⟩ := call_pre I hl hp hks hls
      refine ⟨Fp, adrs α p.ks, p.m, p.ds, hdl, J0, ?_⟩
      cases hs : sem p.m p.ds with
      | fail => rw [hs] at w; exact w.elim
      | ok d s' =>
        rw [hs] at w
        dsimp only at w ⊢
        obtain ⟨x, hd, hlen, hx⟩ := hM.ok _ _ _ _ hs
        rw [pl] at hd hlen hx
        subst hd
        rw [hx] at w
        dsimp only at w
        cases hcond : (x.np && cNp (s'.M.take p.ks.length) && (p.ls.isEmpty || (x.nm && cNm (s'.M.take p.ks.length)))) with
        | false => rw [hcond] at w; exact w.elim
        | true =>
          rw [hcond] at w
          simp only [Bool.and_eq_true, Bool.or_eq_true] at hcond
          obtain ⟨⟨h1, h2⟩, h3⟩ := hcond
          intro v H' J
          obtain ⟨G, γ, J⟩ := J
          have JT : SIx K cl ⟨H, adrs α p.ks, Fp⟩ H' [] ⟨[], s'.M⟩ [] G γ := { J with tmp := fun q hq => by simp at hq }
          obtain ⟨F2, hF2, hG, hF2G, B⟩ := backX (T' := []) IT hks hkl hlive hFp JT (by omega) h2 (by
            rcases h3 with h3 | ⟨_, h4⟩
            · exact .inl (List.isEmpty_iff.mp h3)
            · exact .inr ⟨h4, fun q hq => by simp at hq⟩) fun q hq => by simp at hq
          have hr : Rep K cl H' G γ (.ptr p.ks.length) v := J.tmp (.ptr p.ks.length, v) (List.mem_cons_self ..)
          cases hr with
          | ptr ha =>
            rename_i a
            obtain ⟨rc, nG⟩ := J.cel _ x a hx ha
            have hβl : (adrs α p.ks).length = p.ks.length := by unfold adrs; rw [List.length_map]
            have hfresh : H a = none := by
              rcases J.inα a (List.mem_of_getElem? ha) with z | z
              · obtain ⟨j, hj⟩ := List.getElem?_of_mem z
                have hj' := (List.getElem?_eq_some_iff.mp hj).1
                rw [hβl] at hj'
                have e1 := J.pre j a hj
                have := (List.getElem?_inj (List.getElem?_eq_some_iff.mp e1).1 J.nd).mp (e1.trans ha.symm)
                omega
              · exact z
            have nα : a ∉ α := fun hm => by
              obtain ⟨o, ho⟩ := I.dom a hm
              rw [hfresh] at ho; cases ho
            have nF : ¬ F2 a := fun hf => by
              rcases hF2G a hf with hf | ⟨_, hf⟩
              · obtain ⟨o, ho⟩ := I.domF a hf
                rw [hfresh] at ho; cases ho
              · exact nG hf
            have old : a ∈ c.β ∨ c.H0 a = none := by
              cases q : c.H0 a with
              | none => exact .inr rfl
              | some u =>
                by_cases hm : a ∈ c.β
                · exact .inl hm
                · have := I.keep a u q hm
                  rw [hfresh] at this; cases this
            have rcx : RepC K cl H' F2 α a x := by
              rcases h3 with h3 | ⟨h3, _⟩
              · exact rc.np (hG (List.isEmpty_iff.mp h3)) h1
              · exact rc.nm h3
            have Z := SIx.addCell (x := x) B rcx nα nF old (J.dom a (List.mem_of_getElem? ha))
            have Z' : SI K cl c H' σ { s with M := putC s.M p.ks s'.M ++ [some x] } ((.ptr (putC s.M p.ks s'.M).length, .ref a) :: T) := Z
            rw [putC_len] at Z'
            exact w _ H' Z'
      | exc n fs s' =>
        rw [hs] at w
        dsimp only at w ⊢
        have hlen : p.ks.length ≤ s'.M.length := by rw [hM.exc _ _ _ _ _ hs, pl]; exact Nat.le_refl _
        cases hcond : (npF fs && cNp (s'.M.take p.ks.length) && p.ls.isEmpty) with
        | false => rw [hcond] at w; exact w.elim
        | true =>
          rw [hcond] at w
          simp only [Bool.and_eq_true] at hcond
          obtain ⟨⟨h1, h2⟩, h3⟩ := hcond
          intro dx H' hdx J
          refine w dx H' hdx (back (T' := xt fs dx) IT hks hkl hlive hFp (by rw [List.append_nil] at J; exact J) hlen h2 (.inl (List.isEmpty_iff.mp h3)) fun q hq => ?_)
          cases dx with
          | none => simp [xt] at hq
          | some a =>
            rw [List.mem_singleton.mp hq]
            show np (.xd fs) = true
            simp only [np]; exact h1
    · rw [if_neg hc] at w; exact w.elim
theorem callSC_len {io : List Bool} {sem : Sem} {ds : List D} {W : WX} {Q : VK} (w : Want K cl W c σ T (callSC io sem ds s) Q) : ds.length = io.length := by
  unfold callSC at w
  cases hp : prep s.M io ds 0 with
  | none => rw [hp] at w; exact w.elim
  | some p =>
    refine callS_len (s := s) (sem := fun _ _ => .ok .non ⟨[], []⟩) (io := io) (K := K) (cl := cl) (c := c) (σ := σ) (T := T) (W := W) (Q := fun _ _ => True) ?_
    unfold callS
    rw [hp] at w ⊢
    dsimp only at w ⊢
    by_cases hc : p.ks.Nodup ∧ ∀ k ∈ p.ls, k ∉ p.ks
    · rw [if_pos hc]
      have e : (np D.non && cNp (([] : List (Option C)).take p.ks.length) && (p.ls.isEmpty || ((nm D.non || (nmO D.non && lnO s.M p.ls)) && cNm (([] : List (Option C)).take p.ks.length)))) = true := by
        rw [List.take_nil]
        cases p.ls.isEmpty <;> rfl
      rw [e]
      exact fun _ _ _ => trivial
    · rw [if_neg hc] at w; exact w.elim
end
def eCallC (io : List Bool) (sem : Sem) (f : M (List D)) : M D := fun s => (f s).bind fun ds s => callSC io sem ds s
section
variable {X : Cx} {cl : Str → Addr} {W : WX} {k : Nat}
theorem de_callC {x : Str} {fa : Addr} {fd : FuncData} {ps : List Str} {sem : Sem} {io : List Bool} {e : Expr} {es : List Expr} {f : M (List D)} {p pos : Pos} (F : FnG X.prog X.w X.K X.mg X.base cl k fa fd ps sem) (hn : LenC sem) (hio : io.length = ps.length) (hc : Cok X W k)
    (hm : X.mg x = some (.ref fa)) (hk : PySem.W.keepIn X.K (.ref fa) = true) (hb : Binds X.K fd ps []) (ha : DA X cl W (e :: es) f) (hg : Gl X x := by rfl)
    (hdb : (x == ("__debug__" : Str)) = false := by decide) (he : starEach (e :: es) X.env = (false, eval e X.env) :: starEach es X.env := by rfl) (hpl : (backTo pos (starEach es X.env)).any (·.1) = false := by rfl) :
    DE X cl W (.Call (.Name x p) (e :: es) [] pos) (eCallC io sem f) := by
  obtain ⟨ta, pa, qa⟩ := ha
  refine ⟨fun σ H Q => ta σ H fun vs H1 => vs.length = ps.length ∧ dsp X.K cl sem vs H1 Q (fun cls dx H' => W cls dx σ H'), ⟨fun pins s σ H Q I h => ?_⟩, fun c σ s T H Q I w => ?_⟩
  · refine wpAny_Call_Name_kw (ld_glob I hg hm ?_ hdb)
    refine PySem.W.callWith_K (h₀ := X.base) I.ok.mod.kin hk (thn (pa.run pos pins s σ H _ I h) fun us s1 ⟨vs, H1, I1, r, hl, q⟩ => ⟨I1.kIn, ?_⟩) he hpl
    exact run_G (dvs := []) F hc hb I1 r hl q
  · refine qa c σ s T H _ I (w.bindA fun ds s1 _ w1 vs H1 hl I1 => ?_)
    obtain ⟨G, α, J⟩ := I1
    exact ⟨by rw [← hl, callSC_len w1, hio], call_dspC J hl w1 hn⟩
end
end DL

/-! DlN: methods of texts and lists; subscripts; slices; stores. -/
namespace DL
open PySem L2
open PySem.Spec PyProof.Rows

def strsD : List D → Option (List Str)
  | [] => some []
  | .str z :: ds => (strsD ds).map (z :: ·)
  | _ => none
def intsD : List D → Option (List Int)
  | [] => some []
  | .int z :: ds => (intsD ds).map (z :: ·)
  | _ => none
section
variable {K : PySem.W.Frag} {cl : Str → Addr} {H : Hp} {F : Addr → Prop} {α : List Addr}
theorem rep_ints : ∀ zs : List Int, RepL K cl H F α (zs.map D.int) (zs.map V.int)
  | [] => .nil
  | _ :: zs => .cons .int (rep_ints zs)
end
/-! ### the receiver's type -/
def tyN : D → Option String
  | .str _ => some "str"
  | .lst _ => some "list"
  | .slst _ => some "list"
  | _ => none
/-! ### methods that read -/
structure MD (X : Cx) (cl : Str → Addr) (id : String) (g : D → List D → Option D) : Prop where
  ex : ∃ r, MtR X id r ∧ ∀ c σ s T H d v ds vs z Q, ds.length = vs.length → SI X.K cl c H σ s (zipT ds vs ((d, v) :: T)) → g (view s.M d) (ds.map (view s.M)) = some z → (∀ v' H', SI X.K cl c H' σ s ((z, v') :: zipT ds vs ((d, v) :: T)) → Q v' H') → r v vs H Q
/-- .. that write their cell -/
structure MC (X : Cx) (cl : Str → Addr) (id : String) (g : C → List D → Option (D × C)) : Prop where
  ex : ∃ r, MtM X id r ∧ ∀ c σ s T H k x v ds vs z y Q, ds.length = vs.length → SI X.K cl c H σ s (zipT ds vs ((.ptr k, v) :: T)) → s.M[k]? = some (some x) → g x ds = some (z, y) → (∀ v' H', SI X.K cl c H' σ { s with M := s.M.set k (some y) } ((z, v') :: zipT ds vs ((.ptr k, v) :: T)) → Q v' H') → r v vs H Q
def eBM (t : String) (g : D → List D → Option D) (fo : M D) (fa : M (List D)) : M D := fun s => (fo s).bind fun d s1 => if tyN (view s1.M d) = some t then (fa s1).bind fun ds s2 => oOf (g (view s2.M d) (ds.map (view s2.M))) s2 else .fail
def eBM0 (t : String) (g : D → List D → Option D) (fo : M D) : M D := fun s => (fo s).bind fun d s1 => if tyN (view s1.M d) = some t then oOf (g (view s1.M d) []) s1 else .fail
def oC (k : Nat) (o : Option (D × C)) (s : S) : Out D := match o with
  | some (z, y) => .ok z { s with M := s.M.set k (some y) }
  | none => .fail
def onC (g : C → List D → Option (D × C)) (d : D) (ds : List D) (s : S) : Out D := match d with
  | .ptr k => match s.M[k]? with
    | some (some x) => oC k (g x ds) s
    | _ => .fail
  | _ => .fail
def eCM (t : String) (g : C → List D → Option (D × C)) (fo : M D) (fa : M (List D)) : M D := fun s => (fo s).bind fun d s1 => if tyN (view s1.M d) = some t then (fa s1).bind fun ds s2 => onC g d ds s2 else .fail
def eCM0 (t : String) (g : C → List D → Option (D × C)) (fo : M D) : M D := fun s => (fo s).bind fun d s1 => if tyN (view s1.M d) = some t then onC g d [] s1 else .fail
section
variable {X : Cx} {cl : Str → Addr} {W : WX} {o e : Expr} {es : List Expr} {fo : M D} {fa : M (List D)} {name : Str} {apos cpos : Pos} {t id : String} {g : D → List D → Option D} {gc : C → List D → Option (D × C)}
end
end DL

/-! DlO: the methods one by one; subscripts; slices; stores. -/
namespace DL
open PySem L2
open PySem.Spec PyProof.Rows

section
variable {K : PySem.W.Frag} {cl : Str → Addr} {c : Cz} {H : Hp} {σ : L2.St} {s : S} {T : List (D × V)} {F : Addr → Prop} {α : List Addr}
/-- a cell's list, and the same cell written -/
theorem SIx.cellL {k : Nat} {v : V} {xs : List D} (J : SIx K cl c H σ s T F α) (r : Rep K cl H F α (.ptr k) v) (hk : s.M[k]? = some (some (.lst xs))) :
    ∃ a vs, v = .ref a ∧ H a = some (.lst vs) ∧ RepL K cl H F α xs vs ∧ ∀ ys ws z u, RepL K cl H F α ys ws → Rep K cl H F α z u → SI K cl c (upd H a (.lst ws)) σ { s with M := s.M.set k (some (.lst ys)) } ((z, u) :: T) := by
  cases r with
  | ptr ha =>
    rename_i a
    obtain ⟨⟨vs, h1, rl⟩, nF⟩ := J.cel k _ a hk ha
    refine ⟨a, vs, rfl, h1, rl, fun ys ws z u ry rz => ?_⟩
    have e := ext_set (o := .lst ws) J hk ha
    exact ⟨F, α, (J.setCell (y := .lst ys) hk ha fun e => ⟨ws, upd_same, ry.ext e⟩).push (rz.ext e)⟩
end
def le1m (n : Nat) : Bool := decide (n ≤ 1000000)
theorem le1m_ok {n : Nat} (h : le1m n = true) : n ≤ sizeLine := line1m (of_decide_eq_true h)
section
variable {X : Cx} {cl : Str → Addr}
def g0 (g : D → Option D) : D → List D → Option D := fun d ds => match ds with
  | [] => g d
  | _ => none
def g1m (g : D → D → Option D) : D → List D → Option D := fun d ds => match ds with
  | [e] => g d e
  | _ => none
theorem MD.none {id : String} {g : D → Option D} {r : V → List V → Hp → VK → Prop} (hr : MtR X id r) (q : ∀ c σ s T H F α d v z Q, SIx X.K cl c H σ s ((d, v) :: T) F α → g (view s.M d) = some z → (∀ v' H', SI X.K cl c H' σ s ((z, v') :: (d, v) :: T) → Q v' H') → r v [] H Q) : MD X cl id (g0 g) := by
  refine ⟨r, hr, fun c σ s T H d v ds vs z Q hl I hz k => ?_⟩
  match ds, vs, hl with
  | [], [], _ =>
    obtain ⟨F, α, J⟩ := _root_.id I
    exact q c σ s T H F α d v z Q J hz k
  | _ :: _, _, _ => cases hz
theorem MD.one {id : String} {g : D → D → Option D} {r : V → List V → Hp → VK → Prop} (hr : MtR X id r) (q : ∀ c σ s T H F α d v e u z Q, SIx X.K cl c H σ s ((e, u) :: (d, v) :: T) F α → g (view s.M d) (view s.M e) = some z → (∀ v' H', SI X.K cl c H' σ s ((z, v') :: (e, u) :: (d, v) :: T) → Q v' H') → r v [u] H Q) : MD X cl id (g1m g) := by
  refine ⟨r, hr, fun c σ s T H d v ds vs z Q hl I hz k => ?_⟩
  match ds, vs, hl with
  | [e], [u], _ =>
    obtain ⟨F, α, J⟩ := _root_.id I
    exact q c σ s T H F α d v e u z Q J hz k
  | [], _, _ => cases hz
  | _ :: _ :: _, _, _ => cases hz
/-- sep.join(..) -/
def dJoin : D → D → Option D := fun d e => match d with
  | .str a => match (seqD e).bind strsD with
    | some ys => if (ys.map (·.length)).sum + ys.length * a.length ≤ 16777216 then some (.str (Txt.join a ys)) else none
    | none => none
  | _ => none
/-- texts, a text given -/
def dSS (g : Str → Str → Option D) : D → D → Option D
  | .str a, .str b => g a b
  | _, _ => none
def dSplit (a b : Str) : Option D := if (b.length == 0) = false ∧ le1m (a.length + 2) = true then some (.lst ((Txt.split a b).map .str)) else none
/-! lists in cells -/
def cAppend : C → List D → Option (D × C)
  | .lst xs, [d] => if xs.length < 1000000 then some (.non, .lst (xs ++ [d])) else none
  | _, _ => none
def cPop : C → List D → Option (D × C)
  | .lst xs, [] => (xs[xs.length - 1]?).map fun y => (y, .lst xs.dropLast)
  | _, _ => none
def cPopAt : C → List D → Option (D × C)
  | .lst xs, [.int i] => match ixN xs.length i with
    | some j => if xs.length ≤ 1000000 then (xs[j]?).map fun y => (y, .lst (xs.eraseIdx j)) else none
    | none => none
  | _, _ => none
def cClear : C → List D → Option (D × C)
  | .lst _, [] => some (.non, .lst [])
  | _, _ => none
/-- xs.remove(k), ints -/
def cRemove : C → List D → Option (D × C)
  | .lst xs, [.int i] => match intsD xs with
    | some ns => if i ∈ ns then some (.non, .lst ((ns.erase i).map .int)) else none
    | none => none
  | _, _ => none
end

/-! ### subscripts -/
structure IxD (X : Cx) (cl : Str → Addr) (g : D → D → Option D) : Prop where
  ex : ∃ r, IxR X r ∧ ∀ c σ s T H d v e u z Q, SI X.K cl c H σ s ((e, u) :: (d, v) :: T) → g (view s.M d) (view s.M e) = some z → (∀ v' H', SI X.K cl c H' σ s ((z, v') :: (e, u) :: (d, v) :: T) → Q v' H') → r v u H Q
section
variable {X : Cx} {cl : Str → Addr} {W : WX} {g h : D → D → Option D}
theorem IxD.or (a : IxD X cl g) (b : IxD X cl h) : IxD X cl (orD g h) := by
  obtain ⟨r, hr, q⟩ := a
  obtain ⟨r', hr', q'⟩ := b
  refine ⟨_, hr.or hr', fun c σ s T H d v e u z Q I hz k => ?_⟩
  unfold orD at hz
  split at hz
  · rename_i z' e1
    cases hz
    exact .inl (q c σ s T H d v e u z Q I e1 k)
  · exact .inr (q' c σ s T H d v e u z Q I hz k)
theorem de_ix {a b : Expr} {fa fb : M D} {pos : Pos} (ho : IxD X cl g) (ha : DE X cl W a fa) (hb : DE X cl W b fb) (hs : PlainIx b := by intro _ _; rfl) : DE X cl W (.Subscript a b pos) (eOp g fa fb) := by
  obtain ⟨ta, pa, qa⟩ := ha
  obtain ⟨tb, pb, qb⟩ := hb
  obtain ⟨r, hr, q⟩ := ho
  refine ⟨_, pe_ix hr pa pb hs, fun c σ s T H Q I w => ?_⟩
  refine qa c σ s T H _ I (w.bind fun d s1 _ w1 v H1 I1 => ?_)
  refine qb c σ s1 _ H1 _ I1 ((w1.deeper fun p hp => List.mem_cons_of_mem _ hp).bind fun e s2 _ w2 u H2 I2 => ?_)
  unfold oOf at w2
  split at w2
  · rename_i z hz
    exact q c σ s2 T H2 d v e u z Q I2 hz fun v' H' I' => w2 v' H' I'.drop2
  · exact w2.elim
/-- xs[i] of a list (frozen, sealed, a cell), a tuple -/
def dIx : D → D → Option D
  | .lst xs, .int i => atI xs i
  | .slst xs, .int i => atI xs i
  | .tup xs, .int i => atI xs i
  | .kt xs, .int i => atI xs i
  | _, _ => none
theorem atI_rep {K : PySem.W.Frag} {H : Hp} {F : Addr → Prop} {α : List Addr} {ds : List D} {vs : List V} {i : Int} {d : D} (r : RepL K cl H F α ds vs) (h : atI ds i = some d) : ∃ v, atI vs i = some v ∧ Rep K cl H F α d v := by
  obtain ⟨j, h1, h2⟩ := Option.bind_eq_some_iff.mp h
  obtain ⟨v, h3, h4⟩ := r.get h2
  exact ⟨v, Option.bind_eq_some_iff.mpr ⟨j, by rw [← r.length]; exact h1, h3⟩, h4⟩
theorem dIx_some {d e z : D} (h : dIx d e = some z) : ∃ xs i, seqD d = some xs ∧ e = .int i ∧ atI xs i = some z := by
  unfold dIx at h
  split at h
  · exact ⟨_, _, rfl, rfl, h⟩
  · exact ⟨_, _, rfl, rfl, h⟩
  · exact ⟨_, _, rfl, rfl, h⟩
  · exact ⟨_, _, rfl, rfl, h⟩
  · cases h
theorem ixd_seq : IxD X cl dIx := by
  refine ⟨_, ix_seq, fun c σ s T H d v e u z Q I hz k => ?_⟩
  obtain ⟨F, α, J⟩ := _root_.id I
  obtain ⟨xs, i, h1, h2, h3⟩ := dIx_some hz
  obtain ⟨a, vs, ev, h4, rl⟩ := J.vSeq (J.tmp (d, v) (List.mem_cons_of_mem _ (List.mem_cons_self ..))) h1
  have ev : v = .ref a := ev
  subst ev
  have eu : u = .int i := J.t1i h2
  subst eu
  obtain ⟨w, h5, r5⟩ := atI_rep rl h3
  rcases h4 with h4 | h4
  · exact .inl ⟨a, vs, i, w, rfl, rfl, h4, h5, k _ H ⟨F, α, J.push r5⟩⟩
  · exact .inr (.inl ⟨a, vs, i, w, rfl, rfl, h4, h5, k _ H ⟨F, α, J.push r5⟩⟩)
/-- z[i] of a text -/
def dIxS : D → D → Option D
  | .str z, .int i => if le1m z.length = true then (atI z.cps.toList i).map fun c => .str ⟨#[c]⟩ else none
  | _, _ => none
theorem ixd_str : IxD X cl dIxS := by
  refine ⟨_, ix_str, fun c σ s T H d v e u z Q I hz k => ?_⟩
  obtain ⟨F, α, J⟩ := _root_.id I
  have key : ∀ d e z, dIxS d e = some z → ∃ y i ch, d = .str y ∧ e = .int i ∧ le1m y.length = true ∧ atI y.cps.toList i = some ch ∧ z = .str ⟨#[ch]⟩ := fun d e z h => by
    unfold dIxS at h
    split at h
    · split at h
      · rename_i hl
        obtain ⟨ch, h1, rfl⟩ := Option.map_eq_some_iff.mp h
        exact ⟨_, _, ch, rfl, rfl, hl, h1, rfl⟩
      · cases h
    · cases h
  obtain ⟨y, i, ch, e1, e2, h1, h2, rfl⟩ := key _ _ _ hz
  exact ⟨y, i, ch, J.t2s e1, J.t1i e2, le1m_ok h1, h2, k _ H (SI.flat rfl ⟨F, α, J⟩)⟩
/-! ### slices -/
/-- a bound -/
structure DO (X : Cx) (cl : Str → Addr) (W : WX) (e : Option Expr) (f : M (Option Int)) : Prop where
  ex : ∃ t, PO X e t ∧ ∀ c σ s T H (Q : Option Int → Hp → Prop), SI X.K cl c H σ s T → (match f s with
    | .fail => False
    | .ok b s' => ∀ H', SI X.K cl c H' σ s' T → Q b H'
    | .exc n fs s' => ∀ dx H', (dx = none → fs = []) → SI X.K cl c H' σ s' (xt fs dx ++ T) → W (.ref (cl n)) dx σ H') → t σ H Q
def oNone : M (Option Int) := fun s => .ok none s
def oSome (f : M D) : M (Option Int) := fun s => (f s).bind fun d s => match view s.M d with
  | .int i => .ok (some i) s
  | _ => .fail
structure SlD (X : Cx) (cl : Str → Addr) (g : D → Option Int → Option Int → Option D) : Prop where
  ex : ∃ r, SlR X r ∧ ∀ c σ s T H d v lo hi z Q, SI X.K cl c H σ s ((d, v) :: T) → g (view s.M d) lo hi = some z → (∀ v' H', SI X.K cl c H' σ s ((z, v') :: (d, v) :: T) → Q v' H') → r v lo hi H Q
def eSl (g : D → Option Int → Option Int → Option D) (f : M D) (lo hi : M (Option Int)) : M D := fun s => (f s).bind fun d s => (lo s).bind fun l s => (hi s).bind fun h s => oOf (g (view s.M d) l h) s
/-- of lists, tuples, texts -/
def cutD (xs : List D) (lo hi : Option Int) : List D := (xs.drop (HT.sIx xs.length 0 lo)).take (HT.sIx xs.length xs.length hi - HT.sIx xs.length 0 lo)
def dSl : D → Option Int → Option Int → Option D
  | .lst xs, lo, hi => some (.lst (cutD xs lo hi))
  | .slst xs, lo, hi => some (.lst (cutD xs lo hi))
  | .tup xs, lo, hi => some (.tup (cutD xs lo hi))
  | .str z, lo, hi => if le1m z.length = true then some (.str (cutS z lo hi)) else none
  | _, _, _ => none
end
end DL

/-! DlP: assignment to any target; op=; what is never reached; sorted. -/
namespace DL
open PySem L2
open PySem.Spec PyProof.Rows

def WantG (K : PySem.W.Frag) (cl : Str → Addr) (W : WX) (c : Cz) (T : List (D × V)) (o : Out Unit) (Q : L2.St → Hp → Prop) : Prop := match o with
  | .fail => False
  | .ok _ s => ∀ σ H, SI K cl c H σ s T → Q σ H
  | .exc n fs s => ∀ dx σ H, (dx = none → fs = []) → SI K cl c H σ s (xt fs dx ++ T) → W (.ref (cl n)) dx σ H
theorem WantG.deeper {K : PySem.W.Frag} {cl : Str → Addr} {W : WX} {c : Cz} {T T' : List (D × V)} {o : Out Unit} {Q : L2.St → Hp → Prop} (h : WantG K cl W c T o Q) (hs : ∀ p ∈ T, p ∈ T') : WantG K cl W c T' o Q := by
  cases o with
  | fail => exact h
  | ok d s => exact fun σ H I => h σ H (I.sub hs)
  | exc n fs s => exact fun dx σ H e I => h dx σ H e (I.xt hs)
structure DH (X : Cx) (cl : Str → Addr) (W : WX) (tg : Expr) (g : D → M Unit) : Prop where
  ex : ∃ t, PG X tg t ∧ ∀ c σ s T H d v Q, SI X.K cl c H σ s ((d, v) :: T) → WantG X.K cl W c T (g d s) Q → t v σ H Q
structure DHs (X : Cx) (cl : Str → Addr) (W : WX) (tgs : List Expr) (g : List D → M Unit) : Prop where
  ex : ∃ t, PGs X tgs t ∧ ∀ c σ s T H ds vs Q, ds.length = vs.length → SI X.K cl c H σ s (zipT ds vs T) → WantG X.K cl W c T (g ds s) Q → t vs σ H Q
def hVar (i : Nat) (d : D) : M Unit := fun s => if i < s.env.length then .ok () { s with env := s.env.set i (some d) } else .fail
def hNone : List D → M Unit
  | [], s => .ok () s
  | _, _ => .fail
def hMore (g : D → M Unit) (h : List D → M Unit) : List D → M Unit
  | d :: ds, s => (g d s).bind fun _ s => h ds s
  | [], _ => .fail
def hTup (n : Nat) (g : List D → M Unit) : D → M Unit
  | .tup ds, s => if ds.length = n then g ds s else .fail
  | _, _ => .fail
/-- the items of a value list, from a tuple's -/
theorem RepL.zip {K : PySem.W.Frag} {cl : Str → Addr} {H : Hp} {F : Addr → Prop} {α : List Addr} : ∀ {ds : List D} {vs : List V}, RepL K cl H F α ds vs → ∀ {T : List (D × V)}, (∀ q ∈ T, Rep K cl H F α q.1 q.2) → ∀ q ∈ zipT ds vs T, Rep K cl H F α q.1 q.2
  | _, _, .nil, T, h, q, hq => h q hq
  | _, _, .cons r t, T, h, q, hq => RepL.zip t (fun q hq => (List.mem_cons.mp hq).elim (fun e => by subst e; exact r) (h q)) q hq
section
variable {X : Cx} {cl : Str → Addr} {W : WX}
/-- o[i] = .. -/
structure StD (X : Cx) (cl : Str → Addr) (g : C → D → D → Option C) : Prop where
  ex : ∃ r, PSet X r ∧ ∀ c σ s T H k x v e u d w y Q, SI X.K cl c H σ s ((e, u) :: (.ptr k, v) :: (d, w) :: T) → s.M[k]? = some (some x) → g x e d = some y → (∀ H', SI X.K cl c H' σ { s with M := s.M.set k (some y) } T → Q H') → r v u w H Q
def stC (g : C → D → D → Option C) (o i d : D) (s : S) : Out Unit := match o with
  | .ptr k => match s.M[k]? with
    | some (some x) => match g x i d with
      | some y => .ok () { s with M := s.M.set k (some y) }
      | none => .fail
    | _ => .fail
  | _ => .fail
def hSub (g : C → D → D → Option C) (fo fi : M D) (d : D) : M Unit := fun s => (fo s).bind fun o s => (fi s).bind fun i s => stC g o i d s
theorem dh_sub {o i : Expr} {fo fi : M D} {pos : Pos} {g : C → D → D → Option C} (hg : StD X cl g) (ho : DE X cl W o fo) (hi : DE X cl W i fi)
    (ha : ∀ v, assign (.Subscript o i pos) X.env v = (do
      let ov ← holding [v] (eval o X.env)
      let iv ← holding [v, ov] (eval i X.env)
      standAt pos
      holding [v, ov, iv] (setItem ov iv v)
      release [v, ov, iv] []) := by intro _; rfl) : DH X cl W (.Subscript o i pos) (hSub g fo fi) := by
  obtain ⟨to, po, qo⟩ := ho
  obtain ⟨ti, pi, qi⟩ := hi
  obtain ⟨r, hr, q⟩ := hg
  refine ⟨_, pg_sub po pi hr ha, fun c σ s T H d w Q I wn => ?_⟩
  refine qo c σ s _ H _ I ?_
  unfold hSub at wn
  cases hfo : fo s with
  | fail => rw [hfo] at wn; exact wn.elim
  | exc n fs s1 => rw [hfo] at wn; exact fun dx H1 e I1 => wn dx σ H1 e (I1.xt fun p hp => List.mem_cons_of_mem _ hp)
  | ok ov s1 =>
    rw [hfo] at wn
    intro v H1 I1
    refine qi c σ s1 _ H1 _ I1 ?_
    have wn : WantG X.K cl W c T ((fi s1).bind fun i s => stC g ov i d s) Q := wn
    cases hfi : fi s1 with
    | fail => rw [hfi] at wn; exact wn.elim
    | exc n fs s2 => rw [hfi] at wn; exact fun dx H2 e I2 => wn dx σ H2 e (I2.xt fun p hp => List.mem_cons_of_mem _ (List.mem_cons_of_mem _ hp))
    | ok iv s2 =>
      rw [hfi] at wn
      intro u H2 I2
      have wn : WantG X.K cl W c T (stC g ov iv d s2) Q := wn
      rcases ptr_or ov with ⟨k, rfl⟩ | hd
      · simp only [stC] at wn
        cases hk : s2.M[k]? with
        | none => rw [hk] at wn; exact wn.elim
        | some ox =>
          cases ox with
          | none => rw [hk] at wn; exact wn.elim
          | some x =>
            rw [hk] at wn
            dsimp only at wn
            cases hy : g x iv d with
            | none => rw [hy] at wn; exact wn.elim
            | some y =>
              rw [hy] at wn
              exact q c σ s2 T H2 k x v iv u d w y _ I2 hk hy fun H' I' => wn σ H' I'
      · have : stC g ov iv d s2 = .fail := by cases ov <;> first | rfl | exact absurd rfl (hd _)
        rw [this] at wn
        exact wn.elim
def cSet : C → D → D → Option C
  | .lst xs, .int i, d => (ixN xs.length i).map fun j => .lst (xs.set j d)
  | _, _, _ => none
theorem cSet_some {x y : C} {e d : D} (h : cSet x e d = some y) : ∃ xs i j, x = .lst xs ∧ e = .int i ∧ ixN xs.length i = some j ∧ y = .lst (xs.set j d) := by
  cases x <;> first | (simp [cSet] at h; done) | skip
  cases e <;> first | (simp [cSet] at h; done) | skip
  obtain ⟨j, hj, hy⟩ := Option.map_eq_some_iff.mp h
  exact ⟨_, _, j, rfl, rfl, hj, hy.symm⟩
theorem std_list : StD X cl cSet := by
  refine ⟨_, set_list, fun c σ s T H k x v e u d w y Q I hk hg wn => ?_⟩
  obtain ⟨xs, i, j, rfl, rfl, hj, rfl⟩ := cSet_some hg
  obtain ⟨F, α, J⟩ := _root_.id I
  obtain ⟨a, ws, rfl, h1, rl, st⟩ := J.cellL (J.tmp (.ptr k, v) (List.mem_cons_of_mem _ (List.mem_cons_self ..))) hk
  have eu : u = .int i := J.t1i rfl
  subst eu
  have rd : Rep X.K cl H F α d w := J.tmp (d, w) (List.mem_cons_of_mem _ (List.mem_cons_of_mem _ (List.mem_cons_self ..)))
  refine ⟨a, ws, i, j, rfl, rfl, h1, by rw [← rl.length]; exact hj, ?_⟩
  exact wn _ (((st _ _ .non .non (rl.set rd j) .non).pop).sub fun p hp => List.mem_cons_of_mem _ (List.mem_cons_of_mem _ (List.mem_cons_of_mem _ hp)))
/-- target = e -/
def sAsg (f : M D) (g : D → M Unit) : M Fl := fun s => (f s).bind fun d s => (g d s).bind fun _ s => .ok .nx s
theorem ds_asg {tg e : Expr} {f : M D} {g : D → M Unit} {pos : Pos} (he : DE X cl W e f) (hg : DH X cl W tg g) (hs : swapsWithSole [tg] e pos.line X.env = pure false := by rfl) (hw : swappedStores [tg] e X.env = pure none := by rfl)
    (h1 : (assignEach [tg] X.env).map (·.2) = [assign tg X.env] := by rfl) : DS X cl W (.Assign [tg] e pos) (sAsg f g) := by
  obtain ⟨te, pe, qe⟩ := he
  obtain ⟨t, p, q⟩ := hg
  refine ⟨_, ps_asg pe p hs hw h1, fun c σ s T H E I w => ?_⟩
  refine qe c σ s T H _ I (w.bind fun d s1 _ w1 v H1 I1 => ?_)
  refine q c σ s1 T H1 d v _ I1 ?_
  cases hgd : g d s1 with
  | fail => rw [hgd] at w1; exact w1.elim
  | exc n fs s2 => rw [hgd] at w1; exact w1
  | ok u s2 => rw [hgd] at w1; exact w1
/-- a, b = x, y: plain local names -/
def sPar (i j : Nat) (f : M (List D)) : M Fl := fun s => (f s).bind fun ds s => match ds with
  | [d, e] => if i < s.env.length ∧ j < s.env.length then .ok .nx { s with env := (s.env.set i (some d)).set j (some e) } else .fail
  | _ => .fail
/-- name op= e -/
def sAug (i : Nat) (g : D → D → Option D) (f : M D) : M Fl := fun s => match s.env[i]? with
  | some (some d) => (f s).bind fun e s1 => match g (view s1.M d) (view s1.M e) with
    | some z => setV i z s1
    | none => .fail
  | _ => .fail
/-! ### never reached -/
def eFail {α : Type} : M α := fun _ => .fail
end
end DL

/-! DlQ: sorted, of lists, tuples and texts. -/
namespace DL
open PySem L2
open PySem.Spec PyProof.Rows

/-! ### the sorted list is one -/
def leS (a b : Str) : Bool := !decide (b.cps.toList < a.cps.toList)
def sortS (zs : List Str) : List Str := zs.mergeSort leS
def sortI (ns : List Int) : List Int := ns.mergeSort (fun a b => decide (a ≤ b))
section
variable {prog : Program} {w : World} {A : Around} {E : Value → Shared → Prop} {s : Shared}
end

section
variable {X : Cx} {cl : Str → Addr}
def rSrtS (K : PySem.W.Frag) : List V → Hp → VK → Prop := fun vs H Q => (∃ z, vs = [.str z] ∧ z.length ≤ sizeLine ∧ ∀ p, H p = none → Q (.ref p) (upd H p (.lst ((sortS (signs z)).map V.str)))) ∨
  ∃ a zs, vs = [.ref a] ∧ (SqL K H a (zs.map V.str) ∨ SqT K H a (zs.map V.str)) ∧ ∀ p, H p = none → Q (.ref p) (upd H p (.lst ((sortS zs).map V.str)))
def rSrtI (K : PySem.W.Frag) : List V → Hp → VK → Prop := fun vs H Q => ∃ a ns, vs = [.ref a] ∧ (SqL K H a (ns.map V.int) ∨ SqT K H a (ns.map V.int)) ∧ ∀ p, H p = none → Q (.ref p) (upd H p (.lst ((sortI ns).map V.int)))
/-- sorted(xs) -/
def dSrtS : D → Option (List D)
  | .str z => if le1m z.length = true then some ((sortS (signs z)).map .str) else none
  | d => ((seqD d).bind strsD).map fun zs => (sortS zs).map .str
def dSrtI : D → Option (List D) := fun d => ((seqD d).bind intsD).map fun zs => (sortI zs).map .int
theorem CDC.cd {f : Value} {r : List V → Hp → VK → Prop} {g : D → Option (List D)} (hr : CallR X f r) (q : ∀ c σ s T H F α d v z Q, SIx X.K cl c H σ s ((d, v) :: T) F α → g (view s.M d) = some z → (∀ v' H', SI X.K cl c H' σ s ((.lst z, v') :: (d, v) :: T) → Q v' H') → r [v] H Q) : CD X cl f (g1 fun d => (g d).map .lst) := by
  refine CD.one hr fun c σ s T H F α d v z Q J hz k => ?_
  obtain ⟨xs, h1, rfl⟩ := Option.map_eq_some_iff.mp hz
  exact q c σ s T H F α d v xs Q J h1 k
def dSrt : List D → Option D := orC (g1 fun d => (dSrtS d).map .lst) (g1 fun d => (dSrtI d).map .lst)
end
end DL

/-! DlR: repr; texts backwards. -/
namespace DL
open PySem L2
open PySem.Spec PyProof.Rows
section
variable {X : Cx} {cl : Str → Addr} {W : WX}
/-- what repr shows -/
def shOk : PyData → Bool
  | .list xs => (PyData.list xs).showable && !(PyData.list xs).hasDict && decide ((PyData.list xs).depth ≤ 60) && le1m (PyData.list xs).shown.length
  | .tuple xs => (PyData.tuple xs).showable && !(PyData.tuple xs).hasDict && decide ((PyData.tuple xs).depth ≤ 60) && le1m (PyData.tuple xs).shown.length
  | _ => false
def rRepr (K : PySem.W.Frag) : List V → Hp → VK → Prop := fun vs H Q => ∃ v p, vs = [v] ∧ Dp K H v p ∧ shOk p = true ∧ Q (.str p.shown) H
theorem shOk_out {p : PyData} (h : shOk p = true) : p.showable = true ∧ p.hasDict = false ∧ p.depth ≤ 60 ∧ p.shown.length ≤ sizeLine ∧ ((∃ xs, p = .list xs) ∨ ∃ xs, p = .tuple xs) := by
  cases p <;> first | (simp [shOk] at h; done) | skip
  all_goals
    simp only [shOk, Bool.and_eq_true, decide_eq_true_eq, Bool.not_eq_true'] at h
    obtain ⟨⟨⟨h1, h2⟩, h3⟩, h4⟩ := h
    refine ⟨h1, h2, h3, le1m_ok h4, ?_⟩
    first | exact .inl ⟨_, rfl⟩ | exact .inr ⟨_, rfl⟩
theorem cr_repr (hg : X.A.guards = some []) (hu : X.A.units + 64 < cLine) : CallR X (.builtin "repr") (rRepr X.K) := by
  intro pins s σ H vs us Q I r h
  obtain ⟨v, p, rfl, hd, hs, q⟩ := h
  obtain ⟨u, rfl, ru⟩ := r.one
  obtain ⟨h1, h2, h3, h4, h5⟩ := shOk_out hs
  obtain ⟨as, hr⟩ := Dp.reads I p v u hd ru
  have : ∃ a, v = .ref a := by
    rcases h5 with ⟨xs, rfl⟩ | ⟨xs, rfl⟩ <;> cases hd <;> exact ⟨_, rfl⟩
  obtain ⟨a, rfl⟩ := this
  cases ru
  exact repr_of_reads' hr h1 (PyData.noDict_hsm h2) hg (by omega) (fun _ _ e => e) (fun h' u tk hk => ⟨.str _, H, I.kept hk, ⟨_, rfl⟩, q⟩) h4
def dRepr : D → Option D := fun d => match pd d with
  | some p => if shOk p = true then some (.str p.shown) else none
  | none => none
theorem cd_repr (hg : X.A.guards = some []) (hu : X.A.units + 64 < cLine) : CD X cl (.builtin "repr") (g1 dRepr) := by
  refine CD.one (cr_repr hg hu) fun c σ s T H F α d v z Q J hz k => ?_
  unfold dRepr at hz
  split at hz
  · rename_i p hp
    split at hz
    · rename_i hs
      cases hz
      exact ⟨v, p, rfl, J.vDp (J.tmp (d, v) (List.mem_cons_self ..)) hp, hs, k _ H (SI.flat rfl ⟨F, α, J⟩)⟩
    · cases hz
  · cases hz
/-! ### z[::-1] -/
def revS (z : Str) : Str := ⟨z.cps.reverse⟩
def tRevS (te : TE) : TE := fun σ H Q => te σ H fun x H1 => ∃ z, x = .str z ∧ z.length ≤ sizeLine ∧ Q (.str (revS z)) H1
def dRev : D → Option D
  | .str z => if le1m z.length = true then some (.str (revS z)) else none
  | _ => none
def eUn (g : D → Option D) (f : M D) : M D := fun s => (f s).bind fun d s => oOf (g (view s.M d)) s
/-- xs[::-1] of a list -/
def dRevL : D → Option D
  | .lst xs => some (.lst xs.reverse)
  | .slst xs => some (.lst xs.reverse)
  | _ => none
/-- x[::-1] of a text, a list, a tuple -/
def dRevA : D → Option D
  | .str z => if le1m z.length = true then some (.str (revS z)) else none
  | .lst xs => some (.lst xs.reverse)
  | .slst xs => some (.lst xs.reverse)
  | .tup xs => some (.tup xs.reverse)
  | _ => none
end
end DL

/-! DlS: calls by names; the law's call. -/
namespace DL
open PySem L2
open PySem.Spec PyProof.Rows

structure DK (X : Cx) (cl : Str → Addr) (W : WX) (kws : List Keyword) (f : M (List D)) : Prop where
  ex : ∃ te, PK X kws te ∧ ∀ c σ s T H Q, SI X.K cl c H σ s T → WantA X.K cl W c σ T (f s) Q → te σ H Q
def pick {α : Type} (ix : List Nat) (l : List α) : List α := ix.filterMap fun i => l[i]?
theorem Vals.pick {vs : List V} {us : List Value} (r : Vals vs us) : ∀ ix : List Nat, Vals (DL.pick ix vs) (DL.pick ix us)
  | [] => .nil
  | i :: ix => by
    unfold DL.pick
    rw [List.filterMap_cons, List.filterMap_cons]
    cases e : vs[i]? with
    | none =>
      have e2 : us[i]? = none := by
        rw [List.getElem?_eq_none_iff] at e ⊢
        rw [← r.length]; exact e
      rw [e2]
      exact Vals.pick r ix
    | some v =>
      obtain ⟨u, hu, ru⟩ := r.get e
      rw [hu]
      exact .cons ru (Vals.pick r ix)
theorem RepL.pick {K : PySem.W.Frag} {cl : Str → Addr} {H : Hp} {F : Addr → Prop} {α : List Addr} {ds : List D} {vs : List V} (r : RepL K cl H F α ds vs) : ∀ ix : List Nat, RepL K cl H F α (DL.pick ix ds) (DL.pick ix vs)
  | [] => .nil
  | i :: ix => by
    unfold DL.pick
    rw [List.filterMap_cons, List.filterMap_cons]
    cases e : ds[i]? with
    | none =>
      have e2 : vs[i]? = none := by
        rw [List.getElem?_eq_none_iff] at e ⊢
        rw [← r.length]; exact e
      rw [e2]
      exact RepL.pick r ix
    | some d =>
      obtain ⟨v, hv, rv⟩ := r.get e
      rw [hv]
      exact .cons rv (RepL.pick r ix)
theorem kbn_of {K : PySem.W.Frag} {x qual : Str} {params : Arguments} {body : List Stmt} {scope : Scope} {kws : List (Str × V)} {f : Addr} {fd : FuncData} {ps : List Str} {ix : List Nat} (F : FunD K x qual params body scope [] kws f fd) (n : Nat) (ks : List Str)
    (h : ∀ (kV doc pm : Value) (an : Option Addr) (cdv ct : Value) (us ws : List Value), us.length = n → ws.length = ks.length → bindArgs (PySem.W.fnOf x qual params body scope .none kV doc pm an cdv ct) ⟨us, ks.zip ws⟩ = pure (ps.zip (pick ix (us ++ ws)))) :
    KBn K fd ps n ks (fun us ws => pick ix (us ++ ws)) (fun us ws => pick ix (us ++ ws)) := by
  obtain ⟨oc, od, dV, kV, doc, pm, an, cdv, ct, osl, rfl, lk, hcd, hD, hK⟩ := F.ex
  rcases hD with ⟨_, rfl⟩ | ⟨e, _⟩
  · exact ⟨fun s us ws X l1 l2 => .of_eq (h kV doc pm an cdv ct us ws l1 l2), fun r1 r2 => Vals.pick (r1.append r2) ix⟩
  · exact absurd rfl e
section
variable {X : Cx} {cl : Str → Addr} {W : WX} {k : Nat}
theorem dk_nil : DK X cl W [] aNil := ⟨_, pk_nil, fun c σ s T H Q I w => w [] H rfl I⟩
theorem dk_cons {e : Expr} {nm : Option Str} {kpos : Pos} {kws : List Keyword} {f : M D} {g : M (List D)} (h : DE X cl W e f) (hr : DK X cl W kws g) : DK X cl W (⟨nm, e, kpos⟩ :: kws) (aCons f g) := by
  obtain ⟨te, pe, q⟩ := h
  obtain ⟨ta, pa, qa⟩ := hr
  refine ⟨_, pk_cons pe pa, fun c σ s T H Q I w => ?_⟩
  refine q c σ s T H _ I (w.bind fun d s1 _ w1 v H1 I1 => ?_)
  refine qa c σ s1 _ H1 _ I1 ?_
  cases hg : g s1 with
  | fail => rw [hg] at w1; exact w1
  | exc n fs s2 => rw [hg] at w1; exact fun dx H e i => w1 dx H e (i.xt fun p hp => List.mem_cons_of_mem _ hp)
  | ok ds s2 =>
    rw [hg] at w1
    exact fun vs H2 hl I2 => w1 (v :: vs) H2 (by rw [List.length_cons, List.length_cons, hl]) I2
def eCallK (io : List Bool) (sem : Sem) (n m : Nat) (ix : List Nat) (f fk : M (List D)) : M D := fun s => (f s).bind fun ds s => (fk s).bind fun es s => if ds.length = n ∧ es.length = m then callS io sem (pick ix (ds ++ es)) s else .fail
theorem zipT_key : ∀ (ds : List D) (vs : List V) (T T' : List (D × V)), (∀ p ∈ T, p ∈ T') → ∀ p ∈ zipT ds vs T, p ∈ zipT ds vs T' := by
  intro ds
  induction ds with
  | nil => intro vs T T' h p hp; exact h p hp
  | cons d ds ih =>
    intro vs T T' h p hp
    cases vs with
    | nil => exact h p hp
    | cons v vs => exact ih vs _ _ (fun p hp => (List.mem_cons.mp hp).elim (fun e => e ▸ List.mem_cons_self ..) fun hp => List.mem_cons_of_mem _ (h p hp)) p hp
theorem zipT_or : ∀ (ds : List D) (vs : List V) (T : List (D × V)) (p : D × V), p ∈ zipT ds vs T → p ∈ T ∨ p ∈ zipT ds vs [] := by
  intro ds
  induction ds with
  | nil => intro vs T p hp; exact .inl hp
  | cons d ds ih =>
    intro vs T p hp
    cases vs with
    | nil => exact .inl hp
    | cons v vs =>
      rcases ih vs _ p hp with h | h
      · rcases List.mem_cons.mp h with h | h
        · exact .inr (zipT_sub ds vs [(d, v)] p (by rw [h]; exact List.mem_cons_self ..))
        · exact .inl h
      · exact .inr (zipT_key ds vs [] [(d, v)] (fun _ h => by simp at h) p h)
theorem zz (ds : List D) (vs : List V) (es : List D) (zs : List V) (T : List (D × V)) : ∀ p ∈ zipT es zs (zipT ds vs (zipT ds vs T)), p ∈ zipT es zs (zipT ds vs T) := by
  refine zipT_key es zs _ _ fun p hp => ?_
  rcases zipT_or ds vs _ p hp with h | h
  · exact h
  · exact zipT_key ds vs [] T (fun _ h => by simp at h) p h
end

/-! ### the law, called -/
end DL

/-! DlZ: zip, strict, over any two walks of one length. -/
namespace DL
open PySem
open PySem.Sem (wp)
section
variable {prog : Program} {w : World} {A : Around} {E : Value → Shared → Prop} {s : Shared}
/-- the zip's record, strict -/
abbrev IsZs (h : Heap) (z TI TO : Addr) (f0 : Value) : Prop :=
  h.get? z = some { cls := .type "zip", dict := none, data := .fields #[f0, .bool false, .bool true, .ref TI, .ref TO], slots := #[] }
/-- two walks, the zip's own objects, all apart -/
structure Zw (z TI TO i1 i2 : Addr) (fp1 fp2 wr1 wr2 : List Addr) : Prop where
  TIz : TI ≠ z
  TOz : TO ≠ z
  TITO : TI ≠ TO
  z1 : z ∉ fp1
  z2 : z ∉ fp2
  I1 : TI ∉ fp1
  I2 : TI ∉ fp2
  O1 : TO ∉ fp1
  O2 : TO ∉ fp2
  a12 : ∀ b ∈ fp1, b ∉ wr2
  a21 : ∀ b ∈ fp2, b ∉ wr1
variable {z TI TO i1 i2 : Addr} {fp1 fp2 wr1 wr2 : List Addr} {n : Nat} {P1 P2 : Nat → Value → Prop} {S1 S2 : Nat → Heap → Prop}
end
abbrev zH3 (h : Heap) (o1 o2 : Obj) : Heap := ((h.push o1).push o2).push { cls := .type "tuple", data := .seq #[.ref h.objs.size, .ref (h.push o1).objs.size] }
abbrev zH4 (h : Heap) (o1 o2 : Obj) : Heap := (zH3 h o1 o2).push { cls := .type "tuple", data := .seq #[.none, .none] }
abbrev zH5 (h : Heap) (o1 o2 : Obj) : Heap := (zH4 h o1 o2).push { cls := .type "zip", data := .fields #[.none, .bool false, .bool true, .ref ((h.push o1).push o2).objs.size, .ref (zH3 h o1 o2).objs.size] }
section
variable {prog : Program} {w : World} {A : Around} {E : Value → Shared → Prop} {s : Shared}
variable {z TI TO i1 i2 : Addr} {fp1 fp2 wr1 wr2 : List Addr} {n : Nat} {P1 P2 : Nat → Value → Prop} {S1 S2 : Nat → Heap → Prop}
end
end DL

/-! DlY: zip of two texts, strict, as something walked. -/
namespace DL
open PySem PySem.Spec PyProof.Rows L2
/-- the signs of two texts, in new pairs -/
def ItzS (x y : Str) (n : Nat) : It :=
  ⟨fun i _ => i < n,
    fun i H v H' => ∃ T c d, v = .ref T ∧ H T = none ∧ H' = upd H T (.tup [.str ⟨#[c]⟩, .str ⟨#[d]⟩]) ∧ x.cps[i]? = some c ∧ y.cps[i]? = some d,
    fun i _ => n ≤ i⟩
def iZipS (t : TA) : TI := fun σ H R => t σ H fun vs H1 => ∃ x y : Str, vs = [.str x, .str y] ∧ y.cps.size = x.cps.size ∧ R (ItzS x y x.cps.size) H1
end DL

/-! DlV: len(set(..)) of keys, in any number. -/
namespace DL
open PySem PySem.Spec PyProof.Rows L2
/-- how many different ones -/
def dnR {K : Type} [DecidableEq K] : List K → Nat
  | [] => 0
  | x :: xs => if x ∈ xs then dnR xs else dnR xs + 1
def dn {K : Type} [DecidableEq K] (l : List K) : Nat := dnR l.reverse
def memB {K : Type} [DecidableEq K] (l : List K) (j : K) : Bool := decide (j ∈ l)
section
variable {P : Program} {w : World} {A : Around} {E : Value → Shared → Prop} {s : Shared} {K : Type} [DecidableEq K] {knd : PySem.KeyKind P w K}
end
section
variable {X : Cx} {cl : Str → Addr} {W : WX}
/-- len(set(e)), e a list or tuple of ints, texts -/
def tLenSetK (K : PySem.W.Frag) (ta : TE) : TE := fun σ H Q => ta σ H fun x H1 => ∃ (l : Addr) (ks : List Key), x = .ref l ∧ (SqL K H1 l (ks.map kV) ∨ SqT K H1 l (ks.map kV)) ∧ ks.length + 1 < 4096 ∧ Q (.int (dn ks : Nat)) H1
def keysD : List D → Option (List Key)
  | [] => some []
  | .str z :: ds => (keysD ds).map (.inr z :: ·)
  | .int z :: ds => (keysD ds).map (.inl z :: ·)
  | _ => none
def dLenSet (d : D) : Option D := match (seqD d).bind keysD with
  | some ks => if ks.length < 4000 then some (.int (dn ks : Nat)) else none
  | none => none
end
end DL

/-! DlW: comparisons in a chain; enumerate over lists, tuples, texts. -/
namespace DL
open PySem PySem.Spec PyProof.Rows L2
section
variable {X : Cx} {cl : Str → Addr} {W : WX}
/-- a op b op c -/
def eChain (g h : D → D → Option D) (fa fb fc : M D) : M D := fun s => (fa s).bind fun x s => (fb s).bind fun y s => match g (view s.M x) (view s.M y) with
  | some (.bl true) => (fc s).bind fun z s => oOf (h (view s.M y) (view s.M z)) s
  | some (.bl false) => .ok (.bl false) s
  | _ => .fail
end

/-! ### enumerate -/
def Ett (K : PySem.W.Frag) (a : Addr) (n : Nat) : It :=
  ⟨fun i H => i < n ∧ ∃ xs : List V, xs.length = n ∧ SqT K H a xs, fun i H v H' => ∃ T x, v = .ref T ∧ H T = none ∧ H' = upd H T (.tup [.int (i : Nat), x]) ∧ ∀ xs, SqT K H a xs → xs[i]? = some x, fun i H => n ≤ i ∧ ∃ xs : List V, xs.length = n ∧ SqT K H a xs⟩
def Ets (z : Str) : It :=
  ⟨fun i _ => i < z.cps.size, fun i H v H' => ∃ T c, v = .ref T ∧ H T = none ∧ H' = upd H T (.tup [.int (i : Nat), .str ⟨#[c]⟩]) ∧ z.cps[i]? = some c, fun i _ => z.cps.size ≤ i⟩
theorem nat1 (i : Nat) : ((i + 1 : Nat) : Int) = (i : Int) + 1 := by omega
theorem enum_item {X : Cx} {elts : List Expr} {kk : Nat} {tpos : Pos} {e it : Addr} {fp : List Addr} {n i : Nat} {P : Nat → Value → Prop} {St : Nat → Heap → Prop} {old : Value} {pins : List (Addr × Obj)} {s : Shared} {σ : L2.St} {H : Hp} {E : Value → Shared → Prop} {R : V → Hp → Heap → Prop}
    (Dr : Draws X.prog X.w X.A.in1 it fp n P St) (I : Inv X pins σ H s) (hf : ∀ b ∈ [e, it], FpOk X pins H b) (he : IsEnum s.heap e it ((i : Nat) : Int) old) (hst : St i s.heap) (hlt : i < n) (hne : e ≠ it) (hef : e ∉ fp)
    (hR : ∀ x u T h'', P i u → RelV x u → H T = none → (∃ old', IsEnum h'' e it (((i + 1 : Nat) : Nat) : Int) old') → St (i + 1) h'' → R (.ref T) (upd H T (.tup [.int (i : Nat), x])) h'') (hx : ∀ u, P i u → ∃ x, RelV x u) :
    wpAny (model X.prog X.w) X.A (pyNext (.ref e)) (fun r s1 => ∃ u, r = some u ∧ wpAny (model X.prog X.w) X.A (letOwnedTupleGo (.Tuple elts kk tpos) (.ref e) u) (fun _ s2 => ∃ x H', Inv X pins σ H' s2 ∧ RelV x u ∧ R x H' s2.heap ∧ ∀ b ∈ [e, it], H' b = none) E s1) E s := by
  refine wpAny_pyNext_enum_itemD Dr he hst hlt hne hef fun x h' tk px ho hst' hT hsz hk => ?_
  have hel : e < s.heap.objs.size := Heap.lt_size he
  have hil : it < s.heap.objs.size := by
    obtain ⟨o, q⟩ := Dr.live i _ hst
    exact Heap.lt_size q
  refine ⟨_, rfl, wpAny_letOwnedTupleGo_enum (s := { s with heap := h', toks := tk + 1 }) ho fun h'' he' sb => ?_⟩
  obtain ⟨v, rv⟩ := hx x px
  have hT2 : h''.get? s.heap.objs.size = some { cls := .type "tuple", data := .seq #[.int i tk, x] } := (sb.2 _ (Nat.ne_of_gt hel)).trans hT
  have new : ObjOk X.prog X.w (upd H s.heap.objs.size (.tup [.int (i : Nat), v])) h'' s.heap.objs.size (.tup [.int (i : Nat), v]) :=
    ⟨by show 2 ≤ sizeLine; decide, [.int i tk, x], .cons ⟨_, rfl⟩ (.cons rv .nil), ⟨_, hT2, rfl, _, rfl⟩⟩
  have I1 : Inv X pins σ (upd H s.heap.objs.size (.tup [.int (i : Nat), v])) { s with heap := h'', toks := tk + 1 } :=
    I.turnedNew (ch := [e, it]) (fun b ob hb q => (sb.2 b (fun z => hb (by simp [z]))).trans (hk b ob (fun z => hb (by simp [z])) (fun z => hb (by simp [z])) q)) hf (Nat.le_refl _) new
  refine ⟨.ref s.heap.objs.size, _, I1, rfl, hR v x _ _ px rv (I.hok.fresh (Nat.le_refl _)) ⟨x, ?_⟩ (Dr.frame _ _ _ hst' fun b hb o q => (sb.2 b (fun z => hef (z ▸ hb))).trans q), fun b hb => ?_⟩
  · rw [nat1]; exact he'
  · have hb' : b < s.heap.objs.size := by
      have e' : b = e ∨ b = it := by simpa using hb
      rcases e' with z | z
      · rw [z]; exact hel
      · rw [z]; exact hil
    rw [upd_ne (Nat.ne_of_lt hb')]
    exact (hf b hb).1
theorem enum_end {X : Cx} {e it : Addr} {fp : List Addr} {n : Nat} {P : Nat → Value → Prop} {St : Nat → Heap → Prop} {i : Int} {old : Value} {pins : List (Addr × Obj)} {s : Shared} {σ : L2.St} {H : Hp} {E : Value → Shared → Prop}
    (Dr : Draws X.prog X.w X.A.in1 it fp n P St) (I : Inv X pins σ H s) (hf : FpOk X pins H it) (he : IsEnum s.heap e it i old) (hst : St n s.heap) :
    wpAny (model X.prog X.w) X.A (pyNext (.ref e)) (fun r s1 => r = none ∧ Inv X pins σ H s1) E s := by
  obtain ⟨f0, f1, f2, f3, f4, f5⟩ := hf
  exact wpAny_pyNext_enum_endD Dr he hst fun h' eb => ⟨rfl, I.turned (t' := s.toks) (fun b o hb q => eb b o hb q) f0 f1 f3 f4 f5⟩
theorem turn_enumT {P : Program} {w : World} {K : PySem.W.Frag} {elts : List Expr} {kk : Nat} {tpos : Pos} {n : Nat} (a e it : Addr) :
    Turn P w K (.Tuple elts kk tpos) (Ett K a n) [e, it] e (fun i h => (∃ old, IsEnum h e it ((i : Nat) : Int) old) ∧ h.IsTupleIter it a i ∧ e ≠ it ∧ a ≠ e ∧ a ≠ it ∧ i ≤ n) where
  mem := by simp
  obj := fun i h st b hb => by
    obtain ⟨⟨old, he⟩, ⟨o, ho, hc, hd⟩, _⟩ := st
    have e' : b = e ∨ b = it := by simpa using hb
    rcases e' with z | z
    · rw [z]; exact ⟨_, he, fun v q => nomatch q⟩
    · rw [z]; exact ⟨o, ho, fun v q => by rw [hd] at q; cases q⟩
  keep := fun i h h' st k => let ⟨⟨old, he⟩, hi, hne⟩ := st; ⟨⟨old, k e (by simp) _ he⟩, hi.at fun o q => k it (by simp) o q, hne⟩
  item := by
    intro X hP hw hK hc i pins s σ H E I hf st hg
    subst hP hw hK
    obtain ⟨⟨old, he⟩, hit, hne, n1, n2, hin⟩ := st
    obtain ⟨lt0, xs, hxn, hq⟩ := hg
    have hx : xs[i]? = some xs[i] := List.getElem?_eq_getElem (by omega)
    obtain ⟨x, ex⟩ : ∃ x, x = xs[i] := ⟨_, rfl⟩
    rw [← ex] at hx
    obtain ⟨its, rv, p, hz⟩ := I.tuple hq
    obtain ⟨u, hu, ru⟩ := rv.get hx
    have lt : i < its.toArray.size := by rw [List.size_toArray]; exact (List.getElem?_eq_some_iff.mp hu).1
    refine wpAny_mono (enum_item (R := fun x H' h => (Ett X.K a n).yld i H x H' ∧ (∃ old, IsEnum h e it ((i + 1 : Nat) : Int) old) ∧ h.IsTupleIter it a (i + 1) ∧ e ≠ it ∧ a ≠ e ∧ a ≠ it ∧ i + 1 ≤ n)
      (Draws.tuple (A := X.A.in1) (I.ok.hd hc) it a n2 its.toArray) I hf he ⟨hit, p⟩ lt hne (by simp [hne, n1.symm]) (fun y v T h'' pv rv' hT en st' => ?_) (fun v pv => ⟨x, ?_⟩))
      (fun r s1 ⟨u, e1, q⟩ => ⟨u, e1, wpAny_mono q (fun _ s2 ⟨y, H', J, r, ⟨q1, q2⟩, q3⟩ => ⟨y, H', J, r, q1, q2, q3⟩) fun _ _ k => k⟩) fun _ _ k => k
    · have ev : v = u := by
        have pv' : its[i]? = some v := by simpa using pv
        rw [hu] at pv'; exact (Option.some.inj pv').symm
      subst ev
      have ey : y = x := RelV.inj rv' ru
      subst ey
      exact ⟨⟨T, y, rfl, hT, rfl, fun ys hy => by rw [I.tuple_inj hy hq]; exact hx⟩, en, st'.1, hne, n1, n2, lt0⟩
    · have pv' : its[i]? = some v := by simpa using pv
      rw [hu] at pv'
      cases pv'
      exact ru
  done := by
    intro X hP hw hK hc i pins s σ H E I hf st hg
    subst hP hw hK
    obtain ⟨⟨old, he⟩, hit, hne, n1, n2, hin⟩ := st
    obtain ⟨hx, xs, hxn, hq⟩ := hg
    obtain ⟨its, rv, p, hz⟩ := I.tuple hq
    have hl := rv.length
    have en : i = its.toArray.size := by rw [List.size_toArray]; omega
    exact enum_end (Draws.tuple (A := X.A.in1) (I.ok.hd hc) it a n2 its.toArray) I (hf it (by simp)) he ⟨by rw [← en]; exact hit, p⟩
  self := fun A i s Q E st h => let ⟨⟨_, he⟩, _⟩ := st; wpAny_pyIter_enum he h
theorem turn_enumS {P : Program} {w : World} {K : PySem.W.Frag} {elts : List Expr} {kk : Nat} {tpos : Pos} (z : Str) (t : Tok) (e it : Addr) :
    Turn P w K (.Tuple elts kk tpos) (Ets z) [e, it] e (fun i h => (∃ old, IsEnum h e it ((i : Nat) : Int) old) ∧ h.IsStrIter it (strIterType z) z t i ∧ e ≠ it ∧ i ≤ z.cps.size) where
  mem := by simp
  obj := fun i h st b hb => by
    obtain ⟨⟨old, he⟩, ⟨o, ho, hc, hd⟩, _⟩ := st
    have e' : b = e ∨ b = it := by simpa using hb
    rcases e' with z | z
    · rw [z]; exact ⟨_, he, fun v q => nomatch q⟩
    · rw [z]; exact ⟨o, ho, fun v q => by rw [hd] at q; cases q⟩
  keep := fun i h h' st k => let ⟨⟨old, he⟩, ⟨o, ho, r⟩, hne⟩ := st; ⟨⟨old, k e (by simp) _ he⟩, ⟨o, k it (by simp) o ho, r⟩, hne⟩
  item := by
    intro X hP hw hK hc i pins s σ H E I hf st hg
    subst hP hw hK
    obtain ⟨⟨old, he⟩, hit, hne, hin⟩ := st
    have lt0 : i < z.cps.size := hg
    refine wpAny_mono (enum_item (R := fun x H' h => (Ets z).yld i H x H' ∧ (∃ old, IsEnum h e it ((i + 1 : Nat) : Int) old) ∧ h.IsStrIter it (strIterType z) z t (i + 1) ∧ e ≠ it ∧ i + 1 ≤ z.cps.size)
      (Draws.text (A := X.A.in1) (I.ok.hd hc) it z t) I hf he hit lt0 hne (by simp [hne]) (fun y v T h'' pv rv' hT en st' => ?_) (fun v pv => ?_))
      (fun r s1 ⟨u, e1, q⟩ => ⟨u, e1, wpAny_mono q (fun _ s2 ⟨y, H', J, r, ⟨q1, q2⟩, q3⟩ => ⟨y, H', J, r, q1, q2, q3⟩) fun _ _ k => k⟩) fun _ _ k => k
    · obtain ⟨cp, tk, h1, rfl⟩ := pv
      have ey : y = .str ⟨#[cp]⟩ := RelV.inj rv' ⟨tk, rfl⟩
      subst ey
      exact ⟨⟨T, cp, rfl, hT, rfl, h1⟩, en, st', hne, lt0⟩
    · obtain ⟨cp, tk, h1, rfl⟩ := pv
      exact ⟨.str ⟨#[cp]⟩, tk, rfl⟩
  done := by
    intro X hP hw hK hc i pins s σ H E I hf st hg
    subst hP hw hK
    obtain ⟨⟨old, he⟩, hit, hne, hin⟩ := st
    have hx : z.cps.size ≤ i := hg
    have en : i = z.cps.size := Nat.le_antisymm hin hx
    exact enum_end (Draws.text (A := X.A.in1) (I.ok.hd hc) it z t) I (hf it (by simp)) he (by rw [← en]; exact hit)
  self := fun A i s Q E st h => let ⟨⟨_, he⟩, _⟩ := st; wpAny_pyIter_enum he h
set_option maxHeartbeats 1000000 in
theorem meets_enumT (l : Addr) (items : Array Value) (n : Nat) (dct : Option Addr) (sl : Array (Option Value)) :
    Meets (Builtin.«enumerate.__new__» ⟨[.type "enumerate", .ref l], []⟩) (fun _ R s => s.heap.get? l = some { cls := .type "tuple", dict := dct, data := .seq items n, slots := sl } ∧
      R (.ok (.ret (.ref (s.heap.push { cls := .type "tuple_iterator", data := .fields #[.ref l, .int 0 0] }).objs.size)))
        { s with heap := (s.heap.push { cls := .type "tuple_iterator", data := .fields #[.ref l, .int 0 0] }).push { cls := .type "enumerate", data := .fields #[.none, .bool false, .ref s.heap.objs.size, rawInt 0, .none, .none] } }) :=
  .of_wp fun prog w A R s ⟨hl, h⟩ => by
    obtain ⟨hp, g, d, tk, os⟩ := s
    have hsub := sub_enumerate
    have hL : Heap.IsTuple (Shared.heap ⟨hp, g, d, tk, os⟩) l items := ⟨_, hl, rfl, n, rfl⟩
    wp_walk using wpAny_loadPart' hl
    refine wpAny_stack_any fun st => wpAny_pure ?_
    split
    · rename_i c _ _ _ _ _
      cases (c == Value.type "enumerate")
      · wp_walk using wpAny_loadPart' hl, wpAny_pyIter_tuple hL
        exact ⟨_, rfl, h⟩
      · wp_walk using wpAny_loadPart' hl, wpAny_pyIter_tuple hL
        exact ⟨_, rfl, h⟩
    · wp_walk using wpAny_loadPart' hl, wpAny_pyIter_tuple hL
      exact ⟨_, rfl, h⟩
theorem call_enumT {prog : Program} {w : World} {A : Around} {E : Value → Shared → Prop} {s : Shared} {l : Addr} {items : Array Value} {Q : Value → Shared → Prop} (hL : s.heap.IsTuple l items)
    (h : ∀ h', IsEnum h' (s.heap.objs.size + 1) s.heap.objs.size 0 .none → h'.IsTupleIter s.heap.objs.size l 0 → (∀ b o, s.heap.get? b = some o → h'.get? b = some o) → Q (.ref (s.heap.objs.size + 1)) { s with heap := h' }) :
    wpAny (model prog w) A (call (.type "enumerate") [.ref l]) Q E s := by
  obtain ⟨⟨c, dct, dt, sl⟩, hl, hc, n, hd⟩ := hL
  replace hc : c = .type "tuple" := hc
  replace hd : dt = .seq items n := hd
  subst hc hd
  refine callType_new F.called_enumerate (by decide) (F.typeCall_enumerate_1 _) (F.newCall_enumerate_1 _) (fun obj => F.args_object_init_2 obj _) F.entry_enumerate_new
    (meets_enumT l items n dct sl) ⟨hl, ?_⟩
  have hz : (s.heap.push { cls := .type "tuple_iterator", data := .fields #[.ref l, .int 0 0] }).objs.size = s.heap.objs.size + 1 := Heap.size_push ..
  show _ ∧ _
  rw [hz]
  have he : IsEnum ((s.heap.push { cls := .type "tuple_iterator", data := .fields #[.ref l, .int 0 0] }).push
      { cls := .type "enumerate", data := .fields #[.none, .bool false, .ref s.heap.objs.size, rawInt 0, .none, .none] }) (s.heap.objs.size + 1) s.heap.objs.size 0 .none := by
    have := Heap.get?_push_size (s.heap.push { cls := .type "tuple_iterator", data := .fields #[.ref l, .int 0 0] })
      (o := { cls := .type "enumerate", data := .fields #[.none, .bool false, .ref s.heap.objs.size, rawInt 0, .none, .none] }) rfl
    rw [hz] at this; exact this
  refine ⟨⟨_, he, rfl⟩, h _ he ⟨_, Heap.get?_push_of_some _ (Heap.get?_push_size _ rfl), rfl, rfl⟩ fun b o x => Heap.get?_push_of_some _ (Heap.get?_push_of_some _ x)⟩
/-- over a tuple, a text -/
def iEnumTS (K : PySem.W.Frag) (ta : TA) : TI := fun σ H R => ta σ H fun vs H1 => (∃ a xs, vs = [.ref a] ∧ SqT K H1 a xs ∧ R (Ett K a xs.length) H1) ∨ ∃ z, vs = [.str z] ∧ R (Ets z) H1
theorem pi_enumTS {X : Cx} {e : Expr} {ta : TA} {p pos tpos : Pos} {elts : List Expr} {kk : Nat} (hg : Gl X "enumerate") (hm : X.mg "enumerate" = none) (ha : PA X [e] ta) (hs : starEach [e] X.env = [(false, eval e X.env)] := by rfl) :
    PI X (.Tuple elts kk tpos) (.Call (.Name "enumerate" p) [e] [] pos) (iEnumTS X.K ta) := by
  refine ⟨fun pins s σ H R I h => ?_⟩
  refine Call_ (ld_blt I hg hm boot_enumerate (PyProof.Rows.callWith_type1 (thn (ha.run pos pins s σ H _ I h) fun us s1 ⟨vs, H1, I1, r1, q1⟩ => ?_) hs rfl))
  have fresh : ∀ b ∈ [s1.heap.objs.size + 1, s1.heap.objs.size], FpOk X pins H1 b := fun b hb => by
    have e' : b = s1.heap.objs.size + 1 ∨ b = s1.heap.objs.size := by simpa using hb
    have hle : s1.heap.objs.size ≤ b := by
      rcases e' with z | z
      · rw [z]; exact Nat.le_add_right _ _
      · rw [z]; exact Nat.le_refl _
    exact I1.fpOk hle (I1.hok.fresh hle)
  rcases q1 with ⟨a, xs, ex, hq, q⟩ | ⟨z, ex, q⟩
  · subst ex
    obtain ⟨u, rfl, ru⟩ := r1.one
    obtain rfl : u = Value.ref a := ru
    obtain ⟨its, rv, p', hz⟩ := I1.tuple hq
    have la : a < s1.heap.objs.size := by obtain ⟨o, ho, _⟩ := p'; exact Heap.lt_size ho
    refine call_enumT p' fun h' he hit hk => wpAny_pyIter_enum he ?_
    have I2 : Inv X pins σ H1 { s1 with heap := h' } := I1.kept (t' := s1.toks) hk
    exact ⟨s1.heap.objs.size + 1, [s1.heap.objs.size + 1, s1.heap.objs.size], _, _, H1, rfl, I2, turn_enumT a (s1.heap.objs.size + 1) s1.heap.objs.size, ⟨⟨.none, he⟩, hit, Nat.succ_ne_self _, Nat.ne_of_lt (Nat.lt_succ_of_lt la), Nat.ne_of_lt la, Nat.zero_le _⟩, fresh, q⟩
  · subst ex
    obtain ⟨u, rfl, t, rfl⟩ := r1.one
    refine call_enumerate_str fun h' he hit hsz hk => wpAny_pyIter_enum he ?_
    have I2 : Inv X pins σ H1 { s1 with heap := h' } := I1.kept (t' := s1.toks) hk
    exact ⟨s1.heap.objs.size + 1, [s1.heap.objs.size + 1, s1.heap.objs.size], _, _, H1, rfl, I2, turn_enumS z t (s1.heap.objs.size + 1) s1.heap.objs.size, ⟨⟨.none, he⟩, hit, Nat.succ_ne_self _, Nat.zero_le _⟩, fresh, q⟩
/-- the pairs -/
def enumL : Nat → List D → List D
  | _, [] => []
  | i, d :: ds => .kt [.int (i : Nat), d] :: enumL (i + 1) ds
theorem enumL_len : ∀ (ds : List D) (i : Nat), (enumL i ds).length = ds.length
  | [], _ => rfl
  | _ :: ds, i => congrArg Nat.succ (enumL_len ds (i + 1))
theorem enumL_at : ∀ (ds : List D) (i j : Nat), (enumL i ds)[j]? = ds[j]?.map fun d => D.kt [.int ((i + j : Nat) : Int), d]
  | [], _, _ => by simp [enumL]
  | d :: ds, i, 0 => rfl
  | d :: ds, i, j + 1 => by
    show (enumL (i + 1) ds)[j]? = ds[j]?.map _
    rw [enumL_at ds (i + 1) j, show i + 1 + j = i + (j + 1) by omega]
def itEnum (d : D) : Option (List D) := (itSeq d).map (enumL 0)
section
variable {X : Cx} {cl : Str → Addr} {W : WX}
theorem pair_in {K : PySem.W.Frag} {c : Cz} {σ : L2.St} {s : S} {T : List (D × V)} {H : Hp} {F : Addr → Prop} {α : List Addr} {p : Addr} {i : Nat} {d : D} {x : V} (J : SIx K cl c H σ s T F α) (r : Rep K cl H F α d x) (hp : H p = none) :
    SI K cl c (upd H p (.tup [.int (i : Nat), x])) σ s ((.kt [.int (i : Nat), d], .ref p) :: T) := J.ktNew hp (.cons .int (.cons r .nil))
theorem drv_enumL {K : PySem.W.Frag} {a : Addr} {d : D} (h1 : tpD d = none) (h2 : ∀ z, d ≠ .str z) : Drv K cl (Ite K a) [(d, .ref a)] itEnum d := by
  intro c H σ s T i ds I e
  obtain ⟨es, e1, rfl⟩ := Option.map_eq_some_iff.mp e
  obtain ⟨F, α, J⟩ := id I
  have e' := itSeq_seq (fun z q => h2 z (view_str q)) e1
  obtain ⟨b, vs, ev, hl, r⟩ := J.vSeqL (J.tmp (d, .ref a) (List.mem_append_left _ (List.mem_cons_self ..))) h1 e'
  cases ev
  refine ⟨fun g hg => ?_, fun hl' => ⟨vs, hl, by rw [← r.length, ← enumL_len es 0]; exact hl'⟩⟩
  rw [enumL_at] at hg
  obtain ⟨y, h3, rfl⟩ := Option.map_eq_some_iff.mp hg
  obtain ⟨x, h4, r4⟩ := r.get h3
  refine ⟨⟨vs, x, hl, h4⟩, fun z H'' hy => ?_⟩
  obtain ⟨T', x', rfl, hT, rfl, hy⟩ := hy
  have := hy vs hl
  rw [h4] at this; cases this
  rw [Nat.zero_add]
  exact pair_in J r4 hT
theorem tp_seq {M : List (Option C)} {d : D} {xs es : List D} (hd : tpD d = some xs) (e : itSeq (view M d) = some es) : es = xs := by
  have q := tp_view (M := M) hd
  revert e q
  generalize view M d = u
  intro e q
  cases u <;> simp [tpD] at q
  · subst q; exact (Option.some.inj (show some _ = some es from e)).symm
  · subst q; exact (Option.some.inj (show some _ = some es from e)).symm
theorem drv_enumT {K : PySem.W.Frag} {a : Addr} {d : D} {xs : List D} (hd : tpD d = some xs) : Drv K cl (Ett K a xs.length) [(d, .ref a)] itEnum d := by
  intro c H σ s T i ds I e
  obtain ⟨es, e1, rfl⟩ := Option.map_eq_some_iff.mp e
  obtain ⟨F, α, J⟩ := id I
  have e' := tp_seq hd e1
  subst e'
  obtain ⟨b, vs, ev, hl, r⟩ := J.vTp (J.tmp (d, .ref a) (List.mem_append_left _ (List.mem_cons_self ..))) (tp_view hd)
  cases ev
  refine ⟨fun g hg => ?_, fun hl' => ⟨by rw [← enumL_len es 0]; exact hl', vs, r.length.symm, hl⟩⟩
  rw [enumL_at] at hg
  obtain ⟨y, h3, rfl⟩ := Option.map_eq_some_iff.mp hg
  obtain ⟨x, h4, r4⟩ := r.get h3
  refine ⟨⟨(List.getElem?_eq_some_iff.mp h3).1, vs, r.length.symm, hl⟩, fun z H'' hy => ?_⟩
  obtain ⟨T', x', rfl, hT, rfl, hy⟩ := hy
  have := hy vs hl
  rw [h4] at this; cases this
  rw [Nat.zero_add]
  exact pair_in J r4 hT
theorem drv_enumS {K : PySem.W.Frag} {z : Str} {P : List (D × V)} : Drv K cl (Ets z) P itEnum (.str z) := by
  intro c H σ s T i ds I e
  obtain ⟨es, e1, rfl⟩ := Option.map_eq_some_iff.mp e
  have e' : es = z.cps.toList.map fun c => D.str ⟨#[c]⟩ := (Option.some.inj (show some _ = some es from e1)).symm
  subst e'
  refine ⟨fun g hg => ?_, fun hl => by rw [enumL_len, List.length_map, Array.length_toList] at hl; exact hl⟩
  rw [enumL_at, List.getElem?_map, Option.map_map] at hg
  obtain ⟨cp, h1, rfl⟩ := Option.map_eq_some_iff.mp hg
  have h1' : z.cps[i]? = some cp := by rw [← Array.getElem?_toList]; exact h1
  refine ⟨(Array.getElem?_eq_some_iff.mp h1').1, fun x H'' hy => ?_⟩
  obtain ⟨T', c', rfl, hT, rfl, hy⟩ := hy
  rw [h1'] at hy; cases hy
  obtain ⟨F, α, J⟩ := I
  show SI K cl c _ σ s ((D.kt [.int ((0 + i : Nat) : Int), .str ⟨#[cp]⟩], _) :: _)
  rw [Nat.zero_add]
  exact pair_in J .str hT
/-- enumerate(e) -/
theorem di_enum {e : Expr} {f : M D} {p pos tpos : Pos} {elts : List Expr} {kk : Nat} (h : DE X cl W e f) (hm : X.mg "enumerate" = none) (hg : Gl X "enumerate" := by rfl) (hs : starEach [e] X.env = [(false, eval e X.env)] := by rfl) :
    DI X cl W (.Tuple elts kk tpos) (.Call (.Name "enumerate" p) [e] [] pos) f itEnum := by
  obtain ⟨te, pe, q⟩ := h
  have pa := pa_cons pe pa_nil hs
  refine ⟨_, PI.or (pi_enum hg hm pa hs) (pi_enumTS hg hm pa hs), fun c σ s T H R I w hs => ?_⟩
  cases hf : f s with
  | fail => rw [hf] at w; exact w.elim
  | exc n fs s1 => exact .inl (q c σ s T H _ I (by rw [hf] at w ⊢; exact w))
  | ok d s1 =>
    obtain ⟨ds0, hds0⟩ := Option.isSome_iff_exists.mp (hs d s1 hf)
    obtain ⟨ds, hds, _⟩ := Option.map_eq_some_iff.mp hds0
    rw [hf] at w
    have w : ∀ H J P, SI X.K cl c H σ s1 (P ++ T) → Drv X.K cl J P itEnum d → R J H := w
    by_cases h2 : ∃ z, d = .str z
    · obtain ⟨z, rfl⟩ := h2
      refine .inr (q c σ s T H _ I ?_)
      rw [hf]
      intro v H1 I1
      have ev := rep_str I1
      subst ev
      exact .inr ⟨z, rfl, w H1 _ [(.str z, .str z)] I1 drv_enumS⟩
    · cases h1 : tpD d with
      | some xs =>
        refine .inr (q c σ s T H _ I ?_)
        rw [hf]
        intro v H1 I1
        obtain ⟨F, α, J1⟩ := id I1
        obtain ⟨a, vs, ev, h2, rl⟩ := J1.vTp (J1.tmp (d, v) (List.mem_cons_self ..)) (tp_view h1)
        have ev : v = .ref a := ev
        subst ev
        exact .inl ⟨a, vs, rfl, h2, by rw [← rl.length]; exact w H1 _ [(d, .ref a)] I1 (drv_enumT h1)⟩
      | none =>
        have h2' : ∀ z, d ≠ .str z := fun z e => h2 ⟨z, e⟩
        refine .inl (q c σ s T H _ I ?_)
        rw [hf]
        intro v H1 I1
        obtain ⟨F, α, J1⟩ := id I1
        obtain ⟨a, vs, ev, h3, rl⟩ := J1.vSeqL (J1.tmp (d, v) (List.mem_cons_self ..)) h1 (itSeq_seq (fun z e => h2' z (view_str e)) hds)
        have ev : v = .ref a := ev
        subst ev
        exact ⟨a, vs, rfl, h3, w H1 _ [(d, .ref a)] I1 (drv_enumL h1 h2')⟩
end
end DL

/-! DlX: x.index(y); sum; dicts read; dict comprehensions. -/
namespace DL
open PySem PySem.Spec PyProof.Rows L2
section
variable {X : Cx} {cl : Str → Addr} {W : WX}
/-- x.index(y), x a list or a tuple -/
def rIxT (K : PySem.W.Frag) : V → List V → Hp → VK → Prop := fun x xs H Q => ∃ p, ∃ ys : List Str, ∃ z j, x = .ref p ∧ xs = [.str z] ∧ SqT K H p (ys.map V.str) ∧ ys[j]? = some z ∧ (∀ m, m < j → ys[m]? ≠ some z) ∧ Q (.int (j : Nat)) H
def tIndex (K : PySem.W.Frag) (to : TE) (t : TA) : TE := fun σ H Q => to σ H fun x H1 => (∃ a xs, x = .ref a ∧ SqN K H1 a xs ∧ t σ H1 fun zs H2 => rIxT K x zs H2 Q) ∨ ∃ a xs, x = .ref a ∧ SqL K H1 a xs ∧ t σ H1 fun zs H2 => rIndex K x zs H2 Q
def isSeqIx : D → Bool
  | .tup _ => true | .lst _ => true | .slst _ => true
  | _ => false
/-- the place of a text among texts -/
def dIndex : D → D → Option D
  | d, .str z => match (if isSeqIx d = true then seqD d else none).bind strsD with
    | some zs => if z ∈ zs then some (.int (zs.idxOf z : Nat)) else none
    | none => none
  | _, _ => none
def eIndex (fo : M D) (fa : M (List D)) : M D := fun s => (fo s).bind fun d s1 => if isSeqIx (view s1.M d) = true then (fa s1).bind fun ds s2 => oOf (g1m dIndex (view s2.M d) (ds.map (view s2.M))) s2 else .fail
/-- sum of a list of ints -/
def dSum : D → Option D
  | .lst xs => (intsD xs).map fun ns => .int ns.sum
  | .slst xs => (intsD xs).map fun ns => .int ns.sum
  | _ => none
end
end DL

/-! DlXb: dicts read; dict comprehensions. -/
namespace DL
open PySem PySem.Spec PyProof.Rows L2
/-- a dict's entry -/
def valD {κ α : Type} [DecidableEq κ] (kvs : List (κ × α)) (k : κ) : Option α := (kvs.find? fun kv => decide (kv.1 = k)).map (·.2)
def putD {κ α : Type} [DecidableEq κ] (kvs : List (κ × α)) (k : κ) (d : α) : List (κ × α) :=
  if (kvs.any fun kv => decide (kv.1 = k)) = true then kvs.map (fun kv => if kv.1 = k then (kv.1, d) else kv) else kvs ++ [(k, d)]
def keyD : D → Option Key
  | .int i => some (.inl i)
  | .str z => some (.inr z)
  | _ => none
section
variable {K : PySem.W.Frag} {cl : Str → Addr} {H : Hp} {F : Addr → Prop} {α : List Addr}
theorem keyD_rep {d : D} {v : V} {k : Key} (r : Rep K cl H F α d v) (h : keyD d = some k) : v = kV k := by
  cases r <;> simp [keyD] at h <;> subst h <;> rfl
theorem RepK.keys : ∀ {kvs : List (Key × D)} {vs : List (Key × V)}, RepK K cl H F α kvs vs → kvs.map (·.1) = vs.map (·.1)
  | _, _, .nil => rfl
  | _, _, .cons _ r => by simp [r.keys]
theorem RepK.of : ∀ {kvs : List (Key × D)} {vs : List (Key × V)}, kvs.map (·.1) = vs.map (·.1) → RepL K cl H F α (kvs.map (·.2)) (vs.map (·.2)) → RepK K cl H F α kvs vs
  | [], [], _, _ => .nil
  | (k, d) :: kvs, (k', v) :: vs, h, r => by
    simp only [List.map_cons, List.cons.injEq] at h
    obtain ⟨rfl, h⟩ := h
    cases r with
    | cons h1 r => exact .cons h1 (RepK.of h r)
  | [], _ :: _, h, _ => by simp at h
  | _ :: _, [], h, _ => by simp at h
theorem RepK.valD : ∀ {kvs : List (Key × D)} {vs : List (Key × V)} {k : Key} {d : D}, RepK K cl H F α kvs vs → DL.valD kvs k = some d → ∃ v, valV vs k = some v ∧ Rep K cl H F α d v
  | _, _, k, d, .nil, h => by cases h
  | (k1, d1) :: kvs, (_, v1) :: vs, k, d, .cons h r, e => by
    by_cases q : k1 = k
    · subst q
      have e1 : d1 = d := by simpa [DL.valD, List.find?_cons] using e
      subst e1
      exact ⟨v1, valV_pos rfl, h⟩
    · have e1 : DL.valD kvs k = some d := by simpa [DL.valD, List.find?_cons, q] using e
      obtain ⟨v, h1, h2⟩ := r.valD e1
      exact ⟨v, (valV_neg q).trans h1, h2⟩
theorem any_keys {α β : Type} {k : Key} : ∀ {kvs : List (Key × α)} {vs : List (Key × β)}, kvs.map (·.1) = vs.map (·.1) → (kvs.any fun kv => decide (kv.1 = k)) = (vs.any fun kv => decide (kv.1 = k))
  | [], [], _ => rfl
  | (k1, _) :: kvs, (k2, _) :: vs, h => by
    simp only [List.map_cons, List.cons.injEq] at h
    obtain ⟨rfl, h⟩ := h
    simp only [List.any_cons, any_keys h]
  | [], _ :: _, h => by simp at h
  | _ :: _, [], h => by simp at h
end
section
variable {X : Cx} {cl : Str → Addr} {W : WX}
/-- one of two readings of an operation -/
theorem DE.orOp {e : Expr} {g h : D → D → Option D} {fa fb : M D} (h1 : DE X cl W e (eOp g fa fb)) (h2 : DE X cl W e (eOp h fa fb)) : DE X cl W e (eOp (orD g h) fa fb) := by
  obtain ⟨t1, p1, q1⟩ := h1
  obtain ⟨t2, p2, q2⟩ := h2
  refine ⟨_, PE.or p1 p2, fun c σ s T H Q I w => ?_⟩
  have key : eOp (orD g h) fa fb s = eOp g fa fb s ∨ eOp (orD g h) fa fb s = eOp h fa fb s := by
    unfold eOp
    cases fa s with
    | fail => exact .inl rfl
    | exc n fs s1 => exact .inl rfl
    | ok d s1 =>
      show ((fb s1).bind fun y s => oOf (orD g h (view s.M d) (view s.M y)) s) = ((fb s1).bind fun y s => oOf (g (view s.M d) (view s.M y)) s) ∨ ((fb s1).bind fun y s => oOf (orD g h (view s.M d) (view s.M y)) s) = ((fb s1).bind fun y s => oOf (h (view s.M d) (view s.M y)) s)
      cases fb s1 with
      | fail => exact .inl rfl
      | exc n fs s2 => exact .inl rfl
      | ok e s2 =>
        show oOf (orD g h (view s2.M d) (view s2.M e)) s2 = oOf (g (view s2.M d) (view s2.M e)) s2 ∨ oOf (orD g h (view s2.M d) (view s2.M e)) s2 = oOf (h (view s2.M d) (view s2.M e)) s2
        unfold orD
        cases hg : g (view s2.M d) (view s2.M e) with
        | none => exact .inr rfl
        | some z => exact .inl rfl
  rcases key with k | k
  · exact .inl (q1 c σ s T H Q I (by rw [k] at w; exact w))
  · exact .inr (q2 c σ s T H Q I (by rw [k] at w; exact w))
/-- d[k] -/
def dGet : D → D → Option D
  | .dct kvs, e => (keyD e).bind fun k => valD kvs k
  | _, _ => none
theorem SIx.vDct {K : PySem.W.Frag} {c : Cz} {H : Hp} {σ : L2.St} {s : S} {T : List (D × V)} {F : Addr → Prop} {α : List Addr} {d : D} {v : V} {kvs : List (Key × D)} (h : SIx K cl c H σ s T F α) (r : Rep K cl H F α d v) (e : DL.view s.M d = .dct kvs) : ∃ a vs, v = .ref a ∧ Rd H a (.dK vs) ∧ RepK K cl H F α kvs vs := by
  rcases h.view r with r | ⟨k, x, a, _, rfl, _, _, e2, rc⟩
  · rw [e] at r
    cases r
    · rename_i h1 h2 h3; exact ⟨_, _, rfl, .inl h1, h3⟩
    · rename_i h1 h2; exact ⟨_, _, rfl, .inr ⟨_, h1⟩, h2⟩
  · rw [e] at e2
    cases x <;> cases e2
    · obtain ⟨vs, h1, h2⟩ := rc
      exact ⟨a, vs, rfl, .inl h1, h2⟩
    · obtain ⟨o, vs, h1, h2⟩ := rc
      exact ⟨a, vs, rfl, .inr ⟨o, h1⟩, h2⟩
theorem keyD_view {K : PySem.W.Frag} {c : Cz} {H : Hp} {σ : L2.St} {s : S} {T : List (D × V)} {F : Addr → Prop} {α : List Addr} {d : D} {v : V} {k : Key} (h : SIx K cl c H σ s T F α) (r : Rep K cl H F α d v) (e : keyD (DL.view s.M d) = some k) : v = kV k := by
  rcases h.view r with r | ⟨j, x, a, _, rfl, _, _, e2, rc⟩
  · exact keyD_rep r e
  · rw [e2] at e
    cases x <;> cases e
theorem de_dget {o i : Expr} {fo fi : M D} {pos : Pos} {k : Nat} (hk : Cok X W k) (ho : DE X cl W o fo) (hi : DE X cl W i fi) (hs : NoSl i := by intro _ _; rfl) : DE X cl W (.Subscript o i pos) (eOp dGet fo fi) := by
  obtain ⟨to, po, qo⟩ := ho
  obtain ⟨ti, pi, qi⟩ := hi
  refine ⟨_, pe_dget (by have := hk.u64; omega) po pi hs, fun c σ s T H Q I w => ?_⟩
  refine qo c σ s T H _ I (Want.bind w fun d s1 _ w1 v H1 I1 => ?_)
  refine qi c σ s1 _ H1 _ I1 ((w1.deeper fun p hp => List.mem_cons_of_mem _ hp).bind fun e s2 _ w2 u H2 I2 => ?_)
  unfold oOf at w2
  split at w2
  · rename_i z hz
    obtain ⟨F, α, J⟩ := id I2
    unfold dGet at hz
    split at hz
    · rename_i kvs e1
      obtain ⟨key, h1, h2⟩ := Option.bind_eq_some_iff.mp hz
      obtain ⟨a, vs, ev, h3, rk⟩ := J.vDct (J.tmp (d, v) (List.mem_cons_of_mem _ (List.mem_cons_self ..))) e1
      have eu := keyD_view J (J.tmp (e, u) (List.mem_cons_self ..)) h1
      obtain ⟨x, h4, rx⟩ := rk.valD h2
      have ev : v = .ref a := ev
      have eu : u = kV key := eu
      exact ⟨a, x, ev, .inl ⟨vs, key, h3, eu, h4.symm⟩, w2 x H2 (SI.drop2 ⟨F, α, J.push rx⟩)⟩
    · cases hz
  · exact w2.elim
/-! ### dict comprehensions -/
noncomputable def dcL (d : D) (M0 : List (Option C)) (env0 : List (Option D)) (g : D → S → Option S) (tt : M Bool) (fk fv : M D) : List D → List (Key × D) → List (Option C) → Out (List (Key × D))
  | [], acc, M => .ok acc ⟨env0, M⟩
  | x :: r, acc, M => match g x ⟨env0, M⟩ with
    | none => .fail
    | some s1 => match tt s1 with
      | .ok true s2 => (match fk s2 with
        | .ok kd s3 => (match keyD kd with
          | none => .fail
          | some k => (match fv s3 with
            | .ok e s4 => if chkP d M0 s4.M = true ∧ acc.length < 1000000 then dcL d M0 env0 g tt fk fv r (putD acc k e) s4.M else .fail
            | _ => .fail))
        | _ => .fail)
      | .ok false s2 => if chkP d M0 s2.M = true then dcL d M0 env0 g tt fk fv r acc s2.M else .fail
      | _ => .fail
noncomputable def eDc (f : M D) (its : D → Option (List D)) (g : D → S → Option S) (tt : M Bool) (fk fv : M D) (vs : List Nat) : M D := fun s => (f s).bind fun d s1 => match its (view s1.M d) with
  | none => .fail
  | some ds => (dcL d s1.M (wipeE s1.env vs) g tt fk fv ds [] s1.M).bind fun acc s2 => .ok (.dct acc) { s1 with M := s2.M }
/-- .. to a new cell -/
noncomputable def eDcC (f : M D) (its : D → Option (List D)) (g : D → S → Option S) (tt : M Bool) (fk fv : M D) (vs : List Nat) : M D := fun s => (f s).bind fun d s1 => match its (view s1.M d) with
  | none => .fail
  | some ds => (dcL d s1.M (wipeE s1.env vs) g tt fk fv ds [] s1.M).bind fun acc s2 => .ok (.ptr s2.M.length) { s1 with M := s2.M ++ [some (.dct acc)] }
/-- an object beside the state -/
structure Sid (c : Cz) (H : Hp) (F : Addr → Prop) (α : List Addr) (a : Addr) (o : HO) : Prop where
  at_ : H a = some o
  nα : a ∉ α
  nF : ¬ F a
  old : a ∈ c.β ∨ c.H0 a = none
end
section
variable {K : PySem.W.Frag} {cl : Str → Addr} {c : Cz} {H H' : Hp} {σ σ' : L2.St} {s s' : S} {T T' : List (D × V)} {F F' : Addr → Prop} {α α' : List Addr}
theorem Sid.after {a : Addr} {o : HO} (S : Sid c H F α a o) (J : SIx K cl ⟨H, α, F⟩ H' σ' s' T' F' α') : Sid c H' F' α' a o :=
  ⟨J.keep a _ S.at_ S.nα, fun h => (J.inα a h).elim S.nα fun z : H a = none => (by rw [S.at_] at z; cases z), fun h => (J.inF a h).elim S.nα fun z => z.elim S.nF fun z : H a = none => (by rw [S.at_] at z; cases z), S.old⟩
end
section
variable {X : Cx} {cl : Str → Addr} {W : WX}
structure BlkD (X : Cx) (cl : Str → Addr) (scope : Scope) (tg : Expr) (ifs : List Expr) (kx vx : Expr) (is : List Nat) (g : D → S → Option S) (tt : M Bool) (fk fv : M D) : Prop where
  g_ : ∀ (s : Shared) (H : Hp) (C : Addr) (cc : List (Str × Addr)) (fp : List Addr), DG (X.blk s H scope (compEnvC scope cc C X.env) fp) cl tg is g
  t_ : ∀ (s : Shared) (H : Hp) (C : Addr) (cc : List (Str × Addr)) (fp : List Addr), DTs (X.blk s H scope (compEnvC scope cc C X.env) fp) cl (fun _ _ _ _ => False) ifs tt
  k_ : ∀ (s : Shared) (H : Hp) (C : Addr) (cc : List (Str × Addr)) (fp : List Addr), DE (X.blk s H scope (compEnvC scope cc C X.env) fp) cl (fun _ _ _ _ => False) kx fk
  v_ : ∀ (s : Shared) (H : Hp) (C : Addr) (cc : List (Str × Addr)) (fp : List Addr), DE (X.blk s H scope (compEnvC scope cc C X.env) fp) cl (fun _ _ _ _ => False) vx fv
theorem BlkD.of {k : Nat} {scope : Scope} {tg : Expr} {ifs : List Expr} {kx vx : Expr} {is : List Nat} {g : D → S → Option S} {tt : M Bool} {fk fv : M D} (hk : Cok X W k)
    (hg : ∀ (s : Shared) (H : Hp) (C : Addr) (cc : List (Str × Addr)) (fp : List Addr), Cok (X.blk s H scope (compEnvC scope cc C X.env) fp) (fun _ _ _ _ => False) k → DG (X.blk s H scope (compEnvC scope cc C X.env) fp) cl tg is g)
    (ht : ∀ (s : Shared) (H : Hp) (C : Addr) (cc : List (Str × Addr)) (fp : List Addr), Cok (X.blk s H scope (compEnvC scope cc C X.env) fp) (fun _ _ _ _ => False) k → DTs (X.blk s H scope (compEnvC scope cc C X.env) fp) cl (fun _ _ _ _ => False) ifs tt)
    (hx : ∀ (s : Shared) (H : Hp) (C : Addr) (cc : List (Str × Addr)) (fp : List Addr), Cok (X.blk s H scope (compEnvC scope cc C X.env) fp) (fun _ _ _ _ => False) k → DE (X.blk s H scope (compEnvC scope cc C X.env) fp) cl (fun _ _ _ _ => False) kx fk)
    (hv : ∀ (s : Shared) (H : Hp) (C : Addr) (cc : List (Str × Addr)) (fp : List Addr), Cok (X.blk s H scope (compEnvC scope cc C X.env) fp) (fun _ _ _ _ => False) k → DE (X.blk s H scope (compEnvC scope cc C X.env) fp) cl (fun _ _ _ _ => False) vx fv) : BlkD X cl scope tg ifs kx vx is g tt fk fv :=
  ⟨fun s H C cc fp => hg s H C cc fp (hk.blk s H scope _ fp), fun s H C cc fp => ht s H C cc fp (hk.blk s H scope _ fp), fun s H C cc fp => hx s H C cc fp (hk.blk s H scope _ fp), fun s H C cc fp => hv s H C cc fp (hk.blk s H scope _ fp)⟩
end
end DL

/-! DlXc: defs with a star parameter, starred arguments. -/
namespace DL
open PySem PySem.Spec PyProof.Rows L2 StX
structure FnS (P : Program) (w : World) (K : PySem.W.Frag) (mg : Str → Option Value) (base : Heap) (cl : Str → Addr) (k : Nat) (f : Addr) (sem : Sem) : Prop where
  run : ∀ (A : Around) (outer : List Env) (s : Shared) (H : Hp) (us : List Value) (vs : List V) (Q : VK) (E : XK), Room k A → A.guards = some [] → Env0 P w K mg base A outer s H → Vals vs us →
    dsp K cl sem vs H Q E → codeAny (model P w) A (.call (.ref f) ⟨us, []⟩) (CR (L2.CX P w) outer P w H s Q E) s
theorem FnS.mono {P : Program} {w : World} {K : PySem.W.Frag} {mg : Str → Option Value} {base : Heap} {cl : Str → Addr} {j k : Nat} {f : Addr} {sem : Sem} (F : FnS P w K mg base cl j f sem) (h : j ≤ k) : FnS P w K mg base cl k f sem :=
  ⟨fun A outer s H us vs Q E hr => F.run A outer s H us vs Q E (hr.mono h)⟩
/-- the arguments behind the first n, as one tuple -/
def starD (n : Nat) (ds : List D) : List D := ds.take n ++ [.kt (ds.drop n)]
def runS (n N : Nat) (f : M Fl) : Sem := fun m ds => if n ≤ ds.length ∧ ds.length ≤ 1000000 then run N f m (starD n ds) else .fail
section
variable {P : Program} {w : World} {K : PySem.W.Frag} {mg : Str → Option Value} {base : Heap} {cl : Str → Addr}
end
section
variable {X : Cx} {cl : Str → Addr} {W : WX} {k : Nat}
def eCallV (sem : Sem) (f : M (List D)) : M D := fun s => (f s).bind fun ds s => callS (List.replicate ds.length false) sem ds s
/-- *e, .. -/
def aStar (f : M D) (g : M (List D)) : M (List D) := fun s => (f s).bind fun d s => match seqD (view s.M d) with
  | some es => (g s).bind fun ds s => .ok (es ++ ds) s
  | none => .fail
end
end DL

set_option pp.maxSteps 300
/-! DmC: instances: fields, properties, methods, making. -/
namespace DL
open PySem PySem.Spec PyProof.Rows L2
def putFD (f : Str) (v : D) : List (Str × D) → List (Str × D)
  | [] => [(f, v)]
  | (g, x) :: r => if g = f then (g, v) :: r else (g, x) :: putFD f v r
section
variable {K : PySem.W.Frag} {cl : Str → Addr} {H : Hp} {F : Addr → Prop} {α : List Addr}
theorem RepF.look : ∀ {fs : List (Str × D)} {vs : List (Str × V)} {f : Str} {d : D}, RepF K cl H F α fs vs → fs.lookup f = some d → ∃ v, vs.lookup f = some v ∧ Rep K cl H F α d v
  | _, _, f, d, .nil, h => by cases h
  | (g, x) :: fs, (_, u) :: vs, f, d, .cons h r, e => by
    rw [List.lookup_cons] at e ⊢
    cases q : f == g with
    | true => rw [q] at e; cases e; exact ⟨u, rfl, h⟩
    | false => rw [q] at e; exact r.look e
theorem RepF.none : ∀ {fs : List (Str × D)} {vs : List (Str × V)} {f : Str}, RepF K cl H F α fs vs → fs.lookup f = Option.none → vs.lookup f = Option.none
  | _, _, f, .nil, h => rfl
  | (g, x) :: fs, (_, u) :: vs, f, .cons h r, e => by
    rw [List.lookup_cons] at e ⊢
    cases q : f == g with
    | true => rw [q] at e; cases e
    | false => rw [q] at e; exact r.none e
theorem RepF.put {f : Str} {d : D} {v : V} (h : Rep K cl H F α d v) : ∀ {fs : List (Str × D)} {vs : List (Str × V)}, RepF K cl H F α fs vs → RepF K cl H F α (putFD f d fs) (putF f v vs)
  | _, _, .nil => .cons h .nil
  | (g, x) :: fs, (_, u) :: vs, .cons h1 r => by
    unfold putFD putF
    by_cases q : g = f
    · rw [if_pos q, if_pos q]; exact .cons h r
    · rw [if_neg q, if_neg q]; exact .cons h1 (r.put h)
theorem RepF.len : ∀ {fs : List (Str × D)} {vs : List (Str × V)}, RepF K cl H F α fs vs → fs.length = vs.length
  | _, _, .nil => rfl
  | _, _, .cons _ r => by rw [List.length_cons, List.length_cons, r.len]
end
/-- e.f -/
def eFld (x f : Str) (fe : M D) : M D := fun s => (fe s).bind fun d s1 => match view s1.M d with
  | .obj y fs => if y = x then oOf (fs.lookup f) s1 else .fail
  | _ => .fail
/-- e.f = .., of a cell -/
def cFld (x f : Str) (k : Nat) (y : D) (s : S) : Out Fl := match s.M[k]? with
  | some (some (.obj z fs)) => if z = x ∧ fs.length < 1000 then .ok .nx { s with M := s.M.set k (some (.obj z (putFD f y fs))) } else .fail
  | _ => .fail
def sFldS (x f : Str) (fo fv : M D) : M Fl := fun s => (fv s).bind fun y s1 => (fo s1).bind fun o s2 => match o with
  | .ptr k => cFld x f k y s2
  | _ => .fail
def noX {α : Type} : Out α → Out α
  | .exc _ _ _ => .fail
  | o => o
/-- e.f, a property -/
def eProp (x : Str) (sem : Sem) (fe : M D) : M D := fun s => (fe s).bind fun d s1 => match view s1.M d with
  | .obj y _ => if y = x then noX (callS [false] sem [d] s1) else .fail
  | _ => .fail
/-- e.m(..) -/
def eMeth (x m : Str) (io : List Bool) (sem : Sem) (fo : M D) (fa : M (List D)) : M D := fun s => (fo s).bind fun d s1 => match view s1.M d with
  | .obj y fs => if y = x ∧ fs.lookup m = none then (fa s1).bind fun ds s2 => callS io sem (d :: ds) s2 else .fail
  | _ => .fail
/-- X(..), frozen when it is made -/
def makeS (x : Str) (io : List Bool) (sem : Sem) (ds : List D) (s : S) : Out D := match prep s.M io ds 0 with
  | none => .fail
  | some p => if p.ks = [] ∧ p.ls = [] then (match sem [.obj x []] (.ptr 0 :: p.ds) with
    | .fail => .fail
    | .ok .non s' => (match s'.M with
      | [some (.obj y fs)] => if (decide (y = x) && npF fs) = true then .ok (.obj y fs) s else .fail
      | _ => .fail)
    | .ok _ _ => .fail
    | .exc n fs s' => if npF fs = true then .exc n fs s else .fail) else .fail
def eMake (x : Str) (io : List Bool) (sem : Sem) (fa : M (List D)) : M D := fun s => (fa s).bind fun ds s1 => makeS x io sem ds s1
section
variable {X : Cx} {cl : Str → Addr} {W : WX} {k : Nat}
end
section
variable {K : PySem.W.Frag} {cl : Str → Addr} {W : WX} {c : Cz} {H : Hp} {σ : L2.St} {s : S} {T : List (D × V)} {F : Addr → Prop} {α : List Addr}
end
section
variable {X : Cx} {cl : Str → Addr} {W : WX} {k : Nat}
end
end DL

set_option pp.maxSteps 300
/-! DmD: the head with defs at any address; properties. -/
namespace DL
open PySem PySem.Spec PyProof.Rows L2
def propB (K : PySem.W.Frag) (x f : Str) : Bool := He.eqO (PySem.W.findIn K (.ref (He.ga K x)) f) (some (some (.ref (He.ma K (He.ga K x) f)))) && (He.eqO (PySem.W.specialIn K (.ref (He.ma K (He.ga K x) f)) "__get__") (some (some (.builtin "property.__get__"))) &&
  (decide (PySem.W.takesIn K (.ref (He.ma K (He.ga K x) f)) = some true) && (match PySem.W.recIn K (He.ma K (He.ga K x) f) "property" with
    | some (.ref _ :: _) => true
    | _ => false)))
abbrev pf (K : PySem.W.Frag) (x f : Str) : Addr := He5.wf K (He.ga K x) "property" f
abbrev AlB : Type := He.AlX × He.AlD
def obsB (n : Nat) (fa : List He.Fa) (fn : List He.DefD) (fp : List He5.DefA) (ex : PySem.W.Frag → Bool) (g : Addr → Option Obj) : AlB := (He.obsX n fa fn [] [] ex g, He5.obsA [] fp (He.frT g (He.asD g n)))
structure SaysB (fa : List He.Fa) (fn : List He.DefD) (fp : List He5.DefA) (ex : PySem.W.Frag → Bool) (w : World) (h : Heap) (K : PySem.W.Frag) : Prop where
  x : He.SaysX fa fn [] [] ex w h K
  a : He5.SaysA [] fp K
def hookB (n : Nat) (fa : List He.Fa) (fn : List He.DefD) (fp : List He5.DefA) (ex : PySem.W.Frag → Bool) : PySem.W.Hook where
  α := AlB
  obs := fun s => obsB n fa fn fp ex s.heap.get?
  val := fun w => (He.valX fn [] w, He5.valA fp)
  says := fun w h => ∃ K : PySem.W.Frag, K.In h ∧ SaysB fa fn fp ex w h K
  of := fun _ _ e => ⟨_, He.frT_in, He.saysX_of (congrArg Prod.fst e), congrArg Prod.snd e⟩
  keeps := fun _ _ _ ⟨K, hK, c⟩ k => ⟨K, PySem.W.Frag.In.keeps hK k, ⟨c.x.t, c.x.more, c.x.hd, c.x.out, fun p hp => k _ _ (c.x.empty p hp)⟩, c.a⟩
end DL

set_option pp.maxSteps 300
/-! DmG: own exceptions raised. -/
namespace DL
open PySem PySem.Spec PyProof.Rows L2
/-- the written part of an own exception class over ValueError -/
def oexB (K : PySem.W.Frag) (C : Addr) : Bool := (match K.lookup C with
  | some ⟨.type "type", _, .cls cd, sl⟩ => (match cd.mro, sl.toList with
    | .ref C' :: bm, [_, _, _, _, some (.builtin n), _] => C' == C && (n == "ValueError.__new__" && (!cd.hasDel && (cd.hasDict && PySem.HandSPX.refsVE bm)))
    | _, _ => false)
  | _ => false) && (He.eqO (PySem.W.findIn K (.ref C) "__setattr__") (some (some (.builtin "object.__setattr__"))) && (decide (PySem.W.subIn K (.ref C) (.type "BaseException") = some true) && (decide (PySem.W.typeIn K (.ref C) = some (.type "type")) && PySem.W.keepIn K (.ref C))))
theorem oexB_ok {K : PySem.W.Frag} {C : Addr} (h : oexB K C = true) : OexC K C := by
  unfold oexB at h
  obtain ⟨h1, h⟩ := He.ba h
  obtain ⟨h2, h⟩ := He.ba h
  obtain ⟨h3, h⟩ := He.ba h
  obtain ⟨h4, h5⟩ := He.ba h
  refine ⟨?_, He.eqO_ok h2, of_decide_eq_true h3, of_decide_eq_true h4, h5⟩
  split at h1
  · rename_i dd cd sl ho
    split at h1
    · rename_i C' bm k0 k1 k2 k3 n k5 hm hs
      simp only [Bool.and_eq_true, beq_iff_eq, Bool.not_eq_true'] at h1
      obtain ⟨rfl, rfl, hdel, hdict, hr⟩ := h1
      obtain ⟨nm, bs, mro, ns, qn, hd, sn, sub, ab, col, del⟩ := cd
      dsimp only at hm hdel hdict
      subst hm hdel hdict
      have hsl : sl = #[k0, k1, k2, k3, some (.builtin "ValueError.__new__"), k5] := by
        obtain ⟨l⟩ := sl
        simp only at hs
        rw [hs]
      subst hsl
      exact ⟨nm, qn, ns, bs, bm, sn, sub, ab, col, dd, k0, k1, k2, k3, k5, ho, hr⟩
    · cases h1
  · cases h1
/-- .. its __init__ stores its one argument in the field -/
structure OexI (K : PySem.W.Frag) (C : Addr) (fI : Addr) (f : Str) : Prop where
  c : OexC K C
  at_ : PySem.W.findIn K (.ref C) "__init__" = some (some (.ref fI))
  fn : PySem.W.typeIn K (.ref fI) = some (.type "function")
  no : PySem.W.findIn K (.ref C) f = some none
def oexIB (K : PySem.W.Frag) (x f : Str) : Bool := oexB K (He.ga K x) && (He.eqO (PySem.W.findIn K (.ref (He.ga K x)) "__init__") (some (some (.ref (He.ma K (He.ga K x) "__init__")))) && (decide (PySem.W.typeIn K (.ref (He.ma K (He.ga K x) "__init__")) = some (.type "function")) && He.eqO (PySem.W.findIn K (.ref (He.ga K x)) f) (some none)))
theorem oexIB_ok {K : PySem.W.Frag} {x f : Str} (h : oexIB K x f = true) : OexI K (He.ga K x) (He.ma K (He.ga K x) "__init__") f := by
  unfold oexIB at h
  obtain ⟨h1, h⟩ := He.ba h
  obtain ⟨h2, h⟩ := He.ba h
  obtain ⟨h3, h4⟩ := He.ba h
  exact ⟨oexB_ok h1, He.eqO_ok h2, of_decide_eq_true h3, He.eqO_ok h4⟩
/-- what __init__ promises -/
def oexSp (C : Addr) (f : Str) : Sp := fun vs H Q _ => ∃ a y, vs = [.ref a, y] ∧ H a = some (exo a C none) ∧ ∀ dx, H dx = none → dx ≠ a → Q .non (upd (upd H dx (exd dx [(f, y)])) a (exo a C (some dx)))
/-- raise X(e) -/
def sRaise (x f : Str) (fe : M D) : M Fl := fun s => (fe s).bind fun d s1 => .exc x [(f, d)] s1
section
variable {X : Cx} {cl : Str → Addr} {W : WX} {k : Nat}
end
end DL

set_option pp.maxSteps 300
/-! DpG: own exceptions over another built-in class than ValueError. -/
namespace DL
open PySem
section
variable {M : Model} {A : Around} {E : Value → Shared → Prop} {h : Heap} {g : Array GenState} {d : Drawn} {t : Nat} {os : OsState}
variable {nm q : Str} {C N : Addr} {bs bm bmB : List Value} {hdct : Bool} {sn : List Str} {sub : List Value} {ab : Bool} {col : Option Bool} {dd : Option Addr} {k0 k1 k2 k3 k5 : Option Value} {B newId initId : String}
end
section
variable {prog : Program} {w : World} {A : Around} {E : Value → Shared → Prop} {R : Result → Shared → Prop} {h : Heap} {g : Array GenState} {d : Drawn} {t : Nat} {os : OsState}
variable {nm q : Str} {C N : Addr} {bs bm bmB : List Value} {hdct : Bool} {sn : List Str} {sub : List Value} {ab : Bool} {col : Option Bool} {dd : Option Addr} {k0 k1 k2 k3 k5 : Option Value} {B newId initId : String}
end
end DL
namespace DL
open PySem PySem.Spec PyProof.Rows L2
/-- own classes, then the mro of the built-in one -/
inductive RefsD (t : List Value) : List Value → Prop where
  | nil : RefsD t t
  | cons {c : Addr} {r : List Value} : RefsD t r → RefsD t (.ref c :: r)
/-- what is known of the built-in class: its __new__ stands at B, B is in its mro t -/
structure ExT (B newId initId : String) (t : List Value) : Prop where
  f : ∃ tB, ExcBaseFacts B newId initId tB
  hB : t.contains (.type B) = true
  hA : t.contains (.type "AttributeError") = false
  hN : t.contains (.type "NameError") = false
  pass : ∀ self : Value, refuseLoop self "__setattr__" t = pure ()
  ob : t.contains (.type "object") = true
  ne : t.isEmpty = false
theorem exT_Overflow : ExT "OverflowError" "OverflowError.__new__" "OverflowError.__init__" [.type "OverflowError", .type "ArithmeticError", .type "Exception", .type "BaseException", .type "object"] :=
  ⟨⟨_, PySem.F.excBase_OverflowError⟩, by decide +kernel, by decide +kernel, by decide +kernel, fun self => by kernel_rfl, by decide +kernel, rfl⟩
theorem exT_Arith : ExT "ArithmeticError" "ArithmeticError.__new__" "ArithmeticError.__init__" [.type "ArithmeticError", .type "Exception", .type "BaseException", .type "object"] :=
  ⟨⟨_, PySem.F.excBase_ArithmeticError⟩, by decide +kernel, by decide +kernel, by decide +kernel, fun self => by kernel_rfl, by decide +kernel, rfl⟩
theorem exT_Key : ExT "LookupError" "LookupError.__new__" "LookupError.__init__" [.type "KeyError", .type "LookupError", .type "Exception", .type "BaseException", .type "object"] :=
  ⟨⟨_, PySem.F.excBase_LookupError⟩, by decide +kernel, by decide +kernel, by decide +kernel, fun self => by kernel_rfl, by decide +kernel, rfl⟩
theorem RefsD.has {t l : List Value} (h : RefsD t l) (X : String) : l.contains (.type X) = t.contains (.type X) := by
  induction h with
  | nil => rfl
  | cons _ ih => rw [List.contains_cons, ih]; rfl
theorem RefsD.ne {t l : List Value} (h : RefsD t l) (e : t.isEmpty = false) : l.isEmpty = false := by
  cases h with
  | nil => exact e
  | cons _ => rfl
theorem RefsD.pass {t l : List Value} (h : RefsD t l) {self : Value} (e : refuseLoop self "__setattr__" t = pure ()) : refuseLoop self "__setattr__" l = pure () := by
  induction h with
  | nil => exact e
  | cons _ ih => rw [refuseLoop_ref]; exact ih
/-- own classes ahead of a tail -/
def refsDB (t : List Value) : List Value → Bool
  | .ref c :: r => refsDB t r || (.ref c :: r == t)
  | l => l == t
theorem refsDB_ok {t : List Value} : ∀ {l : List Value}, refsDB t l = true → RefsD t l
  | [], e => by rw [← beq_iff_eq.mp (show (([] : List Value) == t) = true from e)]; exact .nil
  | .ref c :: r, e => by
    rcases Bool.or_eq_true_iff.mp (show (refsDB t r || (.ref c :: r == t)) = true from e) with q | q
    · exact .cons (refsDB_ok q)
    · rw [← beq_iff_eq.mp q]; exact .nil
  | .none :: r, e => by rw [← beq_iff_eq.mp (show ((Value.none :: r) == t) = true from e)]; exact .nil
  | .ellipsis :: r, e => by rw [← beq_iff_eq.mp (show ((Value.ellipsis :: r) == t) = true from e)]; exact .nil
  | .notImplemented :: r, e => by rw [← beq_iff_eq.mp (show ((Value.notImplemented :: r) == t) = true from e)]; exact .nil
  | .bool b :: r, e => by rw [← beq_iff_eq.mp (show ((Value.bool b :: r) == t) = true from e)]; exact .nil
  | .int i k :: r, e => by rw [← beq_iff_eq.mp (show ((Value.int i k :: r) == t) = true from e)]; exact .nil
  | .float b k :: r, e => by rw [← beq_iff_eq.mp (show ((Value.float b k :: r) == t) = true from e)]; exact .nil
  | .str b k :: r, e => by rw [← beq_iff_eq.mp (show ((Value.str b k :: r) == t) = true from e)]; exact .nil
  | .bytes b k :: r, e => by rw [← beq_iff_eq.mp (show ((Value.bytes b k :: r) == t) = true from e)]; exact .nil
  | .type n :: r, e => by rw [← beq_iff_eq.mp (show ((Value.type n :: r) == t) = true from e)]; exact .nil
  | .builtin n :: r, e => by rw [← beq_iff_eq.mp (show ((Value.builtin n :: r) == t) = true from e)]; exact .nil
/-- what the written part says of such a class -/
structure OexD (K : PySem.W.Frag) (C : Addr) (newId : String) (t : List Value) : Prop where
  cls : ∃ nm q N bs bm sn sub ab col dd k0 k1 k2 k3 k5, K.lookup C = some (excClassObj nm q C N bs bm true sn sub ab col dd k0 k1 k2 k3 k5 newId) ∧ RefsD t bm
  sa : PySem.W.findIn K (.ref C) "__setattr__" = some (some (.builtin "object.__setattr__"))
  exC : PySem.W.subIn K (.ref C) (.type "BaseException") = some true
  tyC : PySem.W.typeIn K (.ref C) = some (.type "type")
  kC : PySem.W.keepIn K (.ref C) = true
section
open Builtin Builtin.ObjectAttr
variable {prog : Program} {w : World} {A : Around} {E : Value → Shared → Prop} {R : Result → Shared → Prop} {hp : Heap} {g : Array GenState} {d : Drawn} {t : Nat} {os : OsState}
/-- the first field of an exception -/
theorem osa_first {K : PySem.W.Frag} {name : Str} {tk : Tok} {v : Value} {x C : Addr} {fv : Array Value} {cd : ClassData}
    (X : K.In hp) (hx : hp.get? x = some { cls := .ref C, data := .fields fv }) (hcd : PySem.W.clsIn K C = some cd) (ne : cd.mro.isEmpty = false) (hob : cd.mro.contains (.type "object") = true) (hps : refuseLoop (.ref x) "__setattr__" cd.mro = pure ())
    (hh : cd.hasDict = true) (ha : PySem.W.findIn K (.ref C) name = some none)
    (hq : ∀ h' tk' dx, (∀ b o, b ≠ x → hp.get? b = some o → h'.get? b = some o) → hp.objs.size ≤ dx → dx ≠ x → h'.get? x = some { cls := .ref C, dict := some dx, data := .fields fv } →
      h'.Ns1 dx (fun y => if y = name then some v else none) → R (.ok (.ret .none)) ⟨h', g, d, tk', os⟩) :
    codeAny (model prog w) A (.call (.builtin "object.__setattr__") ⟨[.ref x, .str name tk, v], []⟩) R ⟨hp, g, d, t, os⟩ := by
  have SF := PySem.F.store_object
  have I : PySem.W.InstAt hp x { cls := .ref C, data := .fields fv } C none := ⟨hx, rfl, rfl, trivial⟩
  have far : x ≠ hp.objs.size := Nat.ne_of_lt (Heap.lt_size hx)
  have isO : PySem.W.Looks (model prog w) hp (isInstance (.ref x) (.type "object")) true := I.type.andThen (PySem.W.looks_mroIn X (by unfold PySem.W.mroIn; rw [hcd, Option.bind_some, if_neg (by rw [ne]; decide), hob]))
  refine codeAny_call_builtin SF.slot.plain SF.entry (@PySem.W.check_slot (model prog w) _ _ ⟨hp, g, d, t, os⟩ "object.__setattr__" "object" "__setattr__" (.ref x) [.str name tk, v] [] _ SF.kind SF.split isO (SF.args (.ref x) (.str name tk) v) ?_)
  have cl1 : PySem.W.Looks (model prog w) hp (classData C) cd := PySem.W.looks_clsIn X hcd
  have mr1 : PySem.W.Looks (model prog w) hp (mroOf (.ref C)) cd.mro := cl1.andThen .now
  have no1 : PySem.W.Looks (model prog w) hp (storeTaker? none) none := .now
  rw [PySem.W.osa_eq, refuse_eq]
  refine wpAny_bind (wpAny_bind (I.type.at (wpAny_bind (mr1.at ?_))))
  rw [hps]
  refine wpAny_pure (wpAny_bind (I.type.at (wpAny_bind ((PySem.W.looks_findIn X ha).at (wpAny_bind (no1.at ?_))))))
  show wpAny _ _ (storeInOwnDict (.ref x) (.ref C) (.str name tk) name v false) _ _ _
  obtain ⟨nm, bs, mro, ns, qn, hd, sn, sb, ab, col, del⟩ := cd
  dsimp only at hh
  subst hh
  unfold storeInOwnDict ownDictForStores
  repeat (first | with_reducible refine PySem.HandSPX.store_in_new ?_ ?_ | with_reducible refine wpAny_loadPart_at hx ?_ | with_reducible refine cl1.at ?_ | wp_step)
  · exact ⟨_, #[], _, (Heap.get?_update_ne _ _ _ _ far.symm).trans (Heap.get?_push_at rfl rfl), rfl, fun e he => absurd he (by simp), fun _ => rfl⟩
  · intro h' tk' hn' hs
    have hx1 : (hp.push { cls := .type "dict", data := .dict #[] }).get? x = some { cls := .ref C, data := .fields fv } := Heap.get?_push_of_some _ hx
    refine hq h' tk' hp.objs.size (fun b o hb ho => ?_) (Nat.le_refl _) far.symm ?_ hn'
    · exact (hs.2 b (Nat.ne_of_lt (Heap.lt_size ho))).trans ((Heap.get?_update_ne _ _ _ _ hb).trans (Heap.get?_push_of_some _ ho))
    · exact (hs.2 x far).trans (Heap.get?_update_self _ hx1 rfl)
end
section
variable {B newId initId : String} {tl : List Value}
theorem ost_newD {X : Cx} {pins : List (Addr × Obj)} {σ : L2.St} {H : Hp} {s : Shared} {a C : Addr} {f : Str} {y : V} {u : Value} {Q : Unit → Shared → Prop} {E : Value → Shared → Prop} {A : Around} (TF : ExT B newId initId tl) (T : OexD X.K C newId tl) (I : Inv X pins σ H s) (e : H a = some (exo a C none)) (hno : PySem.W.findIn X.K (.ref C) f = some none) (ry : RelV y u)
    (h : ∀ dx s', H dx = none → dx ≠ a → Inv X pins σ (upd (upd H dx (exd dx [(f, y)])) a (exo a C (some dx))) s' → Q () s') : wpAny (model X.prog X.w) A (setAttr (.ref a) f u) Q E s := by
  obtain ⟨nm, q, N, bs, bm, sn, sub, ab, col, dd, k0, k1, k2, k3, k5, hC, hbm⟩ := T.cls
  have hcl : PySem.W.clsIn X.K C = some { name := nm, bases := bs, mro := .ref C :: bm, ns := N, qualname := q, hasDict := true, slotNames := sn, subclasses := sub, abstract := ab, collection := col, hasDel := false } := by unfold PySem.W.clsIn; rw [hC] <;> rfl
  have hm : RefsD tl (.ref C :: bm) := .cons hbm
  obtain ⟨t1, ho⟩ := exo_at I.hok e
  obtain ⟨hp, g, d, t, os⟩ := s
  refine PySem.W.set_plain I.kIn (ox := { cls := .ref C, dict := none, data := .fields #[.ref t1, .none, .none, .none, .bool false, .none] }) (od := none) ⟨ho, rfl, rfl, trivial⟩ T.sa ?_
  refine osa_first I.kIn ho hcl (hm.ne TF.ne) ((hm.has "object").trans TF.ob) (hm.pass (TF.pass _)) rfl hno (fun h' tk' dx k dn dne hx hn => ?_)
  have hnd : H dx = none := I.hok.fresh dn
  have nd : ∀ {b : Addr} {o : Obj}, hp.get? b = some o → b ≠ dx := fun {b o} q => Nat.ne_of_lt (Nat.lt_of_lt_of_le (Heap.lt_size q) dn)
  have na : ∀ {b : Addr}, H b = none → b ≠ a := fun {b} n z => by
    rw [z, e] at n
    cases n
  have Un1 : Un X.fs [] H (upd (upd H dx (exd dx [(f, y)])) a (exo a C (some dx))) hp h' := {
    keep := fun b o q n _ _ => k b o (na n) q
    slot := fun b o q n _ _ => ⟨o.slots, k b o (na n) q⟩
    free := fun b o q n _ => by rw [upd_ne (na n), upd_ne (nd q)]; exact n
    there := fun b o q _ => by
      by_cases hb : b = a
      · exact ⟨_, by rw [hb]; exact hx⟩
      · exact ⟨o, k b o hb q⟩
    tups := fun b xs q => by rw [upd_ne (at_ne e q exo_tup), upd_ne (ne_of_none q hnd)]; exact q
    frzs := fun b o v q => by rw [upd_ne (at_ne e q exo_frz), upd_ne (ne_of_none q hnd)]; exact q
    tbls := fun b ps q => ⟨#[], by rw [upd_ne (at_ne e q exo_tbl), upd_ne (ne_of_none q hnd), q]; simp⟩ }
  refine h dx _ hnd dne (I.un (t' := tk') Un1 fun b o q => ?_)
  by_cases hb : b = a
  · subst hb
    rw [upd_same] at q
    cases q
    exact exo_ok hx
  · rw [upd_ne hb] at q
    by_cases hd : b = dx
    · subst hd
      rw [upd_same] at q
      cases q
      exact exd_ok hn (relO_put (fs := []) ry fun g => True.intro)
    · rw [upd_ne hd] at q
      exact (I.hok b o q).stay (fun c v hc z => k c v (by
          rcases hc with hc | hc
          · rw [hc]
            exact hb
          · exact at_ne e hc exo_own) z)
        (fun c hc => by rw [upd_ne (at_ne e hc exo_own), upd_ne (ne_of_none hc hnd)]; exact hc) (fun c xs hc => by rw [upd_ne (at_ne e hc exo_tup), upd_ne (ne_of_none hc hnd)]; exact hc)
/-- self.f = e in __init__, the first one -/
def tOstD (K : PySem.W.Frag) (newId : String) (tl : List Value) (f : Str) (to te : TE) : TS := fun D σ H => te σ H fun y H1 => to σ H1 fun x H2 => ∃ a C : Addr, x = .ref a ∧ OexD K C newId tl ∧ PySem.W.findIn K (.ref C) f = some none ∧
  H2 a = some (exo a C none) ∧ ∀ dx, H2 dx = none → dx ≠ a → D.nx σ (upd (upd H2 dx (exd dx [(f, y)])) a (exo a C (some dx)))
theorem ps_ostD {X : Cx} {o e : Expr} {to te : TE} {f : Str} {p' pos : Pos} (TF : ExT B newId initId tl) (ho : PE X o to) (he : PE X e te) (hs : swapsWith e (some (.Attribute o f p')) pos.line X.env = pure false := by rfl) : PS X (.Assign [.Attribute o f p'] e pos) (tOstD X.K newId tl f to te) := by
  refine ⟨fun pins s σ H D I h => ?_⟩
  refine plainObj_wpAny_Assign_Attribute (thn (he.run pins s σ H _ I h) fun v s1 ⟨y, H1, I1, r1, q1⟩ => thn (ho.run pins s1 σ H1 _ I1 q1) fun u s2 ⟨x, H2, I2, r2, a, C, ex, T, hno, ea, q⟩ => ?_) hs
  subst ex
  obtain rfl : u = Value.ref a := r2
  exact ost_newD TF T I2 ea hno r1 fun dx s' n ne J => ⟨σ, _, J, q dx n ne⟩
end
/-- the written part of such a class, asked -/
def oexDB (K : PySem.W.Frag) (C : Addr) (newId : String) (t : List Value) : Bool := (match K.lookup C with
  | some ⟨.type "type", _, .cls cd, sl⟩ => (match cd.mro, sl.toList with
    | .ref C' :: bm, [_, _, _, _, some (.builtin n), _] => C' == C && (n == newId && (!cd.hasDel && (cd.hasDict && refsDB t bm)))
    | _, _ => false)
  | _ => false) && (He.eqO (PySem.W.findIn K (.ref C) "__setattr__") (some (some (.builtin "object.__setattr__"))) && (decide (PySem.W.subIn K (.ref C) (.type "BaseException") = some true) && (decide (PySem.W.typeIn K (.ref C) = some (.type "type")) && PySem.W.keepIn K (.ref C))))
theorem oexDB_ok {K : PySem.W.Frag} {C : Addr} {newId : String} {t : List Value} (h : oexDB K C newId t = true) : OexD K C newId t := by
  unfold oexDB at h
  obtain ⟨h1, h⟩ := He.ba h
  obtain ⟨h2, h⟩ := He.ba h
  obtain ⟨h3, h⟩ := He.ba h
  obtain ⟨h4, h5⟩ := He.ba h
  refine ⟨?_, He.eqO_ok h2, of_decide_eq_true h3, of_decide_eq_true h4, h5⟩
  split at h1
  · rename_i dd cd sl ho
    split at h1
    · rename_i C' bm k0 k1 k2 k3 n k5 hm hs
      simp only [Bool.and_eq_true, beq_iff_eq, Bool.not_eq_true'] at h1
      obtain ⟨rfl, rfl, hdel, hdict, hr⟩ := h1
      obtain ⟨nm, bs, mro, ns, qn, hd, sn, sub, ab, col, del⟩ := cd
      dsimp only at hm hdel hdict
      subst hm hdel hdict
      have hsl : sl = #[k0, k1, k2, k3, some (.builtin n), k5] := by
        obtain ⟨l⟩ := sl
        simp only at hs
        rw [hs]
      subst hsl
      exact ⟨nm, qn, ns, bs, bm, sn, sub, ab, col, dd, k0, k1, k2, k3, k5, ho, refsDB_ok hr⟩
    · cases h1
  · cases h1
structure OexID (K : PySem.W.Frag) (C : Addr) (fI : Addr) (f : Str) (newId : String) (t : List Value) : Prop where
  c : OexD K C newId t
  at_ : PySem.W.findIn K (.ref C) "__init__" = some (some (.ref fI))
  fn : PySem.W.typeIn K (.ref fI) = some (.type "function")
  no : PySem.W.findIn K (.ref C) f = some none
def oexIDB (K : PySem.W.Frag) (x f : Str) (newId : String) (t : List Value) : Bool := oexDB K (He.ga K x) newId t && (He.eqO (PySem.W.findIn K (.ref (He.ga K x)) "__init__") (some (some (.ref (He.ma K (He.ga K x) "__init__")))) && (decide (PySem.W.typeIn K (.ref (He.ma K (He.ga K x) "__init__")) = some (.type "function")) && He.eqO (PySem.W.findIn K (.ref (He.ga K x)) f) (some none)))
theorem oexIDB_ok {K : PySem.W.Frag} {x f : Str} {newId : String} {t : List Value} (h : oexIDB K x f newId t = true) : OexID K (He.ga K x) (He.ma K (He.ga K x) "__init__") f newId t := by
  unfold oexIDB at h
  obtain ⟨h1, h⟩ := He.ba h
  obtain ⟨h2, h⟩ := He.ba h
  obtain ⟨h3, h4⟩ := He.ba h
  exact ⟨oexDB_ok h1, He.eqO_ok h2, of_decide_eq_true h3, He.eqO_ok h4⟩
theorem fn_oexD {CX : CXT} {P : Program} {w : World} {K : PySem.W.Frag} {mg : Str → Option Value} {base : Heap} {k : Nat} {C fI : Addr} {x qual f pn : Str} {params : Arguments} {body : List Stmt} {scope : Scope} {fd : FuncData} {p1 p2 p3 p4 p5 : Pos} {B newId initId : String} {tl : List Value} (TF : ExT B newId initId tl)
    (F : FunD K x qual params body scope [] [] fI fd) (S : FnScope ["self", pn] ["self", pn] scope) (hb : body = [.Assign [.Attribute (.Name "self" p1) f p2] (.Name pn p3) p4]) (T : OexD K C newId tl) (no : PySem.W.findIn K (.ref C) f = some none)
    (hd1 : (pn == ("__debug__" : Str)) = false := by decide) (hd2 : (pn == ("__classdict__" : Str)) = false := by decide) :
    FnOk P w K mg base CX (k + 1) fI fd ["self", pn] (oexSp C f) := by
  refine F.ok S (fun vs H Q E h => ?_) (fun cdv A outer s H vs Q E hr h => ?_)
  · obtain ⟨a, y, e, _⟩ := h
    rw [e]; rfl
  · obtain ⟨a, y, e, ea, q⟩ := h
    subst e
    subst hb
    refine ⟨_, pss_one (ps_ostD TF (pe_var (i := 0) rfl ((S.par "self" (List.Mem.head _)).elim (fun z => .inl z) (fun z => .inr (.inl z)))) (pe_var (i := 1) rfl ((S.par pn (List.Mem.tail _ (List.Mem.head _))).elim (fun z => .inl z) (fun z => .inr (.inl z))) hd1 hd2)), ?_⟩
    exact ⟨y, rfl, .ref a, rfl, a, C, rfl, T, no, ea, fun dx n ne => q dx n ne⟩
section
variable {X : Cx} {cl : Str → Addr} {W : WX} {k : Nat}
/-- raise X(), X without an own __init__ -/
def sRaise0 (x : Str) : M Fl := fun s => .exc x [] s
end
structure Own0 (K : PySem.W.Frag) (C : Addr) (newId : String) (t : List Value) : Prop where
  q : PySem.W.excIn K C t newId = true
  kC : PySem.W.keepIn K (.ref C) = true
  ex : PySem.W.subIn K (.ref C) (.type "BaseException") = some true
  ty : PySem.W.typeIn K (.ref C) = some (.type "type")
def own0B (K : PySem.W.Frag) (C : Addr) (newId : String) (t : List Value) : Bool := PySem.W.excIn K C t newId && (PySem.W.keepIn K (.ref C) && (decide (PySem.W.subIn K (.ref C) (.type "BaseException") = some true) && decide (PySem.W.typeIn K (.ref C) = some (.type "type"))))
theorem own0B_ok {K : PySem.W.Frag} {C : Addr} {newId : String} {t : List Value} (h : own0B K C newId t = true) : Own0 K C newId t := by
  unfold own0B at h
  obtain ⟨h1, h⟩ := He.ba h
  obtain ⟨h2, h⟩ := He.ba h
  obtain ⟨h3, h4⟩ := He.ba h
  exact ⟨h1, h2, of_decide_eq_true h3, of_decide_eq_true h4⟩
section
variable {X : Cx} {cl : Str → Addr} {W : WX} {k : Nat}
end
end DL

set_option pp.maxSteps 300
/-! DmH: try with several clauses, each with or without a name. -/
namespace L2
open PySem PySem.Spec PyProof.Rows
abbrev Hd : Type := Value × Option Nat × (Addr → Value → Option Addr → TS)
/-- what is wanted behind a clause whose name stands in slot i -/
def Ends.less (D : Ends) (i : Nat) : Ends := { nx := fun σ' H' => D.nx (σ'.set i none) H', rt := D.rt, bk := fun σ' H' => D.bk (σ'.set i none) H', ct := fun σ' H' => D.ct (σ'.set i none) H' }
def wClauses (K : PySem.W.Frag) (Wout : WX) (D : Ends) : List Hd → WX
  | [] => Wout
  | (c, o, ts) :: r => fun cls d σ H => ∃ b, PySem.W.exmOne K cls c = some b ∧ (b = true → ∀ a, H a = none → match o with
      | none => ts a cls d D σ H
      | some i => ts a cls d (D.less i) (σ.set i (some (.ref a))) H) ∧ (b = false → wClauses K Wout D r cls d σ H)
inductive Clauses (X : Cx) : List ExceptHandler → List Hd → Prop
  | nil : Clauses X [] []
  | plain {x : Str} {c : Value} {ts : Addr → Value → Option Addr → TS} {b₀ : Stmt} {suite : List Stmt} {np pos' : Pos} {hds : List ExceptHandler} {l : List Hd} (hc : Names X x c)
      (hsu : ∀ (a : Addr) (oe : Obj) (cls : Value) (d : Option Addr) (pn : List (Addr × Obj)), Zc cls d oe → (∃ vs, oe.data = .fields vs) → PSs (X.suite a ((a, oe) :: pn)) (b₀ :: suite) (ts a cls d)) (r : Clauses X hds l) :
      Clauses X (.ExceptHandler (some (.Name x np)) none (b₀ :: suite) pos' :: hds) ((c, none, ts) :: l)
  | named {x n : Str} {c : Value} {i : Nat} {ts : Addr → Value → Option Addr → TS} {b₀ : Stmt} {suite : List Stmt} {np pos' : Pos} {hds : List ExceptHandler} {l : List Hd} (hi : X.N[i]? = some n) (hln : X.env.kindOf n = some .local) (hc : Names X x c)
      (hsu : ∀ (a : Addr) (oe : Obj) (cls : Value) (d : Option Addr) (pn : List (Addr × Obj)), Zc cls d oe → (∃ vs, oe.data = .fields vs) → PSs (X.suite a ((a, oe) :: pn)) (b₀ :: suite) (ts a cls d)) (r : Clauses X hds l) :
      Clauses X (.ExceptHandler (some (.Name x np)) (some n) (b₀ :: suite) pos' :: hds) ((c, some i, ts) :: l)
section
variable {X : Cx} {body : List Stmt} {h₀ : ExceptHandler} {hds : List ExceptHandler} {l : List Hd} {pos : Pos} {tb : WX → TS} {Wout : WX}
end
end L2

set_option pp.maxSteps 300
/-! DpJ: an object that stands is taken into what is known. -/
namespace L2
open PySem PySem.Spec PyProof.Rows
/-- at a: this object -/
def stood (a : Addr) (oe : Obj) : HO := .ext fun h => h.get? a = some oe
theorem stood_ok {P : Program} {w : World} {H : Hp} {h : Heap} {a : Addr} {oe : Obj} (e : h.get? a = some oe) : ObjOk P w H h a (stood a oe) :=
  ⟨e, ⟨_, e⟩, fun h1 h2 z k => k _ z⟩
theorem stood_at {P : Program} {w : World} {H : Hp} {h : Heap} {a : Addr} {oe : Obj} (hok : HOk P w H h) (he : H a = some (stood a oe)) : h.get? a = some oe := by
  have x : ObjOk P w H h a (.ext fun h => h.get? a = some oe) := hok a _ he
  exact x.1
theorem Inv.adopt {X : Cx} {pins : List (Addr × Obj)} {σ : St} {H : Hp} {s : Shared} {a : Addr} {oe : Obj} (I : Inv X pins σ H s) (ha : s.heap.get? a = some oe) (hn : H a = none) (nL : a ≠ X.env.locals) (n0 : a ∉ X.ex → X.s_0.heap.get? a = none) (nc : ∀ v, oe.data ≠ .cell v)
    (np : ∀ p ∈ X.pn ++ pins, p.1 ≠ a) : Inv X pins σ (upd H a (stood a oe)) s := by
  have ne : ∀ {b : Addr} {o : HO}, H b = some o → b ≠ a := fun {b o} q z => by rw [z, hn] at q; cases q
  refine { I with base := ?_, free := ?_, freeC := ?_, pin := ?_, hok := ?_ }
  · exact { I.base with
      free := fun b o q n x => by
        have : b ≠ a := fun z => by
          subst z
          rw [n0 x] at q; cases q
        rw [upd_ne this]
        exact I.base.free b o q n x
      tups := fun b xs q => by
        have z := I.base.tups b xs q
        rw [upd_ne (ne z)]; exact z
      frzs := fun b o v q => by
        have z := I.base.frzs b o v q
        rw [upd_ne (ne z)]; exact z
      tbls := fun b ps q => by
        obtain ⟨ps2, z⟩ := I.base.tbls b ps q
        exact ⟨ps2, by rw [upd_ne (ne z)]; exact z⟩ }
  · rw [upd_ne (Ne.symm nL)]; exact I.free
  · intro x c e
    obtain ⟨v, hv⟩ := I.cell x c e
    have : c ≠ a := fun z => by
      subst z
      obtain ⟨o, e1, e2⟩ := hv
      rw [ha] at e1
      cases e1
      exact nc _ e2
    rw [upd_ne this]; exact I.freeC x c e
  · intro p hp
    obtain ⟨h1, h2, h3, h4, h5⟩ := I.pin p hp
    exact ⟨h1, by rw [upd_ne (np p hp)]; exact h2, h3, h4, h5⟩
  · intro b o q
    by_cases hb : b = a
    · subst hb
      rw [upd_same] at q
      cases q
      exact stood_ok ha
    · rw [upd_ne hb] at q
      exact (I.hok b o q).stay (fun c v hc z => z) (fun c hc => by rw [upd_ne (ne hc)]; exact hc) (fun c xs hc => by rw [upd_ne (ne hc)]; exact hc)
end L2

set_option pp.maxSteps 600
/-! DsB: own exceptions made as values; their argument given by name. -/
namespace DL
open PySem
section
variable {M : Model} {A : Around} {E : Value → Shared → Prop} {h : Heap} {g : Array GenState} {d : Drawn} {t : Nat} {os : OsState}
variable {nm q : Str} {C N : Addr} {bs bm bmB : List Value} {hdct : Bool} {sn : List Str} {sub : List Value} {ab : Bool} {col : Option Bool} {dd : Option Addr} {k0 k1 k2 k3 k5 : Option Value} {B newId initId : String}
theorem new_checkedK (F : ExcBaseFacts B newId initId bmB) (hB : bm.contains (.type B) = true) {rest : List Value} {kws : List (Str × Value)} {Q : Unit → Shared → Prop}
    (hC : h.get? C = some (excClassObj nm q C N bs bm hdct sn sub ab col dd k0 k1 k2 k3 k5 newId)) (hq : Q () ⟨h, g, d, t, os⟩) : wpAny M A (checkBuiltinCall newId ⟨.ref C :: rest, kws⟩) Q E ⟨h, g, d, t, os⟩ := by
  have isB : (Value.ref C :: bm).contains (.type B) = true := by rw [List.contains_cons, hB, Bool.or_true]
  have hstar := F.noStar
  simp only [checkBuiltinCall, F.newKind, F.newSplit, F.newRow]
  repeat (first | refine wpAny_loadPart_at hC ?_ | (refine wpAny_isSubtype_exc hC ?_; rw [isB]) | refine wpAny_staticBase_exc hC ?_ | refine wpAny_madeBy_exc hC ?_ | simp only [bne_self_eq_false, Bool.false_eq_true, if_false] | wp_step)
  exact hq
end
section
variable {prog : Program} {w : World} {A : Around} {E : Value → Shared → Prop} {R : Result → Shared → Prop} {h : Heap} {g : Array GenState} {d : Drawn} {t : Nat} {os : OsState}
variable {nm q : Str} {C N : Addr} {bs bm bmB : List Value} {hdct : Bool} {sn : List Str} {sub : List Value} {ab : Bool} {col : Option Bool} {dd : Option Addr} {k0 k1 k2 k3 k5 : Option Value} {B newId initId : String}
theorem new_madeK (F : ExcBaseFacts B newId initId bmB) (hB : bm.contains (.type B) = true) (hA : bm.contains (.type "AttributeError") = false) (hN : bm.contains (.type "NameError") = false) {rest : List Value} {kws : List (Str × Value)}
    (hC : h.get? C = some (excClassObj nm q C N bs bm hdct sn sub ab col dd k0 k1 k2 k3 k5 newId))
    (hq : R (.ok (.ret (.ref (h.objs.size + 1)))) ⟨(h.push (PySem.W.kdv_tup rest)).push (PySem.HandSPX.excO C h.objs.size), g, d, t, os⟩) (hrest : rest.length ≤ sizeLine) :
    codeAny (model prog w) A (.builtin newId ⟨.ref C :: rest, kws⟩) R ⟨h, g, d, t, os⟩ := by
  have hends := F.ends
  have isB : (Value.ref C :: bm).contains (.type B) = true := by rw [List.contains_cons, hB, Bool.or_true]
  have notA : (Value.ref C :: bm).contains (.type "AttributeError") = false := by rw [List.contains_cons, hA]; rfl
  have notN : (Value.ref C :: bm).contains (.type "NameError") = false := by rw [List.contains_cons, hN]; rfl
  refine codeAny_builtinAt F.entry ?_
  unfold Builtin.«BaseException.__new__»
  refine wpAt_bind ?_
  show wpAt _ _ _ (stack >>= _) _ _ _
  refine wpAt_bind (wpAt_stack fun p below => wpAt_of_wpAny ?_)
  wp_walk
  refine wpAt_of_wpAny ?_
  rw [F.owner]
  repeat (first | with_reducible refine wpAny_madeHere_exc F.canon hC ?_ | with_reducible refine wpAny_loadPart_at hC ?_ | (with_reducible refine wpAny_isSubtype_exc hC ?_; first | rw [isB] | rw [notA] | rw [notN]) | wp_step)
  show R _ _
  rw [Heap.size_push]
  exact hq
theorem type_calledK (F : ExcBaseFacts B newId initId bmB) (hB : bm.contains (.type B) = true) (hA : bm.contains (.type "AttributeError") = false) (hN : bm.contains (.type "NameError") = false) {rest : List Value} {kws : List (Str × Value)} {fI : Addr} {Q : Fin → Shared → Prop}
    (hC : h.get? C = some (excClassObj nm q C N bs bm hdct sn sub ab col dd k0 k1 k2 k3 k5 newId))
    (hi : PySem.W.Looks (model prog w) h (typeLookup (.ref C) "__init__") (some (.ref fI))) (hb : ∀ self, PySem.W.Looks (model prog w) h (bindSpecial (.ref fI) self) (.ref fI, [self])) (hrest : rest.length ≤ sizeLine)
    (hq : codeAny (model prog w) A (.call (.ref fI) ⟨.ref (h.objs.size + 1) :: rest, kws⟩)
      (fun r s' => match r with | .ok (.ret v) => v = .none ∧ Q (.done (.ret (.ref (h.objs.size + 1)))) s' | .ok _ => False | .error e => E e s')
      ⟨(h.push (PySem.W.kdv_tup rest)).push (PySem.HandSPX.excO C h.objs.size), g, d, t, os⟩) :
    wpAny (model prog w) A (Builtin.«type.__call__» ⟨.ref C :: rest, kws⟩) Q E ⟨h, g, d, t, os⟩ := by
  repeat (first | with_reducible refine wpAny_loadPart_at hC ?_ | with_reducible refine wpAny_madeBy_exc hC ?_ | wp_step)
  refine codeAny_call_builtin_code (Code.quiet_builtin _ F.quiet) (new_checkedK F hB hC ?_)
  refine new_madeK F hB hA hN hC ?_ hrest
  show wpAny _ _ _ _ _ _
  have k : ∀ b o, h.get? b = some o → ((h.push (PySem.W.kdv_tup rest)).push (PySem.HandSPX.excO C h.objs.size)).get? b = some o := fun b o e => Heap.get?_push_of_some _ (Heap.get?_push_of_some _ e)
  have hC1 := k _ _ hC
  have hget : ((h.push (PySem.W.kdv_tup rest)).push (PySem.HandSPX.excO C h.objs.size)).get? (h.objs.size + 1) = some (PySem.HandSPX.excO C h.objs.size) := by heap_get
  have isC : (Value.ref C :: bm).contains (.ref C) = true := by simp
  have i1 := hi.keeps k
  have b1 := (hb (.ref (h.objs.size + 1))).keeps k
  unfold isInstance
  repeat (first | with_reducible refine wpAny_loadPart_at hget ?_ | (with_reducible refine wpAny_isSubtype_exc hC1 ?_; rw [isC]) | wp_step)
  show wpAny _ _ (typeLookup (.ref C) _) _ _ _
  refine i1.at ?_
  refine wpAny_holding (wpAny_bind (b1.at ?_))
  refine wpAny_bind (wpAny_call (codeAny_mono hq fun r s' z => ?_))
  rcases r with e | (v | _ | _ | _) <;> first | exact z | exact z.elim | skip
  obtain ⟨rfl, z⟩ := z
  first
    | exact wpAny_pure (wpAny_pure z)
    | (wp_walk; exact z)
theorem own_calledK (F : ExcBaseFacts B newId initId bmB) (hB : bm.contains (.type B) = true) (hA : bm.contains (.type "AttributeError") = false) (hN : bm.contains (.type "NameError") = false) {rest : List Value} {kws : List (Str × Value)} {fI : Addr}
    (hC : h.get? C = some (excClassObj nm q C N bs bm hdct sn sub ab col dd k0 k1 k2 k3 k5 newId))
    (hi : PySem.W.Looks (model prog w) h (typeLookup (.ref C) "__init__") (some (.ref fI))) (hb : ∀ self, PySem.W.Looks (model prog w) h (bindSpecial (.ref fI) self) (.ref fI, [self])) (hrest : rest.length ≤ sizeLine)
    (hq : codeAny (model prog w) (A.under (.builtin "type.__call__" ⟨.ref C :: rest, kws⟩)) (.call (.ref fI) ⟨.ref (h.objs.size + 1) :: rest, kws⟩) (PySem.W.InitBack (h.objs.size + 1) R)
      ⟨(h.push (PySem.W.kdv_tup rest)).push (PySem.HandSPX.excO C h.objs.size), g, d, t, os⟩) :
    codeAny (model prog w) A (.call (.ref C) ⟨rest, kws⟩) R ⟨h, g, d, t, os⟩ := by
  have f1 := tc_lookup
  have f2 := tc_bind (.ref C)
  have hTy : (⟨h, g, d, t, os⟩ : Shared).TypeIs (.ref C) "type" := ⟨_, hC, rfl⟩
  refine codeAny_of_tree ?_
  show wpAny _ _ (callAny (.ref C) _) _ _ _
  repeat (any_goals (first | assumption | with_reducible refine wpAny_loadPart_at hC ?_ | wp_step))
  refine ⟨rfl, ?_⟩
  refine codeAny_call_builtin_at (Code.quiet_builtin _ (by decide +kernel)) entry_typeCall (wpAny_check_type_call_sub hC (type_calledK F hB hA hN hC hi hb hrest ?_))
  refine codeAny_mono hq fun r s' z => ?_
  rcases r with e | (v | _ | _ | _) <;> exact z
end
end DL
namespace DL
open PySem PySem.Spec PyProof.Rows L2
section
variable {X : Cx}
/-- the new exception, known as an object that stands -/
theorem mk_endX {pins : List (Addr × Obj)} {σ : L2.St} {H1 H2 : Hp} {hp hp2 h2 : Heap} {g1 g2 : Array GenState} {d1 d2 : Drawn} {t1 t2 : Nat} {os1 os2 : OsState} {a C d : Addr} {fs : List (Str × V)} (I1 : Inv X pins σ H1 ⟨hp, g1, d1, t1, os1⟩)
    (ha : hp.objs.size ≤ a) (k : ∀ b o, hp.get? b = some o → hp2.get? b = some o) (un : Un (frs X.stack) [] (upd H1 a (exo a C none)) H2 hp2 h2) (hok : HOk X.prog X.w H2 h2) (ho : os2 = os1) (hb : AllBare g2)
    (ea : H2 a = some (exo a C (some d))) (ed : H2 d = some (exd d fs)) (hd1 : H1 d = none) :
    ∃ oe : Obj, Zc (.ref C) (some d) oe ∧ (∃ zs, oe.data = .fields zs) ∧ a ≠ d ∧ Inv X pins σ (upd (upd H2 a (stood a oe)) d (.xd fs)) ⟨h2, g2, d2, t2, os2⟩ := by
  obtain ⟨t0, hoe⟩ := exo_at hok ea
  obtain ⟨mA, hns, rel⟩ := exd_at hok ed
  have hn : H1 a = none := I1.hok.fresh ha
  have hda : d ≠ a := fun z => by
    obtain ⟨o, es, ep, e1, e2, _⟩ := hns
    rw [z, hoe] at e1
    have z2 := Option.some.inj e1
    subst z2
    cases e2
  obtain ⟨oe, hoe2⟩ : ∃ oe : Obj, oe = { cls := .ref C, dict := some d, data := .fields #[.ref t0, .none, .none, .none, .bool false, .none] } := ⟨_, rfl⟩
  rw [← hoe2] at hoe
  have nha : ∀ {b : Addr} {o : Obj}, hp.get? b = some o → b ≠ a := fun {b o} z => Nat.ne_of_lt (Nat.lt_of_lt_of_le (Heap.lt_size z) ha)
  have up : ∀ {b : Addr}, b ≠ a → H1 b = none → upd H1 a (exo a C none) b = none := fun {b} hb n => by rw [upd_ne hb]; exact n
  have nd : ∀ {b : Addr} {o : Obj}, hp.get? b = some o → H1 b = none → b ≠ d := fun {b o} z n e => by
    have y := un.free b o (k b o z) (up (nha z) n) (by simp)
    rw [e, ed] at y
    cases y
  have U : Un (frs X.stack) [] H1 (upd (upd H2 a (stood a oe)) d (.xd fs)) hp h2 := {
    keep := fun b o z n hf hx => un.keep b o (k b o z) (up (nha z) n) hf hx
    slot := fun b o z n hf hx => un.slot b o (k b o z) (up (nha z) n) hf hx
    free := fun b o z n hx => by
      rw [upd_ne (nd z n), upd_ne (nha z)]
      exact un.free b o (k b o z) (up (nha z) n) hx
    there := fun b o z hx => un.there b o (k b o z) hx
    tups := fun b xs z => by
      rw [upd_ne (ne_of_none z hd1), upd_ne (ne_of_none z hn)]
      exact un.tups b xs (by rw [upd_ne (ne_of_none z hn)]; exact z)
    frzs := fun b o v z => by
      rw [upd_ne (ne_of_none z hd1), upd_ne (ne_of_none z hn)]
      exact un.frzs b o v (by rw [upd_ne (ne_of_none z hn)]; exact z)
    tbls := fun b ps z => by
      rw [upd_ne (ne_of_none z hd1), upd_ne (ne_of_none z hn)]
      exact un.tbls b ps (by rw [upd_ne (ne_of_none z hn)]; exact z) }
  have hok3 : HOk X.prog X.w (upd (upd H2 a (stood a oe)) d (.xd fs)) h2 := fun b o z => by
    by_cases hbd : b = d
    · subst hbd
      rw [upd_same] at z
      cases z
      exact ⟨mA, hns, rel⟩
    · rw [upd_ne hbd] at z
      by_cases hba : b = a
      · subst hba
        rw [upd_same] at z
        cases z
        exact stood_ok hoe
      · rw [upd_ne hba] at z
        exact (hok b o z).stay (fun c v hc y => y)
          (fun c hc => by
            rw [upd_ne (at_ne ed hc exd_own), upd_ne (at_ne ea hc exo_own)]; exact hc)
          (fun c xs hc => by
            rw [upd_ne (at_ne ed hc exd_tup), upd_ne (at_ne ea hc exo_tup)]; exact hc)
  have J : Inv X pins σ (upd (upd H2 a (stood a oe)) d (.xd fs)) ⟨h2, g2, d2, t2, os2⟩ := I1.call' (s' := ⟨h2, g2, d2, t2, os2⟩) (ch := []) ho U hok3 hb fun b z => absurd z (by simp)
  exact ⟨oe, by rw [hoe2]; exact ⟨rfl, rfl⟩, ⟨_, by rw [hoe2]⟩, fun z => hda z.symm, J⟩
variable {B newId initId : String} {tl : List Value}
theorem run_newX {C fI : Addr} {f pn : Str} {k : Nat} {fd : FuncData} {pins : List (Addr × Obj)} {σ : L2.St} {H : Hp} {s : Shared} {Q : VK} {rest : List Value} {kws : List (Str × Value)} {u : Value} {y : V}
    (TF : ExT B newId initId tl) (O : OexID X.K C fI f newId tl) (F1 : FnOk X.prog X.w X.K X.mg X.base (L2.CX X.prog X.w) (k + 1) fI fd ["self", pn] (oexSp C f)) (hr : Room (k + 2) X.A) (I : Inv X pins σ H s) (ry : RelV y u) (hus : rest.length ≤ sizeLine)
    (hbind : ∀ (s' : Shared) (a : Addr), X.K.In s'.heap → BindsTo s' fd ⟨.ref a :: rest, kws⟩ (([("self" : Str), pn] : List Str).zip [.ref a, u]))
    (h : ∀ (a d : Addr) (oe : Obj), H a = none → H d = none → a ≠ d → Zc (.ref C) (some d) oe → (∃ zs, oe.data = .fields zs) → Q (.ref a) (upd (upd H a (stood a oe)) d (.xd [(f, y)]))) :
    wpAny (model X.prog X.w) X.A (call (.ref C) rest kws) (EP X pins σ Q) X.xe s := by
  obtain ⟨nm, q, N, bs, bm, sn, sub, ab, col, dd, k0, k1, k2, k3, k5, hC, hbm⟩ := O.c.cls
  obtain ⟨hp, g, dr, tk, os⟩ := s
  have hsz : hp.objs.size ≤ hp.objs.size + 1 := Nat.le_succ _
  have hn : H (hp.objs.size + 1) = none := I.hok.fresh hsz
  have kk : ∀ b o, hp.get? b = some o → ((hp.push (PySem.W.kdv_tup rest)).push (PySem.HandSPX.excO C hp.objs.size)).get? b = some o := fun b o e => Heap.get?_push_of_some _ (Heap.get?_push_of_some _ e)
  have hget : ((hp.push (PySem.W.kdv_tup rest)).push (PySem.HandSPX.excO C hp.objs.size)).get? (hp.objs.size + 1) = some (PySem.HandSPX.excO C hp.objs.size) := by heap_get
  have I2 : Inv X pins σ (upd H (hp.objs.size + 1) (exo (hp.objs.size + 1) C none)) ⟨(hp.push (PySem.W.kdv_tup rest)).push (PySem.HandSPX.excO C hp.objs.size), g, dr, tk, os⟩ :=
    I.laid (t' := tk) (a := hp.objs.size + 1) (o := exo (hp.objs.size + 1) C none) (h' := (hp.push (PySem.W.kdv_tup rest)).push (PySem.HandSPX.excO C hp.objs.size)) kk hsz (exo_ok hget)
  have r2 : Vals [V.ref (hp.objs.size + 1), y] [Value.ref (hp.objs.size + 1), u] := .cons rfl (.cons ry .nil)
  have sp : oexSp C f [V.ref (hp.objs.size + 1), y] (upd H (hp.objs.size + 1) (exo (hp.objs.size + 1) C none)) (fun v H2 => v = .non ∧ ∃ dx, upd H (hp.objs.size + 1) (exo (hp.objs.size + 1) C none) dx = none ∧ dx ≠ hp.objs.size + 1 ∧
      H2 = upd (upd (upd H (hp.objs.size + 1) (exo (hp.objs.size + 1) C none)) dx (exd dx [(f, y)])) (hp.objs.size + 1) (exo (hp.objs.size + 1) C (some dx))) (fun _ _ _ => False) :=
    ⟨_, y, rfl, upd_same, fun dx n1 n2 => ⟨rfl, dx, n1, n2, rfl⟩⟩
  obtain ⟨tB, FF⟩ := TF.f
  refine wpAny_call (own_calledK FF ((hbm.has _).trans TF.hB) ((hbm.has _).trans TF.hA) ((hbm.has _).trans TF.hN) (I.kIn _ _ hC) (PySem.W.looks_findIn I.kIn O.at_) (fun self => PySem.W.bind_fn I.kIn self O.fn) hus
    (codeAny_mono (F1.run _ X.stack _ _ ⟨Value.ref (hp.objs.size + 1) :: rest, kws⟩ [Value.ref (hp.objs.size + 1), u] _ _ (fun _ _ _ => False) (hr.make C rest kws) (I2.env0.make C rest kws) (hbind _ _ I2.kIn) r2 sp) fun r s' hq' => ?_))
  cases r with
  | error er =>
    obtain ⟨_, _, _, _, _, _, _, _, _, _, _, _, z⟩ := hq'
    exact z.elim
  | ok fl =>
    cases fl with
    | ret w =>
      obtain ⟨v, H2, os2, bare2, un2, hok2, rv, ev, dx, n1, n2, e2⟩ := hq'
      subst ev
      obtain ⟨h2, g2, d2, t2, os'⟩ := s'
      have n3 : H dx = none := by rw [upd_ne n2] at n1; exact n1
      have ea : H2 (hp.objs.size + 1) = some (exo (hp.objs.size + 1) C (some dx)) := by rw [e2]; exact upd_same
      have ed : H2 dx = some (exd dx [(f, y)]) := by rw [e2, upd_ne n2]; exact upd_same
      obtain ⟨oe, hz, hf, hne, J⟩ := mk_endX (d2 := d2) (t2 := t2) I hsz kk un2 hok2 os2 bare2 ea ed n3
      have eH : upd (upd H2 (hp.objs.size + 1) (stood (hp.objs.size + 1) oe)) dx (.xd [(f, y)]) = upd (upd H (hp.objs.size + 1) (stood (hp.objs.size + 1) oe)) dx (.xd [(f, y)]) := by
        rw [e2]
        funext b
        by_cases hb : b = dx
        · subst hb; rw [upd_same, upd_same]
        · rw [upd_ne hb, upd_ne hb]
          by_cases hba : b = hp.objs.size + 1
          · subst hba; rw [upd_same, upd_same]
          · rw [upd_ne hba, upd_ne hba, upd_ne hba, upd_ne hb, upd_ne hba]
      rw [eH] at J
      exact ⟨rv, .ref (hp.objs.size + 1), _, J, rfl, h _ dx oe hn n3 hne hz hf⟩
    | next => exact False.elim hq'
    | brk => exact False.elim hq'
    | cont => exact False.elim hq'
end
end DL

set_option pp.maxSteps 300
/-! DpK: a try statement whose one clause keeps the exception. -/
namespace L2
open PySem PySem.Spec PyProof.Rows
/-- what is wanted of an exception: the clause keeps it at slot j -/
def wKeep (K : PySem.W.Frag) (Wout : WX) (D : Ends) (c : Value) (i j : Nat) : WX := fun cls d σ H => ∃ b, PySem.W.exmOne K cls c = some b ∧
  (b = true → ∀ (a : Addr) (oe : Obj), H a = none → Zc cls d oe → (∃ vs, oe.data = .fields vs) → D.nx (((σ.set i (some (.ref a))).set j (some (.ref a))).set i none) (upd H a (stood a oe))) ∧ (b = false → Wout cls d σ H)
section
variable {X : Cx} {body : List Stmt} {pos : Pos} {tb : WX → TS} {Wout : WX}
end
end L2

set_option pp.maxSteps 300
/-! DmI: try as a function of the state. -/
namespace DL
open PySem PySem.Spec PyProof.Rows L2
/-- what a clause does: name j = a constant; name j = the caught exception's field -/
inductive Kd where
  | con (j : Nat) (d : D)
  | fld (n : Str) (j : Nat) (f : Str)
structure Cl where
  m : Str → Option Bool
  i : Option Nat
  k : Kd
def offE (i : Option Nat) (env : List (Option D)) : List (Option D) := match i with
  | none => env
  | some i => env.set i none
def setJ (i : Option Nat) (j : Nat) (d : D) (s : S) : Out Fl := if j < s.env.length ∧ (∀ i', i = some i' → i' < s.env.length) then .ok .nx { s with env := offE i ((offE i s.env).set j (some d)) } else .fail
def runK (k : Kd) (i : Option Nat) (n : Str) (fs : List (Str × D)) (s : S) : Out Fl := match k with
  | .con j d => setJ i j d s
  | .fld n' j f => if n = n' then (match fs.lookup f with
    | some d => setJ i j d s
    | none => .fail) else .fail
def catchX : List Cl → Str → List (Str × D) → S → Out Fl
  | [], n, fs, s => .exc n fs s
  | h :: r, n, fs, s => match h.m n with
    | some true => runK h.k h.i n fs s
    | some false => catchX r n fs s
    | none => .fail
def sTry (fb : M Fl) (hs : List Cl) : M Fl := fun s => match fb s with
  | .exc n fs s2 => catchX hs n fs s2
  | o => o
section
variable {K : PySem.W.Frag} {cl : Str → Addr} {c : Cz} {H : Hp} {σ : L2.St} {s : S} {T : List (D × V)}
theorem SI.unset {i : Nat} {o : Option V} (h : SI K cl c H σ s T) : SI K cl c H (σ.set i o) { s with env := s.env.set i none } T := by
  obtain ⟨F, α, h⟩ := h
  refine ⟨F, α, { h with el := by show (s.env.set i none).length = (σ.set i o).length; rw [List.length_set, List.length_set]; exact h.el, env := fun j e q => ?_ }⟩
  have q' : (s.env.set i none)[j]? = some (some e) := q
  by_cases hj : i = j
  · subst hj
    have hl : i < s.env.length := by
      have := (List.getElem?_eq_some_iff.mp q').1
      rwa [List.length_set] at this
    rw [List.getElem?_set_self hl] at q'
    cases q'
  · rw [List.getElem?_set_ne hj] at q'
    rw [List.getElem?_set_ne hj]
    exact h.env j e q'
/-- a frame's name loses its value again -/
def offV (i : Option Nat) (σ : L2.St) : L2.St := match i with
  | none => σ
  | some i => σ.set i none
theorem SI.setJ {W : WX} {i : Option Nat} {j : Nat} {d : D} {v u : V} {E : Ends} (I : SI K cl c H σ s ((d, v) :: T)) (w : WantS K cl W c T (DL.setJ i j d s) E) :
    (i = none → E.nx (σ.set j (some v)) H) ∧ ∀ i', i = some i' → E.nx (((σ.set i' (some u)).set j (some v)).set i' none) H := by
  unfold DL.setJ at w
  by_cases hc : j < s.env.length ∧ ∀ i', i = some i' → i' < s.env.length
  · rw [if_pos hc] at w
    refine ⟨fun e => ?_, fun i' e => ?_⟩
    · subst e
      exact w _ _ (I.bind hc.1)
    · subst e
      have I1 := I.unset (i := i') (o := some u)
      have I2 := I1.bind (by show j < (s.env.set i' none).length; rw [List.length_set]; exact hc.1)
      exact w _ _ (I2.unset (i := i') (o := none))
  · rw [if_neg hc] at w; exact w.elim
end
/-- the clauses of a try -/
structure DCl (X : Cx) (cl : Str → Addr) (W : WX) (hds : List ExceptHandler) (hs : List Cl) : Prop where
  ex : ∃ l, Clauses X hds l ∧ ∀ c σ s T H E n fs dx, (dx = none → fs = []) → SI X.K cl c H σ s (xt fs dx ++ T) → WantS X.K cl W c T (catchX hs n fs s) E → wClauses X.K W E l (.ref (cl n)) dx σ H
def uS (K : PySem.W.Frag) (cl : Str → Addr) (f : M Fl) (W : WX) : TS := fun D σ H => ∃ c s T, SI K cl c H σ s T ∧ WantS K cl W c T (f s) D
section
variable {X : Cx} {cl : Str → Addr} {W : WX} {k : Nat}
end
end DL

/-! DlT: list of a text; zip, strict. -/
namespace DL
open PySem L2
open PySem.Spec PyProof.Rows

section
variable {X : Cx} {cl : Str → Addr} {W : WX}
theorem Blk.of {scope : Scope} {tg : Expr} {ifs : List Expr} {elt : Expr} {is : List Nat} {g : D → S → Option S} {tt : M Bool} {fe : M D} {k : Nat} (hk : Cok X W k)
    (g_ : ∀ (s : Shared) (H : Hp) (C : Addr) (cc : List (Str × Addr)) (fp : List Addr), Cok (X.blk s H scope (compEnvC scope cc C X.env) fp) (fun _ _ _ _ => False) k → DG (X.blk s H scope (compEnvC scope cc C X.env) fp) cl tg is g)
    (t_ : ∀ (s : Shared) (H : Hp) (C : Addr) (cc : List (Str × Addr)) (fp : List Addr), Cok (X.blk s H scope (compEnvC scope cc C X.env) fp) (fun _ _ _ _ => False) k → DTs (X.blk s H scope (compEnvC scope cc C X.env) fp) cl (fun _ _ _ _ => False) ifs tt)
    (e_ : ∀ (s : Shared) (H : Hp) (C : Addr) (cc : List (Str × Addr)) (fp : List Addr), Cok (X.blk s H scope (compEnvC scope cc C X.env) fp) (fun _ _ _ _ => False) k → DE (X.blk s H scope (compEnvC scope cc C X.env) fp) cl (fun _ _ _ _ => False) elt fe) : Blk X cl scope tg ifs elt is g tt fe :=
  ⟨fun s H C cc fp => g_ s H C cc fp (hk.blk ..), fun s H C cc fp => t_ s H C cc fp (hk.blk ..), fun s H C cc fp => e_ s H C cc fp (hk.blk ..)⟩
def dIxA : D → D → Option D := orD dIx dIxS
theorem ixd_any : IxD X cl dIxA := ixd_seq.or ixd_str
/-- list(z) -/
def rLstS : List V → Hp → VK → Prop := fun vs H Q => ∃ z, vs = [.str z] ∧ z.length ≤ sizeLine ∧ ∀ p, H p = none → Q (.ref p) (upd H p (.lst ((signs z).map V.str)))
def lstOf : D → Option (List D)
  | .str z => if le1m z.length = true then some ((signs z).map .str) else none
  | d => seqD d
/-! ### zip(a, b, strict=True), as long as one another -/
def zipL : List D → List D → List D
  | a :: as, b :: bs => .kt [a, b] :: zipL as bs
  | _, _ => []
def zipO : Option (List D) → Option (List D) → Option (List D)
  | some xs, some ys => if xs.length = ys.length ∧ xs.length ≤ 1000000 then some (zipL xs ys) else none
  | _, _ => none
def itZip : D → Option (List D)
  | .tup [.str x, .str y] => zipO (itSeq (.str x)) (itSeq (.str y))
  | _ => none
def eZip (f : M (List D)) : M D := fun s => (f s).bind fun ds s => match ds with
  | [a, b] => .ok (.tup [view s.M a, view s.M b]) s
  | _ => .fail
/-- x[i] of a list, a tuple, a text, a dict -/
def dSub : D → D → Option D := orD dIxA dGet
theorem de_sub {a b : Expr} {fa fb : M D} {pos : Pos} {k : Nat} (hk : Cok X W k) (ha : DE X cl W a fa) (hb : DE X cl W b fb) (h1 : PlainIx b := by intro _ _; rfl) (h2 : NoSl b := by intro _ _; rfl) : DE X cl W (.Subscript a b pos) (eOp dSub fa fb) :=
  DE.orOp (de_ix ixd_any ha hb h1) (de_dget hk ha hb h2)
end
/-- a tuple of the module's top, its object without a dict -/
def tupNB (K : PySem.W.Frag) (x : Str) (vs : List He.Dv) : Bool := He.tupB K x vs && (match K.lookup (He.ga K x) with
  | some o => o.dict.isNone
  | none => false)
end DL

set_option pp.maxSteps 300
/-! DmE: dicts written, dict displays. -/
namespace DL
open PySem PySem.Spec PyProof.Rows L2
section
variable {K : PySem.W.Frag} {cl : Str → Addr} {H : Hp} {F : Addr → Prop} {α : List Addr}
theorem RepK.append : ∀ {a : List (Key × D)} {b : List (Key × V)} {a' : List (Key × D)} {b' : List (Key × V)}, RepK K cl H F α a b → RepK K cl H F α a' b' → RepK K cl H F α (a ++ a') (b ++ b')
  | _, _, _, _, .nil, h => h
  | _, _, _, _, .cons h r, h2 => .cons h (r.append h2)
theorem RepK.mapAt {k : Key} {d : D} {v : V} (h : Rep K cl H F α d v) : ∀ {a : List (Key × D)} {b : List (Key × V)}, RepK K cl H F α a b → RepK K cl H F α (a.map fun kv => if kv.1 = k then (kv.1, d) else kv) (b.map fun kv => if kv.1 = k then (kv.1, v) else kv)
  | _, _, .nil => .nil
  | (g, x) :: a, (_, u) :: b, .cons h1 r => by
    rw [List.map_cons, List.map_cons]
    by_cases q : g = k
    · simp only [q, if_true]; exact .cons h (r.mapAt h)
    · simp only [q, if_false]; exact .cons h1 (r.mapAt h)
theorem RepK.put {k : Key} {d : D} {v : V} {a : List (Key × D)} {b : List (Key × V)} (r : RepK K cl H F α a b) (h : Rep K cl H F α d v) : RepK K cl H F α (putD a k d) (putK b k v) := by
  unfold putD putK
  rw [any_keys r.keys]
  split
  · exact r.mapAt h
  · exact r.append (.cons h .nil)
theorem RepK.len {a : List (Key × D)} {b : List (Key × V)} (r : RepK K cl H F α a b) : a.length = b.length := by
  have := congrArg List.length r.keys
  simpa using this
theorem RepK.zip : ∀ {ks : List Key} {ds : List D} {vs : List V}, RepL K cl H F α ds vs → RepK K cl H F α (ks.zip ds) (ks.zip vs)
  | [], _, _, _ => by simp only [List.zip_nil_left]; exact .nil
  | k :: ks, _, _, .nil => by simp only [List.zip_nil_right]; exact .nil
  | k :: ks, _, _, .cons h r => .cons h (RepK.zip r)
end
def cPut : C → D → D → Option C
  | .dct kvs, i, d => (keyD i).bind fun k => if kvs.length < 1000000 then some (.dct (putD kvs k d)) else none
  | _, _, _ => none
def zipKV : List Key → List V → List (V × V)
  | k :: ks, v :: vs => (kV k, v) :: zipKV ks vs
  | _, _ => []
section
variable {X : Cx} {cl : Str → Addr} {W : WX} {k : Nat}
/-- the pairs of a display, its keys constants -/
structure DPs (X : Cx) (cl : Str → Addr) (W : WX) (pos : Pos) (keys : List (Option Expr)) (values : List Expr) (ks : List Key) (f : M (List D)) : Prop where
  ex : ∃ trs, PPs X pos keys values trs ∧ ∀ c σ s T H (Q : List (V × V) → Hp → Prop), SI X.K cl c H σ s T → WantA X.K cl W c σ T (f s) (fun vs H' => Q (zipKV ks vs) H') → tPairs trs σ H Q
def eDisp (ks : List Key) (f : M (List D)) : M D := fun s => (f s).bind fun ds s1 => if ks.length = ds.length then .ok (.dct (ks.zip ds)) s1 else .fail
def eDispC (ks : List Key) (f : M (List D)) : M D := fun s => (f s).bind fun ds s1 => if ks.length = ds.length then .ok (.ptr s1.M.length) { s1 with M := s1.M ++ [some (.dct (ks.zip ds))] } else .fail
end
end DL

/-! DmA: texts, lists and tuples times an int; the empty dict; repr of a bool. -/
namespace DL
open PySem PySem.Spec PyProof.Rows L2
theorem tuple_mul1 (l : Addr) (items : Array Value) (n : Nat) (dd : Option Addr) (sl : Array (Option Value)) (u : Tok) :
    Meets (Builtin.«tuple.__mul__» ⟨[.ref l, .int 1 u], []⟩) (fun _ R s => s.heap.get? l = some { cls := .type "tuple", dict := dd, data := .seq items n, slots := sl } ∧ R (.ok (.ret (Value.ref l))) s) :=
  .of_wp fun prog w A R s h => by
    obtain ⟨hp, g, d, tk, os⟩ := s
    obtain ⟨hl, h⟩ := h
    have f1 := AutoSeq1.idx_int
    have c1 : (items.isEmpty || (1 : Int) == 1) = true := by simp
    wp_walk using wpAny_loadPart' hl
    repeat (first
      | (refine wpAny_ite_true (decide_eq_true (by rw [c1])) ?_; wp_walk using wpAny_loadPart' hl)
      | (refine wpAny_ite_true (decide_eq_true c1) ?_; wp_walk using wpAny_loadPart' hl))
    exact ⟨_, rfl, h⟩
theorem tuple_mul0 (l : Addr) (items : Array Value) (n : Nat) (dd : Option Addr) (sl : Array (Option Value)) (u : Tok) (c1 : (items.isEmpty || (0 : Int) == 1) = false) :
    Meets (Builtin.«tuple.__mul__» ⟨[.ref l, .int 0 u], []⟩) (fun _ R s => s.heap.get? l = some { cls := .type "tuple", dict := dd, data := .seq items n, slots := sl } ∧
      R (.ok (.ret (Value.ref s.heap.objs.size))) { s with heap := s.heap.push { cls := Value.type "tuple", data := Data.seq #[] }, toks := s.toks }) :=
  .of_wp fun prog w A R s h => by
    obtain ⟨hp, g, d, tk, os⟩ := s
    obtain ⟨hl, h⟩ := h
    have f1 := AutoSeq1.idx_int
    have c2 : (decide ((0 : Int) ≤ 0) || items.isEmpty) = true := by simp
    wp_walk using wpAny_loadPart' hl
    repeat (first
      | (refine wpAny_ite_false (decide_eq_false (by rw [c1]; exact Bool.false_ne_true)) ?_; wp_walk using wpAny_loadPart' hl)
      | (refine wpAny_ite_true (decide_eq_true (by rw [c2])) ?_; wp_walk using wpAny_loadPart' hl)
      | (refine wpAny_ite_true (decide_eq_true c2) ?_; wp_walk using wpAny_loadPart' hl))
    exact ⟨_, rfl, h⟩
/-- t * n -/
def rRepN (K : PySem.W.Frag) : R2 := fun x y H Q => ∃ l k xs, x = .ref l ∧ y = .int k ∧ SqT K H l xs ∧ xs ≠ [] ∧ 0 ≤ k ∧ k ≤ 1000 ∧ xs.length ≤ 1000 ∧ (k = 1 → Q (.ref l) H) ∧ (k ≠ 1 → NewN H (List.replicate k.toNat xs).flatten Q)
section
variable {X : Cx}
theorem op_repN : OpR X (binaryOp .Mult) (rRepN X.K) := by
  intro pins s σ H x y v u Q I rx ry h
  obtain ⟨l, k, xs, rfl, rfl, hT, hne, h1, h2, hz, q1, q2⟩ := h
  cases rx
  obtain ⟨t, rfl⟩ := ry
  obtain ⟨its, r, ⟨⟨cls, dd, data, sl⟩, ho, hc, n, hd⟩, hs⟩ := I.tuple hT
  simp only at hc hd
  subst hc hd
  have hle : its.length = xs.length := r.length.symm
  have hn : its ≠ [] := fun e => hne (by
    rw [e] at hle
    exact List.eq_nil_of_length_eq_zero hle.symm)
  have hi : its.toArray.isEmpty = false := by
    cases its with
    | nil => exact absurd rfl hn
    | cons a b => rfl
  have hsz0 : its.toArray.size = xs.length := by rw [List.size_toArray, hle]
  by_cases k1 : k = 1
  · subst k1
    exact wpAny_binaryOp_repeat_ref (T := "tuple") (U := "int") (by decide) ⟨_, ho, rfl⟩ (fun s' => typeIs_int s' 1 t) noFill_tuple_mul F.fills_int_mul F.slot_int_rmul repeat_tuple F.slot_int_index.lookup
      (call_meets F.slot_int_rmul (typeIs_int s 1 t) F.entry_int_rmul (F.args_int_rmul_2 _ _) (int_rmul_tuple 1 t l its.toArray n dd sl)
        ⟨ho, rfl, ⟨_, ho, rfl⟩, call_meets F.slot_tuple_mul ⟨_, ho, rfl⟩ F.entry_tuple_mul (F.args_tuple_mul_2 _ _) (tuple_mul1 l its.toArray n dd sl t) ⟨ho, ⟨.ref l, H, I, rfl, q1 rfl⟩⟩⟩)
  · have q := q2 k1
    have flen : (List.replicate k.toNat its).flatten.length ≤ sizeLine := by
      rw [PyProof.Rows.lm_len_rep_flat, hle, sizeLine_eq]
      have a1 : k.toNat * xs.length ≤ 1000 * 1000 := Nat.mul_le_mul (by omega) hz
      omega
    have fin : ∀ s', Inv X pins σ H s' → ∀ a, a = (List.replicate k.toNat its).flatten.toArray → (∃ z H', Inv X pins σ H' { s' with heap := s'.heap.push { cls := Value.type "tuple", data := Data.seq a } } ∧ RelV z (Value.ref s'.heap.objs.size) ∧ Q z H') := fun s' I' a ha => by
      subst ha
      refine ⟨.ref _, _, new_frz (t' := s'.toks) I' (r.rep k.toNat) (by rw [PyProof.Rows.lm_len_rep_flat, ← hle, ← PyProof.Rows.lm_len_rep_flat]; exact flen), rfl, q _ (I'.hok.fresh (Nat.le_refl _)) _ rfl⟩
    by_cases k0 : k = 0
    · subst k0
      exact wpAny_binaryOp_repeat_ref (T := "tuple") (U := "int") (by decide) ⟨_, ho, rfl⟩ (fun s' => typeIs_int s' 0 t) noFill_tuple_mul F.fills_int_mul F.slot_int_rmul repeat_tuple F.slot_int_index.lookup
        (call_meets F.slot_int_rmul (typeIs_int s 0 t) F.entry_int_rmul (F.args_int_rmul_2 _ _) (int_rmul_tuple 0 t l its.toArray n dd sl)
          ⟨ho, rfl, ⟨_, ho, rfl⟩, call_meets F.slot_tuple_mul ⟨_, ho, rfl⟩ F.entry_tuple_mul (F.args_tuple_mul_2 _ _) (tuple_mul0 l its.toArray n dd sl t (by rw [hi]; rfl)) ⟨ho, fin s I _ rfl⟩⟩)
    have hm : ((its.toArray.size : Nat) : Int) * k ≤ 1000000 := by
      rw [hsz0]
      have a1 : ((xs.length : Nat) : Int) * k ≤ 1000 * k := Int.mul_le_mul_of_nonneg_right (by omega) (by omega)
      omega
    have c0 : (decide (k < -(2 ^ 63)) || decide (k ≥ 2 ^ 63)) = false := by
      rw [decide_eq_false (by omega), decide_eq_false (by omega)] <;> rfl
    have c1 : (its.toArray.isEmpty || k == 1) = false := by
      rw [hi, Bool.false_or]
      exact beq_eq_false_iff_ne.mpr (by omega)
    have c2 : (decide (k ≤ 0) || its.toArray.isEmpty) = false := by
      rw [hi, Bool.or_false]
      exact decide_eq_false (by omega)
    have c4 : Builtin.Tuple.tupleTooMany (((its.toArray.size : Nat) : Int) * k) = false := by
      unfold Builtin.Tuple.tupleTooMany
      rw [sizeLine_eq]
      exact decide_eq_false (by omega)
    exact wpAny_binaryOp_repeat_ref (T := "tuple") (U := "int") (by decide) ⟨_, ho, rfl⟩ (fun s' => typeIs_int s' k t) noFill_tuple_mul F.fills_int_mul F.slot_int_rmul repeat_tuple F.slot_int_index.lookup
      (call_meets F.slot_int_rmul (typeIs_int s k t) F.entry_int_rmul (F.args_int_rmul_2 _ _) (int_rmul_tuple k t l its.toArray n dd sl)
        ⟨ho, rfl, ⟨_, ho, rfl⟩, call_meets F.slot_tuple_mul ⟨_, ho, rfl⟩ F.entry_tuple_mul (F.args_tuple_mul_2 _ _) (tuple_mulW l its.toArray n dd sl k t c0 c1 c2 (by omega) c4 (by rw [size_rep, List.size_toArray]; exact flen)) ⟨ho, fin s I _ (size_rep its k.toNat)⟩⟩)
theorem op_repS : OpR X (binaryOp .Mult) (fun x y H Q => ∃ z k, x = .str z ∧ y = .int k ∧ z.length ≤ 16 ∧ -(2 ^ 63) ≤ k ∧ k ≤ 1000000 ∧ Q (.str (Txt.mul z k)) H) := by
  intro pins s σ H x y v u Q I rx ry h
  obtain ⟨z, k, rfl, rfl, hz, h1, h2, q⟩ := h
  obtain ⟨t, rfl⟩ := rx
  obtain ⟨t2, rfl⟩ := ry
  exact SB.mul (mulOk_of 16 1000000 hz h2 h1 (by decide) (by decide)) fun t' k' => ⟨.str _, H, I.tok _, ⟨_, rfl⟩, q⟩
end
section
variable {X : Cx} {cl : Str → Addr} {W : WX}
def dRepS : D → D → Option D
  | .str z, .int k => if decide (z.length ≤ 16) && decide (-(2 ^ 63) ≤ k) && decide (k ≤ 1000000) then some (.str (Txt.mul z k)) else none
  | _, _ => none
theorem od_repS : OpD X cl (binaryOp .Mult) dRepS := by
  refine ⟨_, op_repS, fun c σ s T H d x e y z Q ⟨F, α, I⟩ hz k => ?_⟩
  unfold dRepS at hz
  split at hz
  · rename_i w i e1 e2
    split at hz
    · rename_i hl
      cases hz
      simp only [Bool.and_eq_true, decide_eq_true_eq] at hl
      exact ⟨w, i, I.vStr (I.tmp (d, x) (List.mem_cons_of_mem _ (List.mem_cons_self ..))) e1, I.vInt (I.tmp (e, y) (List.mem_cons_self ..)) e2, hl.1.1, hl.1.2, hl.2, k _ H (SI.flat rfl ⟨F, α, I⟩)⟩
    · cases hz
  · cases hz
theorem RepL.rep {K : PySem.W.Frag} {H : Hp} {F : Addr → Prop} {α : List Addr} {ds : List D} {vs : List V} (r : RepL K cl H F α ds vs) : ∀ k : Nat, RepL K cl H F α (List.replicate k ds).flatten (List.replicate k vs).flatten
  | 0 => .nil
  | k + 1 => by
    rw [List.replicate_succ, List.flatten_cons, List.replicate_succ, List.flatten_cons]
    exact r.append (RepL.rep r k)
def dRepL : D → D → Option D
  | .lst a, .int k => if decide (0 ≤ k) && decide (k ≤ 1000) && decide (a.length ≤ 1000) then some (.lst (List.replicate k.toNat a).flatten) else none
  | _, _ => none
theorem od_repL : OpD X cl (binaryOp .Mult) dRepL := by
  refine ⟨_, op_rep, fun c σ s T H d x e y z Q ⟨F, α, I⟩ hz k => ?_⟩
  have r1 := I.tmp (d, x) (List.mem_cons_of_mem _ (List.mem_cons_self ..))
  have r2 := I.tmp (e, y) (List.mem_cons_self ..)
  unfold dRepL at hz
  split at hz
  · rename_i a i e1 e2
    split at hz
    · rename_i hl
      cases hz
      simp only [Bool.and_eq_true, decide_eq_true_eq] at hl
      obtain ⟨p, vs, e3, h1, q1⟩ := I.vLst r1 e1
      have e3 : x = .ref p := e3
      have e4 : y = .int i := I.vInt r2 e2
      subst e3 e4
      refine ⟨p, i, vs, rfl, rfl, h1, by omega, by omega, ?_, fun q hq => ?_⟩
      · rw [← q1.length, sizeLine_eq]
        have a1 : a.length * i.toNat ≤ 1000 * 1000 := Nat.mul_le_mul hl.2 (by omega)
        omega
      · have e := ext_new (o := .lst (List.replicate i.toNat vs).flatten) I hq
        exact k _ _ (((I.newF hq).push (.lst upd_same (.inr rfl) ((q1.rep i.toNat).ext e))).si)
    · cases hz
  · cases hz
def dRepT : D → D → Option D
  | .tup a, .int k => if decide (0 ≤ k) && decide (k ≤ 1000) && decide (a.length ≤ 1000) && decide (0 < a.length) then some (.tup (List.replicate k.toNat a).flatten) else none
  | _, _ => none
theorem od_repT : OpD X cl (binaryOp .Mult) dRepT := by
  refine ⟨_, op_repN, fun c σ s T H d x e y z Q ⟨F, α, I⟩ hz k => ?_⟩
  have r1 := I.tmp (d, x) (List.mem_cons_of_mem _ (List.mem_cons_self ..))
  have r2 := I.tmp (e, y) (List.mem_cons_self ..)
  unfold dRepT at hz
  split at hz
  · rename_i a i e1 e2
    split at hz
    · rename_i hl
      cases hz
      simp only [Bool.and_eq_true, decide_eq_true_eq] at hl
      obtain ⟨p, vs, e3, h1, q1⟩ := I.vTupN r1 e1
      have e3 : x = .ref p := e3
      have e4 : y = .int i := I.vInt r2 e2
      subst e3 e4
      refine ⟨p, i, vs, rfl, rfl, h1.1, fun h => ?_, by omega, by omega, by rw [← q1.length]; omega, fun h => ?_, fun h q hq ob hd => ?_⟩
      · have := q1.nil_iff.mp h
        subst this
        simp at hl
      · subst h
        exact k _ _ ((I.push (d := .tup (List.replicate (1 : Int).toNat a).flatten) (.tup h1 (by show RepL _ _ _ _ _ [a].flatten _; rw [List.flatten_cons, List.flatten_nil, List.append_nil]; exact q1))).si)
      · have e := ext_new (o := .frz ob (.tup (List.replicate i.toNat vs).flatten)) I hq
        exact k _ _ (((I.newF hq).push (.tup (SqN.of upd_same hd) ((q1.rep i.toNat).ext e))).si)
    · cases hz
  · cases hz
def dMul : D → D → Option D := orD dMulI (orD dRepS (orD dRepL dRepT))
theorem od_mul : OpD X cl (binaryOp .Mult) dMul := od_mulI.or (od_repS.or (od_repL.or od_repT))
end
end DL

/-! DlU: reckoning with the readings. -/
namespace DL
open PySem L2
open PySem.Spec PyProof.Rows
@[simp] theorem eVar_eq (i : Nat) (s : S) : DL.eVar i s = (match s.env[i]? with
  | some (some d) => .ok d s
  | _ => .fail) := (rfl)
@[simp] theorem eC_eq (d : D) (s : S) : DL.eC d s = (.ok d s) := (rfl)
@[simp] theorem eOp_eq (g : D → D → Option D) (fa fb : M D) (s : S) : DL.eOp g fa fb s = ((fa s).bind fun x s => (fb s).bind fun y s => oOf (g (view s.M x) (view s.M y)) s) := (rfl)
@[simp] theorem oOf_eq (o : Option D) (s : S) : DL.oOf o s = (match o with
  | some d => .ok d s
  | none => .fail) := (rfl)
@[simp] theorem eCB_eq (g : List D → Option D) (f : M (List D)) (s : S) : DL.eCB g f s = ((f s).bind fun ds s => oOf (g (ds.map (view s.M))) s) := (rfl)
@[simp] theorem eCBC_eq (g : List D → Option (List D)) (f : M (List D)) (s : S) : DL.eCBC g f s = ((f s).bind fun ds s => match g (ds.map (view s.M)) with
  | some xs => .ok (.ptr s.M.length) { s with M := s.M ++ [some (.lst xs)] }
  | none => .fail) := (rfl)
@[simp] theorem eTup_eq (f : M (List D)) (s : S) : DL.eTup f s = ((f s).bind fun ds s => if ds.length ≤ 1000000 then .ok (.tup ds) s else .fail) := (rfl)
@[simp] theorem eLst_eq (f : M (List D)) (s : S) : DL.eLst f s = ((f s).bind fun ds s => if ds.length ≤ 1000000 then .ok (.lst ds) s else .fail) := (rfl)
@[simp] theorem eLstC_eq (f : M (List D)) (s : S) : DL.eLstC f s = ((f s).bind fun ds s => if ds.length ≤ 1000000 then .ok (.ptr s.M.length) { s with M := s.M ++ [some (.lst ds)] } else .fail) := (rfl)
@[simp] theorem aNil_eq (s : S) : DL.aNil  s = (.ok [] s) := (rfl)
@[simp] theorem aCons_eq (f : M D) (g : M (List D)) (s : S) : DL.aCons f g s = ((f s).bind fun d s => (g s).bind fun ds s => .ok (d :: ds) s) := (rfl)
@[simp] theorem tOf_eq (f : M D) (s : S) : DL.tOf f s = ((f s).bind bOf) := (rfl)
@[simp] theorem bOf_eq (d : D) (s : S) : DL.bOf d s = (match d with
  | .bl b => .ok b s
  | _ => .fail) := (rfl)
@[simp] theorem tAndM_eq (f g : M Bool) (s : S) : DL.tAndM f g s = ((f s).bind fun b s => if b = true then g s else .ok false s) := (rfl)
@[simp] theorem tOrM_eq (f g : M Bool) (s : S) : DL.tOrM f g s = ((f s).bind fun b s => if b = true then .ok true s else g s) := (rfl)
@[simp] theorem tNotM_eq (f : M Bool) (s : S) : DL.tNotM f s = ((f s).bind fun b s => .ok (!b) s) := (rfl)
@[simp] theorem eAnd_eq (f g : M D) (s : S) : DL.eAnd f g s = ((f s).bind fun d s => match d with
  | .bl true => g s
  | .bl false => .ok (.bl false) s
  | _ => .fail) := (rfl)
@[simp] theorem eOr_eq (f g : M D) (s : S) : DL.eOr f g s = ((f s).bind fun d s => match d with
  | .bl true => .ok (.bl true) s
  | .bl false => g s
  | _ => .fail) := (rfl)
@[simp] theorem eNot_eq (f : M D) (s : S) : DL.eNot f s = ((f s).bind fun d s => match d with
  | .bl b => .ok (.bl (!b)) s
  | _ => .fail) := (rfl)
@[simp] theorem eIf_eq (t : M Bool) (f g : M D) (s : S) : DL.eIf t f g s = ((t s).bind fun b s => if b = true then f s else g s) := (rfl)
@[simp] theorem eNeg_eq (f : M D) (s : S) : DL.eNeg f s = ((f s).bind fun d s => match d with
  | .int i => .ok (.int (-i)) s
  | _ => .fail) := (rfl)
@[simp] theorem sNx_eq (s : S) : DL.sNx  s = (.ok .nx s) := (rfl)
@[simp] theorem sSeq_eq (f g : M Fl) (s : S) : DL.sSeq f g s = ((f s).bind fun r s => match r with
  | .nx => g s
  | r => .ok r s) := (rfl)
@[simp] theorem sBrk_eq (s : S) : DL.sBrk  s = (.ok .brk s) := (rfl)
@[simp] theorem sCt_eq (s : S) : DL.sCt  s = (.ok .ct s) := (rfl)
@[simp] theorem sExpr_eq (f : M D) (s : S) : DL.sExpr f s = ((f s).bind fun _ s => .ok .nx s) := (rfl)
@[simp] theorem sRet_eq (f : M D) (s : S) : DL.sRet f s = ((f s).bind fun d s => .ok (.ret d) s) := (rfl)
@[simp] theorem sIf_eq (t : M Bool) (f g : M Fl) (s : S) : DL.sIf t f g s = ((t s).bind fun b s => if b = true then f s else g s) := (rfl)
@[simp] theorem sSet_eq (i : Nat) (f : M D) (s : S) : DL.sSet i f s = ((f s).bind fun d s => setV i d s) := (rfl)
@[simp] theorem setV_eq (i : Nat) (d : D) (s : S) : DL.setV i d s = (if i < s.env.length then .ok .nx { s with env := s.env.set i (some d) } else .fail) := (rfl)
@[simp] theorem sAsg_eq (f : M D) (g : D → M Unit) (s : S) : DL.sAsg f g s = ((f s).bind fun d s => (g d s).bind fun _ s => .ok .nx s) := (rfl)
@[simp] theorem sPar_eq (i j : Nat) (f : M (List D)) (s : S) : DL.sPar i j f s = ((f s).bind fun ds s => match ds with
  | [d, e] => if i < s.env.length ∧ j < s.env.length then .ok .nx { s with env := (s.env.set i (some d)).set j (some e) } else .fail
  | _ => .fail) := (rfl)
@[simp] theorem sAug_eq (i : Nat) (g : D → D → Option D) (f : M D) (s : S) : DL.sAug i g f s = (match s.env[i]? with
  | some (some d) => (f s).bind fun e s1 => match g (view s1.M d) (view s1.M e) with
    | some z => setV i z s1
    | none => .fail
  | _ => .fail) := (rfl)
@[simp] theorem hVar_eq (i : Nat) (d : D) (s : S) : DL.hVar i d s = (if i < s.env.length then .ok () { s with env := s.env.set i (some d) } else .fail) := (rfl)
@[simp] theorem hSub_eq (g : C → D → D → Option C) (fo fi : M D) (d : D) (s : S) : DL.hSub g fo fi d s = ((fo s).bind fun o s => (fi s).bind fun i s => stC g o i d s) := (rfl)
@[simp] theorem stC_eq (g : C → D → D → Option C) (o i d : D) (s : S) : DL.stC g o i d s = (match o with
  | .ptr k => match s.M[k]? with
    | some (some x) => match g x i d with
      | some y => .ok () { s with M := s.M.set k (some y) }
      | none => .fail
    | _ => .fail
  | _ => .fail) := (rfl)
@[simp] theorem eSl_eq (g : D → Option Int → Option Int → Option D) (f : M D) (lo hi : M (Option Int)) (s : S) : DL.eSl g f lo hi s = ((f s).bind fun d s => (lo s).bind fun l s => (hi s).bind fun h s => oOf (g (view s.M d) l h) s) := (rfl)
@[simp] theorem oNone_eq (s : S) : DL.oNone  s = (.ok none s) := (rfl)
@[simp] theorem oSome_eq (f : M D) (s : S) : DL.oSome f s = ((f s).bind fun d s => match view s.M d with
  | .int i => .ok (some i) s
  | _ => .fail) := (rfl)
@[simp] theorem eUn_eq (g : D → Option D) (f : M D) (s : S) : DL.eUn g f s = ((f s).bind fun d s => oOf (g (view s.M d)) s) := (rfl)
@[simp] theorem eBM_eq (t : String) (g : D → List D → Option D) (fo : M D) (fa : M (List D)) (s : S) : DL.eBM t g fo fa s = ((fo s).bind fun d s1 => if tyN (view s1.M d) = some t then (fa s1).bind fun ds s2 => oOf (g (view s2.M d) (ds.map (view s2.M))) s2 else .fail) := (rfl)
@[simp] theorem eBM0_eq (t : String) (g : D → List D → Option D) (fo : M D) (s : S) : DL.eBM0 t g fo s = ((fo s).bind fun d s1 => if tyN (view s1.M d) = some t then oOf (g (view s1.M d) []) s1 else .fail) := (rfl)
@[simp] theorem eCM_eq (t : String) (g : C → List D → Option (D × C)) (fo : M D) (fa : M (List D)) (s : S) : DL.eCM t g fo fa s = ((fo s).bind fun d s1 => if tyN (view s1.M d) = some t then (fa s1).bind fun ds s2 => onC g d ds s2 else .fail) := (rfl)
@[simp] theorem eCM0_eq (t : String) (g : C → List D → Option (D × C)) (fo : M D) (s : S) : DL.eCM0 t g fo s = ((fo s).bind fun d s1 => if tyN (view s1.M d) = some t then onC g d [] s1 else .fail) := (rfl)
@[simp] theorem onC_eq (g : C → List D → Option (D × C)) (d : D) (ds : List D) (s : S) : DL.onC g d ds s = (match d with
  | .ptr k => match s.M[k]? with
    | some (some x) => oC k (g x ds) s
    | _ => .fail
  | _ => .fail) := (rfl)
@[simp] theorem oC_eq (k : Nat) (o : Option (D × C)) (s : S) : DL.oC k o s = (match o with
  | some (z, y) => .ok z { s with M := s.M.set k (some y) }
  | none => .fail) := (rfl)
@[simp] theorem eCall_eq (io : List Bool) (sem : Sem) (f : M (List D)) (s : S) : DL.eCall io sem f s = ((f s).bind fun ds s => callS io sem ds s) := (rfl)
@[simp] theorem eCallC_eq (io : List Bool) (sem : Sem) (f : M (List D)) (s : S) : DL.eCallC io sem f s = ((f s).bind fun ds s => callSC io sem ds s) := (rfl)
@[simp] theorem eCallK_eq (io : List Bool) (sem : Sem) (n m : Nat) (ix : List Nat) (f fk : M (List D)) (s : S) : DL.eCallK io sem n m ix f fk s = ((f s).bind fun ds s => (fk s).bind fun es s => if ds.length = n ∧ es.length = m then callS io sem (pick ix (ds ++ es)) s else .fail) := (rfl)
@[simp] theorem eRng1_eq (f : M (List D)) (s : S) : DL.eRng1 f s = ((f s).bind fun ds s => match ds with
  | [.int n] => if rngOk n then .ok (.tup [.int 0, .int n]) s else .fail
  | _ => .fail) := (rfl)
@[simp] theorem eRng2_eq (f : M (List D)) (s : S) : DL.eRng2 f s = ((f s).bind fun ds s => match ds with
  | [.int a, .int b] => if rngOk a && rngOk b then .ok (.tup [.int a, .int b]) s else .fail
  | _ => .fail) := (rfl)
@[simp] theorem eZip_eq (f : M (List D)) (s : S) : DL.eZip f s = ((f s).bind fun ds s => match ds with
  | [a, b] => .ok (.tup [view s.M a, view s.M b]) s
  | _ => .fail) := (rfl)
@[simp] theorem tYesM_eq (s : S) : DL.tYesM  s = (.ok true s) := (rfl)
@[simp] theorem gVar_eq (i : Nat) (d : D) (s : S) : DL.gVar i d s = (if i < s.env.length then some { s with env := s.env.set i (some d) } else none) := (rfl)
@[simp] theorem eFail_eq {α : Type} (s : S) : (DL.eFail : M α) s = (.fail) := (rfl)
@[simp] theorem sFor_eq (f : M D) (its : D → Option (List D)) (g : D → S → Option S) (body els : M Fl) (s : S) : DL.sFor f its g body els s = ((f s).bind fun d s => match its (view s.M d) with
  | none => .fail
  | some ds => forL d s.M g body els ds s) := (rfl)
@[simp] theorem eLc_eq (f : M D) (its : D → Option (List D)) (g : D → S → Option S) (tt : M Bool) (fe : M D) (vs : List Nat) (s : S) : DL.eLc f its g tt fe vs s = ((f s).bind fun d s1 => match its (view s1.M d) with
  | none => .fail
  | some ds => (lcL d s1.M (wipeE s1.env vs) g tt fe ds [] s1.M).bind fun acc s2 => .ok (.lst acc) { s1 with M := s2.M }) := (rfl)
@[simp] theorem eChain_eq (g h : D → D → Option D) (fa fb fc : M D) (s : S) : DL.eChain g h fa fb fc s = ((fa s).bind fun x s => (fb s).bind fun y s => match g (view s.M x) (view s.M y) with
  | some (.bl true) => (fc s).bind fun z s => oOf (h (view s.M y) (view s.M z)) s
  | some (.bl false) => .ok (.bl false) s
  | _ => .fail) := (rfl)
@[simp] theorem eIndex_eq (fo : M D) (fa : M (List D)) (s : S) : DL.eIndex fo fa s = ((fo s).bind fun d s1 => if isSeqIx (view s1.M d) = true then (fa s1).bind fun ds s2 => oOf (g1m dIndex (view s2.M d) (ds.map (view s2.M))) s2 else .fail) := (rfl)
@[simp] theorem isSeqIx_tup (xs : List D) : isSeqIx (.tup xs) = true := (rfl)
@[simp] theorem isSeqIx_lst (xs : List D) : isSeqIx (.lst xs) = true := (rfl)
@[simp] theorem eCallV_eq (sem : Sem) (f : M (List D)) (s : S) : DL.eCallV sem f s = ((f s).bind fun ds s => callS (List.replicate ds.length false) sem ds s) := (rfl)
@[simp] theorem aStar_eq (f : M D) (g : M (List D)) (s : S) : DL.aStar f g s = ((f s).bind fun d s => match seqD (view s.M d) with
  | some es => (g s).bind fun ds s => .ok (es ++ ds) s
  | none => .fail) := (rfl)
@[simp] theorem runS_eq (n N : Nat) (f : M Fl) (m : List C) (ds : List D) : DL.runS n N f m ds = if n ≤ ds.length ∧ ds.length ≤ 1000000 then DL.run N f m (starD n ds) else .fail := (rfl)
@[simp] theorem eDc_eq (f : M D) (its : D → Option (List D)) (g : D → S → Option S) (tt : M Bool) (fk fv : M D) (vs : List Nat) (s : S) : DL.eDc f its g tt fk fv vs s = ((f s).bind fun d s1 => match its (view s1.M d) with
  | none => .fail
  | some ds => (dcL d s1.M (wipeE s1.env vs) g tt fk fv ds [] s1.M).bind fun acc s2 => .ok (.dct acc) { s1 with M := s2.M }) := (rfl)
@[simp] theorem eDcC_eq (f : M D) (its : D → Option (List D)) (g : D → S → Option S) (tt : M Bool) (fk fv : M D) (vs : List Nat) (s : S) : DL.eDcC f its g tt fk fv vs s = ((f s).bind fun d s1 => match its (view s1.M d) with
  | none => .fail
  | some ds => (dcL d s1.M (wipeE s1.env vs) g tt fk fv ds [] s1.M).bind fun acc s2 => .ok (.ptr s2.M.length) { s1 with M := s2.M ++ [some (.dct acc)] }) := (rfl)
@[simp] theorem view_kt (M : List (Option C)) (xs : List D) : view M (.kt xs) = .kt xs := (rfl)
@[simp] theorem view_dct (M : List (Option C)) (xs : List (Key × D)) : view M (.dct xs) = .dct xs := (rfl)
@[simp] theorem dat_dct (xs : List (Key × D)) : (C.dct xs).dat = .dct xs := (rfl)
@[simp] theorem seqD_kt (z : List D) : seqD (.kt z) = some z := (rfl)
@[simp] theorem itSeq_kt (z : List D) : itSeq (.kt z) = some z := (rfl)
@[simp] theorem gTupD_kt (g : List D → S → Option S) (ds : List D) (s : S) : gTupD g (.kt ds) s = g ds s := (rfl)
@[simp] theorem np_kt (xs : List D) : np (.kt xs) = npL xs := by simp [np]
@[simp] theorem nm_kt (xs : List D) : nm (.kt xs) = nmL xs := by simp [nm]
@[simp] theorem chkP_kt (xs : List D) (M0 M1 : List (Option C)) : chkP (.kt xs) M0 M1 = true := (rfl)
@[simp] theorem chkP_dct (xs : List (Key × D)) (M0 M1 : List (Option C)) : chkP (.dct xs) M0 M1 = true := (rfl)
@[simp] theorem np_dct (xs : List (Key × D)) : np (.dct xs) = npK xs := by simp [np]
@[simp] theorem dLen_kt (xs : List D) : dLen (.kt xs) = some (.int xs.length) := (rfl)
@[simp] theorem itEnum_seq {d : D} {xs : List D} (h : itSeq d = some xs) : itEnum d = some (enumL 0 xs) := by simp [itEnum, h]
@[simp] theorem bind_ok {α β : Type} (a : α) (s : S) (f : α → S → Out β) : (Out.ok a s).bind f = f a s := (rfl)
@[simp] theorem bind_fail {α β : Type} (f : α → S → Out β) : (Out.fail : Out α).bind f = .fail := (rfl)
@[simp] theorem bind_exc {α β : Type} (n : Str) (fs : List (Str × D)) (s : S) (f : α → S → Out β) : (Out.exc n fs s : Out α).bind f = .exc n fs s := (rfl)
@[simp] theorem hNone_nil (s : S) : hNone [] s = .ok () s := (rfl)
@[simp] theorem hMore_cons (g : D → M Unit) (h : List D → M Unit) (d : D) (ds : List D) (s : S) : hMore g h (d :: ds) s = (g d s).bind fun _ s => h ds s := (rfl)
@[simp] theorem hTup_tup (n : Nat) (g : List D → M Unit) (ds : List D) (s : S) : hTup n g (.tup ds) s = if ds.length = n then g ds s else .fail := (rfl)
@[simp] theorem gNone_nil (s : S) : gNone [] s = some s := (rfl)
@[simp] theorem gMore_cons (g : D → S → Option S) (h : List D → S → Option S) (d : D) (ds : List D) (s : S) : gMore g h (d :: ds) s = (g d s).bind (h ds) := (rfl)
@[simp] theorem gTupD_tup (g : List D → S → Option S) (ds : List D) (s : S) : gTupD g (.tup ds) s = g ds s := (rfl)
@[simp] theorem g1_one (g : D → Option D) (d : D) : g1 g [d] = g d := (rfl)
@[simp] theorem g2_two (g : D → D → Option D) (d e : D) : g2 g [d, e] = g d e := (rfl)
@[simp] theorem g1m_one (g : D → D → Option D) (d e : D) : g1m g d [e] = g d e := (rfl)
@[simp] theorem g0_nil (g : D → Option D) (d : D) : g0 g d [] = g d := (rfl)
@[simp] theorem gL1_one (g : D → Option (List D)) (d : D) : gL1 g [d] = g d := (rfl)
@[simp] theorem view_int (M : List (Option C)) (i : Int) : view M (.int i) = .int i := (rfl)
@[simp] theorem view_bl (M : List (Option C)) (i : Bool) : view M (.bl i) = .bl i := (rfl)
@[simp] theorem view_strs (M : List (Option C)) (i : Str) : view M (.str i) = .str i := (rfl)
@[simp] theorem view_non (M : List (Option C)) : view M .non = .non := (rfl)
@[simp] theorem view_lst (M : List (Option C)) (xs : List D) : view M (.lst xs) = .lst xs := (rfl)
@[simp] theorem view_slst (M : List (Option C)) (xs : List D) : view M (.slst xs) = .slst xs := (rfl)
@[simp] theorem view_tups (M : List (Option C)) (xs : List D) : view M (.tup xs) = .tup xs := (rfl)
@[simp] theorem view_exn (M : List (Option C)) (n : Str) (fs : List (Str × D)) : view M (.exn n fs) = .exn n fs := (rfl)
@[simp] theorem view_raw (M : List (Option C)) (v : V) : view M (.raw v) = .raw v := (rfl)
theorem view_ptr {M : List (Option C)} {k : Nat} {c : C} (h : M[k]? = some (some c)) : view M (.ptr k) = c.dat := by simp [view, h]
@[simp] theorem view_ptr0 (c : C) (M : List (Option C)) : view (some c :: M) (.ptr 0) = c.dat := (rfl)
@[simp] theorem view_ptrS (c : Option C) (M : List (Option C)) (k : Nat) : view (c :: M) (.ptr (k + 1)) = match view M (.ptr k) with
  | .ptr _ => .ptr (k + 1)
  | d => d := by
  unfold view
  dsimp only
  rw [List.getElem?_cons_succ]
  cases M[k]? with
  | none => rfl
  | some o =>
    cases o with
    | none => rfl
    | some c => cases c <;> rfl
@[simp] theorem view_ptr1 (c : C) (o : Option C) (M : List (Option C)) : view (o :: some c :: M) (.ptr 1) = c.dat := (rfl)
@[simp] theorem view_ptr2 (c : C) (o o2 : Option C) (M : List (Option C)) : view (o :: o2 :: some c :: M) (.ptr 2) = c.dat := (rfl)
@[simp] theorem dat_lst (xs : List D) : (C.lst xs).dat = .lst xs := (rfl)
@[simp] theorem tyN_str (z : Str) : tyN (.str z) = some "str" := (rfl)
@[simp] theorem tyN_lst (z : List D) : tyN (.lst z) = some "list" := (rfl)
@[simp] theorem tyN_slst (z : List D) : tyN (.slst z) = some "list" := (rfl)
@[simp] theorem seqD_tup (z : List D) : seqD (.tup z) = some z := (rfl)
@[simp] theorem seqD_lst (z : List D) : seqD (.lst z) = some z := (rfl)
@[simp] theorem seqD_slst (z : List D) : seqD (.slst z) = some z := (rfl)
@[simp] theorem seqD_str (z : Str) : seqD (.str z) = none := (rfl)
@[simp] theorem itSeq_str (z : Str) : itSeq (.str z) = some (z.cps.toList.map fun c => .str ⟨#[c]⟩) := (rfl)
@[simp] theorem itSeq_lst (z : List D) : itSeq (.lst z) = some z := (rfl)
@[simp] theorem itSeq_slst (z : List D) : itSeq (.slst z) = some z := (rfl)
@[simp] theorem itSeq_tup (z : List D) : itSeq (.tup z) = some z := (rfl)
@[simp] theorem dAdd_int (i j : Int) : dAdd (.int i) (.int j) = some (.int (i + j)) := (rfl)
@[simp] theorem dSub_int (i j : Int) : dSubI (.int i) (.int j) = some (.int (i - j)) := (rfl)
@[simp] theorem dAddI_int (i j : Int) : dAddI (.int i) (.int j) = some (.int (i + j)) := (rfl)
@[simp] theorem dMul_int (i j : Int) : dMulI (.int i) (.int j) = if (small64 i || small64 j) = true then some (.int (i * j)) else none := by
  simp only [dMulI, gI, gIf]
  cases (small64 i || small64 j) <;> rfl
@[simp] theorem dMod_int (i j : Int) : dModI (.int i) (.int j) = if 0 < j then some (.int (i % j)) else none := by
  simp only [dModI, gI, gIf]
  by_cases h : 0 < j <;> simp [h]
@[simp] theorem dDiv_int (i j : Int) : dDivI (.int i) (.int j) = if 0 < j ∧ j < 1073741824 then some (.int (i / j)) else none := by
  simp only [dDivI, gI, gIf]
  by_cases h : 0 < j <;> by_cases h2 : j < 1073741824 <;> simp [h, h2]
@[simp] theorem dLt_int (i j : Int) : dLtI (.int i) (.int j) = some (.bl (decide (i < j))) := (rfl)
@[simp] theorem dLe_int (i j : Int) : dLeI (.int i) (.int j) = some (.bl (decide (i ≤ j))) := (rfl)
@[simp] theorem dGt_int (i j : Int) : dGtI (.int i) (.int j) = some (.bl (decide (j < i))) := (rfl)
@[simp] theorem dGe_int (i j : Int) : dGeI (.int i) (.int j) = some (.bl (decide (j ≤ i))) := (rfl)
@[simp] theorem dEq_int (i j : Int) : dEq (.int i) (.int j) = some (.bl (decide (i = j))) := by simp [dEq, orD, dEqF, eqF]
@[simp] theorem dEq_str (i j : Str) : dEq (.str i) (.str j) = some (.bl (decide (i = j))) := by simp [dEq, orD, dEqF, eqF]
@[simp] theorem dNe_str (i j : Str) : dNe (.str i) (.str j) = some (.bl (!decide (i = j))) := by simp [dNe, orD, dNeF, eqF]
@[simp] theorem dNe_int (i j : Int) : dNe (.int i) (.int j) = some (.bl (!decide (i = j))) := by simp [dNe, orD, dNeF, eqF]
@[simp] theorem itRng_tup (a b : Int) : itRng (.tup [.int a, .int b]) = some ((List.range (b - a).toNat).map fun i => .int (a + (i : Nat))) := (rfl)
@[simp] theorem dInt_bl (b : Bool) : dInt (.bl b) = some (.int (if b then 1 else 0)) := (rfl)
@[simp] theorem dInt_int (b : Int) : dInt (.int b) = some (.int b) := (rfl)
@[simp] theorem dAbs_int (i : Int) : dAbs (.int i) = some (.int (if i < 0 then -i else i)) := (rfl)
@[simp] theorem dLen_lst (xs : List D) : dLen (.lst xs) = some (.int xs.length) := (rfl)
@[simp] theorem dLen_slst (xs : List D) : dLen (.slst xs) = some (.int xs.length) := (rfl)
@[simp] theorem dLen_tup (xs : List D) : dLen (.tup xs) = some (.int xs.length) := (rfl)
@[simp] theorem dLen_str (z : Str) : dLen (.str z) = if z.length ≤ 1000000 then some (.int z.length) else none := (rfl)
@[simp] theorem dIxA_lst (xs : List D) (i : Int) : dIxA (.lst xs) (.int i) = atI xs i := by
  show (match atI xs i with | some z => some z | none => dIxS (.lst xs) (.int i)) = _
  cases atI xs i <;> rfl
@[simp] theorem dIxA_slst (xs : List D) (i : Int) : dIxA (.slst xs) (.int i) = atI xs i := by
  show (match atI xs i with | some z => some z | none => dIxS (.slst xs) (.int i)) = _
  cases atI xs i <;> rfl
@[simp] theorem dSub_lst (xs : List D) (i : Int) : dSub (.lst xs) (.int i) = atI xs i := by
  have e : dIx (.lst xs) (.int i) = atI xs i := rfl
  simp only [dSub, dIxA, orD, e]
  cases atI xs i <;> rfl
@[simp] theorem dSub_slst (xs : List D) (i : Int) : dSub (.slst xs) (.int i) = atI xs i := by
  have e : dIx (.slst xs) (.int i) = atI xs i := rfl
  simp only [dSub, dIxA, orD, e]
  cases atI xs i <;> rfl
@[simp] theorem dSub_tup (xs : List D) (i : Int) : dSub (.tup xs) (.int i) = atI xs i := by
  have e : dIx (.tup xs) (.int i) = atI xs i := rfl
  simp only [dSub, dIxA, orD, e]
  cases atI xs i <;> rfl
@[simp] theorem dSub_kt (xs : List D) (i : Int) : dSub (.kt xs) (.int i) = atI xs i := by
  have e : dIx (.kt xs) (.int i) = atI xs i := rfl
  simp only [dSub, dIxA, orD, e]
  cases atI xs i <;> rfl
@[simp] theorem dSub_dct (kvs : List (Key × D)) (z : Str) : dSub (.dct kvs) (.str z) = valD kvs (.inr z) := by
  simp only [dSub, dIxA, orD, dIx, seqD, dIxS, dGet, keyD]
  rfl
@[simp] theorem dSub_dctI (kvs : List (Key × D)) (z : Int) : dSub (.dct kvs) (.int z) = valD kvs (.inl z) := by
  simp only [dSub, dIxA, orD, dIx, seqD, dIxS, dGet, keyD]
  rfl
@[simp] theorem dIxA_tup (xs : List D) (i : Int) : dIxA (.tup xs) (.int i) = atI xs i := by
  show (match atI xs i with | some z => some z | none => dIxS (.tup xs) (.int i)) = _
  cases atI xs i <;> rfl
@[simp] theorem dMax2_int (i j : Int) : dMax2 (.int i) (.int j) = some (.int (if j > i then j else i)) := (rfl)
@[simp] theorem dMin2_int (i j : Int) : dMin2 (.int i) (.int j) = some (.int (if j < i then j else i)) := (rfl)
@[simp] theorem cSet_lst (xs : List D) (i : Int) (d : D) : cSet (.lst xs) (.int i) d = (ixN xs.length i).map fun j => .lst (xs.set j d) := (rfl)
theorem ixN_nat {n i : Nat} (h : i < n) : ixN n (i : Int) = some i := by
  unfold ixN
  rw [if_pos (by omega), if_pos (by omega)]
  simp
theorem atI_nat {α : Type} {xs : List α} {i : Nat} (h : i < xs.length) : atI xs (i : Int) = xs[i]? := by
  unfold atI
  rw [ixN_nat h]; rfl
@[simp] theorem run_eq (N : Nat) (f : M Fl) (m : List C) (ds : List D) : DL.run N f m ds = fin m.length (f ⟨ds.map some ++ List.replicate (N - ds.length) none, m.map some⟩) := (rfl)
@[simp] theorem runC_eq (N : Nat) (f : M Fl) (m : List C) (ds : List D) : DL.runC N f m ds = finC m.length (f ⟨ds.map some ++ List.replicate (N - ds.length) none, m.map some⟩) := (rfl)
@[simp] theorem fin_fail (n : Nat) : fin n .fail = .fail := (rfl)
@[simp] theorem fin_nx (n : Nat) (s : S) : fin n (.ok .nx s) = if okM n s then .ok .non ⟨[], s.M.take n⟩ else .fail := (rfl)
@[simp] theorem fin_int (n : Nat) (s : S) (i : Int) : fin n (.ok (.ret (.int i)) s) = if okM n s then .ok (.int i) ⟨[], s.M.take n⟩ else .fail := (rfl)
@[simp] theorem fin_bl (n : Nat) (s : S) (i : Bool) : fin n (.ok (.ret (.bl i)) s) = if okM n s then .ok (.bl i) ⟨[], s.M.take n⟩ else .fail := (rfl)
@[simp] theorem fin_str (n : Nat) (s : S) (i : Str) : fin n (.ok (.ret (.str i)) s) = if okM n s then .ok (.str i) ⟨[], s.M.take n⟩ else .fail := (rfl)
@[simp] theorem fin_non (n : Nat) (s : S) : fin n (.ok (.ret .non) s) = if okM n s then .ok .non ⟨[], s.M.take n⟩ else .fail := (rfl)
@[simp] theorem fin_lst (n : Nat) (s : S) (xs : List D) : fin n (.ok (.ret (.lst xs)) s) = if npL xs = true then (if okM n s then .ok (.lst xs) ⟨[], s.M.take n⟩ else .fail) else .fail := by
  show (match (if np (.lst xs) then some (D.lst xs) else none) with
    | some d => if okM n s then Out.ok d ⟨[], s.M.take n⟩ else .fail
    | none => .fail) = _
  have e : np (.lst xs) = npL xs := by simp [np]
  rw [e]
  cases npL xs <;> rfl
@[simp] theorem fin_tup (n : Nat) (s : S) (xs : List D) : fin n (.ok (.ret (.tup xs)) s) = if npL xs = true then (if okM n s then .ok (.tup xs) ⟨[], s.M.take n⟩ else .fail) else .fail := by
  show (match (if np (.tup xs) then some (D.tup xs) else none) with
    | some d => if okM n s then Out.ok d ⟨[], s.M.take n⟩ else .fail
    | none => .fail) = _
  have e : np (.tup xs) = npL xs := by simp [np]
  rw [e]
  cases npL xs <;> rfl
@[simp] theorem fin_ptr (n : Nat) (s : S) (k : Nat) : fin n (.ok (.ret (.ptr k)) s) = match outD n s (.ptr k) with
    | some d => if okM n s then .ok d ⟨[], s.M.take n⟩ else .fail
    | none => .fail := (rfl)
@[simp] theorem finC_ptr (n : Nat) (s : S) (k : Nat) : finC n (.ok (.ret (.ptr k)) s) = match s.M[k]? with
    | some (some x) => if decide (n ≤ k) && cNp (s.M.take n) && x.np then .ok (.ptr n) ⟨[], s.M.take n ++ [some x]⟩ else .fail
    | _ => .fail := (rfl)
@[simp] theorem okM_eq (n : Nat) (s : S) : okM n s = (decide (n ≤ s.M.length) && cNp (s.M.take n)) := (rfl)
@[simp] theorem np_int (i : Int) : np (.int i) = true := (rfl)
@[simp] theorem np_bl (i : Bool) : np (.bl i) = true := (rfl)
@[simp] theorem np_str (i : Str) : np (.str i) = true := (rfl)
@[simp] theorem np_non : np .non = true := (rfl)
@[simp] theorem np_lst (xs : List D) : np (.lst xs) = npL xs := by simp [np]
@[simp] theorem np_slst (xs : List D) : np (.slst xs) = npL xs := by simp [np]
@[simp] theorem np_tup (xs : List D) : np (.tup xs) = npL xs := by simp [np]
@[simp] theorem npL_nil : npL [] = true := by simp [npL]
@[simp] theorem npL_cons (d : D) (ds : List D) : npL (d :: ds) = (np d && npL ds) := by simp [npL]
@[simp] theorem Cnp_lst (xs : List D) : (C.lst xs).np = npL xs := (rfl)
@[simp] theorem cNp_nil : cNp [] = true := (rfl)
@[simp] theorem cNp_some (c : C) (cs : List (Option C)) : cNp (some c :: cs) = (c.np && cNp cs) := (rfl)
@[simp] theorem cNp_none (cs : List (Option C)) : cNp (none :: cs) = cNp cs := (rfl)
@[simp] theorem nm_int (i : Int) : nm (.int i) = true := (rfl)
@[simp] theorem nm_bl (i : Bool) : nm (.bl i) = true := (rfl)
@[simp] theorem nm_str (i : Str) : nm (.str i) = true := (rfl)
@[simp] theorem nm_non : nm .non = true := (rfl)
@[simp] theorem nm_tup (xs : List D) : nm (.tup xs) = nmL xs := by simp [nm]
@[simp] theorem nmL_nil : nmL [] = true := by simp [nmL]
@[simp] theorem nmL_cons (d : D) (ds : List D) : nmL (d :: ds) = (nm d && nmL ds) := by simp [nmL]
@[simp] theorem Cnm_lst (xs : List D) : (C.lst xs).nm = nmL xs := (rfl)
@[simp] theorem cNm_nil : cNm [] = true := (rfl)
@[simp] theorem cNm_some (c : C) (cs : List (Option C)) : cNm (some c :: cs) = (c.nm && cNm cs) := (rfl)
@[simp] theorem cNm_none (cs : List (Option C)) : cNm (none :: cs) = cNm cs := (rfl)
theorem npL_iff {xs : List D} : npL xs = true ↔ ∀ x ∈ xs, np x = true := by
  induction xs with
  | nil => simp
  | cons x xs ih => simp [ih]
theorem nmL_iff {xs : List D} : nmL xs = true ↔ ∀ x ∈ xs, nm x = true := by
  induction xs with
  | nil => simp
  | cons x xs ih => simp [ih]
@[simp] theorem npL_strs (zs : List Str) : npL (zs.map D.str) = true := npL_iff.mpr fun x hx => by obtain ⟨z, _, rfl⟩ := List.mem_map.mp hx; rfl
@[simp] theorem npL_ints (zs : List Int) : npL (zs.map D.int) = true := npL_iff.mpr fun x hx => by obtain ⟨z, _, rfl⟩ := List.mem_map.mp hx; rfl
@[simp] theorem nmL_strs (zs : List Str) : nmL (zs.map D.str) = true := nmL_iff.mpr fun x hx => by obtain ⟨z, _, rfl⟩ := List.mem_map.mp hx; rfl
@[simp] theorem nmL_ints (zs : List Int) : nmL (zs.map D.int) = true := nmL_iff.mpr fun x hx => by obtain ⟨z, _, rfl⟩ := List.mem_map.mp hx; rfl
@[simp] theorem strsD_map (zs : List Str) : strsD (zs.map D.str) = some zs := by
  induction zs with
  | nil => rfl
  | cons z zs ih => simp [strsD, ih]
@[simp] theorem intsD_map (zs : List Int) : intsD (zs.map D.int) = some zs := by
  induction zs with
  | nil => rfl
  | cons z zs ih => simp [intsD, ih]
/-! ### prep -/
@[simp] theorem prep_nil (M : List (Option C)) (j : Nat) : prep M [] [] j = some ⟨[], [], [], []⟩ := (rfl)
@[simp] theorem prep_t (M : List (Option C)) (io : List Bool) (k : Nat) (ds : List D) (j : Nat) : prep M (true :: io) (.ptr k :: ds) j = match M[k]? with
    | some (some x) => if x.np then (prep M io ds (j + 1)).map fun p => ⟨k :: p.ks, x :: p.m, .ptr j :: p.ds, p.ls⟩ else none
    | _ => none := by
  first | (simp only [prep]; done) | (simp only [prep]; rfl)
@[simp] theorem prep_fp (M : List (Option C)) (io : List Bool) (k : Nat) (ds : List D) (j : Nat) : prep M (false :: io) (.ptr k :: ds) j = match M[k]? with
    | some (some x) => if x.np then (prep M io ds j).map fun p => ⟨p.ks, p.m, x.dat :: p.ds, k :: p.ls⟩ else none
    | _ => none := by
  first | (simp only [prep]; done) | (simp only [prep]; rfl)
theorem prep_fv {M : List (Option C)} {io : List Bool} {d : D} {ds : List D} {j : Nat} (h : ∀ k, d ≠ .ptr k) : prep M (false :: io) (d :: ds) j = if np d then (prep M io ds j).map fun p => (⟨p.ks, p.m, d :: p.ds, p.ls⟩ : Prep) else none := by
  cases d <;> first | exact absurd rfl (h _) | simp [prep]
@[simp] theorem prep_fi (M : List (Option C)) (io : List Bool) (i : Int) (ds : List D) (j : Nat) : prep M (false :: io) (.int i :: ds) j = (prep M io ds j).map fun p => (⟨p.ks, p.m, .int i :: p.ds, p.ls⟩ : Prep) := by rw [prep_fv (by simp)]; rfl
@[simp] theorem prep_fs (M : List (Option C)) (io : List Bool) (i : Str) (ds : List D) (j : Nat) : prep M (false :: io) (.str i :: ds) j = (prep M io ds j).map fun p => (⟨p.ks, p.m, .str i :: p.ds, p.ls⟩ : Prep) := by rw [prep_fv (by simp)]; rfl
@[simp] theorem prep_fb (M : List (Option C)) (io : List Bool) (i : Bool) (ds : List D) (j : Nat) : prep M (false :: io) (.bl i :: ds) j = (prep M io ds j).map fun p => (⟨p.ks, p.m, .bl i :: p.ds, p.ls⟩ : Prep) := by rw [prep_fv (by simp)]; rfl
@[simp] theorem prep_fn (M : List (Option C)) (io : List Bool) (ds : List D) (j : Nat) : prep M (false :: io) (.non :: ds) j = (prep M io ds j).map fun p => (⟨p.ks, p.m, .non :: p.ds, p.ls⟩ : Prep) := by rw [prep_fv (by simp)]; rfl
@[simp] theorem prep_fl (M : List (Option C)) (io : List Bool) (xs : List D) (ds : List D) (j : Nat) : prep M (false :: io) (.lst xs :: ds) j = if npL xs = true then (prep M io ds j).map fun p => (⟨p.ks, p.m, .lst xs :: p.ds, p.ls⟩ : Prep) else none := by rw [prep_fv (by simp)]; simp
@[simp] theorem prep_fsl (M : List (Option C)) (io : List Bool) (xs : List D) (ds : List D) (j : Nat) : prep M (false :: io) (.slst xs :: ds) j = if npL xs = true then (prep M io ds j).map fun p => (⟨p.ks, p.m, .slst xs :: p.ds, p.ls⟩ : Prep) else none := by rw [prep_fv (by simp)]; simp
@[simp] theorem prep_ft (M : List (Option C)) (io : List Bool) (xs : List D) (ds : List D) (j : Nat) : prep M (false :: io) (.tup xs :: ds) j = if npL xs = true then (prep M io ds j).map fun p => (⟨p.ks, p.m, .tup xs :: p.ds, p.ls⟩ : Prep) else none := by rw [prep_fv (by simp)]; simp
@[simp] theorem putC_nil (M cs : List (Option C)) : putC M [] cs = M := by cases cs <;> rfl
@[simp] theorem putC_cons (M : List (Option C)) (k : Nat) (ks : List Nat) (x : Option C) (cs : List (Option C)) : putC M (k :: ks) (x :: cs) = putC (M.set k x) ks cs := (rfl)
/-! ### loops -/
/-- a for: each turn goes on, or hands back -/
theorem forL_gen {d : D} {M0 : List (Option C)} {g : D → S → Option S} {body els : M Fl} {ds : List D} (I : Nat → S → Prop) (R : Out Fl → Prop)
    (hs : ∀ (i : Nat) (x : D) (s : S), ds[i]? = some x → I i s → ∃ s1, g x s = some s1 ∧ ((∃ s2, (body s1 = .ok .nx s2 ∨ body s1 = .ok .ct s2) ∧ chkP d M0 s2.M = true ∧ I (i + 1) s2) ∨ (∃ e s2, body s1 = .ok (.ret e) s2 ∧ R (.ok (.ret e) s2)))) {s : S} (h0 : I 0 s)
    (hd : ∀ s', I ds.length s' → R (els s')) : R (forL d M0 g body els ds s) := by
  have key : ∀ (r p : List D) (s : S), ds = p ++ r → I p.length s → R (forL d M0 g body els r s) := by
    intro r
    induction r with
    | nil =>
      intro p s e h
      rw [List.append_nil] at e
      subst e
      exact hd s h
    | cons x r ih =>
      intro p s e h
      obtain ⟨s1, h1, h2⟩ := hs p.length x s (by rw [e]; simp) h
      unfold forL
      rw [h1]
      dsimp only
      rcases h2 with ⟨s2, h3, h4, h5⟩ | ⟨v, s2, h3, h4⟩
      · have := ih (p ++ [x]) s2 (by rw [e, List.append_assoc]; rfl) (by rw [List.length_append]; exact h5)
        rcases h3 with h3 | h3 <;> rw [h3] <;> dsimp only <;> rw [if_pos h4] <;> exact this
      · rw [h3]
        exact h4
  exact key ds [] s rfl h0
theorem forL_inv {d : D} {M0 : List (Option C)} {g : D → S → Option S} {body els : M Fl} {ds : List D} (I : Nat → S → Prop)
    (hs : ∀ (i : Nat) (x : D) (s : S), ds[i]? = some x → I i s → ∃ s1 s2, g x s = some s1 ∧ (body s1 = .ok .nx s2 ∨ body s1 = .ok .ct s2) ∧ chkP d M0 s2.M = true ∧ I (i + 1) s2) {s : S} (h0 : I 0 s) : ∃ s', I ds.length s' ∧ forL d M0 g body els ds s = els s' := by
  refine forL_gen I (fun o => ∃ s', I ds.length s' ∧ o = els s') (fun i x s e h => ?_) h0 fun s' h => ⟨s', h, rfl⟩
  obtain ⟨s1, s2, h1, h2, h3, h4⟩ := hs i x s e h
  exact ⟨s1, h1, .inl ⟨s2, h2, h3, h4⟩⟩
@[simp] theorem chkP_lst (xs : List D) (M0 M1 : List (Option C)) : chkP (.lst xs) M0 M1 = true := (rfl)
@[simp] theorem chkP_slst (xs : List D) (M0 M1 : List (Option C)) : chkP (.slst xs) M0 M1 = true := (rfl)
@[simp] theorem chkP_tup (xs : List D) (M0 M1 : List (Option C)) : chkP (.tup xs) M0 M1 = true := (rfl)
@[simp] theorem chkP_str (xs : Str) (M0 M1 : List (Option C)) : chkP (.str xs) M0 M1 = true := (rfl)
theorem chkP_ptr {k : Nat} {M0 M1 : List (Option C)} (h : M1[k]? = M0[k]?) : chkP (.ptr k) M0 M1 = true := @decide_eq_true _ (Classical.propDecidable _) h
@[simp] theorem wipeE_nil (env : List (Option D)) : wipeE env [] = env := (rfl)
@[simp] theorem wipeE_cons (env : List (Option D)) (v : Nat) (vs : List Nat) : wipeE env (v :: vs) = (wipeE env vs).set v none := (rfl)
theorem small64_of {i : Int} (h1 : 0 ≤ i) (h2 : i < 18446744073709551616) : small64 i = true := by
  unfold small64
  rw [decide_eq_true (by omega : -(2 ^ 64 : Int) < i), decide_eq_true (by omega : i < 2 ^ 64)]; rfl
end DL

/-! DlUb: more reckoning: comprehensions and loops by their turns; comparisons; calls. -/
namespace DL
open PySem L2
open PySem.Spec PyProof.Rows
/-- one turn of a list comprehension -/
noncomputable def lcS (g : D → S → Option S) (tt : M Bool) (fe : M D) (x : D) (s : S) : Option (Option D × List (Option C)) := match g x s with
  | none => none
  | some s1 => match tt s1 with
    | .ok true s2 => (match fe s2 with
      | .ok e s3 => some (some e, s3.M)
      | _ => none)
    | .ok false s2 => some (none, s2.M)
    | _ => none
/-- one turn of a dict comprehension -/
noncomputable def dcS (g : D → S → Option S) (tt : M Bool) (fk fv : M D) (x : D) (s : S) : Option (Option (Key × D) × List (Option C)) := match g x s with
  | none => none
  | some s1 => match tt s1 with
    | .ok true s2 => (match fk s2 with
      | .ok kd s3 => (match keyD kd with
        | none => none
        | some k => (match fv s3 with
          | .ok e s4 => some (some (k, e), s4.M)
          | _ => none))
      | _ => none)
    | .ok false s2 => some (none, s2.M)
    | _ => none
/-- a for over the items of a list: each turn goes on -/
theorem forL_each {α : Type} {d : D} {M0 : List (Option C)} {g : D → S → Option S} {body els : M Fl} (en : α → D) (l : List α) (I : List α → S → Prop)
    (hs : ∀ (p : List α) (a : α) (r : List α) (s : S), l = p ++ a :: r → I p s → ∃ s1 s2, g (en a) s = some s1 ∧ (body s1 = .ok .nx s2 ∨ body s1 = .ok .ct s2) ∧ chkP d M0 s2.M = true ∧ I (p ++ [a]) s2) {s : S} (h0 : I [] s) : ∃ s', I l s' ∧ forL d M0 g body els (l.map en) s = els s' := by
  have key : ∀ (r p : List α) (s : S), l = p ++ r → I p s → ∃ s', I l s' ∧ forL d M0 g body els (r.map en) s = els s' := by
    intro r
    induction r with
    | nil =>
      intro p s e h
      rw [List.append_nil] at e
      subst e
      exact ⟨s, h, rfl⟩
    | cons x r ih =>
      intro p s e h
      obtain ⟨s1, s2, h1, h2, h3, h4⟩ := hs p x r s e h
      obtain ⟨s', r1, r2⟩ := ih (p ++ [x]) s2 (by rw [e, List.append_assoc]; rfl) h4
      refine ⟨s', r1, ?_⟩
      rw [List.map_cons]
      unfold forL
      rw [h1]
      dsimp only
      rcases h2 with h2 | h2 <;> rw [h2] <;> dsimp only <;> rw [if_pos h3] <;> exact r2
  exact key l [] s rfl h0
/-! ### ==, != of plain data -/
abbrev T (zs : List Str) : D := .tup (zs.map .str)
abbrev Ok (zs : List Str) : Prop := ∀ z ∈ zs, PyData.strOk z = true
/-! ### in -/
@[simp] theorem view_dcu (M : List (Option C)) (xs : List (List Key × D)) : view M (.dcu xs) = .dcu xs := (rfl)
@[simp] theorem view_obj (M : List (Option C)) (c : Str) (xs : List (Str × D)) : view M (.obj c xs) = .obj c xs := (rfl)
@[simp] theorem view_xd (M : List (Option C)) (xs : List (Str × D)) : view M (.xd xs) = .xd xs := (rfl)
@[simp] theorem fin_dct (n : Nat) (s : S) (xs : List (Key × D)) : fin n (.ok (.ret (.dct xs)) s) = if npK xs = true then (if okM n s then .ok (.dct xs) ⟨[], s.M.take n⟩ else .fail) else .fail := by
  have e : outD n s (.dct xs) = if npK xs = true then some (.dct xs) else none := by
    show (if np (.dct xs) = true then some (D.dct xs) else none) = _
    rw [np_dct]
  show (match outD n s (.dct xs) with | some d => if okM n s then Out.ok d ⟨[], s.M.take n⟩ else .fail | none => .fail) = _
  rw [e]
  by_cases h : npK xs = true
  · rw [if_pos h, if_pos h]
  · rw [if_neg h, if_neg h]
@[simp] theorem fin_kt (n : Nat) (s : S) (xs : List D) : fin n (.ok (.ret (.kt xs)) s) = if npL xs = true then (if okM n s then .ok (.kt xs) ⟨[], s.M.take n⟩ else .fail) else .fail := by
  have e : outD n s (.kt xs) = if npL xs = true then some (.kt xs) else none := by
    show (if np (.kt xs) = true then some (D.kt xs) else none) = _
    rw [np_kt]
  show (match outD n s (.kt xs) with | some d => if okM n s then Out.ok d ⟨[], s.M.take n⟩ else .fail | none => .fail) = _
  rw [e]
  by_cases h : npL xs = true
  · rw [if_pos h, if_pos h]
  · rw [if_neg h, if_neg h]
/-! ### calls -/
theorem call_any {io : List Bool} {sem : Sem} {ds : List D} {r : D} (hio : ∀ b ∈ io, b = false) (hl : ds.length = io.length) (hd : npL ds = true) (hr : DL.np r = true) (hs : sem [] ds = .ok r ⟨[], []⟩) (env : List (Option D)) (M : List (Option C)) : callS io sem ds ⟨env, M⟩ = .ok r ⟨env, M⟩ := by
  have key : ∀ (io : List Bool) (ds : List D) (j : Nat), (∀ b ∈ io, b = false) → ds.length = io.length → npL ds = true → prep M io ds j = some ⟨[], [], ds, []⟩ := by
    intro io
    induction io with
    | nil =>
      intro ds j _ hl _
      cases ds with
      | nil => rfl
      | cons _ _ => simp at hl
    | cons b io ih =>
      intro ds j hio hl hd
      cases ds with
      | nil => simp at hl
      | cons d ds =>
        have eb := hio b (List.mem_cons_self ..)
        subst eb
        simp only [npL_cons, Bool.and_eq_true] at hd
        have nd : ∀ k, d ≠ .ptr k := fun k e => by subst e; cases hd.1
        rw [prep_fv nd, if_pos hd.1, ih ds j (fun b hb => hio b (List.mem_cons_of_mem _ hb)) (by simpa using hl) hd.2]
        rfl
  unfold callS
  rw [key io ds 0 hio hl hd]
  dsimp only
  rw [if_pos ⟨by simp, by simp⟩, hs]
  simp [hr]
theorem call_1 {sem : Sem} {d r : D} (hs : sem [] [d] = .ok r ⟨[], []⟩) (hd : DL.np d = true) (hr : DL.np r = true) (env : List (Option D)) (M : List (Option C)) : callS [false] sem [d] ⟨env, M⟩ = .ok r ⟨env, M⟩ :=
  call_any (by simp) rfl (by simp [hd]) hr hs env M
end DL

/-! DmB: repr of a bool, a dict of one key, while loops reckoned, data compared with the empty list. -/
namespace DL
open PySem PySem.Spec PyProof.Rows L2
section
variable {X : Cx} {cl : Str → Addr} {W : WX}
theorem cr_reprB : CallR X (.builtin "repr") (fun xs H Q => ∃ b, xs = [.bl b] ∧ Q (.str (if b then "True" else "False")) H) := by
  intro pins s σ H xs us Q I r h
  obtain ⟨b, rfl, q⟩ := h
  obtain ⟨u, rfl, rfl⟩ := vals1 r
  exact PySem.P.repr_of_bool ⟨.str _, H, I.tok _, ⟨_, rfl⟩, q⟩
def dReprB : D → Option D
  | .bl b => some (.str (if b then "True" else "False"))
  | _ => none
theorem cd_reprB : CD X cl (.builtin "repr") (g1 dReprB) := by
  refine CD.one cr_reprB fun c σ s T H F α d v z Q J hz k => ?_
  unfold dReprB at hz
  split at hz
  · rename_i b e
    cases hz
    have e1 : v = .bl b := J.vBl (J.tmp (d, v) (List.mem_cons_self ..)) e
    exact ⟨b, by rw [e1], k _ H (SI.flat rfl ⟨F, α, J⟩)⟩
  · cases hz
def dReprX : List D → Option D := orC (g1 dReprB) (g1 dRepr)
@[simp] theorem dReprX_bl (b : Bool) : dReprX [.bl b] = some (.str (if b then "True" else "False")) := (rfl)
end
/-! ### simp -/
theorem dMulX_str {z : Str} {k : Int} (h1 : z.length ≤ 16) (h2 : 0 ≤ k) (h3 : k ≤ 1000000) : dMul (.str z) (.int k) = some (.str (Txt.mul z k)) := by
  have e : dRepS (.str z) (.int k) = some (.str (Txt.mul z k)) := by
    unfold dRepS
    dsimp only
    rw [if_pos]
    rw [decide_eq_true h1, decide_eq_true h3, decide_eq_true (by omega)]
    rfl
  show (match dRepS (.str z) (.int k) with | some z' => some z' | none => none) = _
  rw [e]
/-- data that kit can compare -/
def Pdo (d : D) : Prop := ∃ p, pd d = some p ∧ p.canLay0 = true ∧ p.depth ≤ 8
theorem Pdo.list : ∀ {ds : List D}, (∀ d ∈ ds, Pdo d) → ∃ ps, pdL ds = some ps ∧ PyData.canLayAll0 ps = true ∧ PyData.depthAll ps ≤ 9 ∧ (ps = [] ↔ ds = [])
  | [], _ => ⟨[], rfl, rfl, by decide, by simp⟩
  | d :: ds, h => by
    obtain ⟨p, h1, h2, h3⟩ := h d (List.mem_cons_self ..)
    obtain ⟨ps, e1, e2, e3, _⟩ := Pdo.list fun x hx => h x (List.mem_cons_of_mem _ hx)
    refine ⟨p :: ps, by simp only [pdL, h1, e1, Option.map_some], ?_, ?_, by simp⟩
    · simp only [PyData.canLayAll0, h2, e2, Bool.and_self]
    · simp only [PyData.depthAll]
      omega
theorem Pdo.str {z : Str} (h : PyData.strOk z = true) : Pdo (.str z) := ⟨.str z, rfl, by simpa [PyData.canLay0] using h, by simp [PyData.depth]⟩
end DL

set_option pp.maxSteps 300
/-! DmJ: None, an int, a text shown; in a tuple of plain data; a text or another. -/
namespace DL
open PySem PySem.Spec PyProof.Rows L2
section
variable {X : Cx} {cl : Str → Addr} {W : WX}
theorem cr_reprF : CallR X (.builtin "repr") (fun xs H Q => (∃ i, xs = [.int i] ∧ i.natAbs.log2 < 1920 ∧ Q (.str (toString i)) H) ∨ (xs = [.non] ∧ Q (.str "None") H) ∨ ∃ z, xs = [.str z] ∧ (reprText z).length ≤ sizeLine ∧ Q (.str (reprText z)) H) := by
  intro pins s σ H xs us Q I r h
  rcases h with ⟨i, rfl, hz, q⟩ | ⟨rfl, q⟩ | ⟨z, rfl, hz, q⟩
  · obtain ⟨u, rfl, t, rfl⟩ := vals1 r
    exact PySem.P.repr_of_int hz ⟨.str _, H, I.tok _, ⟨_, rfl⟩, q⟩
  · obtain ⟨u, rfl, rfl⟩ := vals1 r
    exact PySem.P.repr_of_none ⟨.str _, H, I.tok _, ⟨_, rfl⟩, q⟩
  · obtain ⟨u, rfl, t, rfl⟩ := vals1 r
    exact PySem.P.repr_of_str (hsz := hz) ⟨.str _, H, I.tok _, ⟨_, rfl⟩, q⟩
def dReprF : D → Option D
  | .int i => if i.natAbs.log2 < 1920 then some (.str (toString i)) else none
  | .non => some (.str "None")
  | .str z => if le1m (reprText z).length = true then some (.str (reprText z)) else none
  | _ => none
theorem cd_reprF : CD X cl (.builtin "repr") (g1 dReprF) := by
  refine CD.one cr_reprF fun c σ s T H F α d v z Q J hz k => ?_
  have hz' := hz
  cases e : view s.M d with
  | int i =>
    rw [e] at hz
    simp only [dReprF] at hz
    split at hz
    · rename_i hl
      cases hz
      have ev : v = .int i := J.vInt (J.tmp (d, v) (List.mem_cons_self ..)) e
      exact .inl ⟨i, by rw [ev], hl, k _ H (SI.flat rfl ⟨F, α, J⟩)⟩
    · cases hz
  | non =>
    rw [e] at hz
    cases hz
    have ev : v = .non := J.vNon (J.tmp (d, v) (List.mem_cons_self ..)) e
    exact .inr (.inl ⟨by rw [ev], k _ H (SI.flat rfl ⟨F, α, J⟩)⟩)
  | str y =>
    rw [e] at hz
    simp only [dReprF] at hz
    split at hz
    · rename_i hl
      cases hz
      have ev : v = .str y := J.vStr (J.tmp (d, v) (List.mem_cons_self ..)) e
      exact .inr (.inr ⟨y, by rw [ev], le1m_ok hl, k _ H (SI.flat rfl ⟨F, α, J⟩)⟩)
    · cases hz
  | _ => rw [e] at hz; cases hz
/-! ### in a tuple of plain data -/
def rInT (K : PySem.W.Frag) : R2 := fun x y H Q => ∃ d ds, Dp K H x d ∧ Dp K H y (.tuple ds) ∧ SeqAt.shaped d = true ∧ SeqAt.shaped (.tuple ds) = true ∧ Q (.bl (ds.any fun z => PyData.eqv z d)) H
def inP (d e : D) : Option Bool := match pd d, pd e with
  | some p, some (.tuple qs) => if SeqAt.shaped p && SeqAt.shaped (.tuple qs) then some (qs.any fun z => PyData.eqv z p) else none
  | _, _ => none
def dInP (d e : D) : Option D := (inP d e).map .bl
def dInX : D → D → Option D := orD dIn dInP
/-! ### a text or another -/
def tOrS (ta tb : TE) : TE := fun σ H Q => ta σ H fun x H1 => ∃ z : Str, x = .str z ∧ z.length ≤ 1000000 ∧ if z.length = 0 then tb σ H1 Q else Q (.str z) H1
def eOrS (f g : M D) : M D := fun s => (f s).bind fun d s1 => match view s1.M d with
  | .str z => if z.length ≤ 1000000 then (if z.length = 0 then g s1 else .ok (.str z) s1) else .fail
  | _ => .fail
end
section
variable {X : Cx} {cl : Str → Addr} {W : WX}
def dReprY : List D → Option D := orC (orC (g1 dReprB) (g1 dReprF)) (g1 dRepr)
theorem cd_reprY (hg : X.A.guards = some []) (hu : X.A.units + 64 < cLine) : CD X cl (.builtin "repr") dReprY := (cd_reprB.or cd_reprF).or (cd_repr hg hu)
end
@[simp] theorem dReprY_bl (b : Bool) : dReprY [.bl b] = some (.str (if b then "True" else "False")) := (rfl)
@[simp] theorem dReprY_non : dReprY [.non] = some (.str "None") := (rfl)
end DL

set_option pp.maxSteps 300
/-! DpD: except clauses of one statement over the caught exception's field. -/
namespace DL
open PySem PySem.Spec PyProof.Rows L2
/-- a clause: whether it catches, what it does then -/
structure ClG where
  m : Str → Option Bool
  g : Str → List (Str × D) → M Fl
def catchG : List ClG → Str → List (Str × D) → S → Out Fl
  | [], n, fs, s => .exc n fs s
  | h :: r, n, fs, s => match h.m n with
    | some true => h.g n fs s
    | some false => catchG r n fs s
    | none => .fail
def sTryG (fb : M Fl) (hs : List ClG) : M Fl := fun s => match fb s with
  | .exc n fs s2 => catchG hs n fs s2
  | o => o
def noXF (f : M Fl) : M Fl := fun s => match f s with
  | .exc _ _ _ => .fail
  | o => o
/-- a named clause's suite: the name holds nothing that is read -/
def offF (i : Nat) (n0 : Str) (g : List (Str × D) → M Fl) (n : Str) (fs : List (Str × D)) : M Fl := fun s => if n = n0 ∧ i < s.env.length ∧ fs ≠ [] then (match g fs { s with env := s.env.set i none } with
  | .ok .nx s2 => .ok .nx { s2 with env := s2.env.set i none }
  | .ok (.ret d) s2 => .ok (.ret d) s2
  | _ => .fail) else .fail
structure DClG (X : Cx) (cl : Str → Addr) (W : WX) (hds : List ExceptHandler) (hs : List ClG) : Prop where
  ex : ∃ l, Clauses X hds l ∧ ∀ c σ s T H E n fs dx, (dx = none → fs = []) → SI X.K cl c H σ s (xt fs dx ++ T) → WantS X.K cl W c T (catchG hs n fs s) E → wClauses X.K W E l (.ref (cl n)) dx σ H
abbrev Wno : WX := fun _ _ _ _ => False
/-- an expression over the caught exception (name i, of the class n) -/
structure DX (X : Cx) (cl : Str → Addr) (i : Nat) (n : Str) (e : Expr) (g : List (Str × D) → M D) : Prop where
  ex : ∀ (a : Addr) (oe : Obj) (d : Option Addr) (pn : List (Addr × Obj)), Zc (.ref (cl n)) d oe → (∃ vs, oe.data = .fields vs) → ∃ te, PE (X.suite a ((a, oe) :: pn)) e te ∧
    ∀ c σ s T H Q fs dd, d = some dd → σ[i]? = some (some (.ref a)) → SI X.K cl c H σ s T → (D.xd fs, V.ref dd) ∈ T → Want X.K cl Wno c σ T (g fs s) Q → te σ H Q
structure DXA (X : Cx) (cl : Str → Addr) (i : Nat) (n : Str) (es : List Expr) (g : List (Str × D) → M (List D)) : Prop where
  ex : ∀ (a : Addr) (oe : Obj) (d : Option Addr) (pn : List (Addr × Obj)), Zc (.ref (cl n)) d oe → (∃ vs, oe.data = .fields vs) → ∃ te, PA (X.suite a ((a, oe) :: pn)) es te ∧
    ∀ c σ s T H Q fs dd, d = some dd → σ[i]? = some (some (.ref a)) → SI X.K cl c H σ s T → (D.xd fs, V.ref dd) ∈ T → WantA X.K cl Wno c σ T (g fs s) Q → te σ H Q
/-- a suite's statement -/
def uX (K : PySem.W.Frag) (cl : Str → Addr) (i : Nat) (n : Str) (g : List (Str × D) → M Fl) (a : Addr) (cls : Value) (d : Option Addr) : TS := fun D σ H => cls = .ref (cl n) ∧ ∃ dd c s T fs, d = some dd ∧ σ[i]? = some (some (.ref a)) ∧ SI K cl c H σ s T ∧ (DL.D.xd fs, V.ref dd) ∈ T ∧ WantS K cl Wno c T (g fs s) D
structure DXs (X : Cx) (cl : Str → Addr) (i : Nat) (n : Str) (st : List Stmt) (g : List (Str × D) → M Fl) : Prop where
  ex : ∀ (a : Addr) (oe : Obj) (d : Option Addr) (pn : List (Addr × Obj)), Zc (.ref (cl n)) d oe → (∃ vs, oe.data = .fields vs) → PSs (X.suite a ((a, oe) :: pn)) st (uX X.K cl i n g a (.ref (cl n)) d)
def xFld (f : Str) (fs : List (Str × D)) : M D := fun s => oOf (fs.lookup f) s
section
variable {X : Cx} {cl : Str → Addr} {W : WX} {i : Nat} {n : Str}
/-! ### clauses -/
end
end DL

set_option pp.maxSteps 300
/-! DmK: first, *rest = a list. -/
namespace DL
open PySem PySem.Spec PyProof.Rows L2
section
variable {prog : Program} {w : World} {A : Around} {E : Value → Shared → Prop} {s : Shared}
open PySem.W in
theorem star_items {l : Addr} {items : Array Value} {Q : List Value → Shared → Prop} (hl : s.heap.IsList l items) (hh : A.handled = none) (hn : 1 ≤ items.size) (hz : items.size ≤ 16384)
    (h : ∀ h₂ tk, Heap.ExtBut s.heap.objs.size s.heap h₂ → Q (items.toList.take 1 ++ [.ref h₂.objs.size]) { s with heap := h₂.push { cls := .type "list", data := .seq (items.toList.drop 1).toArray }, toks := tk }) : wpAny (model prog w) A (unpackItems (.ref l) 2 (some 1)) Q E s := by
  have hlt : l ≠ s.heap.objs.size := by obtain ⟨o, ho, _⟩ := hl; exact Nat.ne_of_lt (Heap.lt_size ho)
  have hll : l < s.heap.objs.size := by obtain ⟨o, ho, _⟩ := hl; exact Heap.lt_size ho
  unfold unpackItems
  refine wpAny_bind ?_
  unfold notIterableAtAll
  refine wpAny_bind (wpAny_specialOf hl.typeIs slot_list_iter.lookup ?_)
  refine wpAny_pure ?_
  simp only [Bool.false_eq_true, if_false]
  refine wpAny_bind (wpAny_holding (wpAny_pyIter_list hl ?_))
  refine wpAny_bind (wpAny_holding (kun_draw hlt 1 0 _ _ ⟨_, Heap.get?_push_size _ rfl, rfl, rfl⟩ (hl.push _) (by omega) fun h₁ hit₁ hs₁ => ?_))
  have hl₁ : h₁.IsList l items := (hl.push _).extBut hs₁.extBut hlt
  rw [Nat.zero_add] at hit₁
  have hit₁' := hit₁
  obtain ⟨oi, hoi, _⟩ := hit₁'
  have hl₁' := hl₁
  obtain ⟨ol, hol, _⟩ := hl₁'
  rw [List.drop_zero]
  have hfl : (items.toList.take 1).length = 1 := by rw [List.length_take, Array.length_toList]; omega
  rw [if_neg (show ¬ ((items.toList.take 1).length < 1) by rw [hfl]; omega)]
  refine wpAny_bind (wpAny_holding (kun_collect (s := { s with heap := h₁ }) (T := "list_iterator") (.inr (.inr (.inl rfl))) (Walks.list (A := A.in1) hh s.heap.objs.size l hlt items) (fun j u st => st.1.typeIs) (k := 1) (by omega) ⟨hit₁, hl₁⟩ (Heap.lt_size hoi) (Heap.lt_size hol) (fun h₂ tk hk => ?_) (by rw [sizeLine_eq]; omega)))
  have hrl : (items.toList.drop 1).length = items.size - 1 := by rw [List.length_drop, Array.length_toList]
  show wpAny _ _ (if (items.toList.drop 1).length < 0 then _ else _) _ _ _
  rw [if_neg (by omega)]
  show wpAny _ _ (newList ((items.toList.drop 1).take ((items.toList.drop 1).length - 0)) >>= fun d => pure (items.toList.take 1 ++ [d] ++ (items.toList.drop 1).drop ((items.toList.drop 1).length - 0))) _ _ _
  rw [Nat.sub_zero, List.take_length, List.drop_length]
  have he : Heap.ExtBut s.heap.objs.size s.heap h₂ := fun b o hb e => hk b o hb (hs₁.extBut b o hb (Heap.get?_push_of_some _ e))
  refine wpAny_bind (wpAny_newList (s := { s with heap := h₂, toks := tk }) ?_ (by rw [hrl, sizeLine_eq]; omega))
  refine wpAny_pure ?_
  rw [List.append_nil]
  exact h h₂ tk he
end
/-- first, *rest = a list -/
def gStar (K : PySem.W.Frag) (t : TGs) : TG := fun v σ H Q => ∃ a x xs, v = .ref a ∧ SqL K H a (x :: xs) ∧ xs.length ≤ 16000 ∧ ∀ p, H p = none → t [x, .ref p] σ (upd H p (.lst xs)) Q
section
variable {X : Cx} {cl : Str → Addr} {W : WX}
def hStar (h : List D → M Unit) : D → M Unit := fun d s => match view s.M d with
  | .lst (x :: xs) => if xs.length ≤ 16000 then h [x, .lst xs] s else .fail
  | _ => .fail
end
end DL

set_option pp.maxSteps 300
/-! DmL: isinstance(x, OwnClass) of an instance of that class. -/
namespace DL
open PySem PySem.Spec PyProof.Rows L2 C8
/-- the head's word on an own class that isinstance asks -/
def insB (K : PySem.W.Frag) (x : Str) : Bool := decide (PySem.W.findIn K (.ref (He.ga K x)) "__class__" = some (some (.builtin "object.__class__"))) && (decide (PySem.W.specialIn K (.builtin "object.__class__") "__get__" = some (some (.builtin "getset_descriptor.__get__"))) && (decide (PySem.W.takesIn K (.builtin "object.__class__") = some true) && (decide (PySem.W.mroIn K (He.ga K x) (.type "object") = some true) && decide (PySem.W.kitOne K (.ref (He.ga K x)) (.ref (He.ga K x)) = some true))))
def eIsC (x : Str) (f : M D) : M D := fun s => (f s).bind fun d s1 => match view s1.M d with
  | .obj y _ => if y = x then .ok (.bl true) s1 else .fail
  | _ => .fail
section
variable {X : Cx} {cl : Str → Addr} {W : WX}
end
@[simp] theorem eIsC_eq (x : Str) (f : M D) (s : S) : eIsC x f s = ((f s).bind fun d s1 => match view s1.M d with
  | .obj y _ => if y = x then .ok (.bl true) s1 else .fail
  | _ => .fail) := (rfl)
end DL

set_option pp.maxSteps 300
/-! DpL: an exception that is kept: the try statement that keeps it, isinstance of it, its field. -/
namespace DL
open PySem PySem.Spec PyProof.Rows L2 C8
/-- what isinstance asks of an exception's own class (the exception has its own dict) -/
structure ExcKd (K : PySem.W.Frag) (C : Addr) : Prop where
  hcl : (PySem.W.clsIn K C).isSome = true
  hga : PySem.W.findIn K (.ref C) "__getattribute__" = some (some (.builtin "BaseException.__getattribute__"))
  hgt : PySem.W.findIn K (.ref C) "__getattr__" = some none
  hsub : PySem.W.subIn K (.ref C) (.type "BaseException") = some true
  ha : PySem.W.findIn K (.ref C) "__class__" = some (some (.builtin "object.__class__"))
  hn : PySem.W.specialIn K (.builtin "object.__class__") "__get__" = some (some (.builtin "getset_descriptor.__get__"))
  htk : PySem.W.takesIn K (.builtin "object.__class__") = some true
  hm : PySem.W.mroIn K C (.type "object") = some true
def exkB (K : PySem.W.Frag) (C : Addr) : Bool := (PySem.W.clsIn K C).isSome && (decide (PySem.W.findIn K (.ref C) "__getattribute__" = some (some (.builtin "BaseException.__getattribute__"))) && (decide (PySem.W.findIn K (.ref C) "__getattr__" = some none) && (decide (PySem.W.subIn K (.ref C) (.type "BaseException") = some true) &&
  (decide (PySem.W.findIn K (.ref C) "__class__" = some (some (.builtin "object.__class__"))) && (decide (PySem.W.specialIn K (.builtin "object.__class__") "__get__" = some (some (.builtin "getset_descriptor.__get__"))) && (decide (PySem.W.takesIn K (.builtin "object.__class__") = some true) && decide (PySem.W.mroIn K C (.type "object") = some true)))))))
theorem exkB_ok {K : PySem.W.Frag} {C : Addr} (h : exkB K C = true) : ExcKd K C := by
  unfold exkB at h
  simp only [Bool.and_eq_true, decide_eq_true_eq] at h
  obtain ⟨h1, h2, h3, h4, h5, h6, h7, h8⟩ := h
  exact ⟨h1, h2, h3, h4, h5, h6, h7, h8⟩
/-- whether the class is below the other -/
def isxB (K : PySem.W.Frag) (t : Value) (C : Addr) (b : Bool) : Bool := decide (PySem.W.kitOne K t (.ref C) = some b)
theorem isxB_ok {K : PySem.W.Frag} {t : Value} {C : Addr} {b : Bool} (h : isxB K t C b = true) : PySem.W.kitOne K t (.ref C) = some b := of_decide_eq_true h
section
variable {X : Cx}
/-- isinstance(x, C), x None or a kept exception -/
def rIsK (K : PySem.W.Frag) : List V → Hp → VK → Prop := fun xs H Q => (∃ C b, xs = [.non, .ref C] ∧ PySem.W.kitOne K (.type "NoneType") (.ref C) = some b ∧ Q (.bl b) H) ∨
  (∃ a D C dd oe vs b, xs = [.ref a, .ref C] ∧ H a = some (.ext fun h => h.get? a = some oe) ∧ Zc (.ref D) (some dd) oe ∧ (∃ zs, oe.data = .fields zs) ∧ H dd = some (.xd vs) ∧ ExcKd K D ∧ PySem.W.kitOne K (.ref D) (.ref C) = some b ∧ Q (.bl b) H) ∨
  ∃ a D C oe b, xs = [.ref a, .ref C] ∧ H a = some (.ext fun h => h.get? a = some oe) ∧ Zc (.ref D) none oe ∧ (∃ zs, oe.data = .fields zs) ∧ ExcKd K D ∧ PySem.W.kitOne K (.ref D) (.ref C) = some b ∧ Q (.bl b) H
theorem inst_kept {pins : List (Addr × Obj)} {σ : L2.St} {H : Hp} {s : Shared} {a D dd : Addr} {oe : Obj} {vs : List (Str × V)} (I : L2.Inv X pins σ H s) (ha : H a = some (.ext fun h => h.get? a = some oe)) (hz : Zc (.ref D) (some dd) oe) (hf : ∃ zs, oe.data = .fields zs) (hd : H dd = some (.xd vs)) :
    ∃ od, PySem.W.InstAt s.heap a oe D (some od) ∧ ∀ n v, vs.lookup n = some v → ∃ u, PySem.W.lookIn n od = some (some u) ∧ L2.RelV v u := by
  have hget : s.heap.get? a = some oe := stood_at I.hok ha
  obtain ⟨zs, hv⟩ := hf
  have hx : ObjOk X.prog X.w H s.heap dd (.xd vs) := I.hok dd _ hd
  obtain ⟨mA, hns, hr⟩ := hx
  obtain ⟨od, ho, hl⟩ := lookIn_ns hns
  refine ⟨od, ⟨hget, hz.1, by unfold PySem.W.notCls; rw [hv] <;> rfl, by rw [hz.2]; exact ho⟩, fun n v l => ?_⟩
  obtain ⟨u, hu, ru⟩ := RelO.some_of (v := v) (o := mA n) (by rw [← l]; exact hr n)
  exact ⟨u, by rw [hl, hu], ru⟩
theorem inst_kept0 {pins : List (Addr × Obj)} {σ : L2.St} {H : Hp} {s : Shared} {a D : Addr} {oe : Obj} (I : L2.Inv X pins σ H s) (ha : H a = some (.ext fun h => h.get? a = some oe)) (hz : Zc (.ref D) none oe) (hf : ∃ zs, oe.data = .fields zs) :
    PySem.W.InstAt s.heap a oe D none := by
  have hget : s.heap.get? a = some oe := stood_at I.hok ha
  obtain ⟨zs, hv⟩ := hf
  exact ⟨hget, hz.1, by unfold PySem.W.notCls; rw [hv] <;> rfl, by rw [hz.2]; exact True.intro⟩
theorem call_isK : CallR X (.builtin "isinstance") (rIsK X.K) := by
  intro pins s σ H xs us Q I r h
  rcases h with ⟨C, b, rfl, e, q⟩ | ⟨a, D, C, dd, oe, vs, b, rfl, ha, hz, hf, hd, F, e, q⟩ | ⟨a, D, C, oe, b, rfl, ha, hz, hf, F, e, q⟩
  · obtain ⟨u, w', rfl, ru, rw'⟩ := vals2 r
    cases rw'
    exact isinst_ok I ru .non e fun tk => ⟨.bl b, H, I.tok _, rfl, q⟩
  · obtain ⟨u, w', rfl, ru, rw'⟩ := vals2 r
    cases rw'
    cases ru
    obtain ⟨od, J, _⟩ := inst_kept I ha hz hf hd
    exact PySem.W.kia_one (PySem.W.kitx_exc F.hcl F.hga F.hgt F.hsub F.ha F.hn F.htk F.hm) I.kIn J e (fun z => nomatch z) fun tk => ⟨.bl b, H, I.kept (t' := tk) fun _ _ z => z, rfl, q⟩
  · obtain ⟨u, w', rfl, ru, rw'⟩ := vals2 r
    cases rw'
    cases ru
    have J := inst_kept0 I ha hz hf
    exact PySem.W.kia_one (PySem.W.kitx_exc F.hcl F.hga F.hgt F.hsub F.ha F.hn F.htk F.hm) I.kIn J e (fun z => nomatch z) fun tk => ⟨.bl b, H, I.kept (t' := tk) fun _ _ z => z, rfl, q⟩
/-- kept.f -/
def tKf (K : PySem.W.Frag) (n : Str) (te : TE) : TE := fun σ H Q => te σ H fun x H1 => ∃ a D dd oe fs v, x = .ref a ∧ H1 a = some (.ext fun h => h.get? a = some oe) ∧ Zc (.ref D) (some dd) oe ∧ (∃ zs, oe.data = .fields zs) ∧ H1 dd = some (.xd fs) ∧ XfC K D ∧ PySem.W.findIn K (.ref D) n = some none ∧ fs.lookup n = some v ∧ Q v H1
theorem pe_kf {e : Expr} {te : TE} {pos : Pos} {n : Str} (he : PE X e te) (hb : attributeBase e n X.env (eval e X.env) = eval e X.env := by rfl) : PE X (.Attribute e n pos) (tKf X.K n te) := by
  refine ⟨fun pins s σ H Q I h => ?_⟩
  refine attr_of hb (thn (he.run pins s σ H _ I h) fun u s1 hh => ?_)
  obtain ⟨x, H1, I1, rx, a, D, dd, oe, fs, v, ex, ha, hz, hf, hd, T, hno, l, q⟩ := hh
  subst ex
  obtain rfl : u = Value.ref a := rx
  obtain ⟨od, J, hl⟩ := inst_kept I1 ha hz hf hd
  obtain ⟨u, hu, ru⟩ := hl n v l
  exact HandSPX.exc_get I1.kIn J T.ga T.gg T.exC (PySem.W.findObj_own T.hdC hno rfl hu) (handed_of ru) ⟨v, H1, I1.tok _, ru, q⟩
end
def eIsX (m : Str → Option Bool) (f : M D) : M D := fun s => (f s).bind fun d s1 => match view s1.M d with
  | .non => .ok (.bl false) s1
  | .exn n _ => (match m n with
    | some b => .ok (.bl b) s1
    | none => .fail)
  | _ => .fail
def eKf (ns : List Str) (g : Str) (f : M D) : M D := fun s => (f s).bind fun d s1 => match view s1.M d with
  | .exn n fs => if n ∈ ns then oOf (fs.lookup g) s1 else .fail
  | _ => .fail
@[simp] theorem eIsX_eq (m : Str → Option Bool) (f : M D) (s : S) : eIsX m f s = ((f s).bind fun d s1 => match view s1.M d with
  | .non => .ok (.bl false) s1
  | .exn n _ => (match m n with
    | some b => .ok (.bl b) s1
    | none => .fail)
  | _ => .fail) := (rfl)
@[simp] theorem eKf_eq (ns : List Str) (g : Str) (f : M D) (s : S) : eKf ns g f s = ((f s).bind fun d s1 => match view s1.M d with
  | .exn n fs => if n ∈ ns then oOf (fs.lookup g) s1 else .fail
  | _ => .fail) := (rfl)
section
variable {K : PySem.W.Frag} {cl : Str → Addr} {c : Cz} {H : Hp} {σ : L2.St} {s : S} {T : List (D × V)} {F : Addr → Prop} {α : List Addr}
theorem SIx.vExn {d : D} {v : V} {n : Str} {fs : List (Str × D)} (h : SIx K cl c H σ s T F α) (r : Rep K cl H F α d v) (e : DL.view s.M d = .exn n fs) : (∃ a dd oe vs, v = .ref a ∧ H a = some (.ext fun h => h.get? a = some oe) ∧ Zc (.ref (cl n)) (some dd) oe ∧ (∃ zs, oe.data = .fields zs) ∧ H dd = some (.xd vs) ∧ RepF K cl H F α fs vs) ∨
    ∃ a oe, v = .ref a ∧ H a = some (.ext fun h => h.get? a = some oe) ∧ Zc (.ref (cl n)) none oe ∧ (∃ zs, oe.data = .fields zs) ∧ fs = [] := by
  rcases h.view r with r | ⟨k, x, a, _, rfl, _, _, e2, rc⟩
  · rw [e] at r
    cases r with
    | exn h1 h2 h3 h4 h5 h6 h7 => exact .inl ⟨_, _, _, _, rfl, h1, h3, h4, h5, h7⟩
    | exn0 h1 h2 h3 h4 => exact .inr ⟨_, _, rfl, h1, h3, h4, rfl⟩
  · rw [e] at e2
    cases x <;> cases e2
theorem SIx.pop {p : D × V} (h : SIx K cl c H σ s (p :: T) F α) : SIx K cl c H σ s T F α := { h with tmp := fun q hq => h.tmp q (List.mem_cons_of_mem _ hq) }
end
section
variable {X : Cx} {cl : Str → Addr} {W : WX}
theorem de_isX {x : Str} {C : Addr} {m : Str → Option Bool} {e : Expr} {f : M D} {p px pos : Pos} (h0 : PySem.W.kitOne X.K (.type "NoneType") (.ref C) = some false) (hmn : ∀ n b, m n = some b → ExcKd X.K (cl n) ∧ PySem.W.kitOne X.K (.ref (cl n)) (.ref C) = some b)
    (hi : X.mg "isinstance" = none) (hm : X.mg x = some (.ref C)) (he : DE X cl W e f) (hgi : Gl X "isinstance" := by rfl) (hg : Gl X x := by rfl) (hd : (x == ("__debug__" : Str)) = false := by decide)
    (hse : starEach [e, .Name x px] X.env = (false, eval e X.env) :: starEach [.Name x px] X.env := by rfl) (hpl : (backTo pos (starEach [.Name x px] X.env)).any (·.1) = false := by rfl) : DE X cl W (.Call (.Name "isinstance" p) [e, .Name x px] [] pos) (eIsX m f) := by
  obtain ⟨te, pe, qe⟩ := he
  refine ⟨_, pe_callB call_isK hgi hi (by decide +kernel) (pa_cons pe (pa_cons (pe_gc (v := .ref C) hg ⟨_, hm, rfl⟩ hd) pa_nil) (hse)) (by decide) (by decide) hse hpl, fun c σ s T H Q I w => ?_⟩
  refine qe c σ s T H _ I (w.bind fun d s1 _ w1 v H1 I1 => ?_)
  obtain ⟨F, α, J⟩ := _root_.id I1
  cases e : view s1.M d with
  | non =>
    rw [e] at w1
    have ev := J.vNon (J.tmp (d, v) (List.mem_cons_self ..)) e
    have ev : v = .non := ev
    subst ev
    exact .inl ⟨C, false, rfl, h0, w1 _ H1 (SI.flat rfl I1.pop)⟩
  | exn n fs =>
    rw [e] at w1
    dsimp only at w1
    cases q : m n with
    | none => rw [q] at w1; exact w1.elim
    | some b =>
      rw [q] at w1
      obtain ⟨k1, k2⟩ := hmn n b q
      rcases J.vExn (J.tmp (d, v) (List.mem_cons_self ..)) e with ⟨a, dd, oe, vs, ev, h1, h2, h3, h4, _⟩ | ⟨a, oe, ev, h1, h2, h3, _⟩
      · have ev : v = .ref a := ev
        subst ev
        exact .inr (.inl ⟨a, cl n, C, dd, oe, vs, b, rfl, h1, h2, h3, h4, k1, k2, w1 _ H1 (SI.flat rfl I1.pop)⟩)
      · have ev : v = .ref a := ev
        subst ev
        exact .inr (.inr ⟨a, cl n, C, oe, b, rfl, h1, h2, h3, k1, k2, w1 _ H1 (SI.flat rfl I1.pop)⟩)
  | _ => rw [e] at w1; exact w1.elim
theorem de_kf {ns : List Str} {g : Str} {e : Expr} {f : M D} {pos : Pos} (hns : ∀ n ∈ ns, XfC X.K (cl n) ∧ PySem.W.findIn X.K (.ref (cl n)) g = some none) (he : DE X cl W e f) (hb : attributeBase e g X.env (eval e X.env) = eval e X.env := by rfl) : DE X cl W (.Attribute e g pos) (eKf ns g f) := by
  obtain ⟨te, pe, qe⟩ := he
  refine ⟨_, pe_kf pe hb, fun c σ s T H Q I w => ?_⟩
  refine qe c σ s T H _ I (w.bind fun d s1 _ w1 v H1 I1 => ?_)
  obtain ⟨F, α, J⟩ := _root_.id I1
  cases e : view s1.M d with
  | exn n fs =>
    rw [e] at w1
    dsimp only at w1
    by_cases hn : n ∈ ns
    · rw [if_pos hn] at w1
      rcases J.vExn (J.tmp (d, v) (List.mem_cons_self ..)) e with ⟨a, dd, oe, vs, ev, h1, h2, h3, h4, rf⟩ | ⟨_, _, _, _, _, _, e0⟩
      case inr => rw [e0] at w1; exact w1.elim
      have ev : v = .ref a := ev
      subst ev
      obtain ⟨k1, k2⟩ := hns n hn
      unfold oOf at w1
      split at w1
      · rename_i y hl
        obtain ⟨u, h5, h6⟩ := rf.look hl
        exact ⟨a, cl n, dd, oe, vs, u, rfl, h1, h2, h3, h4, k1, k2, h5, w1 u H1 ⟨F, α, J.pop.push h6⟩⟩
      · exact w1.elim
    · rw [if_neg hn] at w1; exact w1.elim
  | _ => rw [e] at w1; exact w1.elim
end
/-- try: .. except C as e: kept = e -/
def sTryK (m : Str → Option Bool) (i j : Nat) (fb : M Fl) : M Fl := fun s => match fb s with
  | .exc n fs s2 => (match m n with
    | some true => if i < s2.env.length ∧ j < s2.env.length ∧ fs ≠ [] then .ok .nx { s2 with env := ((s2.env.set i none).set j (some (.exn n fs))).set i none } else .fail
    | some false => .exc n fs s2
    | none => .fail)
  | o => o
section
variable {X : Cx} {cl : Str → Addr} {W : WX} {k : Nat}
end
@[simp] theorem sTryK_eq (m : Str → Option Bool) (i j : Nat) (fb : M Fl) (s : S) : sTryK m i j fb s = (match fb s with
  | .exc n fs s2 => (match m n with
    | some true => if i < s2.env.length ∧ j < s2.env.length ∧ fs ≠ [] then .ok .nx { s2 with env := ((s2.env.set i none).set j (some (.exn n fs))).set i none } else .fail
    | some false => .exc n fs s2
    | none => .fail)
  | o => o) := (rfl)
end DL

set_option pp.maxSteps 600
/-! DsC: X(e), X(f = e), X() of own exception classes as values; isinstance of them and a built-in class. -/
namespace DL
open PySem PySem.Spec PyProof.Rows L2
theorem exT_Value : ExT "ValueError" "ValueError.__new__" "ValueError.__init__" [.type "ValueError", .type "Exception", .type "BaseException", .type "object"] :=
  ⟨⟨_, PySem.F.excBase_ValueError⟩, by decide +kernel, by decide +kernel, by decide +kernel, fun self => by kernel_rfl, by decide +kernel, rfl⟩
def eNewX (x f : Str) (fe : M D) : M D := fun s => (fe s).bind fun d s1 => .ok (.exn x [(f, d)]) s1
def eNewXK (x f : Str) (fk : M (List D)) : M D := fun s => (fk s).bind fun ds s1 => match ds with
  | [d] => .ok (.exn x [(f, d)]) s1
  | _ => .fail
def eNewX0 (x : Str) : M D := fun s => .ok (.exn x []) s
@[simp] theorem eNewX_eq (x f : Str) (fe : M D) (s : S) : eNewX x f fe s = ((fe s).bind fun d s1 => .ok (.exn x [(f, d)]) s1) := (rfl)
@[simp] theorem eNewXK_eq (x f : Str) (fk : M (List D)) (s : S) : eNewXK x f fk s = ((fk s).bind fun ds s1 => match ds with
  | [d] => .ok (.exn x [(f, d)]) s1
  | _ => .fail) := (rfl)
@[simp] theorem eNewX0_eq (x : Str) (s : S) : eNewX0 x s = .ok (.exn x []) s := (rfl)
section
variable {X : Cx} {cl : Str → Addr} {W : WX} {k : Nat}
/-- the new exception among what is known -/
theorem exn_push {x f : Str} {c : Cz} {σ : L2.St} {s : S} {T : List (D × V)} {H : Hp} {d : D} {v : V} {a dd : Addr} {oe : Obj} (I : SI X.K cl c H σ s ((d, v) :: T)) (ha : H a = none) (hd : H dd = none) (hne : a ≠ dd) (hz : Zc (.ref (cl x)) (some dd) oe) (hf : ∃ zs, oe.data = .fields zs) :
    SI X.K cl c (upd (upd H a (stood a oe)) dd (.xd [(f, v)])) σ s ((.exn x [(f, d)], .ref a) :: T) := by
  obtain ⟨F, α, J⟩ := I
  have J2 := J.newF (o := stood a oe) ha
  have hd2 : upd H a (stood a oe) dd = none := by rw [upd_ne (Ne.symm hne)]; exact hd
  have J3 := J2.newF (o := .xd [(f, v)]) hd2
  have r1 := J3.tmp (d, v) (List.mem_cons_self ..)
  have ea : upd (upd H a (stood a oe)) dd (.xd [(f, v)]) a = some (stood a oe) := by rw [upd_ne hne]; exact upd_same
  have r : Rep X.K cl (upd (upd H a (stood a oe)) dd (.xd [(f, v)])) (fun b => (F b ∨ b = a) ∨ b = dd) α (.exn x [(f, d)]) (.ref a) := .exn ea (.inl (.inr rfl)) hz hf upd_same (.inr rfl) (.cons r1 .nil)
  exact ⟨_, α, (J3.pop).push r⟩
theorem de_newX {x y f pn qual : Str} {fI : Addr} {fd : FuncData} {e : Expr} {fe : M D} {params : Arguments} {body : List Stmt} {scope : Scope} {p pos p1 p2 p3 p4 : Pos} {B newId initId : String} {tl : List Value} (TF : ExT B newId initId tl) (O : OexID X.K (cl x) fI f newId tl) (F : FunD X.K "__init__" qual params body scope [] [] fI fd) (S : FnScope ["self", pn] ["self", pn] scope)
    (hbody : body = [.Assign [.Attribute (.Name "self" p1) f p2] (.Name pn p3) p4]) (hb : Binds X.K fd ["self", pn] []) (hk : Cok X W (k + 2)) (hm : X.mg y = some (.ref (cl x))) (he : DE X cl W e fe)
    (hd1 : (pn == ("__debug__" : Str)) = false := by decide) (hd2 : (pn == ("__classdict__" : Str)) = false := by decide)
    (hg : Gl X y := by rfl) (hdb : (y == ("__debug__" : Str)) = false := by decide) (hst : starEach [e] X.env = (false, eval e X.env) :: starEach [] X.env := by rfl) (hpl : (backTo pos (starEach [] X.env)).any (·.1) = false := by rfl) :
    DE X cl W (.Call (.Name y p) [e] [] pos) (eNewX x f fe) := by
  obtain ⟨te, pe, qe⟩ := he
  have F1 := fn_oexD (CX := L2.CX X.prog X.w) (P := X.prog) (w := X.w) (mg := X.mg) (base := X.base) (k := k) (p5 := p) TF F S hbody O.c O.no hd1 hd2
  refine ⟨fun σ H Q => tCons te tNil σ H fun vs H1 => ∃ v, vs = [v] ∧ ∀ (a d : Addr) (oe : Obj), H1 a = none → H1 d = none → a ≠ d → Zc (.ref (cl x)) (some d) oe → (∃ zs, oe.data = .fields zs) → Q (.ref a) (upd (upd H1 a (stood a oe)) d (.xd [(f, v)])), ⟨fun pins s σ H Q I h => ?_⟩, fun c σ s T H Q I w => ?_⟩
  · refine wpAny_Call_Name_kw (ld_glob I hg hm ?_ hdb)
    refine PySem.W.callWith_K (h₀ := X.base) I.ok.mod.kin O.c.kC (thn ((pa_cons pe pa_nil hst).run pos pins s σ H _ I h) fun us s1 ⟨vs, H1, I1, r1, v, ev, q1⟩ => ⟨I1.kIn, ?_⟩) hst hpl
    subst ev
    obtain ⟨u, rfl, rv⟩ : ∃ u, us = [u] ∧ RelV v u := by
      cases r1 with
      | cons rv rt => cases rt; exact ⟨_, rfl, rv⟩
    exact run_newX TF O F1 hk.room I1 rv (by rw [sizeLine_eq]; simp) (fun s' a kin => hb s' _ kin rfl) q1
  · have g : te σ H (fun v0 H1 => ∃ v, [v0] = [v] ∧ ∀ (a d : Addr) (oe : Obj), H1 a = none → H1 d = none → a ≠ d → Zc (.ref (cl x)) (some d) oe → (∃ zs, oe.data = .fields zs) → Q (.ref a) (upd (upd H1 a (stood a oe)) d (.xd [(f, v)]))) := by
      refine qe c σ s T H _ I (w.bind fun d s1 _ w1 v H1 I1 => ?_)
      refine ⟨v, rfl, fun a dd oe ha hd hne hz hf => ?_⟩
      exact w1 _ _ (exn_push I1 ha hd hne hz hf)
    exact g
theorem de_newXK {x y f pn qual : Str} {fI : Addr} {fd : FuncData} {kws : List Keyword} {fk : M (List D)} {params : Arguments} {body : List Stmt} {scope : Scope} {p pos p1 p2 p3 p4 : Pos} {B newId initId : String} {tl : List Value} (TF : ExT B newId initId tl) (O : OexID X.K (cl x) fI f newId tl) (F : FunD X.K "__init__" qual params body scope [] [] fI fd) (S : FnScope ["self", pn] ["self", pn] scope)
    (hbody : body = [.Assign [.Attribute (.Name "self" p1) f p2] (.Name pn p3) p4]) (hb : KBn X.K fd ["self", pn] 1 [pn] (fun us ws => pick [0, 1] (us ++ ws)) (fun us ws => pick [0, 1] (us ++ ws))) (hk : Cok X W (k + 2)) (hm : X.mg y = some (.ref (cl x))) (hkw : DK X cl W kws fk)
    (hd1 : (pn == ("__debug__" : Str)) = false := by decide) (hd2 : (pn == ("__classdict__" : Str)) = false := by decide)
    (hg : Gl X y := by rfl) (hdb : (y == ("__debug__" : Str)) = false := by decide) (hall : (backToKw pos (keywordEach kws X.env)).all (·.1.isSome) = true := by rfl) (hks : (backToKw pos (keywordEach kws X.env)).filterMap (·.1) = [pn] := by rfl)
    (hpl : ((backTo pos (starEach [] X.env)).any (·.1) || (backToKw pos (keywordEach kws X.env)).any (·.1.isNone)) = false := by rfl) :
    DE X cl W (.Call (.Name y p) [] kws pos) (eNewXK x f fk) := by
  obtain ⟨tk, pk, qk⟩ := hkw
  have F1 := fn_oexD (CX := L2.CX X.prog X.w) (P := X.prog) (w := X.w) (mg := X.mg) (base := X.base) (k := k) (p5 := p) TF F S hbody O.c O.no hd1 hd2
  refine ⟨fun σ H Q => tk σ H fun vs H1 => ∃ v, vs = [v] ∧ ∀ (a d : Addr) (oe : Obj), H1 a = none → H1 d = none → a ≠ d → Zc (.ref (cl x)) (some d) oe → (∃ zs, oe.data = .fields zs) → Q (.ref a) (upd (upd H1 a (stood a oe)) d (.xd [(f, v)])), ⟨fun pins s σ H Q I h => ?_⟩, fun c σ s T H Q I w => ?_⟩
  · refine wpAny_Call_Name_kw (ld_glob I hg hm ?_ hdb)
    refine PySem.W.callWith_KW0 (h₀ := X.base) I.ok.mod.kin O.c.kC hall (thn (pk.run pos pins s σ H _ I h) fun ws s1 ⟨vs, H1, I1, r1, v, ev, q1⟩ => ⟨I1.kIn, ?_⟩) hpl
    rw [hks]
    subst ev
    obtain ⟨u, rfl, rv⟩ : ∃ u, ws = [u] ∧ RelV v u := by
      cases r1 with
      | cons rv rt => cases rt; exact ⟨_, rfl, rv⟩
    exact run_newX TF O F1 hk.room I1 rv (by rw [sizeLine_eq]; simp) (fun s' a kin => hb.to s' [.ref a] [u] kin rfl rfl) q1
  · refine qk c σ s T H _ I (w.bindA fun ds s1 _ w1 vs H1 hl I1 => ?_)
    match ds, vs, hl, w1, I1 with
    | [d], [v], _, w1, I1 =>
      refine ⟨v, rfl, fun a dd oe ha hd hne hz hf => ?_⟩
      exact w1 _ _ (exn_push I1 ha hd hne hz hf)
/-- X(), X without an own __init__ -/
theorem de_newX0 {x y : Str} {bmB : List Value} {B newId initId : String} {p pos : Pos} (F : ExcBaseFacts B newId initId bmB) (O : Own0 X.K (cl x) newId bmB) (hk : Cok X W k) (hm : X.mg y = some (.ref (cl x))) (hg : Gl X y := by rfl) (hdb : (y == ("__debug__" : Str)) = false := by decide) :
    DE X cl W (.Call (.Name y p) [] [] pos) (eNewX0 x) := by
  refine ⟨fun σ H Q => ∀ (a : Addr) (oe : Obj), H a = none → Zc (.ref (cl x)) none oe → (∃ zs, oe.data = .fields zs) → Q (.ref a) (upd H a (stood a oe)), ⟨fun pins s σ H Q I h => ?_⟩, fun c σ s T H Q I w => ?_⟩
  · refine wpAny_Call_Name_kw (ld_glob I hg hm ?_ hdb)
    have I1 := I
    refine PySem.W.callWith_K0 I1.kIn O.kC ?_
    show wpAny _ _ (call (.ref (cl x)) []) _ _ _
    obtain ⟨bm, N, nm, qn, bs, hdct, sn, sub, ab, col, dd, k0, k1, k2, k3, k5, mN, hC, hN, hni, T⟩ := exc_obj I1.kIn O.q
    refine wpAny_call_exc_subT F T hC hN hni (fun h' e hm => ?_) (by show 0 ≤ sizeLine; exact Nat.zero_le _)
    obtain ⟨t, ht, _, _⟩ := hm.there
    have na := I1.hok.gone hm.new
    have new : s.heap.get? e = none := hm.new
    have J : Inv X pins σ H { s with heap := h' } := I1.kept (t' := s.toks) hm.keeps
    have nL : e ≠ X.env.locals := fun z => by
      obtain ⟨m, ⟨o, _, _, ho, _⟩, _⟩ := I1.loc
      rw [← z] at ho
      have ho : s.heap.get? e = some o := ho
      rw [new] at ho; cases ho
    have n0 : e ∉ X.ex → X.s_0.heap.get? e = none := fun hx => by
      cases q : X.s_0.heap.get? e with
      | none => rfl
      | some o0 =>
        obtain ⟨o1, q1⟩ := I1.base.there e o0 q hx
        rw [new] at q1; cases q1
    have np : ∀ p ∈ X.pn ++ pins, p.1 ≠ e := fun p hp z => by
      have q := (I1.pin p hp).1
      rw [z, new] at q; cases q
    obtain ⟨oe, hoe⟩ : ∃ oe, h'.get? e = some oe := ⟨_, ht⟩
    have ez : Zc (.ref (cl x)) none oe ∧ ∃ zs, oe.data = .fields zs := by
      rw [ht] at hoe
      cases hoe
      exact ⟨⟨rfl, rfl⟩, ⟨_, rfl⟩⟩
    exact ⟨.ref e, _, J.adopt hoe na nL n0 (fun v z => by obtain ⟨zs, hz⟩ := ez.2; rw [hz] at z; cases z) np, rfl, h e oe na ez.1 ez.2⟩
  · intro a oe ha hz hf
    obtain ⟨F, α, J⟩ := I
    have J2 := J.newF (o := stood a oe) ha
    have r : Rep X.K cl (upd H a (stood a oe)) (fun b => F b ∨ b = a) α (.exn x []) (.ref a) := .exn0 upd_same (.inr rfl) hz hf
    exact w _ _ ⟨_, α, J2.push r⟩
/-- isinstance(e, T), T a built-in class -/
def rIsT (K : PySem.W.Frag) (T : String) : List V → Hp → VK → Prop := fun xs H Q =>
  (∃ a D dd oe vs b, xs = [.ref a, .ty T] ∧ H a = some (.ext fun h => h.get? a = some oe) ∧ Zc (.ref D) (some dd) oe ∧ (∃ zs, oe.data = .fields zs) ∧ H dd = some (.xd vs) ∧ ExcKd K D ∧ PySem.W.kitOne K (.ref D) (.type T) = some b ∧ Q (.bl b) H) ∨
  ∃ a D oe b, xs = [.ref a, .ty T] ∧ H a = some (.ext fun h => h.get? a = some oe) ∧ Zc (.ref D) none oe ∧ (∃ zs, oe.data = .fields zs) ∧ ExcKd K D ∧ PySem.W.kitOne K (.ref D) (.type T) = some b ∧ Q (.bl b) H
theorem call_isT (T : String) : CallR X (.builtin "isinstance") (rIsT X.K T) := by
  intro pins s σ H xs us Q I r h
  rcases h with ⟨a, D, dd, oe, vs, b, rfl, ha, hz, hf, hd, F, e, q⟩ | ⟨a, D, oe, b, rfl, ha, hz, hf, F, e, q⟩
  · obtain ⟨u, w', rfl, ru, rw'⟩ := vals2 r
    cases rw'
    cases ru
    obtain ⟨od, J, _⟩ := inst_kept I ha hz hf hd
    exact PySem.W.kia_one (PySem.W.kitx_exc F.hcl F.hga F.hgt F.hsub F.ha F.hn F.htk F.hm) I.kIn J e (fun z => nomatch z) fun tk => ⟨.bl b, H, I.kept (t' := tk) fun _ _ z => z, rfl, q⟩
  · obtain ⟨u, w', rfl, ru, rw'⟩ := vals2 r
    cases rw'
    cases ru
    have J := inst_kept0 I ha hz hf
    exact PySem.W.kia_one (PySem.W.kitx_exc F.hcl F.hga F.hgt F.hsub F.ha F.hn F.htk F.hm) I.kIn J e (fun z => nomatch z) fun tk => ⟨.bl b, H, I.kept (t' := tk) fun _ _ z => z, rfl, q⟩
def eIsXT (m : Str → Option Bool) (f : M D) : M D := fun s => (f s).bind fun d s1 => match view s1.M d with
  | .exn n _ => (match m n with
    | some b => .ok (.bl b) s1
    | none => .fail)
  | _ => .fail
@[simp] theorem eIsXT_eq (m : Str → Option Bool) (f : M D) (s : S) : eIsXT m f s = ((f s).bind fun d s1 => match view s1.M d with
  | .exn n _ => (match m n with
    | some b => .ok (.bl b) s1
    | none => .fail)
  | _ => .fail) := (rfl)
theorem de_isXT {x : Str} {T : String} {m : Str → Option Bool} {e : Expr} {f : M D} {p px pos : Pos} (hmn : ∀ n b, m n = some b → ExcKd X.K (cl n) ∧ PySem.W.kitOne X.K (.ref (cl n)) (.type T) = some b)
    (hi : X.mg "isinstance" = none) (hm : X.mg x = none) (he : DE X cl W e f) (hv : bootBuiltins x = some (.type T) := by decide +kernel) (hn : x ≠ "__name__" := by decide) (hgi : Gl X "isinstance" := by rfl) (hg : Gl X x := by rfl) (hd : (x == ("__debug__" : Str)) = false := by decide)
    (hse : starEach [e, .Name x px] X.env = (false, eval e X.env) :: starEach [.Name x px] X.env := by rfl) (hpl : (backTo pos (starEach [.Name x px] X.env)).any (·.1) = false := by rfl) : DE X cl W (.Call (.Name "isinstance" p) [e, .Name x px] [] pos) (eIsXT m f) := by
  obtain ⟨te, pe, qe⟩ := he
  refine ⟨_, pe_callB (call_isT T) hgi hi (by decide +kernel) (pa_cons pe (pa_cons (pe_bltn hg hm hv (v := .ty T) rfl hn hd) pa_nil) (hse)) (by decide) (by decide) hse hpl, fun c σ s T0 H Q I w => ?_⟩
  refine qe c σ s T0 H _ I (w.bind fun d s1 _ w1 v H1 I1 => ?_)
  obtain ⟨F, α, J⟩ := _root_.id I1
  cases e : view s1.M d with
  | exn n fs =>
    rw [e] at w1
    dsimp only at w1
    cases q : m n with
    | none => rw [q] at w1; exact w1.elim
    | some b =>
      rw [q] at w1
      obtain ⟨k1, k2⟩ := hmn n b q
      rcases J.vExn (J.tmp (d, v) (List.mem_cons_self ..)) e with ⟨a, dd, oe, vs, ev, h1, h2, h3, h4, _⟩ | ⟨a, oe, ev, h1, h2, h3, _⟩
      · have ev : v = .ref a := ev
        subst ev
        exact .inl ⟨a, cl n, dd, oe, vs, b, rfl, h1, h2, h3, h4, k1, k2, w1 _ H1 (SI.flat rfl I1.pop)⟩
      · have ev : v = .ref a := ev
        subst ev
        exact .inr ⟨a, cl n, oe, b, rfl, h1, h2, h3, k1, k2, w1 _ H1 (SI.flat rfl I1.pop)⟩
  | _ => rw [e] at w1; exact w1.elim
end
def isxTB (K : PySem.W.Frag) (C : Addr) (T : String) (b : Bool) : Bool := decide (PySem.W.kitOne K (.ref C) (.type T) = some b)
theorem isxTB_ok {K : PySem.W.Frag} {C : Addr} {T : String} {b : Bool} (h : isxTB K C T b = true) : PySem.W.kitOne K (.ref C) (.type T) = some b := of_decide_eq_true h
/-- a table of names -/
def tabX : List (Str × Bool) → Str → Option Bool
  | [], _ => none
  | p :: r, n => if n = p.1 then some p.2 else tabX r n
inductive AllT (P : Str → Bool → Prop) : List (Str × Bool) → Prop
  | nil : AllT P []
  | cons {m b r} : P m b → AllT P r → AllT P ((m, b) :: r)
theorem tabX_ok {P : Str → Bool → Prop} : ∀ {l : List (Str × Bool)}, AllT P l → ∀ n b, tabX l n = some b → P n b
  | _, .nil, n, b, h => by cases h
  | _, .cons (m := m) (b := b0) (r := r) p t, n, b, h => by
    unfold tabX at h
    by_cases e : n = m
    · rw [if_pos e] at h
      cases h
      rw [e]; exact p
    · rw [if_neg e] at h
      exact tabX_ok t n b h
end DL

/-! DpM: a sum of two lists that is to change: a new cell. -/
namespace DL
open PySem PySem.Spec PyProof.Rows L2
def eAddC (fa fb : M D) : M D := fun s => (fa s).bind fun d s1 => (fb s1).bind fun e s2 => match view s2.M d, view s2.M e with
  | .lst a, .lst b => if a.length + b.length ≤ 1000000 then .ok (.ptr s2.M.length) { s2 with M := s2.M ++ [some (.lst (a ++ b))] } else .fail
  | _, _ => .fail
@[simp] theorem eAddC_eq (fa fb : M D) (s : S) : eAddC fa fb s = ((fa s).bind fun d s1 => (fb s1).bind fun e s2 => match view s2.M d, view s2.M e with
  | .lst a, .lst b => if a.length + b.length ≤ 1000000 then .ok (.ptr s2.M.length) { s2 with M := s2.M ++ [some (.lst (a ++ b))] } else .fail
  | _, _ => .fail) := (rfl)
section
variable {X : Cx} {cl : Str → Addr} {W : WX}
end
end DL

set_option pp.maxSteps 300
/-! DpI: a comprehension whose list is a cell. -/
namespace DL
open PySem PySem.Spec PyProof.Rows L2
section
variable {X : Cx} {cl : Str → Addr} {W : WX}
end
end DL

set_option pp.maxSteps 300
/-! DpA: calls that hand over all cells: objects that change. -/
namespace DL
open PySem PySem.Spec PyProof.Rows L2
def allC : List (Option C) → Option (List C)
  | [] => some []
  | some c :: r => (allC r).map (c :: ·)
  | none :: _ => none
theorem allC_eq : ∀ {M : List (Option C)} {m : List C}, allC M = some m → M = m.map some
  | [], m, h => by cases h; rfl
  | some c :: r, m, h => by
    obtain ⟨m', h1, rfl⟩ := Option.map_eq_some_iff.mp (show (allC r).map (c :: ·) = some m from h)
    rw [List.map_cons, allC_eq h1]
  | none :: r, m, h => by cases h
@[simp] theorem allC_map (m : List C) : allC (m.map some) = some m := by
  induction m with
  | nil => rfl
  | cons c m ih => rw [List.map_cons]; show (allC (m.map some)).map (c :: ·) = _; rw [ih]; rfl
/-- the callee is given all cells, and gives all back -/
def callW (sem : Sem) (ds : List D) (s : S) : Out D := match allC s.M with
  | none => .fail
  | some m => match sem m ds with
    | .fail => .fail
    | .ok d s' => .ok d { s with M := s'.M }
    | .exc n fs s' => .exc n fs { s with M := s'.M }
section
variable {K : PySem.W.Frag} {cl : Str → Addr} {c : Cz} {H : Hp} {σ : L2.St} {s : S} {T T' : List (D × V)} {F : Addr → Prop} {α : List Addr}
theorem SIx.wback {F' : Addr → Prop} {α' : List Addr} {H' : Hp} {M' : List (Option C)} (I : SIx K cl c H σ s T F α) (hall : ∀ (k : Nat) (a : Addr), α[k]? = some a → ∃ x, s.M[k]? = some (some x)) (J : SIx K cl ⟨H, α, F⟩ H' [] ⟨[], M'⟩ T' F' α') :
    ∃ F2, SIx K cl c H' σ { s with M := M' } (T' ++ T) F2 α' := by
  have nFα : ∀ b, F b → b ∉ α := fun b hb hm => by
    obtain ⟨k, hk⟩ := List.getElem?_of_mem hm
    obtain ⟨x, hx⟩ := hall k b hk
    exact (I.cel k x b hx hk).2 hb
  have keep : ∀ b o, H b = some o → b ∉ α → H' b = some o := J.keep
  have c0 : ∀ b, H b = none → b ∈ c.β ∨ c.H0 b = none := fun b hb => by
    cases q : c.H0 b with
    | none => exact .inr rfl
    | some u =>
      by_cases hm : b ∈ c.β
      · exact .inl hm
      · have := I.keep b u q hm
        rw [hb] at this; cases this
  obtain ⟨F2, hF2⟩ : ∃ F2 : Addr → Prop, ∀ b, F2 b ↔ F b ∨ F' b := ⟨fun b => F b ∨ F' b, fun _ => Iff.rfl⟩
  have E : Ext H F α H' F2 α' := ⟨fun b hb => by
      obtain ⟨o, e⟩ := I.domF b hb
      rw [e]; exact keep b o e (nFα b hb), fun b hb => (hF2 b).mpr (.inl hb), J.tups, J.frzs, J.pre⟩
  have E' : Ext H' F' α' H' F2 α' := ⟨fun _ _ => rfl, fun b hb => (hF2 b).mpr (.inr hb), fun _ _ e => e, fun _ _ _ e => e, fun _ _ e => e⟩
  refine ⟨F2, fun i d e => ?_, I.el, fun q hq => ?_, J.len, fun j x a e1 e2 => ?_, J.nd, J.dom, fun a ha => ?_, fun b hb => ?_, fun b hb => ?_, fun k a e => J.pre k a (I.pre k a e), fun b o e1 e2 => ?_, fun b xs e => J.tups b xs (I.tups b xs e), fun b o u e => J.frzs b o u (I.frzs b o u e)⟩
  · obtain ⟨v, h1, h2⟩ := I.env i d e
    exact ⟨v, h1, h2.ext E⟩
  · rcases List.mem_append.mp hq with hq | hq
    · exact (J.tmp q hq).ext E'
    · exact (I.tmp q hq).ext E
  · obtain ⟨rc, nF⟩ := J.cel j x a e1 e2
    refine ⟨E'.repC rc rfl, fun hf => ((hF2 a).mp hf).elim (fun hf => ?_) nF⟩
    rcases J.inα a (List.mem_of_getElem? e2) with z | z
    · exact nFα a hf z
    · obtain ⟨o, e⟩ := I.domF a hf
      have z : H a = none := z
      rw [e] at z; cases z
  · rcases J.inα a ha with z | z
    · exact I.inα a z
    · exact c0 a z
  · rcases (hF2 b).mp hb with hb | hb
    · obtain ⟨o, e⟩ := I.domF b hb
      exact ⟨o, keep b o e (nFα b hb)⟩
    · exact J.domF b hb
  · rcases (hF2 b).mp hb with hb | hb
    · exact I.inF b hb
    · rcases J.inF b hb with z | z | z
      · exact (I.inα b z).elim .inl fun z => .inr (.inr z)
      · exact I.inF b z
      · exact (c0 b z).elim .inl fun z => .inr (.inr z)
  · refine keep b o (I.keep b o e1 e2) fun hm => ?_
    rcases I.inα b hm with z | z
    · exact e2 z
    · rw [z] at e1; cases e1
/-- all cells as the callee has them -/
theorem SIx.wpre {ds : List D} {vs : List V} {m : List C} (I : SIx K cl c H σ s (zipT ds vs T) F α) (hm : allC s.M = some m) :
    SIx K cl ⟨H, α, F⟩ H [] ⟨[], m.map some⟩ (zipT ds vs []) F α ∧ (∀ (k : Nat) (a : Addr), α[k]? = some a → ∃ x, s.M[k]? = some (some x)) ∧ SIx K cl c H σ s T F α := by
  have e := allC_eq hm
  refine ⟨⟨fun i d e => by simp at e, rfl, fun q hq => I.tmp q (zipT_key ds vs [] T (fun _ h => by simp at h) q hq), by rw [I.len, e], fun j x a e1 e2 => I.cel j x a (by rw [e]; exact e1) e2, I.nd, I.dom, fun a ha => .inl ha, I.domF, fun b hb => .inr (.inl hb), fun _ _ e => e, fun b o e _ => e, fun _ _ e => e, fun _ _ _ e => e⟩, fun k a hk => ?_, { I with tmp := fun q hq => I.tmp q (zipT_sub ds vs T q hq) }⟩
  have hl : k < s.M.length := by rw [← I.len]; exact (List.getElem?_eq_some_iff.mp hk).1
  rw [e, List.length_map] at hl
  exact ⟨m[k], by rw [e, List.getElem?_map, List.getElem?_eq_getElem hl]; rfl⟩
theorem call_dspW {W : WX} {sem : Sem} {ds : List D} {vs : List V} {Q : VK} (I : SIx K cl c H σ s (zipT ds vs T) F α) (hl : ds.length = vs.length) (w : Want K cl W c σ T (callW sem ds s) Q) :
    dsp K cl sem vs H Q (fun cls dx H' => W cls dx σ H') := by
  unfold callW at w
  cases hm : allC s.M with
  | none => rw [hm] at w; exact w.elim
  | some m =>
    rw [hm] at w
    dsimp only at w
    obtain ⟨J0, hall, IT⟩ := I.wpre hm
    refine ⟨F, α, m, ds, hl, J0, ?_⟩
    cases hs : sem m ds with
    | fail => rw [hs] at w; exact w.elim
    | ok d s' =>
      rw [hs] at w
      intro v H' ⟨F', α', J⟩
      obtain ⟨F2, K2⟩ := IT.wback hall J
      exact w v H' ⟨F2, α', K2⟩
    | exc n fs s' =>
      rw [hs] at w
      intro dx H' hdx ⟨F', α', J⟩
      rw [List.append_nil] at J
      obtain ⟨F2, K2⟩ := IT.wback hall J
      exact w dx H' hdx ⟨F2, α', K2⟩
end
/-- how a body's run ends, all cells handed back -/
def finW (o : Out Fl) : Out D := match o with
  | .ok .nx s => .ok .non ⟨[], s.M⟩
  | .ok (.ret d) s => .ok d ⟨[], s.M⟩
  | .exc n fs s => .exc n fs ⟨[], s.M⟩
  | _ => .fail
def runW (N : Nat) (f : M Fl) : Sem := fun m ds => finW (f ⟨ds.map some ++ List.replicate (N - ds.length) none, m.map some⟩)
section
variable {K : PySem.W.Frag} {cl : Str → Addr} {H : Hp}
theorem body_wantW {W : XK} {F : Addr → Prop} {β : List Addr} {o : Out Fl} {Q : VK} (w : Want K cl (fun cls dx _ H' => W cls dx H') ⟨H, β, F⟩ [] [] (match finW o with
    | .fail => .fail
    | .ok d s => .ok d ⟨[], s.M⟩
    | .exc n fs s => .exc n fs ⟨[], s.M⟩) Q) : WantS K cl (fun cls dx _ H' => W cls dx H') ⟨H, β, F⟩ [] o { nx := fun _ H' => Q .non H', rt := Q } := by
  have noenv : ∀ {σ : L2.St} {H' : Hp} {s : DL.S} {T : List (D × V)}, SI K cl ⟨H, β, F⟩ H' σ s T → SI K cl ⟨H, β, F⟩ H' ([] : L2.St) ⟨[], s.M⟩ T := fun ⟨G, α, J⟩ => ⟨G, α, { J with env := fun i d e => by simp at e, el := rfl }⟩
  cases o with
  | fail => exact w
  | exc c fs s => exact fun dx σ H' hdx I => w dx H' hdx (noenv (s := s) I)
  | ok r s =>
    cases r with
    | brk => exact w.elim
    | ct => exact w.elim
    | nx => exact fun σ H' I => w .non H' (by obtain ⟨G, α, J⟩ := noenv (s := s) I; exact ⟨G, α, J.push .non⟩)
    | ret d => exact fun v σ H' I => w v H' (noenv (s := s) I)
end
section
variable {P : Program} {w : World} {K : PySem.W.Frag} {mg : Str → Option Value} {base : Heap} {cl : Str → Addr}
theorem fn_GW {k : Nat} {f : Addr} {x qual : Str} {params : Arguments} {body : List Stmt} {scope : Scope} {dvs : List V} {kws : List (Str × V)} {fd : FuncData} {N ps : List Str} {g : M Fl} (F : FunD K x qual params body scope dvs kws f fd) (S : FnScope N ps scope)
    (hbody : ∀ (cdv : Value) (A : Around) (outer : List Env) (s : Shared) (H : Hp) (E : XK), Cok (cxOf (L2.CX P w) P w K mg base N qual scope f cdv A outer s H E) (fun cls dx _ H' => E cls dx H') k →
      DSs (cxOf (L2.CX P w) P w K mg base N qual scope f cdv A outer s H E) cl (fun cls dx _ H' => E cls dx H') body g) : FnG P w K mg base cl (k + 1) f fd ps (runW N.length g) :=
  fn_GX F S (fun _ wn => body_wantW wn) hbody
end
/-! ### calls -/
def eCallW (n : Nat) (sem : Sem) (f : M (List D)) : M D := fun s => (f s).bind fun ds s => if ds.length = n then callW sem ds s else .fail
/-- o.m(..) -/
def eMethW (x m : Str) (n : Nat) (sem : Sem) (fo : M D) (fa : M (List D)) : M D := fun s => (fo s).bind fun d s1 => match view s1.M d with
  | .obj y fs => if y = x ∧ fs.lookup m = none then (fa s1).bind fun ds s2 => if ds.length + 1 = n then callW sem (d :: ds) s2 else .fail else .fail
  | _ => .fail
/-- e.f, a property -/
def ePropW (x : Str) (sem : Sem) (fe : M D) : M D := fun s => (fe s).bind fun d s1 => match view s1.M d with
  | .obj y _ => if y = x then noX (callW sem [d] s1) else .fail
  | _ => .fail
/-- X(..), a new cell -/
def makeW (x : Str) (sem : Sem) (ds : List D) (s : S) : Out D := match allC s.M with
  | none => .fail
  | some m => match sem (m ++ [.obj x []]) (.ptr m.length :: ds) with
    | .fail => .fail
    | .ok .non s' => .ok (.ptr m.length) { s with M := s'.M }
    | .ok _ _ => .fail
    | .exc n fs s' => .exc n fs { s with M := s'.M }
def eMakeW (x : Str) (n : Nat) (sem : Sem) (fa : M (List D)) : M D := fun s => (fa s).bind fun ds s1 => if ds.length + 1 = n then makeW x sem ds s1 else .fail
section
variable {X : Cx} {cl : Str → Addr} {W : WX} {k : Nat}
/-- f(e, ..) -/
theorem de_callW {x : Str} {fa : Addr} {fd : FuncData} {ps : List Str} {sem : Sem} {e : Expr} {es : List Expr} {f : M (List D)} {p pos : Pos} (F : FnG X.prog X.w X.K X.mg X.base cl k fa fd ps sem) (hc : Cok X W k)
    (hm : X.mg x = some (.ref fa)) (hk : PySem.W.keepIn X.K (.ref fa) = true) (hb : Binds X.K fd ps []) (ha : DA X cl W (e :: es) f) (hg : Gl X x := by rfl)
    (hdb : (x == ("__debug__" : Str)) = false := by decide) (he : starEach (e :: es) X.env = (false, eval e X.env) :: starEach es X.env := by rfl) (hpl : (backTo pos (starEach es X.env)).any (·.1) = false := by rfl) :
    DE X cl W (.Call (.Name x p) (e :: es) [] pos) (eCallW ps.length sem f) := by
  obtain ⟨ta, pa, qa⟩ := ha
  refine ⟨fun σ H Q => ta σ H fun vs H1 => vs.length = ps.length ∧ dsp X.K cl sem vs H1 Q (fun cls dx H' => W cls dx σ H'), ⟨fun pins s σ H Q I h => ?_⟩, fun c σ s T H Q I w => ?_⟩
  · refine wpAny_Call_Name_kw (ld_glob I hg hm ?_ hdb)
    refine PySem.W.callWith_K (h₀ := X.base) I.ok.mod.kin hk (thn (pa.run pos pins s σ H _ I h) fun us s1 ⟨vs, H1, I1, r, hl, q⟩ => ⟨I1.kIn, ?_⟩) he hpl
    exact run_G (dvs := []) F hc hb I1 r hl q
  · refine qa c σ s T H _ I (w.bindA fun ds s1 _ w1 vs H1 hl I1 => ?_)
    obtain ⟨G, α, J⟩ := I1
    by_cases hn : ds.length = ps.length
    · rw [if_pos hn] at w1
      exact ⟨by rw [← hl, hn], call_dspW J hl w1⟩
    · rw [if_neg hn] at w1; exact w1.elim
end
section
variable {K : PySem.W.Frag} {cl : Str → Addr} {W : WX} {c : Cz} {H : Hp} {σ : L2.St} {s : S} {T : List (D × V)} {F : Addr → Prop} {α : List Addr}
end
section
variable {X : Cx} {cl : Str → Addr} {W : WX} {k : Nat}
end
end DL

set_option pp.maxSteps 300
/-! DpB: a lambda made, handed to a def, called there. -/
namespace DL
open PySem PySem.Spec PyProof.Rows L2
/-- what a lambda is to the def that gets it: its table's place and cell, its name, the function, its code object, what the maker's names hold, its meaning -/
structure Th where
  P : Addr
  j : Nat
  q : Str
  f : Addr
  c : Addr
  G : List (D × V)
  th : List (Option C) → Out D
section
variable {K : PySem.W.Frag} {cl : Str → Addr} {c : Cz} {H : Hp} {σ : L2.St} {s : S} {T : List (D × V)} {F : Addr → Prop} {α : List Addr} {P : Addr} {j : Nat} {q : Str} {gs : List (D × V)} {cs : List Addr}
end
/-! ### the call of what was got -/
open Classical in
noncomputable def eThunk (i : Nat) (t : Th) : M D := fun s => match s.env[i]?, s.M[t.j]? with
  | some (some (.raw (.ref g))), some (some (.tbl P q G cs)) => if g = t.f ∧ P = t.P ∧ q = t.q ∧ G = t.G ∧ cs = [t.c] then (match t.th s.M with
    | .fail => .fail
    | .ok d s' => .ok d { s with M := s'.M }
    | .exc n fs s' => .exc n fs { s with M := s'.M }) else .fail
  | _, _ => .fail
section
variable {X : Cx} {cl : Str → Addr} {pins : List (Addr × Obj)} {σ : L2.St} {H : Hp} {s : Shared}
end
end DL

set_option pp.maxSteps 300
/-! DpC: f(lambda: e). -/
namespace DL
open PySem PySem.Spec PyProof.Rows L2
section
variable {X : Cx} {pins : List (Addr × Obj)} {σ : L2.St} {H : Hp} {s : Shared}
end
/-! ### the def that gets it -/
structure FnL (P : Program) (w : World) (K : PySem.W.Frag) (mg : Str → Option Value) (base : Heap) (cl : Str → Addr) (k : Nat) (g : Addr) (fd : FuncData) (qual : Str) (N : List Str) (scope : Scope) (a : Str) (sem : Th → Sem) : Prop where
  run : ∀ (t : Th) (A : Around) (outer : List Env) (s : Shared) (H : Hp) (Q : VK) (E : XK), Room k A → A.guards = some [] → Env0 P w K mg base A outer s H → BindsTo s fd ⟨[.ref t.f], []⟩ ([a].zip [.ref t.f]) →
    (∀ (cdv : Value) (W : WX) (pn : List (Addr × Obj)) (xe : Value → Shared → Prop) (k' : Nat) (p1 p2 : Pos), Cok ((cxOf (L2.CX P w) P w K mg base N qual scope g cdv A outer s H E).tr pn xe) W k' → DE ((cxOf (L2.CX P w) P w K mg base N qual scope g cdv A outer s H E).tr pn xe) cl W (.Call (.Name a p1) [] [] p2) (eThunk 0 t)) →
    dsp K cl (sem t) [.ref t.f] H Q E → codeAny (model P w) A (.call (.ref g) ⟨[.ref t.f], []⟩) (CR (L2.CX P w) outer P w H s Q E) s
theorem FnL.mono {P : Program} {w : World} {K : PySem.W.Frag} {mg : Str → Option Value} {base : Heap} {cl : Str → Addr} {j k : Nat} {g : Addr} {fd : FuncData} {qual : Str} {N : List Str} {scope : Scope} {a : Str} {sem : Th → Sem} (F : FnL P w K mg base cl j g fd qual N scope a sem) (h : j ≤ k) :
    FnL P w K mg base cl k g fd qual N scope a sem := ⟨fun t A outer s H Q E hr => F.run t A outer s H Q E (hr.mono h)⟩
section
variable {P : Program} {w : World} {K : PySem.W.Frag} {mg : Str → Option Value} {base : Heap} {cl : Str → Addr}
end
/-! ### the reading -/
def lamCall (P : Addr) (j : Nat) (q : Str) (sem : Th → Sem) (fb : M D) (f c : Addr) (G : List (D × V)) (s : S) : Out D := match allC (s.M.set j (some (.tbl P q G [c]))) with
  | none => .fail
  | some m => match sem ⟨P, j, q, f, c, G, fun M => fb ⟨s.env, M⟩⟩ m [.raw (.ref f)] with
    | .ok d s' => (match s'.M[j]? with
      | some (some (.tbl P' q' _ _)) => if P' = P ∧ q' = q then .ok d { s with M := s'.M.set j (some (.tbl P q [] [])) } else .fail
      | _ => .fail)
    | _ => .fail
open Classical in
noncomputable def uniO (o : Addr → Addr → List (D × V) → Out D) : Out D := if ∀ f c G, o f c G = o 0 0 [] then o 0 0 [] else .fail
noncomputable def eLam (P : Addr) (j : Nat) (q : Str) (sem : Th → Sem) (fb : M D) : M D := fun s => match s.M[j]? with
  | some (some (.tbl P' q' [] [])) => if P' = P ∧ q' = q then uniO fun f c G => lamCall P j q sem fb f c G s else .fail
  | _ => .fail
section
variable {X : Cx} {cl : Str → Addr} {W : WX} {k : Nat}
end
end DL

set_option pp.maxSteps 400
/-! DnM: repr of data that hold an empty dict. -/
namespace DL
open PySem L2
open PySem.Spec PyProof.Rows
/-- the known objects are none of the model's own -/
abbrev SmB (base : Heap) : Prop := ∃ o, base.get? sysModules = some o
mutual
inductive De (K : PySem.W.Frag) (H : Hp) : V → PyData → Prop
  | non : De K H .non .none
  | bl (b : Bool) : De K H (.bl b) (.bool b)
  | int (i : Int) : De K H (.int i) (.int i)
  | str (x : Str) : De K H (.str x) (.str x)
  | lst {a : Addr} {xs : List V} {ds : List PyData} : H a = some (.lst xs) → DeAll K H xs ds → De K H (.ref a) (.list ds)
  | tup {a : Addr} {xs : List V} {ds : List PyData} : SqT K H a xs → DeAll K H xs ds → De K H (.ref a) (.tuple ds)
  | dct {a : Addr} : H a = some (.dK []) → De K H (.ref a) (.dict [])
  | dctF {a : Addr} {o : Obj} : H a = some (.frz o (.dK [])) → De K H (.ref a) (.dict [])
inductive DeAll (K : PySem.W.Frag) (H : Hp) : List V → List PyData → Prop
  | nil : DeAll K H [] []
  | cons {v : V} {vs : List V} {d : PyData} {ds : List PyData} : De K H v d → DeAll K H vs ds → DeAll K H (v :: vs) (d :: ds)
end
section
variable {X : Cx} {pins : List (Addr × Obj)} {σ : L2.St} {H : Hp} {s : Shared}
theorem sm_free (I : Inv X pins σ H s) (hs : SmB X.base) {a : Addr} {o : HO} (h : H a = some o) : sysModules ≠ a := fun e => by
  obtain ⟨ob, hk⟩ := hs
  have := (I.bs sysModules ob hk).2
  rw [e, h] at this
  cases this
mutual
theorem De.reads (I : Inv X pins σ H s) (hs : SmB X.base) : ∀ (d : PyData) (v : V) (u : Value), De X.K H v d → RelV v u → ∃ as, Reads s.heap u d as ∧ sysModules ∉ as
  | .none, _, _, h, r => by
    cases h; cases r
    exact ⟨_, Reads.none, by simp⟩
  | .bool b, _, _, h, r => by
    cases h; cases r
    exact ⟨_, Reads.bool b, by simp⟩
  | .int i, _, _, h, r => by
    cases h
    obtain ⟨t, rfl⟩ := r
    exact ⟨_, Reads.int i t, by simp⟩
  | .str x, _, _, h, r => by
    cases h
    obtain ⟨t, rfl⟩ := r
    exact ⟨_, Reads.str x t, by simp⟩
  | .list ds, _, _, h, r => by
    cases h with
    | lst h1 h2 =>
      cases r
      obtain ⟨_, its, n, rv, e⟩ := I.hok _ _ h1
      obtain ⟨as, hr, hm⟩ := De.readsAll I hs ds _ its h2 rv
      refine ⟨_, Reads.list (vs := its.toArray) e rfl rfl (by simpa using hr), fun z => ?_⟩
      rcases List.mem_cons.mp z with z | z
      · exact sm_free I hs h1 z
      · exact hm z
  | .tuple ds, _, _, h, r => by
    cases h with
    | tup h1 h2 =>
      cases r
      obtain ⟨its, rv, ⟨o, ho, hc, n, hd⟩, _⟩ := I.tuple h1
      obtain ⟨as, hr, hm⟩ := De.readsAll I hs ds _ its h2 rv
      exact ⟨_, Reads.tuple ho hc hd (by simpa using hr), hm⟩
  | .dict kvs, _, _, h, r => by
    cases h with
    | dct h1 =>
      cases r
      obtain ⟨_, _, vs, rel, o, es, ep, ho, hx, hd, _, hp, _⟩ := I.hok _ _ h1
      cases rel
      have e0 : es.toList = [] := by cases hp' : es.toList with
        | nil => rfl
        | cons x y => rw [hp'] at hp; cases hp
      refine ⟨_, Reads.dict (as := []) (bs := []) ho hx.1 hd (by rw [e0]; exact .nil) (by rw [e0]; exact .nil), fun z => ?_⟩
      rw [List.append_nil] at z
      exact sm_free I hs h1 (List.mem_singleton.mp z)
    | dctF h1 =>
      cases r
      obtain ⟨_, _, vs, rel, o, es, ep, ho, hx, hd, _, hp, _⟩ := (I.hok _ _ h1).2
      cases rel
      have e0 : es.toList = [] := by cases hp' : es.toList with
        | nil => rfl
        | cons x y => rw [hp'] at hp; cases hp
      refine ⟨_, Reads.dict (as := []) (bs := []) ho hx.1 hd (by rw [e0]; exact .nil) (by rw [e0]; exact .nil), fun z => ?_⟩
      rw [List.append_nil] at z
      exact sm_free I hs h1 (List.mem_singleton.mp z)
theorem De.readsAll (I : Inv X pins σ H s) (hs : SmB X.base) : ∀ (ds : List PyData) (vs : List V) (us : List Value), DeAll X.K H vs ds → Vals vs us → ∃ as, ReadsAll s.heap us ds as ∧ sysModules ∉ as
  | [], _, _, h, r => by
    cases h; cases r
    exact ⟨_, ReadsAll.nil, by simp⟩
  | d :: ds, _, _, h, r => by
    cases h with
    | cons h1 h2 =>
      cases r with
      | cons r1 r2 =>
        obtain ⟨as, q1, m1⟩ := De.reads I hs d _ _ h1 r1
        obtain ⟨bs, q2, m2⟩ := De.readsAll I hs ds _ _ h2 r2
        exact ⟨_, ReadsAll.cons q1 q2, fun z => (List.mem_append.mp z).elim m1 m2⟩
end
end
mutual
/-- plain data with empty dicts -/
def pe : D → Option PyData
  | .non => some .none
  | .bl b => some (.bool b)
  | .int i => some (.int i)
  | .str s => some (.str s)
  | .tup xs => (peL xs).map .tuple
  | .kt xs => (peL xs).map .tuple
  | .lst xs => (peL xs).map .list
  | .dct [] => some (.dict [])
  | _ => none
def peL : List D → Option (List PyData)
  | [] => some []
  | x :: xs => match pe x with
    | none => none
    | some p => (peL xs).map (p :: ·)
end
section
variable {K : PySem.W.Frag} {cl : Str → Addr} {c : Cz} {H : Hp} {σ : L2.St} {s : S} {T : List (D × V)} {F : Addr → Prop} {α : List Addr}
mutual
theorem Rep.de : ∀ {d : D} {v : V} {p : PyData}, Rep K cl H F α d v → pe d = some p → De K H v p
  | _, _, _, .non, e => by simp [pe] at e; subst e; exact .non
  | _, _, _, .bl, e => by simp [pe] at e; subst e; exact .bl _
  | _, _, _, .int, e => by simp [pe] at e; subst e; exact .int _
  | _, _, _, .str, e => by simp [pe] at e; subst e; exact .str _
  | _, _, _, .tup h r, e => by
    simp only [pe, Option.map_eq_some_iff] at e
    obtain ⟨ps, e1, rfl⟩ := e
    exact .tup h.1 (RepL.de r e1)
  | _, _, _, .kt h r, e => by
    simp only [pe, Option.map_eq_some_iff] at e
    obtain ⟨ps, e1, rfl⟩ := e
    exact .tup (SqT.of h) (RepL.de r e1)
  | _, _, _, .lst h _ r, e => by
    simp only [pe, Option.map_eq_some_iff] at e
    obtain ⟨ps, e1, rfl⟩ := e
    exact .lst h (RepL.de r e1)
  | _, _, _, .slst _ _ _, e => by simp [pe] at e
  | _, _, _, .slstK _ _, e => by simp [pe] at e
  | _, _, _, .dct (kvs := kvs) h _ r, e => by
    cases kvs with
    | nil =>
      simp [pe] at e; subst e
      cases r
      exact .dct h
    | cons _ _ => simp [pe] at e
  | _, _, _, .dcu _ _ _, e => by simp [pe] at e
  | _, _, _, .obj _ _ _, e => by simp [pe] at e
  | _, _, _, .xd _ _ _, e => by simp [pe] at e
  | _, _, _, .ptr _, e => by simp [pe] at e
  | _, _, _, .raw, e => by simp [pe] at e
  | _, _, _, .dctZ (kvs := kvs) h r, e => by
    cases kvs with
    | nil =>
      simp [pe] at e; subst e
      cases r
      exact .dctF h
    | cons _ _ => simp [pe] at e
  | _, _, _, .dcuZ _ _, e => by simp [pe] at e
  | _, _, _, .opq, e => by simp [pe] at e
  | _, _, _, .exn _ _ _ _ _ _ _, e => by simp [pe] at e
  | _, _, _, .exn0 _ _ _ _, e => by simp [pe] at e
theorem RepL.de : ∀ {d : List D} {v : List V} {p : List PyData}, RepL K cl H F α d v → peL d = some p → DeAll K H v p
  | _, _, _, .nil, e => by simp [peL] at e; subst e; exact .nil
  | _, _, _, .cons (d := d) h r, e => by
    simp only [peL] at e
    cases q : pe d with
    | none => rw [q] at e; simp at e
    | some p =>
      rw [q] at e
      simp only [Option.map_eq_some_iff] at e
      obtain ⟨ps, e1, rfl⟩ := e
      exact .cons (Rep.de h q) (RepL.de r e1)
end
theorem SIx.vDe {d : D} {v : V} {p : PyData} (h : SIx K cl c H σ s T F α) (r : Rep K cl H F α d v) (e : pe (DL.view s.M d) = some p) : De K H v p := by
  rcases h.view r with r | ⟨k, x, a, _, rfl, _, _, e2, rc⟩
  · exact r.de e
  · rw [e2] at e
    cases x with
    | lst ds =>
      simp only [C.dat, pe, Option.map_eq_some_iff] at e
      obtain ⟨ps, e1, rfl⟩ := e
      obtain ⟨vs, h1, h2⟩ := rc
      exact .lst h1 (RepL.de h2 e1)
    | dct kvs =>
      obtain ⟨vs, h1, h2⟩ := rc
      cases kvs with
      | nil =>
        simp [C.dat, pe] at e; subst e
        cases h2
        exact .dct h1
      | cons _ _ => simp [C.dat, pe] at e
    | dcu _ => simp [C.dat, pe] at e
    | obj _ _ => simp [C.dat, pe] at e
    | tbl _ _ _ _ => simp [C.dat, pe] at e
    | lck kvs =>
      obtain ⟨o, vs, h1, h2⟩ := rc
      cases kvs with
      | nil =>
        simp [C.dat, pe] at e; subst e
        cases h2
        exact .dctF h1
      | cons _ _ => simp [C.dat, pe] at e
    | lcu _ => simp [C.dat, pe] at e
end
section
variable {X : Cx} {cl : Str → Addr} {W : WX}
def sheOk : PyData → Bool
  | .list xs => (PyData.list xs).showable && (decide ((PyData.list xs).depth ≤ 60) && le1m (PyData.list xs).shown.length)
  | .tuple xs => (PyData.tuple xs).showable && (decide ((PyData.tuple xs).depth ≤ 60) && le1m (PyData.tuple xs).shown.length)
  | .dict [] => true
  | _ => false
def rReprE (K : PySem.W.Frag) : List V → Hp → VK → Prop := fun vs H Q => ∃ v p, vs = [v] ∧ De K H v p ∧ sheOk p = true ∧ Q (.str p.shown) H
theorem sheOk_out {p : PyData} (h : sheOk p = true) : p.showable = true ∧ p.depth ≤ 60 ∧ p.shown.length ≤ sizeLine ∧ ((∃ xs, p = .list xs) ∨ (∃ xs, p = .tuple xs) ∨ p = .dict []) := by
  cases p with
  | list xs =>
    simp only [sheOk, Bool.and_eq_true, decide_eq_true_eq] at h
    exact ⟨h.1, h.2.1, le1m_ok h.2.2, .inl ⟨_, rfl⟩⟩
  | tuple xs =>
    simp only [sheOk, Bool.and_eq_true, decide_eq_true_eq] at h
    exact ⟨h.1, h.2.1, le1m_ok h.2.2, .inr (.inl ⟨_, rfl⟩)⟩
  | dict kvs =>
    cases kvs with
    | nil => exact ⟨by decide, by decide, Nat.le_trans (by decide : (PyData.dict []).shown.length ≤ 1000000) (line1m (Nat.le_refl _)), .inr (.inr rfl)⟩
    | cons _ _ => simp [sheOk] at h
  | _ => simp [sheOk] at h
theorem cr_reprE (hm : SmB X.base) (hg : X.A.guards = some []) (hu : X.A.units + 64 < cLine) : CallR X (.builtin "repr") (rReprE X.K) := by
  intro pins s σ H vs us Q I r h
  obtain ⟨v, p, rfl, hd, hs, q⟩ := h
  obtain ⟨u, rfl, ru⟩ := r.one
  obtain ⟨h1, h3, h4, h5⟩ := sheOk_out hs
  obtain ⟨as, hr, hns⟩ := De.reads I hm p v u hd ru
  have : ∃ a, v = .ref a := by
    rcases h5 with ⟨xs, rfl⟩ | ⟨xs, rfl⟩ | rfl <;> cases hd <;> exact ⟨_, rfl⟩
  obtain ⟨a, rfl⟩ := this
  cases ru
  exact repr_of_reads' hr h1 (fun _ => hns) hg (by omega) (fun _ _ e => e) (fun h' u tk hk => ⟨.str _, H, I.kept hk, ⟨_, rfl⟩, q⟩) h4
def dReprE : D → Option D := fun d => match pe d with
  | some p => if sheOk p = true then some (.str p.shown) else none
  | none => none
theorem cd_reprE (hm : SmB X.base) (hg : X.A.guards = some []) (hu : X.A.units + 64 < cLine) : CD X cl (.builtin "repr") (g1 dReprE) := by
  refine CD.one (cr_reprE hm hg hu) fun c σ s T H F α d v z Q J hz k => ?_
  unfold dReprE at hz
  split at hz
  · rename_i p hp
    split at hz
    · rename_i hs
      cases hz
      exact ⟨v, p, rfl, J.vDe (J.tmp (d, v) (List.mem_cons_self ..)) hp, hs, k _ H (SI.flat rfl ⟨F, α, J⟩)⟩
    · cases hz
  · cases hz
def dReprZ : List D → Option D := orC dReprY (g1 dReprE)
theorem cd_reprZ (hm : SmB X.base) (hg : X.A.guards = some []) (hu : X.A.units + 64 < cLine) : CD X cl (.builtin "repr") dReprZ := (cd_reprY hg hu).or (cd_reprE hm hg hu)
@[simp] theorem dReprZ_bl (b : Bool) : dReprZ [.bl b] = some (.str (if b then "True" else "False")) := (rfl)
@[simp] theorem dReprZ_non : dReprZ [.non] = some (.str "None") := (rfl)
end
end DL

set_option pp.maxSteps 400
/-! DnN: the law, called, where sys.modules is known to stand; the head that looks at it. -/
namespace DL
open PySem L2
open PySem.Spec PyProof.Rows
theorem law_GS {P : Program} {w : World} {K : PySem.W.Frag} {cl : Str → Addr} {mg mb : Str → Option Value} {k : Nat} {fa a : Addr} {fd : FuncData} {x : Str} {sem : Sem} {s₁ : Shared} {vs : List Value} {ns : List Int}
    (KX : K.In s₁.heap) (hns : s₁.heap.Ns mainGlobals mg) (hb : s₁.heap.Ns builtinsNs mb) (hbb : ∀ x : Str, x ≠ "__name__" → mb x = bootBuiltins x) (hlim : s₁.heap.NoLimit) (hg : s₁.gens = #[])
    (ha : s₁.heap.get? a = some { cls := .type "list", data := .seq vs.toArray }) (hi : IntsAre vs ns) (hl : ns.length ≤ sizeLine) (hr : Room k callerA)
    (hsm : ∃ o, s₁.heap.get? sysModules = some o ∧ o.cls = .type "dict") (F : ∀ base : Heap, K.In base → base.Ns mainGlobals mg → SmB base → FnG P w K mg base cl k fa fd [x] sem) (hbind : ∀ (s : Shared) (u : Value), BindsTo s fd ⟨[u], []⟩ [(x, u)])
    (hsem : ∃ s', sem [] [.slst (ns.map .int)] = .ok (.bl true) s') :
    codeAny (model P w) callerA (.call (.ref fa) ⟨[.ref a], []⟩) (fun r s' => r = .ok (.ret (.bool true)) ∧ OldK s₁.heap s'.heap ∧ s'.os = s₁.os ∧ AllBare s'.gens) s₁ := by
  have rv := vals_ints hi
  have lenV := hi.length
  have core : ∀ H : Hp, Only H → SqL K H a (ns.map V.int) → HOk P w H s₁.heap → (∀ b, H b ≠ none → b = a) → (H a ≠ none → K.lookup a = none) →
      codeAny (model P w) callerA (.call (.ref fa) ⟨[.ref a], []⟩) (fun r s' => r = .ok (.ret (.bool true)) ∧ OldK s₁.heap s'.heap ∧ s'.os = s₁.os ∧ AllBare s'.gens) s₁ := by
    intro H hO hS hok hA hK
    have only : ∀ {b : Addr}, b ≠ a → H b = none := fun {b} nb => by
      cases q : H b with
      | none => rfl
      | some u => exact absurd (hA b (by rw [q]; simp)) nb
    have ofns : ∀ {b : Addr} {m : Str → Option Value}, s₁.heap.Ns b m → (hidT s₁.heap H).Ns b m := fun {b m} ⟨o, es, ep, e, d, r⟩ => by
      refine ⟨o, es, ep, hidT_get e (only fun q => ?_), d, r⟩
      subst q
      rw [ha] at e; cases e
      exact nomatch (show Data.seq vs.toArray _ = Data.dict es ep from d)
    have inK : K.In (hidT s₁.heap H) := fun b o e => hidT_get (KX b o e) (by
      by_cases q : H a = none
      · by_cases nb : b = a
        · rw [nb]; exact q
        · exact only nb
      · exact only fun nb => by rw [nb, hK q] at e; cases e)
    obtain ⟨mc, h1, h2⟩ := id hlim
    have sm1 : SmB (hidT s₁.heap H) := by
      obtain ⟨o, e, hc⟩ := hsm
      refine ⟨o, hidT_get e (only fun q => ?_)⟩
      rw [← q, e] at ha
      have hc' := congrArg Obj.cls (Option.some.inj ha)
      rw [hc] at hc'
      exact absurd (show Value.type "dict" = Value.type "list" from hc') (by decide)
    have e0 : Env0 P w K mg (hidT s₁.heap H) callerA [] s₁ H := ⟨rfl, ⟨inK, ofns hns, ⟨mb, ofns hb, hbb⟩, ⟨mc, ofns h1, h2⟩⟩, fun b o e => of_hidT e, Nat.le_of_eq (hidT_size _ _), trivial, fun b hb => absurd (show b ∈ ([] : List Addr) from hb) (by simp), hok, .of_eq hg⟩
    have promise : dsp K cl sem [.ref a] H (fun v _ => v = .bl true) (fun _ _ _ => False) := by
      obtain ⟨s2, e2⟩ := hsem
      have live : H a ≠ none → ∃ o, H a = some o := fun q => by
        cases z : H a with
        | none => exact absurd z q
        | some o => exact ⟨o, rfl⟩
      have rp : Rep K cl H (fun b => b = a ∧ H b ≠ none) [] (.slst (ns.map .int)) (.ref a) := by
        rcases hS with h | h
        · refine .slst h ⟨rfl, ?_⟩ (rep_ints ns)
          rcases h with h | ⟨o, h⟩ <;> rw [h] <;> simp
        · exact .slstK (fun H' => .inr h) (rep_ints ns)
      refine ⟨fun b => b = a ∧ H b ≠ none, [], [], [.slst (ns.map .int)], rfl, ?_, ?_⟩
      · exact ⟨fun i d e => by simp at e, rfl, fun q hq => by
          rw [List.mem_singleton.mp (show q ∈ [((D.slst (ns.map .int)), V.ref a)] from hq)]; exact rp, rfl, fun k x b e => by simp at e, List.nodup_nil, fun b hb => by simp at hb, fun b hb => by simp at hb, fun b hb => by
          obtain ⟨rfl, q⟩ := hb
          exact live q, fun b hb => .inr (.inl hb), fun k b e => by simp at e, fun b o e _ => e, fun _ _ e => e, fun _ _ _ e => e⟩
      · rw [e2]
        intro v H' I'
        obtain ⟨F', α', J'⟩ := I'
        cases J'.tmp (.bl true, v) (List.mem_cons_self ..)
        rfl
    refine codeAny_mono ((F _ inK (ofns hns) sm1).run callerA [] s₁ H ⟨[.ref a], []⟩ [.ref a] [.ref a] _ _ hr rfl e0 (hbind s₁ (.ref a)) (.cons rfl .nil) rfl promise) fun r s' h => ?_
    cases r with
    | error e =>
      obtain ⟨_, _, _, _, _, _, _, _, _, _, _, _, z⟩ := h
      exact z.elim
    | ok fl =>
      cases fl with
      | next => exact False.elim h
      | brk => exact False.elim h
      | cont => exact False.elim h
      | ret u =>
        obtain ⟨v, H', os, bare, un, hok', r', q⟩ := h
        have q' : v = .bl true := q
        subst q'
        obtain rfl : u = Value.bool true := r'
        refine ⟨rfl, OldK.of_keep fun b o e => ?_, os, bare⟩
        rcases hO b with z | ⟨ob, xs, z⟩
        · exact un.keep b o e z (by intro z; exact absurd (show b ∈ ([] : List Addr) from z) (by simp)) (by simp)
        · obtain ⟨e1, _⟩ := hok b _ z
          obtain ⟨e2, _⟩ := hok' b _ (un.frzs b ob _ z)
          rw [e] at e1; cases e1
          exact e2
  cases hk : K.lookup a with
  | some o =>
    have e := KX a o hk
    rw [ha] at e
    cases e
    exact core (fun _ => none) (fun _ => .inl rfl) (.inr ⟨_, vs.toArray, _, hk, rfl, rfl, rfl, by rw [List.size_toArray, lenV]; exact hl, by simpa using rv⟩) (fun b u z => by cases z) (fun b z => absurd rfl z) fun z => absurd rfl z
  | none =>
    obtain ⟨H, hH⟩ : ∃ H : Hp, H = fun b => if b = a then some (.frz { cls := .type "list", data := .seq vs.toArray } (.lst (ns.map V.int))) else none := ⟨_, rfl⟩
    have here : H a = some (.frz { cls := .type "list", data := .seq vs.toArray } (.lst (ns.map V.int))) := by rw [hH]; exact if_pos rfl
    have away : ∀ b, b ≠ a → H b = none := fun b nb => by rw [hH]; exact if_neg nb
    refine core H (fun b => ?_) (.inl (.inr ⟨_, here⟩)) (fun b u z => ?_) (fun b z => ?_) fun _ => hk
    · by_cases nb : b = a
      · subst nb; exact .inr ⟨_, _, here⟩
      · exact .inl (away b nb)
    · by_cases nb : b = a
      · subst nb
        rw [here] at z
        cases z
        exact ⟨ha, by rw [List.length_map]; exact hl, vs, _, rv, ha⟩
      · rw [away b nb] at z
        cases z
    · by_cases nb : b = a
      · exact nb
      · exact absurd (away b nb) z
theorem walk_GS {l : PySem.W.OpenLaw} {n k : Nat} {q : Program} {loose : List Str} {XP : (Str → Option Value) → Heap → Prop} {YP : World → Heap → Prop} {d : DefRec} {x : Str}
    (hn : l.most = some n) (hn2 : n ≤ sizeLine) (hdf : d.params.defaults = []) (hr : Room k callerA)
    (F : ∀ (w : World) (mg : Str → Option Value) (fa : Addr) (h : Heap), YP w h → h.Ns mainGlobals mg → mg d.name = some (.ref fa) →
      (∃ o, h.get? sysModules = some o ∧ o.cls = .type "dict") ∧ ∃ (K : PySem.W.Frag) (cl : Str → Addr) (fd : FuncData) (sem : Sem), K.In h ∧ (∀ (s : Shared) (u : Value), BindsTo s fd ⟨[u], []⟩ [(x, u)]) ∧
        (∀ ns : List Int, ns.length ≤ n → ∃ s', sem [] [.slst (ns.map .int)] = .ok (.bl true) s') ∧
        ∀ base : Heap, K.In base → base.Ns mainGlobals mg → SmB base → FnG l.prog w K mg base cl k fa fd [x] sem) :
    PySem.W.WalkO q loose XP YP l.row.toRowW d [] (fun f vs => PySem.call f vs) := by
  refine Att.attach_call hn hdf fun w s₀ s₁ mg mb fa o pm cd doc a vs ns G Y ho hd hcd hmg hobj hints hlen hg => ?_
  obtain ⟨hsm, K, cl, fd, sem, KX, hb, hsem, hF⟩ := F w mg fa _ Y G.T.g hmg
  exact law_GS KX G.T.g G.T.b G.T.builtins G.T.nolimit hg hobj hints (Nat.le_trans hlen hn2) hr hsm hF hb (hsem ns hlen)

/-! ### the head -/
def dictAt (g : Addr → Option Obj) : Bool := match g sysModules with
  | some o => (match o.cls with
    | .type n => n == "dict"
    | _ => false)
  | none => false
theorem dictAt_ok {g : Addr → Option Obj} (h : dictAt g = true) : ∃ o, g sysModules = some o ∧ o.cls = .type "dict" := by
  unfold dictAt at h
  split at h
  · rename_i o e
    split at h
    · rename_i n c
      exact ⟨o, e, by rw [c, eq_of_beq h]⟩
    · cases h
  · cases h
abbrev AlS : Type := AlB × Bool
def obsS (n : Nat) (fa : List He.Fa) (fn : List He.DefD) (fp : List He5.DefA) (ex : PySem.W.Frag → Bool) (g : Addr → Option Obj) : AlS := (obsB n fa fn fp ex g, dictAt g)
def hookS (n : Nat) (fa : List He.Fa) (fn : List He.DefD) (fp : List He5.DefA) (ex : PySem.W.Frag → Bool) : PySem.W.Hook where
  α := AlS
  obs := fun s => obsS n fa fn fp ex s.heap.get?
  val := fun w => ((hookB n fa fn fp ex).val w, true)
  says := fun w h => (∃ o, h.get? sysModules = some o ∧ o.cls = .type "dict") ∧ (hookB n fa fn fp ex).says w h
  of := fun w s e => ⟨dictAt_ok (congrArg Prod.snd e), (hookB n fa fn fp ex).of w s (congrArg Prod.fst e)⟩
  keeps := fun w h h' ⟨⟨o, e, c⟩, y⟩ k => ⟨⟨o, k _ _ e, c⟩, (hookB n fa fn fp ex).keeps w h h' y k⟩
theorem obsS_eq {n : Nat} {fa : List He.Fa} {fn : List He.DefD} {fp : List He5.DefA} {ex : PySem.W.Frag → Bool} {g : Addr → Option Obj} {s : Shared} (h : ∀ a, g a = s.heap.get? a) : obsS n fa fn fp ex g = (hookS n fa fn fp ex).obs s := by
  have e : g = s.heap.get? := funext h
  rw [e] <;> rfl
end DL

set_option pp.maxSteps 400
/-! DmF: a for loop in a generator's body. -/
namespace GenF
open PySem
section
variable {M : Model} {A : Around} {R : GenEnd} {Y : Protocol} {n : Nat} {s₀ : Shared} {c : Code} {fs : List Frame} {s : Shared} {env : Env}
  {K : Flow → Sem Fin} {H : Value → Sem Fin} {gd : Bool → Bool} {lv : List Value → List Value}
end
section
variable {prog : Program} {w : World} {A : Around} {R : GenEnd} {Y : Protocol} {n : Nat} {s₀ : Shared} {fs : List Frame} {s : Shared} {env : Env}
abbrev outE (env : Env) (e : Value) : Sem Fin := (do noteFrame e env; theTreesLotGoes e : Sem Unit).wrap (fun _ => .raise e) .raise id id
end
end GenF
namespace L2
open PySem PySem.Spec PyProof.Rows GenW
def tGFor (wi : TI) (g : TG) (tb : TGn) : TGn := fun D ys σ H => wi σ H fun J H1 => ∃ W : Nat → Nat → List V → St → Hp → Prop, (∃ m, W 0 m ys σ H1) ∧ ∀ i m ys σ H, W i m ys σ H →
  (J.stop i H ∧ D.nx ys σ H) ∨ (J.go i H ∧ ∃ N : List V → St → Hp → Prop, (∀ ys' σ' H', N ys' σ' H' → ∃ m', m' < m ∧ W (i + 1) m' ys' σ' H') ∧ ∀ x H', J.yld i H x H' → g x σ H' fun σ2 H2 => tb { D with nx := N, ct := N, bk := D.nx } ys σ2 H2)
end L2

set_option pp.maxSteps 400
/-! DnA: a generator whose consumer is a loop: while it sleeps some named objects may change. -/
namespace GV
open PySem PySem.Spec PyProof.Rows GenW L2
/-- a context with another entry -/
abbrev re (X : Cx) (s0 : Shared) : Cx := { X with s_0 := s0 }
/-- the objects at ch as they are in h' -/
def mix (h' : Heap) : List Addr → Heap → Heap
  | [], h => h
  | b :: r, h => mix h' r (match h'.get? b with
    | some o => h.update b fun _ => o
    | none => h)
theorem upd_size (h : Heap) (b : Addr) (f : Obj → Obj) : (h.update b f).objs.size = h.objs.size := by
  cases h
  simp [Heap.update]
theorem get_live {h : Heap} {b : Addr} {o : Obj} (e : h.get? b = some o) : o.isFreed = false := (Heap.get?_some_iff.mp e).2
theorem mix_size (h' : Heap) : ∀ (ch : List Addr) (h : Heap), (mix h' ch h).objs.size = h.objs.size
  | [], h => rfl
  | b :: r, h => by
    unfold mix
    rw [mix_size h' r]
    split
    · exact upd_size _ _ _
    · rfl
theorem mix_out (h' : Heap) {b : Addr} : ∀ (ch : List Addr) (h : Heap), b ∉ ch → (mix h' ch h).get? b = h.get? b
  | [], h, _ => rfl
  | c :: r, h, hb => by
    unfold mix
    rw [mix_out h' r _ fun z => hb (List.mem_cons_of_mem _ z)]
    split
    · exact Heap.get?_update_other _ _ fun z => hb (z ▸ List.mem_cons_self ..)
    · rfl
theorem mix_in (h' : Heap) {b : Addr} {o' : Obj} (e' : h'.get? b = some o') : ∀ (ch : List Addr) (h : Heap), b ∈ ch → (∃ o, h.get? b = some o) → (mix h' ch h).get? b = some o'
  | [], h, hb, _ => by cases hb
  | c :: r, h, hb, ⟨o, e⟩ => by
    unfold mix
    by_cases hc : b ∈ r
    · refine mix_in h' e' r _ hc ?_
      split
      · rename_i oc ec
        by_cases z : c = b
        · subst z
          exact ⟨oc, Heap.get?_update_self _ e (get_live ec)⟩
        · exact ⟨o, (Heap.get?_update_other _ _ z).trans e⟩
      · exact ⟨o, e⟩
    · have z : b = c := (List.mem_cons.mp hb).elim id fun z => absurd z hc
      subst z
      rw [mix_out h' r _ hc, e']
      exact Heap.get?_update_self _ e (get_live e')
/-- what the consumer does while the generator sleeps -/
structure Zz (ch : List Addr) (bs : Heap) (out : List Env) (s s' : Shared) : Prop where
  os : s'.os = s.os
  bare : AllBare s'.gens
  keep : ∀ b o, b ∉ ch → s.heap.get? b = some o → s'.heap.get? b = some o
  there : ∀ b ∈ ch, ∃ o, s'.heap.get? b = some o
  funs : s'.heap.FunFrames bs out
/-- what may change is unknown to the generator and older than its call -/
structure Far (X : Cx) (ch : List Addr) : Prop where
  lt : ∀ b ∈ ch, b < X.s_0.heap.objs.size
  unk : ∀ b ∈ ch, X.H_0 b = none
  nb : ∀ b ∈ ch, X.base.get? b = none
  ex : X.ex = []
  nox : ∀ e s, X.xe e s → False
  cells : ∀ x c, X.env.cells.lookup x = some c → c ∉ ch
/-- what the entry is taken to be: w: the state when it was woken -/
structure Ent (X : Cx) (ch : List Addr) (w s0 : Shared) : Prop where
  sz : s0.heap.objs.size = X.s_0.heap.objs.size
  out : ∀ b, b ∉ ch → s0.heap.get? b = X.s_0.heap.get? b
  at_ : ∀ b ∈ ch, ∃ o, s0.heap.get? b = some o ∧ w.heap.get? b = some o
  os : s0.os = X.s_0.os
def GI2 (X : Cx) (ch : List Addr) (w : Shared) (ip : List (Addr × Obj)) (σ : L2.St) (H : Hp) (s : Shared) : Prop :=
  ∃ s0 : Shared, Ent X ch w s0 ∧ Inv (re X s0) ip σ H s
theorem fun_mix {bs h h' : Heap} {ch : List Addr} (hc : ∀ b ∈ ch, ∃ o, h.get? b = some o) : ∀ {l : List Env}, h.FunFrames bs l → h'.FunFrames bs l → (mix h' ch h).FunFrames bs l
  | [], _, _ => trivial
  | env :: l, ⟨k, ⟨L, o, hf, hn, ho, hd⟩, hr⟩, ⟨_, ⟨L', o', hf', hn', ho', hd'⟩, hr'⟩ => by
    rw [hf] at hf'
    cases hf'
    refine ⟨k, ?_, fun_mix hc hr hr'⟩
    by_cases hb : L ∈ ch
    · exact ⟨L, o', hf, hn, mix_in h' ho' ch h hb (hc L hb), hd'⟩
    · exact ⟨L, o, hf, hn, (mix_out h' ch h hb).trans ho, hd⟩
theorem GI2.woken {X : Cx} {ch : List Addr} {ip : List (Addr × Obj)} {σ : L2.St} {H : Hp} {w s s' : Shared} (F : Far X ch) (hp : ∀ p ∈ X.pn ++ ip, p.1 ∉ ch) (h : GI2 X ch w ip σ H s) (z : Zz ch X.base X.outer s s') : GI2 X ch s' ip σ H s' := by
  obtain ⟨s0, En, I⟩ := h
  have sz := En.sz
  have old : ∀ b ∈ ch, ∃ o, s0.heap.get? b = some o := fun b hb => let ⟨o, e, _⟩ := En.at_ b hb; ⟨o, e⟩
  have hex : ∀ b, b ∉ X.ex := fun b hb => by rw [F.ex] at hb; cases hb
  have nL : ∀ b ∈ ch, b ≠ X.env.locals := fun b hb e => by
    have h1 : b < X.s_0.heap.objs.size := F.lt b hb
    have h2 : s0.heap.objs.size ≤ X.env.locals := I.ok.above
    rw [sz, ← e] at h2
    exact absurd (Nat.lt_of_lt_of_le h1 h2) (Nat.lt_irrefl _)
  have Hn : ∀ b ∈ ch, H b = none := fun b hb => by
    obtain ⟨o, e⟩ := old b hb
    exact I.base.free b o e (F.unk b hb) (hex b)
  have m1 : ∀ b o, b ∉ ch → s0.heap.get? b = some o → (mix s'.heap ch s0.heap).get? b = some o := fun b o hb e => (mix_out _ ch _ hb).trans e
  have m2 : ∀ b o, b ∉ ch → (mix s'.heap ch s0.heap).get? b = some o → s0.heap.get? b = some o := fun b o hb e => (mix_out _ ch _ hb).symm.trans e
  have m3 : ∀ b ∈ ch, ∀ o, (mix s'.heap ch s0.heap).get? b = some o → s'.heap.get? b = some o := fun b hb o e => by
    obtain ⟨o', e'⟩ := z.there b hb
    have := mix_in s'.heap e' ch s0.heap hb (old b hb)
    rw [this] at e; cases e
    exact e'
  have m4 : ∀ b o, (mix s'.heap ch s0.heap).get? b = some o → ∃ o', s0.heap.get? b = some o' := fun b o e => by
    by_cases hb : b ∈ ch
    · exact old b hb
    · exact ⟨o, m2 b o hb e⟩
  have szz : (mix s'.heap ch s0.heap).objs.size = s0.heap.objs.size := mix_size _ ch _
  have cells : ∀ x c v, X.env.cells.lookup x = some c → s.heap.IsCell c v → s'.heap.IsCell c v := fun x c v hx ⟨o, ho, hd⟩ => ⟨o, z.keep c o (F.cells x c hx) ho, hd⟩
  have known : ∀ b u, H b = some u → b ∉ ch := fun b u e hb => by rw [Hn b hb] at e; cases e
  refine ⟨{ s0 with heap := mix s'.heap ch s0.heap }, ⟨szz.trans sz, fun b hb => (mix_out _ ch _ hb).trans (En.out b hb), fun b hb => ?_, En.os⟩, ?_⟩
  · obtain ⟨o', e'⟩ := z.there b hb
    exact ⟨o', mix_in s'.heap e' ch s0.heap hb (old b hb), e'⟩
  have ok := I.ok
  obtain ⟨m, hn, hl⟩ := I.loc
  have hn : s.heap.Ns X.env.locals m := hn
  have hn' : s'.heap.Ns X.env.locals m := by
    obtain ⟨o, es, ep, ho, r⟩ := hn
    exact ⟨o, es, ep, z.keep _ o (fun hb => nL _ hb rfl) ho, r⟩
  refine { ok := ?_, os := z.os.trans I.os, bare := z.bare, base := ?_, loc := ⟨m, hn', fun i x v e1 e2 e3 => ?_⟩, cell := fun x c e => ?_, free := I.free, freeC := I.freeC, pin := fun p q => ?_, hok := fun b u e => ?_, len := I.len }
  · exact { ok with
      above := by
        show (mix s'.heap ch s0.heap).objs.size ≤ X.env.locals
        rw [szz]; exact ok.above
      cab := fun x c h1 h2 => by
        show (mix s'.heap ch s0.heap).objs.size ≤ c
        rw [szz]; exact ok.cab x c h1 h2
      bs := fun b o e => ⟨m1 b o (fun hb => by
        have := F.nb b hb
        have e : X.base.get? b = some o := e
        rw [this] at e; cases e) (ok.bs b o e).1, (ok.bs b o e).2⟩
      bsz := by
        show X.base.objs.size ≤ (mix s'.heap ch s0.heap).objs.size
        rw [szz]; exact ok.bsz
      funs := fun_mix old ok.funs z.funs }
  · refine ⟨fun b o e n hb hx => ?_, fun b o e n hb hx => ?_, fun b o e n hx => ?_, fun b o e hx => ?_, I.base.tups, I.base.frzs, I.base.tbls⟩
    · by_cases hc : b ∈ ch
      · exact m3 b hc o e
      · exact z.keep b o hc (I.base.keep b o (m2 b o hc e) n hb hx)
    · by_cases hc : b ∈ ch
      · exact ⟨o.slots, m3 b hc o e⟩
      · obtain ⟨sl, q⟩ := I.base.slot b o (m2 b o hc e) n hb hx
        exact ⟨sl, z.keep b _ hc q⟩
    · obtain ⟨o', e'⟩ := m4 b o e
      exact I.base.free b o' e' n hx
    · by_cases hc : b ∈ ch
      · exact z.there b hc
      · obtain ⟨o', q⟩ := I.base.there b o (m2 b o hc e) hx
        exact ⟨o', z.keep b o' hc q⟩
  · obtain ⟨u, r, l⟩ := hl i x v e1 e2 e3
    refine ⟨u, r, ?_⟩
    rcases l with l | ⟨k, c, e, q⟩
    · exact .inl l
    · exact .inr ⟨k, c, e, cells x c _ e q⟩
  · obtain ⟨v, q⟩ := I.cell x c e
    exact ⟨v, cells x c v e q⟩
  · obtain ⟨e1, e2⟩ := I.pin p q
    exact ⟨z.keep p.1 p.2 (hp p q) e1, e2⟩
  · refine (I.hok b u e).stay (fun c v hc q => z.keep c v ?_ q) (fun _ q => q) fun _ _ q => q
    rcases hc with rfl | hc
    · exact known _ _ e
    · exact known _ _ hc
/-! ### the protocol -/
structure GE where
  nx : List V → L2.St → Hp → Prop
  rt : List V → VK
  bk : List V → L2.St → Hp → Prop := fun _ _ _ => False
  ct : List V → L2.St → Hp → Prop := fun _ _ _ => False
  py : List V → V → Hp → Prop
  lim : Nat
abbrev TGn := GE → List V → L2.St → Hp → Prop
def GE.flat (D : GE) (ys : List V) : Ends := { nx := D.nx ys, rt := D.rt ys, bk := D.bk ys, ct := D.ct ys }
def YP (X : Cx) (ch : List Addr) (N : Nat) (py : List V → V → Hp → Prop) : Protocol := fun n w v s kap =>
  ∃ ys x ip σ H, n + 1 + ys.length = N ∧ RelV x v ∧ GI2 X ch w ip σ H s ∧ py ys x H ∧ (∀ p ∈ X.pn ++ ip, p.1 ∉ ch) ∧ ∀ s', Zz ch X.base X.outer s s' → kap (.send .none) s'
def FlowAt (X : Cx) (ch : List Addr) (w : Shared) (ip : List (Addr × Obj)) (D : GE) (ys : List V) (f : Flow) (s : Shared) : Prop := match f with
  | .next => ∃ σ H, GI2 X ch w ip σ H s ∧ D.nx ys σ H
  | .brk => ∃ σ H, GI2 X ch w ip σ H s ∧ D.bk ys σ H
  | .cont => ∃ σ H, GI2 X ch w ip σ H s ∧ D.ct ys σ H
  | .ret u => ∃ v σ H, GI2 X ch w ip σ H s ∧ RelV v u ∧ D.rt ys v H
structure At (X : Cx) (ch : List Addr) (ip : List (Addr × Obj)) (A : Around) (c : Code) (fs : List Frame) (gd : Bool → Bool) : Prop where
  far : Far X ch
  apart : ∀ p ∈ X.pn ++ ip, p.1 ∉ ch
  around : A.over c fs = X.A
  nosplit : splitAtGen fs = none
  unguarded : fs.any Frame.guarded = false
  gd0 : gd false = false
def Then (X : Cx) (ch : List Addr) (ip : List (Addr × Obj)) (A : Around) (R : GenEnd) (c : Code) (fs : List Frame) (K : Flow → PySem.Sem PySem.Fin) (D : GE) : Prop :=
  ∀ (n : Nat) (ys : List V) (s₀ s : Shared) (f : Flow), n + ys.length = D.lim → FlowAt X ch s₀ ip D ys f s → Seg (model X.prog X.w) A R (YP X ch D.lim D.py) n s₀ c (K f) fs s
/-- a statement of the generator's body -/
structure GT (X : Cx) (ch : List Addr) (st : Stmt) (t : TGn) : Prop where
  go : ∀ (A : Around) (ip : List (Addr × Obj)) (R : GenEnd) (n : Nat) (ys : List V) (s₀ : Shared) (c : Code) (fs : List Frame) (K : Flow → PySem.Sem PySem.Fin) (J : Value → PySem.Sem PySem.Fin) (gd : Bool → Bool) (lv : List Value → List Value) (s : Shared) (σ : L2.St) (H : Hp) (D : GE),
    At X ch ip A c fs gd → n + ys.length = D.lim → Then X ch ip A R c fs K D → GI2 X ch s₀ ip σ H s → t D ys σ H → Seg (model X.prog X.w) A R (YP X ch D.lim D.py) n s₀ c ((exec st X.env).wrap K J gd lv) fs s
structure GTs (X : Cx) (ch : List Addr) (sts : List Stmt) (t : TGn) : Prop where
  go : ∀ (A : Around) (ip : List (Addr × Obj)) (R : GenEnd) (n : Nat) (ys : List V) (s₀ : Shared) (c : Code) (fs : List Frame) (K : Flow → PySem.Sem PySem.Fin) (J : Value → PySem.Sem PySem.Fin) (gd : Bool → Bool) (lv : List Value → List Value) (s : Shared) (σ : L2.St) (H : Hp) (D : GE),
    At X ch ip A c fs gd → n + ys.length = D.lim → Then X ch ip A R c fs K D → GI2 X ch s₀ ip σ H s → t D ys σ H → Seg (model X.prog X.w) A R (YP X ch D.lim D.py) n s₀ c ((execs sts X.env).wrap K J gd lv) fs s
section
variable {X : Cx} {ch : List Addr} {st : Stmt} {rest : List Stmt}
/-- statements that hand out nothing -/
def tFlat (t : Shared → TS) : TGn := fun D ys σ H => ∀ s0, t s0 (D.flat ys) σ H
def tDone : TGn := fun D ys σ H => D.nx ys σ H
def tAnd (t u : TGn) : TGn := fun D ys σ H => t { D with nx := fun zs σ' H' => u D zs σ' H' } ys σ H
/-- yield -/
def tOut (te : Shared → TE) : TGn := fun D ys σ H => ys.length < D.lim ∧ ∀ s0, te s0 σ H fun x H1 => D.py ys x H1 ∧ D.nx (ys ++ [x]) σ H1
end
end GV

set_option pp.maxSteps 400
/-! DnB: a for in such a generator's body. -/
namespace GV
open PySem PySem.Spec PyProof.Rows GenW L2
theorem At.loop {X : Cx} {ch : List Addr} {ip : List (Addr × Obj)} {A : Around} {c c' : Code} {fs : List Frame} {gd : Bool → Bool} {k : Result → PySem.Sem PySem.Fin} {l kp : List Value} {p : Pos} (a : At X ch ip A c fs gd) (hw : c'.weight = 0) (hu : c'.cUnits = 0) :
    At X ch ip A c' (.ret k none (gd false) l c p kp :: fs) id := by
  refine ⟨a.far, a.apart, (over_loop hw hu).trans a.around, ?_, ?_, rfl⟩
  · have e : splitAtGen (.ret k none (gd false) l c p kp :: fs) = (splitAtGen fs).map (fun q => (.ret k none (gd false) l c p kp :: q.1, q.2)) := rfl
    rw [e, a.nosplit]; rfl
  · have e : (Frame.ret k none (gd false) l c p kp :: fs).any Frame.guarded = (gd false || fs.any Frame.guarded) := rfl
    rw [e, a.gd0, a.unguarded]; rfl
def tWalk (wi : Shared → TI) (g : Shared → TG) (tb : TGn) : TGn := fun D ys σ H => ∀ s0, wi s0 σ H fun J H1 => ∃ W : Nat → Nat → List V → L2.St → Hp → Prop, (∃ m, W 0 m ys σ H1) ∧ ∀ i m ys σ H, W i m ys σ H →
  (J.stop i H ∧ D.nx ys σ H) ∨ (J.go i H ∧ ∃ N : List V → L2.St → Hp → Prop, (∀ zs σ' H', N zs σ' H' → ∃ m', m' < m ∧ W (i + 1) m' zs σ' H') ∧ ∀ x H', J.yld i H x H' → ∀ s1, g s1 x σ H' fun σ2 H2 => tb { D with nx := N, ct := N, bk := D.nx } ys σ2 H2)
end GV

set_option pp.maxSteps 400
/-! DnC: the call of a generator def: an object that has not begun. -/
namespace GV
open PySem PySem.Spec PyProof.Rows GenW L2
/-- the body's context: nothing is raised -/
abbrev gx (P : Program) (w : World) (K : PySem.W.Frag) (mg : Str → Option Value) (base : Heap) (N : List Str) (qual : Str) (scope : Scope) (f : Addr) (cd : Value) (A : Around) (outer : List Env) (s : Shared) (H : Hp) (pn : List (Addr × Obj)) : Cx :=
  { gcxOf P w K mg base N qual scope f cd A outer s H (fun _ _ _ => False) [] with pn := pn, xe := fun _ _ => False }
/-- a generator that has not begun -/
structure Born (P : Program) (w : World) (K : PySem.W.Frag) (mg : Str → Option Value) (base : Heap) (N : List Str) (qual : Str) (scope : Scope) (body : List Stmt) (f : Addr) (cd : Value) (outer : List Env) (s : Shared) (H : Hp) (vs : List V) (a : Addr) (g : Nat) (s' : Shared) : Prop where
  young : s.heap.objs.size ≤ a
  gen : s'.heap.IsGen a g
  at_ : s'.gens[g]? = some (.fresh (.func body (envOfC qual scope s.heap.objs.size f cd)))
  os : s'.os = s.os
  bare : AllBare s'.gens
  lim : s'.heap.NoLimit
  keep : ∀ b o, s.heap.get? b = some o → s'.heap.get? b = some o
  wake : ∀ Aw : Around, Aw.handled = none → Aw.frames = some outer → ∃ go nm qn, go.cls = .type "generator" ∧ go.data = .fields #[.int g 0, nm, qn] ∧ go.slots = #[] ∧
    ∀ s2 : Shared, (∀ b o, s'.heap.get? b = some o → s2.heap.get? b = some o) → s2.os = s.os → AllBare s2.gens → Inv (gx P w K mg base N qual scope f cd Aw outer s H [(a, go)]) [] (start N vs) H s2
end GV

set_option pp.maxSteps 400
/-! DnD: the consumer's turn, raw: three names are stored, an item is put behind a list that a dict holds. -/
namespace GV
open PySem PySem.Spec PyProof.Rows GenW L2
abbrev setN (m : Str → Option Value) (x : Str) (v : Value) : Str → Option Value := fun y => if y = x then some v else m y
/-- what the turn leaves -/
structure Turned (L l : Addr) (m : Str → Option Value) (items : Array Value) (s s' : Shared) : Prop where
  gens : s'.gens = s.gens
  os : s'.os = s.os
  ns : s'.heap.Ns L m
  keep : ∀ b o, b ≠ L → b ≠ l → s.heap.get? b = some o → s'.heap.get? b = some o
  list : ∃ n, s'.heap.get? l = some { cls := .type "list", dict := none, data := .seq items n, slots := #[] }
section
variable {prog : Program} {w : World} {A : Around} {E : Value → Shared → Prop} {s : Shared} {env : Env}
end
end GV

set_option pp.maxSteps 400
/-! DnE: a generator def that hands out (number, text, text): its promise to a loop. -/
namespace GV
open PySem PySem.Spec PyProof.Rows GenW L2
abbrev Z3 := List (Int × Str × Str)
/-- arguments, known objects, what is handed out, what is wanted of the known objects at the end -/
abbrev SpZ := List V → Hp → Z3 → (Hp → Prop) → Prop
/-- the run's heap: at ch it took over what the consumer left, else it is the call's -/
structure MU (s : Shared) (fs : List Addr) (H H' : Hp) (ch : List Addr) (w s1 : Shared) : Prop where
  ex : ∃ h0 : Heap, (∀ b, b ∉ ch → h0.get? b = s.heap.get? b) ∧ (∀ b ∈ ch, ∃ o, h0.get? b = some o ∧ w.heap.get? b = some o) ∧ Un fs [] H H' h0 s1.heap
section
variable (P : Program) (w : World) (base : Heap) (outer : List Env) (s : Shared) (H : Hp) (ch : List Addr) (a : Addr) (g : Nat) (zs : Z3) (Q : Hp → Prop)
def FZ (n : Nat) (q s1 : Shared) : Prop := n = 0 ∧ ∃ H', s1.os = s.os ∧ AllBare s1.gens ∧ MU s (frs outer) H H' ch q s1 ∧ HOk P w H' s1.heap ∧ Q H'
def RZ : GenEnd := fun n q r s1 => ((r = .ok (.ret .none) ∨ r = .ok .next) ∧ FZ P w outer s H ch Q n q s1) ∨ ∃ e, r = .error e ∧ False
def YZ : Protocol := fun n q v s1 kap => ∃ j i p t ta vI vP vT H', n + 1 + j = zs.length ∧ zs[j]? = some (i, p, t) ∧ v = .ref ta ∧ IsTup s1.heap ta #[vI, vP, vT] ∧ RelV (.int i) vI ∧ RelV (.str p) vP ∧ RelV (.str t) vT ∧ ta ∉ ch ∧
  s1.os = s.os ∧ AllBare s1.gens ∧ s1.heap.IsGen a g ∧ s1.heap.NoLimit ∧ MU s (frs outer) H H' ch q s1 ∧ ∀ s', Zz ch base outer s1 s' → kap (.send .none) s'
end
/-- what may change stood at the call, unknown -/
def ChOk (s : Shared) (H : Hp) (base : Heap) (ch : List Addr) : Prop := ∀ b ∈ ch, (∃ o, s.heap.get? b = some o) ∧ H b = none ∧ base.get? b = none
structure GenOk (P : Program) (w : World) (K : PySem.W.Frag) (mg : Str → Option Value) (base : Heap) (k : Nat) (f : Addr) (fd : FuncData) (ps : List Str) (sp : SpZ) : Prop where
  run : ∀ (A : Around) (outer : List Env) (s : Shared) (H : Hp) (args : Args) (us : List Value) (vs : List V), Room (k + 1) A → Env0 P w K mg base A outer s H → BindsTo s fd args (ps.zip us) → Vals vs us → vs.length = ps.length →
    codeAny (model P w) A (.call (.ref f) args) (fun r s' => match r with
      | .ok (.ret u) => ∃ (a : Addr) (g : Nat) (c : Code), u = .ref a ∧ s.heap.objs.size ≤ a ∧ s'.heap.IsGen a g ∧ s'.gens[g]? = some (.fresh c) ∧ s'.os = s.os ∧ AllBare s'.gens ∧ s'.heap.NoLimit ∧ (∀ b o, s.heap.get? b = some o → s'.heap.get? b = some o) ∧
        ∀ (Aw : Around) (zs : Z3) (Q : Hp → Prop) (ch : List Addr) (s2 : Shared), Room (k + 1) Aw → Aw.guards = some [] → Aw.frames = some outer → ChOk s H base ch → (∀ b o, s'.heap.get? b = some o → s2.heap.get? b = some o) → s2.os = s.os → AllBare s2.gens → sp vs H zs Q →
          Seg (model P w) Aw (RZ P w outer s H ch Q) (YZ base outer s H ch a g zs) zs.length s2 c ((model P w).den c) [] s2
      | _ => False) s
/-- what the body is asked for -/
def geZ (K : PySem.W.Frag) (zs : Z3) (Q : Hp → Prop) : GE where
  nx := fun ys _ H => ys.length = zs.length ∧ Q H
  rt := fun _ _ _ => False
  py := fun ys x H => ∃ i p t a, zs[ys.length]? = some (i, p, t) ∧ x = .ref a ∧ SqT K H a [.int i, .str p, .str t]
  lim := zs.length
end GV

set_option pp.maxSteps 400
/-! DnF: the consumer: what its loop keeps. -/
namespace GV
open PySem PySem.Spec PyProof.Rows GenW L2
/-- the items that go to a side -/
def side (c : Str) (zs : Z3) : List V := (zs.filter fun z => decide (z.2.1 = c)).map fun z => .str z.2.2
/-- names and places -/
structure Nm where
  nI : Str
  nP : Str
  nT : Str
  nF : Str
  iI : Nat
  iP : Nat
  iT : Nat
  iF : Nat
structure NmOk (X : Cx) (d : Nm) : Prop where
  kI : X.env.kindOf d.nI = some .local
  kP : X.env.kindOf d.nP = some .local
  kT : X.env.kindOf d.nT = some .local
  kF : X.env.kindOf d.nF = some .local
  aI : X.N[d.iI]? = some d.nI
  aP : X.N[d.iP]? = some d.nP
  aT : X.N[d.iT]? = some d.nT
  aF : X.N[d.iF]? = some d.nF
  nd : X.N.Nodup
  ne : (d.nF ≠ d.nI ∧ d.nF ≠ d.nP ∧ d.nF ≠ d.nT ∧ d.nP ≠ d.nT) ∧ d.nI ≠ d.nP ∧ d.nI ≠ d.nT
  dI : (d.nI == ("__debug__" : Str)) = false
  dP : (d.nP == ("__debug__" : Str)) = false
  dT : (d.nT == ("__debug__" : Str)) = false
  dF : (d.nF == ("__debug__" : Str)) = false
  stk : X.stack = X.env :: X.outer
  fr : X.env.frame = some X.env.locals
  cells : X.env.cells = []
  calm : X.calm = true
def LocF (X : Cx) (d : Nm) (σ : L2.St) (m : Str → Option Value) : Prop := ∀ (i : Nat) (x : Str) (v : V), i ≠ d.iI → i ≠ d.iP → i ≠ d.iT → X.N[i]? = some x → σ[i]? = some (some v) → Vis X.env.scope x → ∃ u, RelV v u ∧ X.env.kindOf x = some .local ∧ m x = some u
def LocA (X : Cx) (σ : L2.St) (m : Str → Option Value) : Prop := ∀ (i : Nat) (x : Str) (v : V), X.N[i]? = some x → σ[i]? = some (some v) → Vis X.env.scope x → ∃ u, RelV v u ∧ X.env.kindOf x = some .local ∧ m x = some u
def LocZ (X : Cx) (d : Nm) (σ : L2.St) (m : Str → Option Value) : Option (Int × Str × Str) → Prop
  | none => LocA X σ m
  | some (i, p, t) => ∃ u1 u2 u3, RelV (.int i) u1 ∧ RelV (.str p) u2 ∧ RelV (.str t) u3 ∧ m d.nI = some u1 ∧ m d.nP = some u2 ∧ m d.nT = some u3
/-- the names behind the loop -/
def sgm (d : Nm) (σ : L2.St) : Option (Int × Str × Str) → L2.St
  | none => σ
  | some (i, p, t) => ((σ.set d.iI (some (.int i))).set d.iP (some (.str p))).set d.iT (some (.str t))
abbrev lstAt (h : Heap) (a : Addr) (xs : List V) : Prop := ∃ (its : List Value) (n : Nat), Vals xs its ∧ h.get? a = some { cls := .type "list", dict := none, data := .seq its.toArray n, slots := #[] }
structure HF (X : Cx) (d : Nm) (σ : L2.St) (s : Shared) (fd la lb : Addr) (xa xb : List V) (z : Option (Int × Str × Str)) (h : Heap) : Prop where
  ns : ∃ m, h.Ns X.env.locals m ∧ m d.nF = some (.ref fd) ∧ LocF X d σ m ∧ LocZ X d σ m z
  la : lstAt h la xa
  lb : lstAt h lb xb
  fd : ∀ o, s.heap.get? fd = some o → h.get? fd = some o
  fs : ∀ b ∈ X.fs, ∀ o, s.heap.get? b = some o → ∃ sl, h.get? b = some { o with slots := sl }
section
variable {X : Cx} {d : Nm} {σ : L2.St} {s : Shared} {fd la lb : Addr} {xa xb : List V} {z : Option (Int × Str × Str)} {h h' : Heap}
theorem ns_slots {a : Addr} {m : Str → Option Value} (n : h.Ns a m) (k : ∀ o, h.get? a = some o → ∃ sl, h'.get? a = some { o with slots := sl }) : h'.Ns a m := by
  obtain ⟨o, es, ep, ho, hd, r⟩ := n
  obtain ⟨sl, e⟩ := k o ho
  exact ⟨_, es, ep, e, hd, r⟩
theorem HF.keeps (x : HF X d σ s fd la lb xa xb z h) (k : ∀ b o, h.get? b = some o → h'.get? b = some o) : HF X d σ s fd la lb xa xb z h' := by
  obtain ⟨⟨m, n, r⟩, ⟨i1, n1, r1, e1⟩, ⟨i2, n2, r2, e2⟩, f, g⟩ := x
  refine ⟨⟨m, ns_slots n fun o e => ⟨o.slots, k _ _ e⟩, r⟩, ⟨i1, n1, r1, k _ _ e1⟩, ⟨i2, n2, r2, k _ _ e2⟩, fun o e => k _ _ (f o e), fun b hb o e => ?_⟩
  obtain ⟨sl, q⟩ := g b hb o e
  exact ⟨sl, k _ _ q⟩
/-- known objects, some hidden -/
def hide (H : Hp) (ds : List Addr) : Hp := fun b => if b ∈ ds then none else H b
theorem hide_in {H : Hp} {ds : List Addr} {b : Addr} (hb : b ∈ ds) : hide H ds b = none := if_pos hb
theorem hide_out {H : Hp} {ds : List Addr} {b : Addr} (hb : b ∉ ds) : hide H ds b = H b := if_neg hb
theorem hide_none {H : Hp} {ds : List Addr} {b : Addr} (e : H b = none) : hide H ds b = none := by
  unfold hide; split
  · rfl
  · exact e
theorem hide_some {H : Hp} {ds : List Addr} {b : Addr} {o : HO} (e : hide H ds b = some o) : b ∉ ds ∧ H b = some o := by
  unfold hide at e
  split at e
  · cases e
  · rename_i h; exact ⟨h, e⟩
/-- the three objects of the consumer -/
structure Own (H : Hp) (fd la lb : Addr) (kvs : List (Key × V)) (xa xb : List V) : Prop where
  eF : H fd = some (.dK kvs)
  eA : H la = some (.lst xa)
  eB : H lb = some (.lst xb)
  ne : la ≠ lb
theorem Own.fa {H : Hp} {kvs : List (Key × V)} (o : Own H fd la lb kvs xa xb) : fd ≠ la := ne_of o.eF o.eA (by intro h; cases h)
theorem Own.fb {H : Hp} {kvs : List (Key × V)} (o : Own H fd la lb kvs xa xb) : fd ≠ lb := ne_of o.eF o.eB (by intro h; cases h)
variable {P : Program} {w : World} {H : Hp} {kvs : List (Key × V)} {ya yb : List V}
theorem Own.hok (o : Own H fd la lb kvs xa xb) {hp : Heap} (ok : HOk P w H hp) : HOk P w (hide H [fd, la, lb]) hp := fun b u e => by
  obtain ⟨_, e⟩ := hide_some e
  refine (ok b u e).stay (fun _ _ _ q => q) (fun c q => ?_) fun c xs q => ?_
  · rw [hide_out]
    · exact q
    · intro hm
      simp only [List.mem_cons, List.mem_singleton, List.not_mem_nil, or_false] at hm
      rcases hm with rfl | rfl | rfl
      · rw [o.eF] at q; cases q
      · rw [o.eA] at q; cases q
      · rw [o.eB] at q; cases q
  · rw [hide_out]
    · exact q
    · intro hm
      simp only [List.mem_cons, List.mem_singleton, List.not_mem_nil, or_false] at hm
      rcases hm with rfl | rfl | rfl
      · rw [o.eF] at q; cases q
      · rw [o.eA] at q; cases q
      · rw [o.eB] at q; cases q
theorem Own.env0 {pins : List (Addr × Obj)} (o : Own H fd la lb kvs xa xb) (I : Inv X pins σ H s) : Env0 X.prog X.w X.K X.mg X.base X.A X.stack s (hide H [fd, la, lb]) := by
  have e := I.env0
  exact ⟨e.frames, e.mod, fun b u q => ⟨(e.bs b u q).1, hide_none (e.bs b u q).2⟩, e.bsz, e.funs, fun b hb => hide_none (e.frf b hb), o.hok e.hok, e.bare⟩
theorem Own.nL {pins : List (Addr × Obj)} (o : Own H fd la lb kvs xa xb) (I : Inv X pins σ H s) : fd ≠ X.env.locals ∧ la ≠ X.env.locals ∧ lb ≠ X.env.locals :=
  ⟨ne_of_none o.eF I.free, ne_of_none o.eA I.free, ne_of_none o.eB I.free⟩
theorem Own.nS {pins : List (Addr × Obj)} (o : Own H fd la lb kvs xa xb) (I : Inv X pins σ H s) : fd ∉ frs X.stack ∧ la ∉ frs X.stack ∧ lb ∉ frs X.stack :=
  ⟨fun h => (by have e := I.stkFree _ h; rw [o.eF] at e; cases e), fun h => (by have e := I.stkFree _ h; rw [o.eA] at e; cases e), fun h => (by have e := I.stkFree _ h; rw [o.eB] at e; cases e)⟩
theorem L_in (N : NmOk X d) : X.env.locals ∈ frs X.stack := by
  rw [N.stk]
  unfold frs
  rw [List.filterMap_cons, N.fr]
  exact List.mem_cons_self ..
theorem fs_in (N : NmOk X d) {b : Addr} (hb : b ∈ X.fs) : b ∈ frs X.stack := by
  rw [N.stk]
  unfold frs
  rw [List.filterMap_cons, N.fr]
  exact List.mem_cons_of_mem _ hb
theorem L_nofs {pins : List (Addr × Obj)} (I : Inv X pins σ H s) : X.env.locals ∉ X.fs := fun hb => by
  obtain ⟨_, o, ho, _⟩ := I.ok.funs.mem hb
  exact absurd (Nat.lt_of_lt_of_le (Heap.lt_size ho) I.ok.above) (Nat.lt_irrefl _)
abbrev chOf (X : Cx) (la lb : Addr) : List Addr := [X.env.locals, la, lb]
theorem not_ch {b : Addr} (h1 : b ≠ X.env.locals) (h2 : b ≠ la) (h3 : b ≠ lb) : b ∉ chOf X la lb := by
  simp [h1, h2, h3]
/-- the generator's run lets it stand -/
theorem HF.run {pins : List (Addr × Obj)} (N : NmOk X d) (I : Inv X pins σ H s) (o : Own H fd la lb kvs xa xb) {q s1 : Shared} {H' : Hp} (x : HF X d σ s fd la lb ya yb z q.heap)
    (u : MU s (frs X.stack) (hide H [fd, la, lb]) H' (chOf X la lb) q s1) : HF X d σ s fd la lb ya yb z s1.heap := by
  obtain ⟨h0, out, at_, un⟩ := u
  obtain ⟨nf, na, nb⟩ := o.nS I
  obtain ⟨lf, lla, llb⟩ := o.nL I
  have same : ∀ b ∈ chOf X la lb, ∀ ob, q.heap.get? b = some ob → h0.get? b = some ob := fun b hb ob e => by
    obtain ⟨o', e1, e2⟩ := at_ b hb
    rw [e] at e2; cases e2
    exact e1
  obtain ⟨⟨m, n, r⟩, ⟨i1, n1, r1, e1⟩, ⟨i2, n2, r2, e2⟩, f, g⟩ := x
  refine ⟨⟨m, ns_slots n fun ob e => ?_, r⟩, ⟨i1, n1, r1, ?_⟩, ⟨i2, n2, r2, ?_⟩, fun ob e => ?_, fun b hb ob e => ?_⟩
  · exact un.slot _ ob (same _ (by simp) ob e) (hide_none I.free) (L_in N) (by simp)
  · exact un.keep _ _ (same _ (by simp) _ e1) (hide_in (by simp)) na (by simp)
  · exact un.keep _ _ (same _ (by simp) _ e2) (hide_in (by simp)) nb (by simp)
  · exact un.keep _ _ ((out fd (not_ch lf o.fa o.fb)).trans e) (hide_in (by simp)) nf (by simp)
  · have hs := fs_in N hb
    refine un.slot b ob ((out b (not_ch (fun z => L_nofs I (z ▸ hb)) (fun z => na (z ▸ hs)) fun z => nb (z ▸ hs))).trans e) (hide_none (I.stkFree b hs)) hs (by simp)
/-- the frames stand in such a heap -/
theorem HF.funs {pins : List (Addr × Obj)} (N : NmOk X d) (I : Inv X pins σ H s) (x : HF X d σ s fd la lb ya yb z h) : h.FunFrames X.base X.stack := by
  have all : ∀ (l : List Env), (∀ b ∈ frs l, b ∈ X.fs) → s.heap.FunFrames X.base l → h.FunFrames X.base l := by
    intro l
    induction l with
    | nil => intro _ _; trivial
    | cons env r ih =>
      intro hl ⟨hk, ⟨L, ob, hf, hn, ho, hd⟩, hr⟩
      have hb : L ∈ frs (env :: r) := by
        unfold frs
        rw [List.filterMap_cons, hf]
        exact List.mem_cons_self ..
      obtain ⟨sl, e⟩ := x.fs L (hl L hb) ob ho
      refine ⟨hk, ⟨L, _, hf, hn, e, hd⟩, ih (fun b hb' => hl b ?_) hr⟩
      unfold frs
      rw [List.filterMap_cons, hf]
      exact List.mem_cons_of_mem _ hb'
  obtain ⟨m, n, _⟩ := x.ns
  rw [N.stk]
  exact .cons (by rw [I.ok.kind]; decide) N.fr n (Heap.get?_none_of_le (Nat.le_trans I.ok.bsz I.ok.above)) (all _ (fun b hb => hb) I.funs)
theorem HF.there (x : HF X d σ s fd la lb ya yb z h) : ∀ b ∈ chOf X la lb, ∃ o, h.get? b = some o := fun b hb => by
  simp only [List.mem_cons, List.mem_singleton, List.not_mem_nil, or_false] at hb
  rcases hb with rfl | rfl | rfl
  · obtain ⟨m, ⟨o, _, _, e, _⟩, _⟩ := x.ns
    exact ⟨o, e⟩
  · obtain ⟨_, _, _, e⟩ := x.la
    exact ⟨_, e⟩
  · obtain ⟨_, _, _, e⟩ := x.lb
    exact ⟨_, e⟩
end
end GV

set_option pp.maxSteps 400
/-! DnG: the consumer's loop over a generator. -/
namespace GV
open PySem PySem.Spec PyProof.Rows GenW L2
/-- what is known behind the loop -/
def aft (H H' : Hp) (fd la lb : Addr) (xa xb : List V) : Hp := fun b => if b = la then some (.lst xa) else if b = lb then some (.lst xb) else if b = fd then H fd else H' b
section
variable {X : Cx} {d : Nm} {σ : L2.St} {s : Shared} {fd la lb : Addr} {xa xb ya yb : List V} {z : Option (Int × Str × Str)} {H H' : Hp} {kvs : List (Key × V)} {pins : List (Addr × Obj)}
end
end GV

set_option pp.maxSteps 400
/-! DnH: for number, who, what in gen(..): sides[who].append(what) -/
namespace GV
open PySem PySem.Spec PyProof.Rows GenW L2
section
variable {X : Cx} {d : Nm} {σ : L2.St} {s : Shared} {fd la lb : Addr} {xa xb : List V} {H : Hp} {kvs : List (Key × V)} {pins : List (Addr × Obj)}
/-- the loop's state after j items -/
structure LS (X : Cx) (d : Nm) (σ : L2.St) (s : Shared) (H : Hp) (fd la lb : Addr) (xa xb : List V) (cA cB : Str) (zs : Z3) (Q : Hp → Prop) (a : Addr) (g : Nat) (j : Nat) (q : Shared) : Prop where
  os : q.os = s.os
  bare : AllBare q.gens
  gen : q.heap.IsGen a g
  lim : q.heap.NoLimit
  hf : HF X d σ s fd la lb (xa ++ side cA (zs.take j)) (xb ++ side cB (zs.take j)) (zs.take j).getLast? q.heap
  goes : ∃ gs : GenState, q.gens[g]? = some gs ∧ gs.Goes (model X.prog X.w) X.A.in1 (RZ X.prog X.w X.stack s (hide H [fd, la, lb]) (chOf X la lb) Q) (YZ X.base X.stack s (hide H [fd, la, lb]) (chOf X la lb) a g zs) (zs.length - j) (.send .none) (q.setGen g .running)
def tEach (d : Nm) (cA cB : Str) (sp : SpZ) (ta : TA) (lp : Nat) : TS := fun D σ H => ta σ H fun vs H1 => ∃ (fd la lb : Addr) (kvs : List (Key × V)) (xa xb : List V) (zs : Z3),
  σ[d.iF]? = some (some (.ref fd)) ∧ Own H1 fd la lb kvs xa xb ∧ valV kvs (.inr cA) = some (.ref la) ∧ valV kvs (.inr cB) = some (.ref lb) ∧ (∀ z ∈ zs, z.2.1 = cA ∨ z.2.1 = cB) ∧
  xa.length + zs.length ≤ sizeLine ∧ xb.length + zs.length ≤ sizeLine ∧ vs.length = lp ∧
  sp vs (hide H1 [fd, la, lb]) zs (fun H' => D.nx (sgm d σ zs.getLast?) (aft H1 H' fd la lb (xa ++ side cA zs) (xb ++ side cB zs)))
end
end GV

set_option pp.maxSteps 400
/-! DnI: a generator's body as readings. -/
namespace DL
open PySem L2 GV
open PySem.Spec PyProof.Rows
/-- a generator's statement: how it ends, what it hands out -/
abbrev GM := S → Out (Fl × List D)
abbrev noW : WX := fun _ _ _ _ => False
def WantY (K : PySem.W.Frag) (cl : Str → Addr) (c : Cz) (T : List (D × V)) (all acc : List D) (o : Out (Fl × List D)) (E : GE) : Prop := match o with
  | .fail => False
  | .exc _ _ _ => False
  | .ok (fl, new) s => (acc ++ new) <+: all ∧ match fl with
    | .nx => ∀ ys σ H, ys.length = (acc ++ new).length → SI K cl c H σ s T → E.nx ys σ H
    | .brk => ∀ ys σ H, ys.length = (acc ++ new).length → SI K cl c H σ s T → E.bk ys σ H
    | .ct => ∀ ys σ H, ys.length = (acc ++ new).length → SI K cl c H σ s T → E.ct ys σ H
    | .ret d => ∀ ys v σ H, ys.length = (acc ++ new).length → SI K cl c H σ s ((d, v) :: T) → E.rt ys v H
def PyOk (K : PySem.W.Frag) (cl : Str → Addr) (c : Cz) (all : List D) (E : GE) : Prop := ∀ T ys x d σ s H, all[List.length ys]? = some d → SI K cl c H σ s ((d, x) :: T) → E.py ys x H
structure DGT (X : Cx) (ch : List Addr) (cl : Str → Addr) (st : Stmt) (f : GM) : Prop where
  ex : ∃ t, GT X ch st t ∧ ∀ c σ s T H E ys acc all, SI X.K cl c H σ s T → List.length ys = acc.length → E.lim = all.length → PyOk X.K cl c all E → WantY X.K cl c T all acc (f s) E → t E ys σ H
structure DGTs (X : Cx) (ch : List Addr) (cl : Str → Addr) (sts : List Stmt) (f : GM) : Prop where
  ex : ∃ t, GTs X ch sts t ∧ ∀ c σ s T H E ys acc all, SI X.K cl c H σ s T → List.length ys = acc.length → E.lim = all.length → PyOk X.K cl c all E → WantY X.K cl c T all acc (f s) E → t E ys σ H
section
variable {X : Cx} {ch : List Addr} {cl : Str → Addr}
theorem PyOk.nx {K : PySem.W.Frag} {c : Cz} {all : List D} {E E' : GE} (h : PyOk K cl c all E) (e : E'.py = E.py) : PyOk K cl c all E' := fun T ys x d σ s H q I => by
  rw [e]; exact h T ys x d σ s H q I
def gFlat (f : M Fl) : GM := fun s => (f s).bind fun r s => .ok (r, []) s
def gOut (f : M D) : GM := fun s => (f s).bind fun d s => .ok (.nx, [d]) s
def gNx : GM := fun s => .ok (.nx, []) s
def gSeq (f g : GM) : GM := fun s => (f s).bind fun r s1 => match r.1 with
  | .nx => (g s1).bind fun r2 s2 => .ok (r2.1, r.2 ++ r2.2) s2
  | fl => .ok (fl, r.2) s1
noncomputable def forY (d : D) (M0 : List (Option C)) (g : D → S → Option S) (body : GM) : List D → GM
  | [], s => .ok (.nx, []) s
  | x :: r, s => match g x s with
    | none => .fail
    | some s1 => match body s1 with
      | .fail => .fail
      | .exc n fs s2 => .exc n fs s2
      | .ok r1 s2 => match r1.1 with
        | .ret e => .ok (.ret e, r1.2) s2
        | .brk => .ok (.nx, r1.2) s2
        | _ => if chkP d M0 s2.M = true then (forY d M0 g body r s2).bind fun r2 s3 => .ok (r2.1, r1.2 ++ r2.2) s3 else .fail
noncomputable def gFor (f : M D) (its : D → Option (List D)) (g : D → S → Option S) (body : GM) : GM := fun s => (f s).bind fun d s => match its (view s.M d) with
  | none => .fail
  | some ds => forY d s.M g body ds s
theorem WantY.deeper {K : PySem.W.Frag} {c : Cz} {T T' : List (D × V)} {all acc : List D} {o : Out (Fl × List D)} {E : GE} (h : WantY K cl c T all acc o E) (hs : ∀ p ∈ T, p ∈ T') : WantY K cl c T' all acc o E := by
  cases o with
  | fail => exact h
  | exc _ _ _ => exact h
  | ok r s =>
    obtain ⟨fl, n⟩ := r
    refine ⟨h.1, ?_⟩
    have h := h.2
    cases fl with
    | nx => exact fun ys σ H hl i => h ys σ H hl (i.sub hs)
    | brk => exact fun ys σ H hl i => h ys σ H hl (i.sub hs)
    | ct => exact fun ys σ H hl i => h ys σ H hl (i.sub hs)
    | ret d => exact fun ys v σ H hl i => h ys v σ H hl (i.sub fun q hq => (List.mem_cons.mp hq).elim (fun e => e ▸ List.mem_cons_self ..) fun z => List.mem_cons_of_mem _ (hs q z))
end
end DL

set_option pp.maxSteps 400
/-! DnJ: a generator def's promise from its body's reading; the loop over it, as a reading. -/
namespace DL
open PySem L2 GV
open PySem.Spec PyProof.Rows
def zD (z : Int × Str × Str) : D := .tup [.int z.1, .str z.2.1, .str z.2.2]
def semG (n : Nat) (g : GM) (ds : List D) : Option (List D) := match g ⟨ds.map some ++ List.replicate (n - ds.length) none, []⟩ with
  | .ok (.nx, new) _ => some new
  | _ => none
def spZ (K : PySem.W.Frag) (cl : Str → Addr) (n : Nat) (g : GM) : SpZ := fun vs H zs Q => ∃ (F : Addr → Prop) (ds : List D), ds.length = vs.length ∧ SIx K cl ⟨H, [], F⟩ H [] ⟨[], []⟩ (zipT ds vs []) F [] ∧ semG n g ds = some (zs.map zD) ∧
  ∀ H' σ' s', SI K cl ⟨H, [], F⟩ H' σ' s' [] → Q H'
def unz1 : D → Option (Int × Str × Str)
  | .tup [.int i, .str p, .str t] => some (i, p, t)
  | _ => none
def unz : List D → Option Z3
  | [] => some []
  | x :: r => (unz1 x).bind fun z => (unz r).map fun zs => z :: zs
def sideD (c : Str) (zs : Z3) : List D := (zs.filter fun z => decide (z.2.1 = c)).map fun z => .str z.2.2
def sgmD (d : Nm) (e : List (Option D)) : Option (Int × Str × Str) → List (Option D)
  | none => e
  | some (i, p, t) => ((e.set d.iI (some (.int i))).set d.iP (some (.str p))).set d.iT (some (.str t))
def eachOk (d : Nm) (lp ka kb : Nat) (ds xa xb : List D) (zs : Z3) (a b cA cB : Str) (s : S) : Bool :=
  decide (a = cA) && (decide (b = cB) && (decide (ka ≠ kb) && (npL ds && (decide (xa.length + zs.length ≤ 1000000) && (decide (xb.length + zs.length ≤ 1000000) && ((zs.all fun z => decide (z.2.1 = cA) || decide (z.2.1 = cB)) &&
    (decide (ds.length = lp) && (decide (d.iI < s.env.length) && (decide (d.iP < s.env.length) && decide (d.iT < s.env.length))))))))))
def eachM (d : Nm) (cA cB : Str) (lp : Nat) (sg : List D → Option (List D)) (ds : List D) (s : S) : Out Fl :=
  match s.env[d.iF]? with
  | some (some (.ptr kd)) => match s.M[kd]? with
    | some (some (.dct [(.inr a, .ptr ka), (.inr b, .ptr kb)])) => match s.M[ka]? with
      | some (some (.lst xa)) => match s.M[kb]? with
        | some (some (.lst xb)) => match (sg ds).bind unz with
          | some zs => if eachOk d lp ka kb ds xa xb zs a b cA cB s = true then .ok .nx ⟨sgmD d s.env zs.getLast?, (s.M.set ka (some (.lst (xa ++ sideD cA zs)))).set kb (some (.lst (xb ++ sideD cB zs)))⟩ else .fail
          | none => .fail
        | _ => .fail
      | _ => .fail
    | _ => .fail
  | _ => .fail
def sEach (d : Nm) (cA cB : Str) (lp : Nat) (sg : List D → Option (List D)) (fa : M (List D)) : M Fl := fun s => (fa s).bind (eachM d cA cB lp sg)
section
variable {K : PySem.W.Frag} {cl : Str → Addr} {c : Cz} {H H' : Hp} {σ : L2.St} {s : S} {T : List (D × V)} {F : Addr → Prop} {α : List Addr}
theorem SI.sgm {d : Nm} {z : Option (Int × Str × Str)} (I : SI K cl c H σ s T) (h1 : d.iI < s.env.length) (h2 : d.iP < s.env.length) (h3 : d.iT < s.env.length) : SI K cl c H (sgm d σ z) ⟨sgmD d s.env z, s.M⟩ T := by
  match z with
  | none => exact I
  | some (i, p, t) =>
    have a := (I.flat (d := .int i) (v := .int i) rfl).bind (i := d.iI) h1
    have b := (a.flat (d := .str p) (v := .str p) rfl).bind (i := d.iP) (by show _ < (s.env.set _ _).length; rw [List.length_set]; exact h2)
    exact (b.flat (d := .str t) (v := .str t) rfl).bind (i := d.iT) (by show _ < ((s.env.set _ _).set _ _).length; rw [List.length_set, List.length_set]; exact h3)
end
end DL

set_option pp.maxSteps 400
/-! DnK: the rule: for number, who, what in gen(..): sides[who].append(what) -/
namespace DL
open PySem L2 GV
open PySem.Spec PyProof.Rows
section
variable {X : Cx} {cl : Str → Addr} {W : WX} {d : Nm}
end
end DL

set_option pp.maxSteps 400
/-! DnL: range(a, b, -1). -/
namespace DL
open PySem L2
open PySem.Spec PyProof.Rows
section
variable {X : Cx} {cl : Str → Addr} {W : WX} {tg : Expr}
/-- a, a - 1, .. above b -/
def itDown : D → Option (List D)
  | .tup [.int a, .int b] => some ((List.range (a - b).toNat).map fun i => .int (a - (i : Nat)))
  | _ => none
def eDown (f : M (List D)) : M D := fun s => (f s).bind fun ds s => match ds with
  | [.int a, .int b, .int c] => if (rngOk a && rngOk b && decide (c = -1)) = true then .ok (.tup [.int a, .int b]) s else .fail
  | _ => .fail
end
end DL

set_option pp.maxSteps 400
/-! DnP: xs.remove(z), texts. -/
namespace DL
open PySem L2
open PySem.Spec PyProof.Rows
def eqz (z : Str) (v : Value) : Bool := match v with
  | .str x _ => x.cps.toList == z.cps.toList
  | _ => false
section
variable {X : Cx} {cl : Str → Addr}
def rRemS : V → List V → Hp → VK → Prop := fun x xs H Q => ∃ (l : Addr) (zs : List Str) (z : Str) (j : Nat), x = .ref l ∧ xs = [.str z] ∧ H l = some (.lst (zs.map V.str)) ∧ zs[j]? = some z ∧ (∀ m : Nat, m < j → zs[m]? ≠ some z) ∧ Q .non (upd H l (.lst ((zs.eraseIdx j).map V.str)))
def cRemoveS : C → List D → Option (D × C)
  | .lst xs, [.str z] => match strsD xs with
    | some zs => if z ∈ zs then some (.non, .lst ((zs.erase z).map .str)) else none
    | none => none
  | _, _ => none
end
end DL

/-! DnQ: text.index(text). -/
namespace DL
open PySem L2
open PySem.Spec PyProof.Rows
def dIndexS (a b : Str) : Option D := (Txt.index0 a b).map fun k => .int (k : Nat)
end DL

/-! DnR: == of nested plain data. -/
namespace DL
open PySem L2
open PySem.Spec PyProof.Rows
mutual
theorem eqv_self : ∀ d : PyData, d.canLay0 = true → PyData.eqv d d = true
  | .none, _ => rfl
  | .bool b, _ => by simp [PyData.eqv]
  | .int i, _ => by simp [PyData.eqv]
  | .str x, _ => by simp [PyData.eqv]
  | .list xs, h => by rw [PyData.eqv]; exact eqvAll_self xs (by simpa [PyData.canLay0] using h)
  | .tuple xs, h => by rw [PyData.eqv]; exact eqvAll_self xs (by simpa [PyData.canLay0] using h)
  | .dict _, h => by simp [PyData.canLay0] at h
theorem eqvAll_self : ∀ xs : List PyData, PyData.canLayAll0 xs = true → PyData.eqvAll xs xs = true
  | [], _ => rfl
  | x :: xs, h => by
    have h' : x.canLay0 = true ∧ PyData.canLayAll0 xs = true := by simpa [PyData.canLayAll0] using h
    rw [PyData.eqvAll, eqv_self x h'.1, eqvAll_self xs h'.2]; rfl
end
/-- plain data of a depth -/
def Sm (n : Nat) (d : D) : Prop := ∃ p, pd d = some p ∧ p.canLay0 = true ∧ p.depth ≤ n
def SmL (n : Nat) (ds : List D) : Prop := ∃ ps, pdL ds = some ps ∧ PyData.canLayAll0 ps = true ∧ PyData.depthAll ps ≤ n
theorem Sm.le {n m : Nat} {d : D} (h : Sm n d) (hm : n ≤ m) : Sm m d := by
  obtain ⟨p, h1, h2, h3⟩ := h
  exact ⟨p, h1, h2, by omega⟩
theorem SmL.of {n : Nat} : ∀ {ds : List D}, (∀ d ∈ ds, Sm n d) → SmL n ds
  | [], _ => ⟨[], rfl, rfl, by simp [PyData.depthAll]⟩
  | d :: ds, h => by
    obtain ⟨p, h1, h2, h3⟩ := h d (List.mem_cons_self ..)
    obtain ⟨ps, e1, e2, e3⟩ := SmL.of fun x hx => h x (List.mem_cons_of_mem _ hx)
    refine ⟨p :: ps, by simp only [pdL, h1, e1, Option.map_some], by simp only [PyData.canLayAll0, h2, e2, Bool.and_self], ?_⟩
    simp only [PyData.depthAll]; omega
theorem Sm.tup {n : Nat} {ds : List D} (h : SmL n ds) : Sm (n + 1) (.tup ds) := by
  obtain ⟨ps, h1, h2, h3⟩ := h
  exact ⟨.tuple ps, by simp only [pd, h1, Option.map_some], by simpa only [PyData.canLay0] using h2, by simp only [PyData.depth]; omega⟩
theorem Sm.lst {n : Nat} {ds : List D} (h : SmL n ds) : Sm (n + 1) (.lst ds) := by
  obtain ⟨ps, h1, h2, h3⟩ := h
  exact ⟨.list ps, by simp only [pd, h1, Option.map_some], by simpa only [PyData.canLay0] using h2, by simp only [PyData.depth]; omega⟩
theorem Sm.str {n : Nat} {z : Str} (h : PyData.strOk z = true) : Sm n (.str z) := ⟨.str z, rfl, by simpa [PyData.canLay0] using h, by simp [PyData.depth]⟩
theorem Sm.int {n : Nat} {i : Int} : Sm n (.int i) := ⟨.int i, rfl, by simp [PyData.canLay0], by simp [PyData.depth]⟩
theorem Sm.non {n : Nat} : Sm n .non := ⟨.none, rfl, by simp [PyData.canLay0], by simp [PyData.depth]⟩
theorem Sm.bl {n : Nat} {b : Bool} : Sm n (.bl b) := ⟨.bool b, rfl, by simp [PyData.canLay0], by simp [PyData.depth]⟩
theorem SmL.nil {n : Nat} : SmL n [] := ⟨[], rfl, rfl, by simp [PyData.depthAll]⟩
theorem SmL.cons {n : Nat} {d : D} {ds : List D} (h : Sm n d) (h2 : SmL n ds) : SmL n (d :: ds) := by
  obtain ⟨p, h1, h2', h3⟩ := h
  obtain ⟨ps, e1, e2, e3⟩ := h2
  refine ⟨p :: ps, by simp only [pdL, h1, e1, Option.map_some], by simp only [PyData.canLayAll0, h2', e2, Bool.and_self], ?_⟩
  simp only [PyData.depthAll]; omega
theorem SmL.strs {n : Nat} {zs : List Str} (h : Ok zs) : SmL n (zs.map D.str) := SmL.of fun d hd => by
  obtain ⟨z, hz, rfl⟩ := List.mem_map.mp hd
  exact Sm.str (h z hz)
theorem Sm.T {n : Nat} {zs : List Str} (h : Ok zs) : Sm (n + 1) (T zs) := Sm.tup (SmL.strs h)
theorem Sm.L {n : Nat} {zs : List Str} (h : Ok zs) : Sm (n + 1) (.lst (zs.map .str)) := Sm.lst (SmL.strs h)
theorem Sm.shaped {n : Nat} {d : D} (h : Sm n d) (hn : n ≤ 64) : ∃ p, pd d = some p ∧ SeqAt.shaped p = true ∧ p.canLay0 = true := by
  obtain ⟨p, h1, h2, h3⟩ := h
  refine ⟨p, h1, ?_, h2⟩
  unfold SeqAt.shaped
  rw [h2, decide_eq_true (show p.depth ≤ 64 by omega)]; rfl
end DL

set_option pp.maxSteps 300
/-! DnT: classmethods of own classes; a class held by a name, called. -/
namespace DL
open PySem PySem.Spec PyProof.Rows L2 ClX
/-- a classmethod of an own class -/
structure CmOf (K : PySem.W.Frag) (C : Addr) (m : Str) (p g : Addr) : Prop where
  rd : CRead K C (.type "type")
  cm : CMet K C (.type "type") m p g
abbrev cf (K : PySem.W.Frag) (x f : Str) : Addr := He5.wf K (He.ga K x) "classmethod" f
def cmB (K : PySem.W.Frag) (x f : Str) : Bool := PySem.W.readsIn K (He.ga K x) (.type "type") && (He.eqO (PySem.W.specialIn K (.ref (He.ga K x)) "__getattribute__") (some (some (.builtin "type.__getattribute__"))) && (He5.wrapB K (He.ga K x) "classmethod" "classmethod.__get__" f && PySem.W.fnIn K (cf K x f)))
section
variable {X : Cx} {cl : Str → Addr} {W : WX} {k : Nat}
/-- c(e, ..), c a name that holds the class at gA -/
def eMakeV (gA : Addr) (x : Str) (io : List Bool) (sem : Sem) (i : Nat) (f : M (List D)) : M D := fun s => match s.env[i]? with
  | some (some (.raw (.ref a))) => if a = gA then eMake x io sem f s else .fail
  | _ => .fail
end
@[simp] theorem eMakeV_eq (gA : Addr) (x : Str) (io : List Bool) (sem : Sem) (i : Nat) (f : M (List D)) (s : S) : eMakeV gA x io sem i f s = (match s.env[i]? with
  | some (some (.raw (.ref a))) => if a = gA then eMake x io sem f s else .fail
  | _ => .fail) := (rfl)
/-! ### the head, the interpreter's statics seen too -/
abbrev frC (g : Addr → Option Obj) (n : Nat) : PySem.W.Frag := He.frT g (He5.asA g n)
def obsC (n : Nat) (fa : List He.Fa) (fn : List He.DefD) (fp : List He5.DefA) (ex : PySem.W.Frag → Bool) (g : Addr → Option Obj) : AlB := ((He.obsT fa fn [] (frC g n), ex (frC g n)), He5.obsA [] fp (frC g n))
def hookC (n : Nat) (fa : List He.Fa) (fn : List He.DefD) (fp : List He5.DefA) (ex : PySem.W.Frag → Bool) : PySem.W.Hook where
  α := AlB
  obs := fun s => obsC n fa fn fp ex s.heap.get?
  val := fun w => (He.valX fn [] w, He5.valA fp)
  says := fun w h => ∃ K : PySem.W.Frag, K.In h ∧ SaysB fa fn fp ex w h K
  of := fun _ _ e => ⟨_, He.frT_in, ⟨congrArg (fun z : AlB => z.1.1) e, congrArg (fun z : AlB => z.1.2) e, fun _ hp => absurd hp (List.not_mem_nil), fun _ hp => absurd hp (List.not_mem_nil), fun _ hp => absurd hp (List.not_mem_nil)⟩, congrArg Prod.snd e⟩
  keeps := fun _ _ _ ⟨K, hK, c⟩ k => ⟨K, PySem.W.Frag.In.keeps hK k, ⟨c.x.t, c.x.more, c.x.hd, c.x.out, fun p hp => k _ _ (c.x.empty p hp)⟩, c.a⟩
end DL

set_option pp.maxSteps 400
/-! DpE: the law, called, its defs' tables of code objects among its cells; the head that looks at them. -/
namespace DL
open PySem L2
open PySem.Spec PyProof.Rows
/-- the tables as cells -/
def tbls : List Addr → List Str → List C
  | p :: ps, q :: qs => .tbl p q [] [] :: tbls ps qs
  | _, _ => []
/-- a lambda's name -/
def lamQ (x : Str) : Str := (x ++ ".<locals>.") ++ "<lambda>"
/-! ### the head -/
structure SaysL (fa : List He.Fa) (fn : List He.DefD) (fp : List He5.DefA) (tf : List He.Defn) (ex : PySem.W.Frag → Bool) (w : World) (h : Heap) (K : PySem.W.Frag) : Prop where
  x : He.SaysX fa fn [] tf ex w h K
  a : He5.SaysA [] fp K
  nd : (tf.map fun p => (He.cT K p).2).Nodup
abbrev AlL : Type := (He.AlX × He.AlD) × Bool
def obsL (n : Nat) (fa : List He.Fa) (fn : List He.DefD) (fp : List He5.DefA) (tf : List He.Defn) (ex : PySem.W.Frag → Bool) (g : Addr → Option Obj) : AlL :=
  (((He.obsT fa fn [] (frC g n), ex (frC g n) && (He.tabsB g tf (frC g n) && decide ((tf.map fun p => (He.cT (frC g n) p).2).Nodup))), He5.obsA [] fp (frC g n)), dictAt g)
theorem tabs_of {g : Addr → Option Obj} {tf : List He.Defn} {as : List Addr} (h : He.tabsB g tf (He.frT g as) = true) : ∀ p ∈ tf, PySem.W.codeHdIn (He.frT g as) (He.cT (He.frT g as) p).1 (He.cT (He.frT g as) p).2 = true ∧ (He.frT g as).lookup (He.cT (He.frT g as) p).2 = none ∧ g (He.cT (He.frT g as) p).2 = some { cls := .none, data := .fields #[] } := fun p hp => by
  obtain ⟨K, hK⟩ : ∃ K, K = He.frT g as := ⟨_, rfl⟩
  obtain ⟨h3, h4⟩ := He.ba (List.all_eq_true.mp h p hp)
  refine ⟨h3, ?_⟩
  split at h4
  · rename_i o q
    exact ⟨He.frT_none q h4, by rw [q, He.emptyTab_eq h4]⟩
  · cases h4
def hookL (n : Nat) (fa : List He.Fa) (fn : List He.DefD) (fp : List He5.DefA) (tf : List He.Defn) (ex : PySem.W.Frag → Bool) : PySem.W.Hook where
  α := AlL
  obs := fun s => obsL n fa fn fp tf ex s.heap.get?
  val := fun w => ((He.valX fn [] w, He5.valA fp), true)
  says := fun w h => (∃ o, h.get? sysModules = some o ∧ o.cls = .type "dict") ∧ ∃ K : PySem.W.Frag, K.In h ∧ SaysL fa fn fp tf ex w h K
  of := fun w s e => by
    refine ⟨dictAt_ok (congrArg Prod.snd e), frC s.heap.get? n, He.frT_in, ?_⟩
    have e1 := congrArg (fun z : AlL => z.1.1.2) e
    obtain ⟨h1, h2⟩ := He.ba e1
    obtain ⟨h2, h3⟩ := He.ba h2
    have key := tabs_of h2
    exact ⟨⟨congrArg (fun z : AlL => z.1.1.1) e, h1, fun p hp => (key p hp).1, fun p hp => (key p hp).2.1, fun p hp => (key p hp).2.2⟩, congrArg (fun z : AlL => z.1.2) e, of_decide_eq_true h3⟩
  keeps := fun w h h' ⟨⟨o, e, c⟩, K, hK, y⟩ k => ⟨⟨o, k _ _ e, c⟩, K, PySem.W.Frag.In.keeps hK k, ⟨y.x.t, y.x.more, y.x.hd, y.x.out, fun p hp => k _ _ (y.x.empty p hp)⟩, y.a, y.nd⟩
/-! ### a def with lambdas, by its body -/
section
variable {P : Program} {w : World} {K : PySem.W.Frag} {mg : Str → Option Value} {base : Heap} {cl : Str → Addr}
end
end DL

/-! DqG: a comprehension inside another one: what is to be seen of the scopes. -/
namespace DL
open PySem PySem.Spec PyProof.Rows L2
def blkB (N : List Str) (sc scope : Scope) (own : List (Str × Nat)) : Bool :=
  decide (scope.kind = .function) && scope.names.all (fun y => decide (scope.names.lookup y.1 = some y.2)) && own.all (fun p => decide (N[p.2]? = some p.1)) &&
    scope.names.all (fun y => decide (y.2 = .free → sc.names.lookup y.1 = some .cell ∨ sc.names.lookup y.1 = some .free)) &&
    scope.names.all (fun y => decide (y.2 = .local ∨ y.2 = .cell → y.1 ∈ own.map (·.1) ∨ y.1 ∉ N))
end DL

/-! DnU0: set(..) of a list of numbers. -/
namespace DL
open PySem PySem.Spec PyProof.Rows L2
section
variable {P : Program} {w : World} {A : Around} {E : Value → Shared → Prop} {s : Shared}
end
end DL

/-! DnU: sorted(set(..)) of a list of numbers. -/
namespace DL
open PySem PySem.Spec PyProof.Rows L2
section
variable {X : Cx} {cl : Str → Addr} {W : WX}
def tSortSet (K : PySem.W.Frag) (ta : TE) : TE := fun σ H Q => ta σ H fun x H1 => ∃ (l : Addr) (ns : List Int), x = .ref l ∧ SqL K H1 l (ns.map V.int) ∧ ns.length < 64 ∧
  ∀ (ms : List Int) (p : Addr), ms.Pairwise (· < ·) → (∀ k, k ∈ ms ↔ k ∈ ns) → H1 p = none → Q (.ref p) (upd H1 p (.lst (ms.map V.int)))
/-- the numbers among them, ascending -/
def ddI : List Int → List Int
  | [] => []
  | x :: xs => if x ∈ xs then ddI xs else x :: ddI xs
def srtI (ns : List Int) : List Int := (ddI ns).mergeSort
def intsO : List D → Option (List Int)
  | [] => some []
  | .int i :: ds => (intsO ds).map (i :: ·)
  | _ => none
def dSortSet (d : D) : Option D := match d with
  | .lst xs => (match intsO xs with
    | some ns => if ns.length < 64 then some (.lst ((srtI ns).map .int)) else none
    | none => none)
  | _ => none
end
end DL

set_option pp.maxSteps 300
/-! DnW: zip(a, b) of two lists, as far as the shorter one goes. -/
namespace DL
open PySem L2
open PySem.Spec PyProof.Rows
section
variable {X : Cx} {cl : Str → Addr} {W : WX}
def itZipL : D → Option (List D)
  | .tup [.lst xs, .lst ys] => some (zipL xs ys)
  | _ => none
def eZipL (f : M (List D)) : M D := fun s => (f s).bind fun ds s => match ds with
  | [.lst xs, .lst ys] => .ok (.tup [.lst xs, .lst ys]) s
  | _ => .fail
end
end DL

set_option pp.maxSteps 300
/-! DnX: a, b, c = x, y, z. -/
namespace DL
open PySem L2
open PySem.Spec PyProof.Rows
section
variable {X : Cx} {cl : Str → Addr} {W : WX}
def sPar3 (i j l : Nat) (f : M (List D)) : M Fl := fun s => (f s).bind fun ds s => match ds with
  | [d, e, h] => if i < s.env.length ∧ j < s.env.length ∧ l < s.env.length then .ok .nx { s with env := ((s.env.set i (some d)).set j (some e)).set l (some h) } else .fail
  | _ => .fail
end
end DL

set_option pp.maxSteps 300
/-! DmM: == of instances by their own __eq__. -/
namespace DL
open PySem PySem.Spec PyProof.Rows L2
/-- an operator that may call -/
structure OpM (X : Cx) (cl : Str → Addr) (op : Value → Value → PySem.Sem Value) (g : D → D → M D) : Prop where
  ex : ∃ r : R2, OpR X op r ∧ ∀ c σ s T H d x e y Q, SI X.K cl c H σ s ((e, y) :: (d, x) :: T) → Want X.K cl (fun _ _ _ _ => False) c σ ((e, y) :: (d, x) :: T) (g d e s) Q → r x y H Q
def eOpM (g : D → D → M D) (fa fb : M D) : M D := fun s => (fa s).bind fun x s => (fb s).bind fun y s => noX (g x y s)
section
variable {X : Cx} {cl : Str → Addr} {W : WX} {k : Nat} {op : Value → Value → PySem.Sem Value} {g h : D → D → M D}
theorem OpD.m {g : D → D → Option D} (a : OpD X cl op g) : OpM X cl op (fun d e s => oOf (g (view s.M d) (view s.M e)) s) := by
  obtain ⟨r, hr, q⟩ := a
  refine ⟨r, hr, fun c σ s T H d x e y Q I w => ?_⟩
  unfold oOf at w
  split at w
  · rename_i z hz
    exact q c σ s T H d x e y z Q I hz fun v H' I' => w v H' I'
  · exact w.elim
theorem OpM.or (t : D → S → Bool) (a : OpM X cl op g) (b : OpM X cl op h) : OpM X cl op (fun d e s => if t d s = true then g d e s else h d e s) := by
  obtain ⟨r, hr, q⟩ := a
  obtain ⟨r', hr', q'⟩ := b
  refine ⟨_, hr.or hr', fun c σ s T H d x e y Q I w => ?_⟩
  split at w
  · exact .inl (q c σ s T H d x e y Q I w)
  · exact .inr (q' c σ s T H d x e y Q I w)
/-- x == y by the class's own __eq__ -/
def gEqC (x : Str) (sem : DL.Sem) (d e : D) : M D := fun s => match view s.M d, view s.M e with
  | .obj y _, .obj z _ => if y = x ∧ z = x then (match callS [false, false] sem [d, e] s with
    | .ok (.bl b) s1 => .ok (.bl b) s1
    | _ => .fail) else .fail
  | _, _ => .fail
def isObj (d : D) (s : S) : Bool := match view s.M d with
  | .obj _ _ => true
  | _ => false
/-- == of instances by their own method, of all else as ever -/
def gEqO (x : Str) (sem : DL.Sem) (d e : D) : M D := fun s => if isObj d s = true then gEqC x sem d e s else oOf (dEq (view s.M d) (view s.M e)) s
end
@[simp] theorem eOpM_eq (g : D → D → M D) (fa fb : M D) (s : S) : eOpM g fa fb s = (fa s).bind fun x s => (fb s).bind fun y s => noX (g x y s) := (rfl)
end DL

/-! LF2: readings that the laws share. -/
namespace LF2
open PySem L2 DL
open PySem.Spec PyProof.Rows
noncomputable def m__law_pool : M Fl := (sSeq (sSet 2 (eC (.int 0))) (sSeq (sIf (tOf (eOp dLtI (eVar 1) (eCB (g1 dLen) (aCons (eVar 0) aNil)))) (sSet 2 (eCB (g1 dAbs) (aCons (eOp dSub (eVar 0) (eVar 1)) aNil))) sNx) (sSeq (sSet 3 (eOp dModI (eOp dMulI (eOp dAdd (eOp dAdd (eOp dAdd (eOp dModI (eVar 2) (eC (.int 2147483629))) (eOp dMulI (eOp dMulI (eC (.int 7919)) (eVar 1)) (eVar 1))) (eOp dMulI (eC (.int 31)) (eVar 1))) (eC (.int 17))) (eC (.int 48271))) (eC (.int 2147483647)))) (sRet (eLstC (aCons (eOp dMulI (eVar 2) (eCB (g1 dInt) (aCons (eOp dGeI (eVar 2) (eOp dPowI (eC (.int 10)) (eC (.int 18)))) aNil))) (aCons (eOp dModI (eOp dMulI (eVar 3) (eVar 3)) (eC (.int 2147483629))) aNil)))))))
noncomputable def sem__law_pool : Sem := runC 4 m__law_pool
noncomputable def m__law_take : M Fl := (sSeq (sIf (tOf (eOp dGtI (eOp dSub (eVar 0) (eC (.int 0))) (eC (.int 0)))) (sSeq (sSet 2 (eOp dModI (eOp dSub (eVar 0) (eC (.int 0))) (eVar 1))) (sSeq (sAsg (eOp dDivI (eOp dSub (eVar 0) (eC (.int 0))) (eVar 1)) (hSub cSet (eVar 0) (eC (.int 0)))) (sRet (eVar 2)))) sNx) (sSeq (sAsg (eOp dModI (eOp dAdd (eOp dMulI (eOp dSub (eVar 0) (eC (.int 1))) (eC (.int 48271))) (eC (.int 12345))) (eC (.int 2147483647))) (hSub cSet (eVar 0) (eC (.int 1)))) (sRet (eOp dModI (eOp dDivI (eOp dModI (eOp dMulI (eOp dSub (eVar 0) (eC (.int 1))) (eOp dSub (eVar 0) (eC (.int 1)))) (eC (.int 2147483629))) (eC (.int 64))) (eVar 1)))))
noncomputable def sem__law_take : Sem := run 3 m__law_take
noncomputable def b1__law_turning : M Fl := (sExpr (eCM "list" cAppend (eVar 3) (aCons (eCM "list" cPopAt (eVar 2) (aCons (eCall [true, false] sem__law_take (aCons (eVar 0) (aCons (eCB (g1 dLen) (aCons (eVar 2) aNil)) aNil))) aNil)) aNil)))
noncomputable def m__law_turning : M Fl := (sSeq (sPar 2 3 (aCons (eCBC (gL1 lstOf) (aCons (eVar 1) aNil)) (aCons (eLstC aNil) aNil))) (sSeq (sFor (eRng1 (aCons (eCB (g1 dLen) (aCons (eVar 1) aNil)) aNil)) itRng (gVar 4) b1__law_turning sNx) (sRet (eVar 3))))
noncomputable def sem__law_turning : Sem := run 5 m__law_turning
noncomputable def m__law_names : M Fl := (sSeq (sSet 2 (eLst (aCons (eC (.str "b")) (aCons (eC (.str "a")) (aCons (eC (.str "zz")) (aCons (eC (.str "z")) (aCons (eC (.str "abcdefgh")) (aCons (eC (.str "m")) (aCons (eC (.str "mm")) (aCons (eC (.str "q")) (aCons (eC (.str "c")) (aCons (eC (.str "kk")) (aCons (eC (.str "y")) (aCons (eC (.str "x")) (aCons (eC (.str "dd")) (aCons (eC (.str "e")) aNil)))))))))))))))) (sRet (eSl dSl (eCall [true, false] sem__law_turning (aCons (eVar 0) (aCons (eSl dSl (eVar 2) oNone (oSome (eOp dAdd (eVar 1) (eC (.int 1))))) aNil))) oNone (oSome (eVar 1)))))
noncomputable def sem__law_names : Sem := run 3 m__law_names
noncomputable def m__law_rankings : M Fl := (sSeq (sSet 3 (eCall [true, false] sem__law_names (aCons (eVar 0) (aCons (eOp dAdd (eVar 1) (eCall [true, false] sem__law_take (aCons (eVar 0) (aCons (eOp dAdd (eOp dSubI (eVar 2) (eVar 1)) (eC (.int 1))) aNil)))) aNil)))) (sSeq (sPar 4 5 (aCons (eCB (g1 dTuple) (aCons (eVar 3) aNil)) (aCons (eCall [true, false] sem__law_take (aCons (eVar 0) (aCons (eC (.int 6)) aNil))) aNil))) (sSeq (sSet 6 (eCB (g1 dTuple) (aCons (eCall [true, false] sem__law_turning (aCons (eVar 0) (aCons (eVar 3) aNil))) aNil))) (sSeq (sIf (tOf (eOp dEq (eVar 5) (eC (.int 0)))) (sRet (eTup (aCons (eVar 4) (aCons (eVar 4) aNil)))) sNx) (sSeq (sIf (tOf (eOp dEq (eVar 5) (eC (.int 1)))) (sRet (eTup (aCons (eVar 4) (aCons (eUn dRevA (eVar 4)) aNil)))) sNx) (sSeq (sIf (tOf (eOp dEq (eVar 5) (eC (.int 2)))) (sRet (eTup (aCons (eVar 4) (aCons (eOp dAdd (eOp dAdd (eSl dSl (eVar 4) (oSome (eC (.int 1))) (oSome (eC (.int 2)))) (eSl dSl (eVar 4) oNone (oSome (eC (.int 1))))) (eSl dSl (eVar 4) (oSome (eC (.int 2))) oNone)) aNil)))) sNx) (sRet (eTup (aCons (eVar 4) (aCons (eVar 6) aNil))))))))))
noncomputable def sem__law_rankings : Sem := run 7 m__law_rankings
end LF2

/-! LF1: readings that the first laws share. -/
namespace LF1
open PySem L2 DL LF2
open PySem.Spec PyProof.Rows
noncomputable def m__law_pool : M Fl := (sSeq (sSet 2 (eC (.int 0))) (sSeq (sIf (tOf (eOp dLtI (eVar 1) (eCB (g1 dLen) (aCons (eVar 0) aNil)))) (sSet 2 (eOp dSub (eVar 0) (eVar 1))) sNx) (sSeq (sSet 3 (eCB (g1 dAbs) (aCons (eVar 2) aNil))) (sSeq (sSet 4 (eOp dModI (eOp dMulI (eOp dAdd (eOp dModI (eVar 2) (eC (.int 2147483629))) (eOp dMulI (eC (.int 104729)) (eOp dAdd (eVar 1) (eC (.int 1))))) (eOp dAdd (eVar 1) (eC (.int 7)))) (eC (.int 2147483629)))) (sSeq (sSet 5 (eOp dModI (eOp dMulI (eOp dModI (eOp dMulI (eVar 4) (eVar 4)) (eC (.int 2147483629))) (eC (.int 48271))) (eC (.int 2147483647)))) (sRet (eLstC (aCons (eOp dMulI (eVar 3) (eCB (g1 dInt) (aCons (eOp dGeI (eVar 3) (eOp dPowI (eC (.int 10)) (eC (.int 18)))) aNil))) (aCons (eVar 5) aNil)))))))))
noncomputable def sem__law_pool : Sem := runC 6 m__law_pool
noncomputable def b1__law_names : M Fl := (sSeq (sSet 6 (eOp dMul (eOp dSub (eVar 2) (eOp dModI (eVar 5) (eC (.int 26)))) (eOp dAdd (eC (.int 1)) (eOp dDivI (eVar 5) (eC (.int 26)))))) (sExpr (eCM "list" cAppend (eVar 4) (aCons (eOp dSub (eLst (aCons (eVar 6) (aCons (eOp dAdd (eC (.str "q")) (eVar 6)) (aCons (eOp dAdd (eOp dMul (eOp dSub (eVar 2) (eOp dModI (eVar 5) (eC (.int 26)))) (eC (.int 6))) (eVar 6)) aNil)))) (eVar 3)) aNil))))
noncomputable def m__law_names : M Fl := (sSeq (sSet 2 (eC (.str "abcdefghijklmnopqrstuvwxyz"))) (sSeq (sSet 3 (eCall [true, false] sem__law_take (aCons (eVar 0) (aCons (eC (.int 3)) aNil)))) (sSeq (sSet 4 (eLstC aNil)) (sSeq (sFor (eRng1 (aCons (eVar 1) aNil)) itRng (gVar 5) b1__law_names sNx) (sRet (eVar 4))))))
noncomputable def sem__law_names : Sem := run 7 m__law_names
noncomputable def t1__law_shuffled : M Bool := (tOf (eOp dNe (eVar 2) (eLst aNil)))
noncomputable def b2__law_shuffled : M Fl := (sExpr (eCM "list" cAppend (eVar 3) (aCons (eCM "list" cPopAt (eVar 2) (aCons (eCall [true, false] sem__law_take (aCons (eVar 0) (aCons (eCB (g1 dLen) (aCons (eVar 2) aNil)) aNil))) aNil)) aNil)))
noncomputable def m__law_shuffled : M Fl := (sSeq (sSet 2 (eCBC (gL1 lstOf) (aCons (eVar 1) aNil))) (sSeq (sSet 3 (eLstC aNil)) (sSeq (whileL t1__law_shuffled b2__law_shuffled 100000) (sRet (eVar 3)))))
noncomputable def sem__law_shuffled : Sem := run 4 m__law_shuffled
end LF1

set_option pp.maxSteps 120
namespace K03
open PySem L2 DL
open PySem.Spec PyProof.Rows
open LF1 (m__law_pool sem__law_pool)
open LF2 (m__law_take sem__law_take)
abbrev prog : Program := PySem.Challenge.pw_lastchoicefirst_k03_error_classes
def top (i : Nat) : Stmt := prog.main.body.getD i (.Pass ⟨0, 0, 0, 0⟩)
abbrev FnP (K : PySem.W.Frag) (x : Str) (st : Stmt) (f : Addr) (fd : FuncData) : Prop := FunD K x x (defArgs st) (defBody st) (defScope st) [] [] f fd
abbrev FnPk (K : PySem.W.Frag) (x : Str) (st : Stmt) (kws : List (Str × V)) (f : Addr) (fd : FuncData) : Prop := FunD K x x (defArgs st) (defBody st) (defScope st) [] kws f fd
abbrev FnP2 (K : PySem.W.Frag) (x q : Str) (st : Stmt) (f : Addr) (fd : FuncData) : Prop := FunD K x q (defArgs st) (defBody st) (defScope st) [] [] f fd
def clsB (s : Stmt) : List Stmt := match s with
  | .ClassDef _ _ _ b _ _ _ _ _ _ _ => b
  | _ => []
abbrev st__law_pool : Stmt := top 15
abbrev st__law_take : Stmt := top 16
abbrev st__law_kinds : Stmt := top 17
abbrev st__law_bases : Stmt := top 18
abbrev st__law_due : Stmt := top 19
abbrev st_law : Stmt := top 20
abbrev st_Contradiction____init__ : Stmt := (clsB (top 13)).getD 0 (.Pass ⟨0, 0, 0, 0⟩)
abbrev st_InvalidCommand____init__ : Stmt := (clsB (top 9)).getD 0 (.Pass ⟨0, 0, 0, 0⟩)
abbrev st_InvalidFact____init__ : Stmt := (clsB (top 6)).getD 0 (.Pass ⟨0, 0, 0, 0⟩)
abbrev st_InvalidItem____init__ : Stmt := (clsB (top 2)).getD 0 (.Pass ⟨0, 0, 0, 0⟩)
abbrev st_InvalidNumber____init__ : Stmt := (clsB (top 7)).getD 0 (.Pass ⟨0, 0, 0, 0⟩)
abbrev st_InvalidRanking____init__ : Stmt := (clsB (top 3)).getD 0 (.Pass ⟨0, 0, 0, 0⟩)
abbrev st_InvalidSet____init__ : Stmt := (clsB (top 5)).getD 0 (.Pass ⟨0, 0, 0, 0⟩)
abbrev st_InvalidText____init__ : Stmt := (clsB (top 8)).getD 0 (.Pass ⟨0, 0, 0, 0⟩)
abbrev st_InvalidTurns____init__ : Stmt := (clsB (top 4)).getD 0 (.Pass ⟨0, 0, 0, 0⟩)
abbrev st_LimitExceeded____init__ : Stmt := (clsB (top 12)).getD 0 (.Pass ⟨0, 0, 0, 0⟩)
abbrev st_UnknownItem____init__ : Stmt := (clsB (top 10)).getD 0 (.Pass ⟨0, 0, 0, 0⟩)
noncomputable def m__law_kinds : M Fl := (sSeq (sSet 1 (eLst (aCons (eIsX (tabX [("Contradiction", false), ("InvalidCommand", false), ("InvalidFact", false), ("InvalidItem", true), ("InvalidNumber", false), ("InvalidRanking", false), ("InvalidSet", false), ("InvalidText", false), ("InvalidTurns", false), ("LimitExceeded", false), ("NoTurn", false), ("UnknownItem", false)]) (eVar 0)) (aCons (eIsX (tabX [("Contradiction", false), ("InvalidCommand", false), ("InvalidFact", false), ("InvalidItem", false), ("InvalidNumber", false), ("InvalidRanking", true), ("InvalidSet", false), ("InvalidText", false), ("InvalidTurns", false), ("LimitExceeded", false), ("NoTurn", false), ("UnknownItem", false)]) (eVar 0)) (aCons (eIsX (tabX [("Contradiction", false), ("InvalidCommand", false), ("InvalidFact", false), ("InvalidItem", false), ("InvalidNumber", false), ("InvalidRanking", false), ("InvalidSet", false), ("InvalidText", false), ("InvalidTurns", true), ("LimitExceeded", false), ("NoTurn", false), ("UnknownItem", false)]) (eVar 0)) aNil))))) (sSeq (sSet 1 (eOp dAdd (eVar 1) (eLst (aCons (eIsX (tabX [("Contradiction", false), ("InvalidCommand", false), ("InvalidFact", false), ("InvalidItem", false), ("InvalidNumber", false), ("InvalidRanking", false), ("InvalidSet", true), ("InvalidText", false), ("InvalidTurns", false), ("LimitExceeded", false), ("NoTurn", false), ("UnknownItem", false)]) (eVar 0)) (aCons (eIsX (tabX [("Contradiction", false), ("InvalidCommand", false), ("InvalidFact", true), ("InvalidItem", false), ("InvalidNumber", false), ("InvalidRanking", false), ("InvalidSet", false), ("InvalidText", false), ("InvalidTurns", false), ("LimitExceeded", false), ("NoTurn", false), ("UnknownItem", false)]) (eVar 0)) (aCons (eIsX (tabX [("Contradiction", false), ("InvalidCommand", false), ("InvalidFact", false), ("InvalidItem", false), ("InvalidNumber", true), ("InvalidRanking", false), ("InvalidSet", false), ("InvalidText", false), ("InvalidTurns", false), ("LimitExceeded", false), ("NoTurn", false), ("UnknownItem", false)]) (eVar 0)) aNil)))))) (sSeq (sSet 1 (eOp dAdd (eVar 1) (eLst (aCons (eIsX (tabX [("Contradiction", false), ("InvalidCommand", false), ("InvalidFact", false), ("InvalidItem", false), ("InvalidNumber", false), ("InvalidRanking", false), ("InvalidSet", false), ("InvalidText", true), ("InvalidTurns", false), ("LimitExceeded", false), ("NoTurn", false), ("UnknownItem", false)]) (eVar 0)) (aCons (eIsX (tabX [("Contradiction", false), ("InvalidCommand", true), ("InvalidFact", false), ("InvalidItem", false), ("InvalidNumber", false), ("InvalidRanking", false), ("InvalidSet", false), ("InvalidText", false), ("InvalidTurns", false), ("LimitExceeded", false), ("NoTurn", false), ("UnknownItem", false)]) (eVar 0)) (aCons (eIsX (tabX [("Contradiction", false), ("InvalidCommand", false), ("InvalidFact", false), ("InvalidItem", false), ("InvalidNumber", false), ("InvalidRanking", false), ("InvalidSet", false), ("InvalidText", false), ("InvalidTurns", false), ("LimitExceeded", false), ("NoTurn", false), ("UnknownItem", true)]) (eVar 0)) aNil)))))) (sRet (eOp dAdd (eVar 1) (eLst (aCons (eIsX (tabX [("Contradiction", false), ("InvalidCommand", false), ("InvalidFact", false), ("InvalidItem", false), ("InvalidNumber", false), ("InvalidRanking", false), ("InvalidSet", false), ("InvalidText", false), ("InvalidTurns", false), ("LimitExceeded", false), ("NoTurn", true), ("UnknownItem", false)]) (eVar 0)) (aCons (eIsX (tabX [("Contradiction", false), ("InvalidCommand", false), ("InvalidFact", false), ("InvalidItem", false), ("InvalidNumber", false), ("InvalidRanking", false), ("InvalidSet", false), ("InvalidText", false), ("InvalidTurns", false), ("LimitExceeded", true), ("NoTurn", false), ("UnknownItem", false)]) (eVar 0)) (aCons (eIsX (tabX [("Contradiction", true), ("InvalidCommand", false), ("InvalidFact", false), ("InvalidItem", false), ("InvalidNumber", false), ("InvalidRanking", false), ("InvalidSet", false), ("InvalidText", false), ("InvalidTurns", false), ("LimitExceeded", false), ("NoTurn", false), ("UnknownItem", false)]) (eVar 0)) aNil)))))))))
noncomputable def sem__law_kinds : Sem := runW 2 m__law_kinds
noncomputable def m__law_bases : M Fl := (sSeq (sSet 1 (eLst (aCons (eIsX (tabX [("Contradiction", false), ("InvalidCommand", true), ("InvalidFact", true), ("InvalidItem", true), ("InvalidNumber", true), ("InvalidRanking", true), ("InvalidSet", true), ("InvalidText", true), ("InvalidTurns", true), ("LimitExceeded", false), ("NoTurn", false), ("UnknownItem", false)]) (eVar 0)) (aCons (eIsXT (tabX [("Contradiction", false), ("InvalidCommand", true), ("InvalidFact", true), ("InvalidItem", true), ("InvalidNumber", true), ("InvalidRanking", true), ("InvalidSet", true), ("InvalidText", true), ("InvalidTurns", true), ("LimitExceeded", false), ("NoTurn", false), ("UnknownItem", false)]) (eVar 0)) (aCons (eIsXT (tabX [("Contradiction", false), ("InvalidCommand", false), ("InvalidFact", false), ("InvalidItem", false), ("InvalidNumber", false), ("InvalidRanking", false), ("InvalidSet", false), ("InvalidText", false), ("InvalidTurns", false), ("LimitExceeded", false), ("NoTurn", false), ("UnknownItem", true)]) (eVar 0)) aNil))))) (sRet (eOp dAdd (eVar 1) (eLst (aCons (eIsXT (tabX [("Contradiction", false), ("InvalidCommand", false), ("InvalidFact", false), ("InvalidItem", false), ("InvalidNumber", false), ("InvalidRanking", false), ("InvalidSet", false), ("InvalidText", false), ("InvalidTurns", false), ("LimitExceeded", false), ("NoTurn", true), ("UnknownItem", true)]) (eVar 0)) (aCons (eIsXT (tabX [("Contradiction", false), ("InvalidCommand", false), ("InvalidFact", false), ("InvalidItem", false), ("InvalidNumber", false), ("InvalidRanking", false), ("InvalidSet", false), ("InvalidText", false), ("InvalidTurns", false), ("LimitExceeded", true), ("NoTurn", false), ("UnknownItem", false)]) (eVar 0)) (aCons (eIsXT (tabX [("Contradiction", true), ("InvalidCommand", false), ("InvalidFact", false), ("InvalidItem", false), ("InvalidNumber", false), ("InvalidRanking", false), ("InvalidSet", false), ("InvalidText", false), ("InvalidTurns", false), ("LimitExceeded", true), ("NoTurn", false), ("UnknownItem", false)]) (eVar 0)) aNil)))))))
noncomputable def sem__law_bases : Sem := runW 2 m__law_bases
noncomputable def m__law_due : M Fl := (sSeq (sIf (tOf (eOp dLtI (eVar 0) (eC (.int 8)))) (sRet (eLst (aCons (eC (.bl true)) (aCons (eC (.bl true)) (aCons (eC (.bl false)) (aCons (eC (.bl false)) (aCons (eC (.bl false)) (aCons (eC (.bl false)) aNil)))))))) sNx) (sRet (eLst (aCons (eC (.bl false)) (aCons (eC (.bl false)) (aCons (eOp dEq (eVar 0) (eC (.int 8))) (aCons (eOp dLtI (eVar 0) (eC (.int 10))) (aCons (eOp dEq (eVar 0) (eC (.int 10))) (aCons (eOp dGtI (eVar 0) (eC (.int 9))) aNil)))))))))
noncomputable def sem__law_due : Sem := run 1 m__law_due
noncomputable def e1_law : M D := (eVar 8)
noncomputable def b2_law : M Fl := (sSeq (sIf (tOf (eOp dNe (eLc (eCallW 1 sem__law_kinds (aCons (eVar 6) aNil)) itEnum (gTupD (gMore (gVar 8) (gMore (gVar 9) gNone))) (tOf (eVar 9)) e1_law [8, 9]) (eLst (aCons (eVar 5) aNil)))) (sRet (eC (.bl false))) sNx) (sIf (tOf (eOp dNe (eCallW 1 sem__law_bases (aCons (eVar 6) aNil)) (eCall [false] sem__law_due (aCons (eVar 5) aNil)))) (sRet (eC (.bl false))) sNx))
noncomputable def b3_law : M Fl := (sSeq (sSet 2 (eCallC [false, false] sem__law_pool (aCons (eVar 0) (aCons (eVar 1) aNil)))) (sSeq (sSet 3 (eOp dSub (eLst (aCons (eC .non) (aCons (eC (.int 5)) (aCons (eNeg (eC (.int 1))) (aCons (eC (.str "a")) (aCons (eTup aNil) (aCons (eTup (aCons (eC (.str "a")) (aCons (eC (.int 1)) aNil))) (aCons (eC (.bl true)) (aCons (eC (.str "")) (aCons (eOp dPowI (eC (.int 10)) (eC (.int 30))) (aCons (eLst (aCons (eC (.str "a")) aNil)) aNil))))))))))) (eCall [true, false] sem__law_take (aCons (eVar 2) (aCons (eC (.int 10)) aNil))))) (sSeq (sSet 4 (eLst (aCons (eNewX "InvalidItem" "value" (eVar 3)) (aCons (eNewX "InvalidRanking" "value" (eVar 3)) (aCons (eNewX "InvalidTurns" "value" (eVar 3)) (aCons (eNewX "InvalidSet" "value" (eVar 3)) (aCons (eNewX "InvalidFact" "index" (eVar 3)) aNil))))))) (sSeq (sSet 4 (eOp dAdd (eVar 4) (eLst (aCons (eNewX "InvalidNumber" "value" (eVar 3)) (aCons (eNewX "InvalidText" "line" (eVar 3)) (aCons (eNewX "InvalidCommand" "word" (eVar 3)) (aCons (eNewX "UnknownItem" "item" (eVar 3)) (aCons (eNewX0 "NoTurn") aNil)))))))) (sSeq (sSet 4 (eOp dAdd (eVar 4) (eLst (aCons (eNewX "LimitExceeded" "limit" (eVar 3)) (aCons (eNewX "Contradiction" "index" (eVar 3)) aNil))))) (sSeq (sFor (eVar 4) itEnum (gTupD (gMore (gVar 5) (gMore (gVar 6) gNone))) b2_law sNx) (sSeq (sSet 7 (eLst (aCons (eKf ["InvalidItem", "InvalidNumber", "InvalidRanking", "InvalidSet", "InvalidTurns"] "value" (eOp dSub (eVar 4) (eC (.int 0)))) (aCons (eKf ["InvalidItem", "InvalidNumber", "InvalidRanking", "InvalidSet", "InvalidTurns"] "value" (eOp dSub (eVar 4) (eC (.int 1)))) (aCons (eKf ["InvalidItem", "InvalidNumber", "InvalidRanking", "InvalidSet", "InvalidTurns"] "value" (eOp dSub (eVar 4) (eC (.int 2)))) (aCons (eKf ["InvalidItem", "InvalidNumber", "InvalidRanking", "InvalidSet", "InvalidTurns"] "value" (eOp dSub (eVar 4) (eC (.int 3)))) (aCons (eKf ["Contradiction", "InvalidFact"] "index" (eOp dSub (eVar 4) (eC (.int 4)))) (aCons (eKf ["InvalidItem", "InvalidNumber", "InvalidRanking", "InvalidSet", "InvalidTurns"] "value" (eOp dSub (eVar 4) (eC (.int 5)))) (aCons (eKf ["InvalidText"] "line" (eOp dSub (eVar 4) (eC (.int 6)))) aNil))))))))) (sSeq (sSet 7 (eOp dAdd (eVar 7) (eLst (aCons (eKf ["InvalidCommand"] "word" (eOp dSub (eVar 4) (eC (.int 7)))) (aCons (eKf ["UnknownItem"] "item" (eOp dSub (eVar 4) (eC (.int 8)))) (aCons (eKf ["LimitExceeded"] "limit" (eOp dSub (eVar 4) (eC (.int 10)))) (aCons (eKf ["Contradiction", "InvalidFact"] "index" (eOp dSub (eVar 4) (eC (.int 11)))) aNil))))))) (sSeq (sSet 7 (eOp dAdd (eVar 7) (eLst (aCons (eKf ["InvalidItem", "InvalidNumber", "InvalidRanking", "InvalidSet", "InvalidTurns"] "value" (eNewXK "InvalidItem" "value" (aCons (eVar 3) aNil))) (aCons (eKf ["InvalidItem", "InvalidNumber", "InvalidRanking", "InvalidSet", "InvalidTurns"] "value" (eNewXK "InvalidRanking" "value" (aCons (eVar 3) aNil))) aNil))))) (sSeq (sSet 7 (eOp dAdd (eVar 7) (eLst (aCons (eKf ["InvalidItem", "InvalidNumber", "InvalidRanking", "InvalidSet", "InvalidTurns"] "value" (eNewXK "InvalidTurns" "value" (aCons (eVar 3) aNil))) aNil)))) (sSeq (sSet 7 (eOp dAdd (eVar 7) (eLst (aCons (eKf ["InvalidItem", "InvalidNumber", "InvalidRanking", "InvalidSet", "InvalidTurns"] "value" (eNewXK "InvalidSet" "value" (aCons (eVar 3) aNil))) (aCons (eKf ["Contradiction", "InvalidFact"] "index" (eNewXK "InvalidFact" "index" (aCons (eVar 3) aNil))) (aCons (eKf ["InvalidItem", "InvalidNumber", "InvalidRanking", "InvalidSet", "InvalidTurns"] "value" (eNewXK "InvalidNumber" "value" (aCons (eVar 3) aNil))) aNil)))))) (sSeq (sSet 7 (eOp dAdd (eVar 7) (eLst (aCons (eKf ["InvalidText"] "line" (eNewXK "InvalidText" "line" (aCons (eVar 3) aNil))) (aCons (eKf ["InvalidCommand"] "word" (eNewXK "InvalidCommand" "word" (aCons (eVar 3) aNil))) (aCons (eKf ["UnknownItem"] "item" (eNewXK "UnknownItem" "item" (aCons (eVar 3) aNil))) aNil)))))) (sSeq (sSet 7 (eOp dAdd (eVar 7) (eLst (aCons (eKf ["LimitExceeded"] "limit" (eNewXK "LimitExceeded" "limit" (aCons (eVar 3) aNil))) (aCons (eKf ["Contradiction", "InvalidFact"] "index" (eNewXK "Contradiction" "index" (aCons (eVar 3) aNil))) aNil))))) (sIf (tOf (eOp dNe (eCB dReprZ (aCons (eVar 7) aNil)) (eCB dReprZ (aCons (eOp dMul (eLst (aCons (eVar 3) aNil)) (eC (.int 22))) aNil)))) (sRet (eC (.bl false))) sNx))))))))))))))
noncomputable def m_law : M Fl := (sSeq (sFor (eRng1 (aCons (eCB (g2 dMax2) (aCons (eC (.int 1)) (aCons (eCB (g2 dMin2) (aCons (eCB (g1 dLen) (aCons (eVar 0) aNil)) (aCons (eC (.int 10)) aNil))) aNil))) aNil)) itRng (gVar 1) b3_law sNx) (sRet (eC (.bl true))))
noncomputable def sem_law : Sem := run 10 m_law
theorem sc__law_pool : FnScope ["_law_script", "_law_k", "_law_cell", "_law_size", "_law_blend", "_law_seed"] ["_law_script", "_law_k"] (defScope st__law_pool) := ⟨rfl, rfl, rfl, by decide +kernel, rfl, by decide +kernel, by decide +kernel⟩
theorem sc__law_take : FnScope ["_law_pool_here", "_law_wide", "_law_result"] ["_law_pool_here", "_law_wide"] (defScope st__law_take) := ⟨rfl, rfl, rfl, by decide +kernel, rfl, by decide +kernel, by decide +kernel⟩
theorem sc__law_kinds : FnScope ["_law_e", "_law_result"] ["_law_e"] (defScope st__law_kinds) := ⟨rfl, rfl, rfl, by decide +kernel, rfl, by decide +kernel, by decide +kernel⟩
theorem sc__law_bases : FnScope ["_law_e", "_law_result"] ["_law_e"] (defScope st__law_bases) := ⟨rfl, rfl, rfl, by decide +kernel, rfl, by decide +kernel, by decide +kernel⟩
theorem sc__law_due : FnScope ["_law_number"] ["_law_number"] (defScope st__law_due) := ⟨rfl, rfl, rfl, by decide +kernel, rfl, by decide +kernel, by decide +kernel⟩
theorem sc_law : FnScope ["_law_script", "_law_k", "_law_pool_here", "_law_thing", "_law_some", "_law_number", "_law_one", "_law_told", "_law_at", "_law_own"] ["_law_script"] (defScope st_law) := ⟨rfl, rfl, rfl, by decide +kernel, rfl, by decide +kernel, by decide +kernel⟩
theorem sc_Contradiction____init__ : FnScope ["self", "index"] ["self", "index"] (defScope st_Contradiction____init__) := ⟨rfl, rfl, rfl, by decide +kernel, rfl, by decide +kernel, by decide +kernel⟩
theorem sc_InvalidCommand____init__ : FnScope ["self", "word"] ["self", "word"] (defScope st_InvalidCommand____init__) := ⟨rfl, rfl, rfl, by decide +kernel, rfl, by decide +kernel, by decide +kernel⟩
theorem sc_InvalidFact____init__ : FnScope ["self", "index"] ["self", "index"] (defScope st_InvalidFact____init__) := ⟨rfl, rfl, rfl, by decide +kernel, rfl, by decide +kernel, by decide +kernel⟩
theorem sc_InvalidItem____init__ : FnScope ["self", "value"] ["self", "value"] (defScope st_InvalidItem____init__) := ⟨rfl, rfl, rfl, by decide +kernel, rfl, by decide +kernel, by decide +kernel⟩
theorem sc_InvalidNumber____init__ : FnScope ["self", "value"] ["self", "value"] (defScope st_InvalidNumber____init__) := ⟨rfl, rfl, rfl, by decide +kernel, rfl, by decide +kernel, by decide +kernel⟩
theorem sc_InvalidRanking____init__ : FnScope ["self", "value"] ["self", "value"] (defScope st_InvalidRanking____init__) := ⟨rfl, rfl, rfl, by decide +kernel, rfl, by decide +kernel, by decide +kernel⟩
theorem sc_InvalidSet____init__ : FnScope ["self", "value"] ["self", "value"] (defScope st_InvalidSet____init__) := ⟨rfl, rfl, rfl, by decide +kernel, rfl, by decide +kernel, by decide +kernel⟩
theorem sc_InvalidText____init__ : FnScope ["self", "line"] ["self", "line"] (defScope st_InvalidText____init__) := ⟨rfl, rfl, rfl, by decide +kernel, rfl, by decide +kernel, by decide +kernel⟩
theorem sc_InvalidTurns____init__ : FnScope ["self", "value"] ["self", "value"] (defScope st_InvalidTurns____init__) := ⟨rfl, rfl, rfl, by decide +kernel, rfl, by decide +kernel, by decide +kernel⟩
theorem sc_LimitExceeded____init__ : FnScope ["self", "limit"] ["self", "limit"] (defScope st_LimitExceeded____init__) := ⟨rfl, rfl, rfl, by decide +kernel, rfl, by decide +kernel, by decide +kernel⟩
theorem sc_UnknownItem____init__ : FnScope ["self", "item"] ["self", "item"] (defScope st_UnknownItem____init__) := ⟨rfl, rfl, rfl, by decide +kernel, rfl, by decide +kernel, by decide +kernel⟩
structure Lw (K : PySem.W.Frag) (mg : Str → Option Value) where
  fd__law_pool : FuncData
  F__law_pool : FnP K "_law_pool" st__law_pool (He.ga K "_law_pool") fd__law_pool
  g__law_pool : mg "_law_pool" = some (.ref (He.ga K "_law_pool"))
  fd__law_take : FuncData
  F__law_take : FnP K "_law_take" st__law_take (He.ga K "_law_take") fd__law_take
  g__law_take : mg "_law_take" = some (.ref (He.ga K "_law_take"))
  fd__law_kinds : FuncData
  F__law_kinds : FnP K "_law_kinds" st__law_kinds (He.ga K "_law_kinds") fd__law_kinds
  g__law_kinds : mg "_law_kinds" = some (.ref (He.ga K "_law_kinds"))
  fd__law_bases : FuncData
  F__law_bases : FnP K "_law_bases" st__law_bases (He.ga K "_law_bases") fd__law_bases
  g__law_bases : mg "_law_bases" = some (.ref (He.ga K "_law_bases"))
  fd__law_due : FuncData
  F__law_due : FnP K "_law_due" st__law_due (He.ga K "_law_due") fd__law_due
  g__law_due : mg "_law_due" = some (.ref (He.ga K "_law_due"))
  fd_law : FuncData
  F_law : FnP K "law" st_law (He.ga K "law") fd_law
  g_law : mg "law" = some (.ref (He.ga K "law"))
  fd_Contradiction____init__ : FuncData
  F_Contradiction____init__ : FnP2 K "__init__" "Contradiction.__init__" st_Contradiction____init__ (He.ma K (He.ga K "Contradiction") "__init__") fd_Contradiction____init__
  fd_InvalidCommand____init__ : FuncData
  F_InvalidCommand____init__ : FnP2 K "__init__" "InvalidCommand.__init__" st_InvalidCommand____init__ (He.ma K (He.ga K "InvalidCommand") "__init__") fd_InvalidCommand____init__
  fd_InvalidFact____init__ : FuncData
  F_InvalidFact____init__ : FnP2 K "__init__" "InvalidFact.__init__" st_InvalidFact____init__ (He.ma K (He.ga K "InvalidFact") "__init__") fd_InvalidFact____init__
  fd_InvalidItem____init__ : FuncData
  F_InvalidItem____init__ : FnP2 K "__init__" "InvalidItem.__init__" st_InvalidItem____init__ (He.ma K (He.ga K "InvalidItem") "__init__") fd_InvalidItem____init__
  fd_InvalidNumber____init__ : FuncData
  F_InvalidNumber____init__ : FnP2 K "__init__" "InvalidNumber.__init__" st_InvalidNumber____init__ (He.ma K (He.ga K "InvalidNumber") "__init__") fd_InvalidNumber____init__
  fd_InvalidRanking____init__ : FuncData
  F_InvalidRanking____init__ : FnP2 K "__init__" "InvalidRanking.__init__" st_InvalidRanking____init__ (He.ma K (He.ga K "InvalidRanking") "__init__") fd_InvalidRanking____init__
  fd_InvalidSet____init__ : FuncData
  F_InvalidSet____init__ : FnP2 K "__init__" "InvalidSet.__init__" st_InvalidSet____init__ (He.ma K (He.ga K "InvalidSet") "__init__") fd_InvalidSet____init__
  fd_InvalidText____init__ : FuncData
  F_InvalidText____init__ : FnP2 K "__init__" "InvalidText.__init__" st_InvalidText____init__ (He.ma K (He.ga K "InvalidText") "__init__") fd_InvalidText____init__
  fd_InvalidTurns____init__ : FuncData
  F_InvalidTurns____init__ : FnP2 K "__init__" "InvalidTurns.__init__" st_InvalidTurns____init__ (He.ma K (He.ga K "InvalidTurns") "__init__") fd_InvalidTurns____init__
  fd_LimitExceeded____init__ : FuncData
  F_LimitExceeded____init__ : FnP2 K "__init__" "LimitExceeded.__init__" st_LimitExceeded____init__ (He.ma K (He.ga K "LimitExceeded") "__init__") fd_LimitExceeded____init__
  fd_UnknownItem____init__ : FuncData
  F_UnknownItem____init__ : FnP2 K "__init__" "UnknownItem.__init__" st_UnknownItem____init__ (He.ma K (He.ga K "UnknownItem") "__init__") fd_UnknownItem____init__
  z_NoTurn : Own0 K (He.ga K "NoTurn") "LookupError.__new__" [.type "LookupError", .type "Exception", .type "BaseException", .type "object"]
  o_Contradiction : OexID K (He.ga K "Contradiction") (He.ma K (He.ga K "Contradiction") "__init__") "index" "ArithmeticError.__new__" [.type "ArithmeticError", .type "Exception", .type "BaseException", .type "object"]
  o_InvalidCommand : OexI K (He.ga K "InvalidCommand") (He.ma K (He.ga K "InvalidCommand") "__init__") "word"
  o_InvalidFact : OexI K (He.ga K "InvalidFact") (He.ma K (He.ga K "InvalidFact") "__init__") "index"
  o_InvalidItem : OexI K (He.ga K "InvalidItem") (He.ma K (He.ga K "InvalidItem") "__init__") "value"
  o_InvalidNumber : OexI K (He.ga K "InvalidNumber") (He.ma K (He.ga K "InvalidNumber") "__init__") "value"
  o_InvalidRanking : OexI K (He.ga K "InvalidRanking") (He.ma K (He.ga K "InvalidRanking") "__init__") "value"
  o_InvalidSet : OexI K (He.ga K "InvalidSet") (He.ma K (He.ga K "InvalidSet") "__init__") "value"
  o_InvalidText : OexI K (He.ga K "InvalidText") (He.ma K (He.ga K "InvalidText") "__init__") "line"
  o_InvalidTurns : OexI K (He.ga K "InvalidTurns") (He.ma K (He.ga K "InvalidTurns") "__init__") "value"
  o_LimitExceeded : OexID K (He.ga K "LimitExceeded") (He.ma K (He.ga K "LimitExceeded") "__init__") "limit" "OverflowError.__new__" [.type "OverflowError", .type "ArithmeticError", .type "Exception", .type "BaseException", .type "object"]
  o_UnknownItem : OexID K (He.ga K "UnknownItem") (He.ma K (He.ga K "UnknownItem") "__init__") "item" "LookupError.__new__" [.type "KeyError", .type "LookupError", .type "Exception", .type "BaseException", .type "object"]
  g_Contradiction : mg "Contradiction" = some (.ref (He.ga K "Contradiction"))
  g_InvalidCommand : mg "InvalidCommand" = some (.ref (He.ga K "InvalidCommand"))
  g_InvalidFact : mg "InvalidFact" = some (.ref (He.ga K "InvalidFact"))
  g_InvalidItem : mg "InvalidItem" = some (.ref (He.ga K "InvalidItem"))
  g_InvalidNumber : mg "InvalidNumber" = some (.ref (He.ga K "InvalidNumber"))
  g_InvalidRanking : mg "InvalidRanking" = some (.ref (He.ga K "InvalidRanking"))
  g_InvalidSet : mg "InvalidSet" = some (.ref (He.ga K "InvalidSet"))
  g_InvalidText : mg "InvalidText" = some (.ref (He.ga K "InvalidText"))
  g_InvalidTurns : mg "InvalidTurns" = some (.ref (He.ga K "InvalidTurns"))
  g_LimitExceeded : mg "LimitExceeded" = some (.ref (He.ga K "LimitExceeded"))
  g_NoTurn : mg "NoTurn" = some (.ref (He.ga K "NoTurn"))
  g_PickingError : mg "PickingError" = some (.ref (He.ga K "PickingError"))
  g_UnknownItem : mg "UnknownItem" = some (.ref (He.ga K "UnknownItem"))
  xf_Contradiction : XfC K (He.ga K "Contradiction")
  n_Contradiction_index : NoAttr K (He.ga K "Contradiction") "index"
  xf_InvalidCommand : XfC K (He.ga K "InvalidCommand")
  n_InvalidCommand_word : NoAttr K (He.ga K "InvalidCommand") "word"
  xf_InvalidFact : XfC K (He.ga K "InvalidFact")
  n_InvalidFact_index : NoAttr K (He.ga K "InvalidFact") "index"
  xf_InvalidItem : XfC K (He.ga K "InvalidItem")
  n_InvalidItem_value : NoAttr K (He.ga K "InvalidItem") "value"
  xf_InvalidNumber : XfC K (He.ga K "InvalidNumber")
  n_InvalidNumber_value : NoAttr K (He.ga K "InvalidNumber") "value"
  xf_InvalidRanking : XfC K (He.ga K "InvalidRanking")
  n_InvalidRanking_value : NoAttr K (He.ga K "InvalidRanking") "value"
  xf_InvalidSet : XfC K (He.ga K "InvalidSet")
  n_InvalidSet_value : NoAttr K (He.ga K "InvalidSet") "value"
  xf_InvalidText : XfC K (He.ga K "InvalidText")
  n_InvalidText_line : NoAttr K (He.ga K "InvalidText") "line"
  xf_InvalidTurns : XfC K (He.ga K "InvalidTurns")
  n_InvalidTurns_value : NoAttr K (He.ga K "InvalidTurns") "value"
  xf_LimitExceeded : XfC K (He.ga K "LimitExceeded")
  n_LimitExceeded_limit : NoAttr K (He.ga K "LimitExceeded") "limit"
  xf_UnknownItem : XfC K (He.ga K "UnknownItem")
  n_UnknownItem_item : NoAttr K (He.ga K "UnknownItem") "item"
  oD_Contradiction : OexID K (He.ga K "Contradiction") (He.ma K (He.ga K "Contradiction") "__init__") "index" "ArithmeticError.__new__" [.type "ArithmeticError", .type "Exception", .type "BaseException", .type "object"]
  oD_InvalidCommand : OexID K (He.ga K "InvalidCommand") (He.ma K (He.ga K "InvalidCommand") "__init__") "word" "ValueError.__new__" [.type "ValueError", .type "Exception", .type "BaseException", .type "object"]
  oD_InvalidFact : OexID K (He.ga K "InvalidFact") (He.ma K (He.ga K "InvalidFact") "__init__") "index" "ValueError.__new__" [.type "ValueError", .type "Exception", .type "BaseException", .type "object"]
  oD_InvalidItem : OexID K (He.ga K "InvalidItem") (He.ma K (He.ga K "InvalidItem") "__init__") "value" "ValueError.__new__" [.type "ValueError", .type "Exception", .type "BaseException", .type "object"]
  oD_InvalidNumber : OexID K (He.ga K "InvalidNumber") (He.ma K (He.ga K "InvalidNumber") "__init__") "value" "ValueError.__new__" [.type "ValueError", .type "Exception", .type "BaseException", .type "object"]
  oD_InvalidRanking : OexID K (He.ga K "InvalidRanking") (He.ma K (He.ga K "InvalidRanking") "__init__") "value" "ValueError.__new__" [.type "ValueError", .type "Exception", .type "BaseException", .type "object"]
  oD_InvalidSet : OexID K (He.ga K "InvalidSet") (He.ma K (He.ga K "InvalidSet") "__init__") "value" "ValueError.__new__" [.type "ValueError", .type "Exception", .type "BaseException", .type "object"]
  oD_InvalidText : OexID K (He.ga K "InvalidText") (He.ma K (He.ga K "InvalidText") "__init__") "line" "ValueError.__new__" [.type "ValueError", .type "Exception", .type "BaseException", .type "object"]
  oD_InvalidTurns : OexID K (He.ga K "InvalidTurns") (He.ma K (He.ga K "InvalidTurns") "__init__") "value" "ValueError.__new__" [.type "ValueError", .type "Exception", .type "BaseException", .type "object"]
  oD_LimitExceeded : OexID K (He.ga K "LimitExceeded") (He.ma K (He.ga K "LimitExceeded") "__init__") "limit" "OverflowError.__new__" [.type "OverflowError", .type "ArithmeticError", .type "Exception", .type "BaseException", .type "object"]
  oD_UnknownItem : OexID K (He.ga K "UnknownItem") (He.ma K (He.ga K "UnknownItem") "__init__") "item" "LookupError.__new__" [.type "KeyError", .type "LookupError", .type "Exception", .type "BaseException", .type "object"]
  it_Contradiction_ArithmeticError : PySem.W.kitOne K (.ref (He.ga K "Contradiction")) (.type "ArithmeticError") = some true
  it_InvalidCommand_ArithmeticError : PySem.W.kitOne K (.ref (He.ga K "InvalidCommand")) (.type "ArithmeticError") = some false
  it_InvalidFact_ArithmeticError : PySem.W.kitOne K (.ref (He.ga K "InvalidFact")) (.type "ArithmeticError") = some false
  it_InvalidItem_ArithmeticError : PySem.W.kitOne K (.ref (He.ga K "InvalidItem")) (.type "ArithmeticError") = some false
  it_InvalidNumber_ArithmeticError : PySem.W.kitOne K (.ref (He.ga K "InvalidNumber")) (.type "ArithmeticError") = some false
  it_InvalidRanking_ArithmeticError : PySem.W.kitOne K (.ref (He.ga K "InvalidRanking")) (.type "ArithmeticError") = some false
  it_InvalidSet_ArithmeticError : PySem.W.kitOne K (.ref (He.ga K "InvalidSet")) (.type "ArithmeticError") = some false
  it_InvalidText_ArithmeticError : PySem.W.kitOne K (.ref (He.ga K "InvalidText")) (.type "ArithmeticError") = some false
  it_InvalidTurns_ArithmeticError : PySem.W.kitOne K (.ref (He.ga K "InvalidTurns")) (.type "ArithmeticError") = some false
  it_LimitExceeded_ArithmeticError : PySem.W.kitOne K (.ref (He.ga K "LimitExceeded")) (.type "ArithmeticError") = some true
  it_NoTurn_ArithmeticError : PySem.W.kitOne K (.ref (He.ga K "NoTurn")) (.type "ArithmeticError") = some false
  it_UnknownItem_ArithmeticError : PySem.W.kitOne K (.ref (He.ga K "UnknownItem")) (.type "ArithmeticError") = some false
  it_Contradiction_KeyError : PySem.W.kitOne K (.ref (He.ga K "Contradiction")) (.type "KeyError") = some false
  it_InvalidCommand_KeyError : PySem.W.kitOne K (.ref (He.ga K "InvalidCommand")) (.type "KeyError") = some false
  it_InvalidFact_KeyError : PySem.W.kitOne K (.ref (He.ga K "InvalidFact")) (.type "KeyError") = some false
  it_InvalidItem_KeyError : PySem.W.kitOne K (.ref (He.ga K "InvalidItem")) (.type "KeyError") = some false
  it_InvalidNumber_KeyError : PySem.W.kitOne K (.ref (He.ga K "InvalidNumber")) (.type "KeyError") = some false
  it_InvalidRanking_KeyError : PySem.W.kitOne K (.ref (He.ga K "InvalidRanking")) (.type "KeyError") = some false
  it_InvalidSet_KeyError : PySem.W.kitOne K (.ref (He.ga K "InvalidSet")) (.type "KeyError") = some false
  it_InvalidText_KeyError : PySem.W.kitOne K (.ref (He.ga K "InvalidText")) (.type "KeyError") = some false
  it_InvalidTurns_KeyError : PySem.W.kitOne K (.ref (He.ga K "InvalidTurns")) (.type "KeyError") = some false
  it_LimitExceeded_KeyError : PySem.W.kitOne K (.ref (He.ga K "LimitExceeded")) (.type "KeyError") = some false
  it_NoTurn_KeyError : PySem.W.kitOne K (.ref (He.ga K "NoTurn")) (.type "KeyError") = some false
  it_UnknownItem_KeyError : PySem.W.kitOne K (.ref (He.ga K "UnknownItem")) (.type "KeyError") = some true
  it_Contradiction_LookupError : PySem.W.kitOne K (.ref (He.ga K "Contradiction")) (.type "LookupError") = some false
  it_InvalidCommand_LookupError : PySem.W.kitOne K (.ref (He.ga K "InvalidCommand")) (.type "LookupError") = some false
  it_InvalidFact_LookupError : PySem.W.kitOne K (.ref (He.ga K "InvalidFact")) (.type "LookupError") = some false
  it_InvalidItem_LookupError : PySem.W.kitOne K (.ref (He.ga K "InvalidItem")) (.type "LookupError") = some false
  it_InvalidNumber_LookupError : PySem.W.kitOne K (.ref (He.ga K "InvalidNumber")) (.type "LookupError") = some false
  it_InvalidRanking_LookupError : PySem.W.kitOne K (.ref (He.ga K "InvalidRanking")) (.type "LookupError") = some false
  it_InvalidSet_LookupError : PySem.W.kitOne K (.ref (He.ga K "InvalidSet")) (.type "LookupError") = some false
  it_InvalidText_LookupError : PySem.W.kitOne K (.ref (He.ga K "InvalidText")) (.type "LookupError") = some false
  it_InvalidTurns_LookupError : PySem.W.kitOne K (.ref (He.ga K "InvalidTurns")) (.type "LookupError") = some false
  it_LimitExceeded_LookupError : PySem.W.kitOne K (.ref (He.ga K "LimitExceeded")) (.type "LookupError") = some false
  it_NoTurn_LookupError : PySem.W.kitOne K (.ref (He.ga K "NoTurn")) (.type "LookupError") = some true
  it_UnknownItem_LookupError : PySem.W.kitOne K (.ref (He.ga K "UnknownItem")) (.type "LookupError") = some true
  it_Contradiction_OverflowError : PySem.W.kitOne K (.ref (He.ga K "Contradiction")) (.type "OverflowError") = some false
  it_InvalidCommand_OverflowError : PySem.W.kitOne K (.ref (He.ga K "InvalidCommand")) (.type "OverflowError") = some false
  it_InvalidFact_OverflowError : PySem.W.kitOne K (.ref (He.ga K "InvalidFact")) (.type "OverflowError") = some false
  it_InvalidItem_OverflowError : PySem.W.kitOne K (.ref (He.ga K "InvalidItem")) (.type "OverflowError") = some false
  it_InvalidNumber_OverflowError : PySem.W.kitOne K (.ref (He.ga K "InvalidNumber")) (.type "OverflowError") = some false
  it_InvalidRanking_OverflowError : PySem.W.kitOne K (.ref (He.ga K "InvalidRanking")) (.type "OverflowError") = some false
  it_InvalidSet_OverflowError : PySem.W.kitOne K (.ref (He.ga K "InvalidSet")) (.type "OverflowError") = some false
  it_InvalidText_OverflowError : PySem.W.kitOne K (.ref (He.ga K "InvalidText")) (.type "OverflowError") = some false
  it_InvalidTurns_OverflowError : PySem.W.kitOne K (.ref (He.ga K "InvalidTurns")) (.type "OverflowError") = some false
  it_LimitExceeded_OverflowError : PySem.W.kitOne K (.ref (He.ga K "LimitExceeded")) (.type "OverflowError") = some true
  it_NoTurn_OverflowError : PySem.W.kitOne K (.ref (He.ga K "NoTurn")) (.type "OverflowError") = some false
  it_UnknownItem_OverflowError : PySem.W.kitOne K (.ref (He.ga K "UnknownItem")) (.type "OverflowError") = some false
  it_Contradiction_ValueError : PySem.W.kitOne K (.ref (He.ga K "Contradiction")) (.type "ValueError") = some false
  it_InvalidCommand_ValueError : PySem.W.kitOne K (.ref (He.ga K "InvalidCommand")) (.type "ValueError") = some true
  it_InvalidFact_ValueError : PySem.W.kitOne K (.ref (He.ga K "InvalidFact")) (.type "ValueError") = some true
  it_InvalidItem_ValueError : PySem.W.kitOne K (.ref (He.ga K "InvalidItem")) (.type "ValueError") = some true
  it_InvalidNumber_ValueError : PySem.W.kitOne K (.ref (He.ga K "InvalidNumber")) (.type "ValueError") = some true
  it_InvalidRanking_ValueError : PySem.W.kitOne K (.ref (He.ga K "InvalidRanking")) (.type "ValueError") = some true
  it_InvalidSet_ValueError : PySem.W.kitOne K (.ref (He.ga K "InvalidSet")) (.type "ValueError") = some true
  it_InvalidText_ValueError : PySem.W.kitOne K (.ref (He.ga K "InvalidText")) (.type "ValueError") = some true
  it_InvalidTurns_ValueError : PySem.W.kitOne K (.ref (He.ga K "InvalidTurns")) (.type "ValueError") = some true
  it_LimitExceeded_ValueError : PySem.W.kitOne K (.ref (He.ga K "LimitExceeded")) (.type "ValueError") = some false
  it_NoTurn_ValueError : PySem.W.kitOne K (.ref (He.ga K "NoTurn")) (.type "ValueError") = some false
  it_UnknownItem_ValueError : PySem.W.kitOne K (.ref (He.ga K "UnknownItem")) (.type "ValueError") = some false
  ek_Contradiction : ExcKd K (He.ga K "Contradiction")
  ek_InvalidCommand : ExcKd K (He.ga K "InvalidCommand")
  ek_InvalidFact : ExcKd K (He.ga K "InvalidFact")
  ek_InvalidItem : ExcKd K (He.ga K "InvalidItem")
  ek_InvalidNumber : ExcKd K (He.ga K "InvalidNumber")
  ek_InvalidRanking : ExcKd K (He.ga K "InvalidRanking")
  ek_InvalidSet : ExcKd K (He.ga K "InvalidSet")
  ek_InvalidText : ExcKd K (He.ga K "InvalidText")
  ek_InvalidTurns : ExcKd K (He.ga K "InvalidTurns")
  ek_LimitExceeded : ExcKd K (He.ga K "LimitExceeded")
  ek_NoTurn : ExcKd K (He.ga K "NoTurn")
  ek_UnknownItem : ExcKd K (He.ga K "UnknownItem")
  i0_Contradiction : PySem.W.kitOne K (.type "NoneType") (.ref (He.ga K "Contradiction")) = some false
  ix_Contradiction_Contradiction : PySem.W.kitOne K (.ref (He.ga K "Contradiction")) (.ref (He.ga K "Contradiction")) = some true
  ix_InvalidCommand_Contradiction : PySem.W.kitOne K (.ref (He.ga K "InvalidCommand")) (.ref (He.ga K "Contradiction")) = some false
  ix_InvalidFact_Contradiction : PySem.W.kitOne K (.ref (He.ga K "InvalidFact")) (.ref (He.ga K "Contradiction")) = some false
  ix_InvalidItem_Contradiction : PySem.W.kitOne K (.ref (He.ga K "InvalidItem")) (.ref (He.ga K "Contradiction")) = some false
  ix_InvalidNumber_Contradiction : PySem.W.kitOne K (.ref (He.ga K "InvalidNumber")) (.ref (He.ga K "Contradiction")) = some false
  ix_InvalidRanking_Contradiction : PySem.W.kitOne K (.ref (He.ga K "InvalidRanking")) (.ref (He.ga K "Contradiction")) = some false
  ix_InvalidSet_Contradiction : PySem.W.kitOne K (.ref (He.ga K "InvalidSet")) (.ref (He.ga K "Contradiction")) = some false
  ix_InvalidText_Contradiction : PySem.W.kitOne K (.ref (He.ga K "InvalidText")) (.ref (He.ga K "Contradiction")) = some false
  ix_InvalidTurns_Contradiction : PySem.W.kitOne K (.ref (He.ga K "InvalidTurns")) (.ref (He.ga K "Contradiction")) = some false
  ix_LimitExceeded_Contradiction : PySem.W.kitOne K (.ref (He.ga K "LimitExceeded")) (.ref (He.ga K "Contradiction")) = some false
  ix_NoTurn_Contradiction : PySem.W.kitOne K (.ref (He.ga K "NoTurn")) (.ref (He.ga K "Contradiction")) = some false
  ix_UnknownItem_Contradiction : PySem.W.kitOne K (.ref (He.ga K "UnknownItem")) (.ref (He.ga K "Contradiction")) = some false
  i0_InvalidCommand : PySem.W.kitOne K (.type "NoneType") (.ref (He.ga K "InvalidCommand")) = some false
  ix_Contradiction_InvalidCommand : PySem.W.kitOne K (.ref (He.ga K "Contradiction")) (.ref (He.ga K "InvalidCommand")) = some false
  ix_InvalidCommand_InvalidCommand : PySem.W.kitOne K (.ref (He.ga K "InvalidCommand")) (.ref (He.ga K "InvalidCommand")) = some true
  ix_InvalidFact_InvalidCommand : PySem.W.kitOne K (.ref (He.ga K "InvalidFact")) (.ref (He.ga K "InvalidCommand")) = some false
  ix_InvalidItem_InvalidCommand : PySem.W.kitOne K (.ref (He.ga K "InvalidItem")) (.ref (He.ga K "InvalidCommand")) = some false
  ix_InvalidNumber_InvalidCommand : PySem.W.kitOne K (.ref (He.ga K "InvalidNumber")) (.ref (He.ga K "InvalidCommand")) = some false
  ix_InvalidRanking_InvalidCommand : PySem.W.kitOne K (.ref (He.ga K "InvalidRanking")) (.ref (He.ga K "InvalidCommand")) = some false
  ix_InvalidSet_InvalidCommand : PySem.W.kitOne K (.ref (He.ga K "InvalidSet")) (.ref (He.ga K "InvalidCommand")) = some false
  ix_InvalidText_InvalidCommand : PySem.W.kitOne K (.ref (He.ga K "InvalidText")) (.ref (He.ga K "InvalidCommand")) = some false
  ix_InvalidTurns_InvalidCommand : PySem.W.kitOne K (.ref (He.ga K "InvalidTurns")) (.ref (He.ga K "InvalidCommand")) = some false
  ix_LimitExceeded_InvalidCommand : PySem.W.kitOne K (.ref (He.ga K "LimitExceeded")) (.ref (He.ga K "InvalidCommand")) = some false
  ix_NoTurn_InvalidCommand : PySem.W.kitOne K (.ref (He.ga K "NoTurn")) (.ref (He.ga K "InvalidCommand")) = some false
  ix_UnknownItem_InvalidCommand : PySem.W.kitOne K (.ref (He.ga K "UnknownItem")) (.ref (He.ga K "InvalidCommand")) = some false
  i0_InvalidFact : PySem.W.kitOne K (.type "NoneType") (.ref (He.ga K "InvalidFact")) = some false
  ix_Contradiction_InvalidFact : PySem.W.kitOne K (.ref (He.ga K "Contradiction")) (.ref (He.ga K "InvalidFact")) = some false
  ix_InvalidCommand_InvalidFact : PySem.W.kitOne K (.ref (He.ga K "InvalidCommand")) (.ref (He.ga K "InvalidFact")) = some false
  ix_InvalidFact_InvalidFact : PySem.W.kitOne K (.ref (He.ga K "InvalidFact")) (.ref (He.ga K "InvalidFact")) = some true
  ix_InvalidItem_InvalidFact : PySem.W.kitOne K (.ref (He.ga K "InvalidItem")) (.ref (He.ga K "InvalidFact")) = some false
  ix_InvalidNumber_InvalidFact : PySem.W.kitOne K (.ref (He.ga K "InvalidNumber")) (.ref (He.ga K "InvalidFact")) = some false
  ix_InvalidRanking_InvalidFact : PySem.W.kitOne K (.ref (He.ga K "InvalidRanking")) (.ref (He.ga K "InvalidFact")) = some false
  ix_InvalidSet_InvalidFact : PySem.W.kitOne K (.ref (He.ga K "InvalidSet")) (.ref (He.ga K "InvalidFact")) = some false
  ix_InvalidText_InvalidFact : PySem.W.kitOne K (.ref (He.ga K "InvalidText")) (.ref (He.ga K "InvalidFact")) = some false
  ix_InvalidTurns_InvalidFact : PySem.W.kitOne K (.ref (He.ga K "InvalidTurns")) (.ref (He.ga K "InvalidFact")) = some false
  ix_LimitExceeded_InvalidFact : PySem.W.kitOne K (.ref (He.ga K "LimitExceeded")) (.ref (He.ga K "InvalidFact")) = some false
  ix_NoTurn_InvalidFact : PySem.W.kitOne K (.ref (He.ga K "NoTurn")) (.ref (He.ga K "InvalidFact")) = some false
  ix_UnknownItem_InvalidFact : PySem.W.kitOne K (.ref (He.ga K "UnknownItem")) (.ref (He.ga K "InvalidFact")) = some false
  i0_InvalidItem : PySem.W.kitOne K (.type "NoneType") (.ref (He.ga K "InvalidItem")) = some false
  ix_Contradiction_InvalidItem : PySem.W.kitOne K (.ref (He.ga K "Contradiction")) (.ref (He.ga K "InvalidItem")) = some false
  ix_InvalidCommand_InvalidItem : PySem.W.kitOne K (.ref (He.ga K "InvalidCommand")) (.ref (He.ga K "InvalidItem")) = some false
  ix_InvalidFact_InvalidItem : PySem.W.kitOne K (.ref (He.ga K "InvalidFact")) (.ref (He.ga K "InvalidItem")) = some false
  ix_InvalidItem_InvalidItem : PySem.W.kitOne K (.ref (He.ga K "InvalidItem")) (.ref (He.ga K "InvalidItem")) = some true
  ix_InvalidNumber_InvalidItem : PySem.W.kitOne K (.ref (He.ga K "InvalidNumber")) (.ref (He.ga K "InvalidItem")) = some false
  ix_InvalidRanking_InvalidItem : PySem.W.kitOne K (.ref (He.ga K "InvalidRanking")) (.ref (He.ga K "InvalidItem")) = some false
  ix_InvalidSet_InvalidItem : PySem.W.kitOne K (.ref (He.ga K "InvalidSet")) (.ref (He.ga K "InvalidItem")) = some false
  ix_InvalidText_InvalidItem : PySem.W.kitOne K (.ref (He.ga K "InvalidText")) (.ref (He.ga K "InvalidItem")) = some false
  ix_InvalidTurns_InvalidItem : PySem.W.kitOne K (.ref (He.ga K "InvalidTurns")) (.ref (He.ga K "InvalidItem")) = some false
  ix_LimitExceeded_InvalidItem : PySem.W.kitOne K (.ref (He.ga K "LimitExceeded")) (.ref (He.ga K "InvalidItem")) = some false
  ix_NoTurn_InvalidItem : PySem.W.kitOne K (.ref (He.ga K "NoTurn")) (.ref (He.ga K "InvalidItem")) = some false
  ix_UnknownItem_InvalidItem : PySem.W.kitOne K (.ref (He.ga K "UnknownItem")) (.ref (He.ga K "InvalidItem")) = some false
  i0_InvalidNumber : PySem.W.kitOne K (.type "NoneType") (.ref (He.ga K "InvalidNumber")) = some false
  ix_Contradiction_InvalidNumber : PySem.W.kitOne K (.ref (He.ga K "Contradiction")) (.ref (He.ga K "InvalidNumber")) = some false
  ix_InvalidCommand_InvalidNumber : PySem.W.kitOne K (.ref (He.ga K "InvalidCommand")) (.ref (He.ga K "InvalidNumber")) = some false
  ix_InvalidFact_InvalidNumber : PySem.W.kitOne K (.ref (He.ga K "InvalidFact")) (.ref (He.ga K "InvalidNumber")) = some false
  ix_InvalidItem_InvalidNumber : PySem.W.kitOne K (.ref (He.ga K "InvalidItem")) (.ref (He.ga K "InvalidNumber")) = some false
  ix_InvalidNumber_InvalidNumber : PySem.W.kitOne K (.ref (He.ga K "InvalidNumber")) (.ref (He.ga K "InvalidNumber")) = some true
  ix_InvalidRanking_InvalidNumber : PySem.W.kitOne K (.ref (He.ga K "InvalidRanking")) (.ref (He.ga K "InvalidNumber")) = some false
  ix_InvalidSet_InvalidNumber : PySem.W.kitOne K (.ref (He.ga K "InvalidSet")) (.ref (He.ga K "InvalidNumber")) = some false
  ix_InvalidText_InvalidNumber : PySem.W.kitOne K (.ref (He.ga K "InvalidText")) (.ref (He.ga K "InvalidNumber")) = some false
  ix_InvalidTurns_InvalidNumber : PySem.W.kitOne K (.ref (He.ga K "InvalidTurns")) (.ref (He.ga K "InvalidNumber")) = some false
  ix_LimitExceeded_InvalidNumber : PySem.W.kitOne K (.ref (He.ga K "LimitExceeded")) (.ref (He.ga K "InvalidNumber")) = some false
  ix_NoTurn_InvalidNumber : PySem.W.kitOne K (.ref (He.ga K "NoTurn")) (.ref (He.ga K "InvalidNumber")) = some false
  ix_UnknownItem_InvalidNumber : PySem.W.kitOne K (.ref (He.ga K "UnknownItem")) (.ref (He.ga K "InvalidNumber")) = some false
  i0_InvalidRanking : PySem.W.kitOne K (.type "NoneType") (.ref (He.ga K "InvalidRanking")) = some false
  ix_Contradiction_InvalidRanking : PySem.W.kitOne K (.ref (He.ga K "Contradiction")) (.ref (He.ga K "InvalidRanking")) = some false
  ix_InvalidCommand_InvalidRanking : PySem.W.kitOne K (.ref (He.ga K "InvalidCommand")) (.ref (He.ga K "InvalidRanking")) = some false
  ix_InvalidFact_InvalidRanking : PySem.W.kitOne K (.ref (He.ga K "InvalidFact")) (.ref (He.ga K "InvalidRanking")) = some false
  ix_InvalidItem_InvalidRanking : PySem.W.kitOne K (.ref (He.ga K "InvalidItem")) (.ref (He.ga K "InvalidRanking")) = some false
  ix_InvalidNumber_InvalidRanking : PySem.W.kitOne K (.ref (He.ga K "InvalidNumber")) (.ref (He.ga K "InvalidRanking")) = some false
  ix_InvalidRanking_InvalidRanking : PySem.W.kitOne K (.ref (He.ga K "InvalidRanking")) (.ref (He.ga K "InvalidRanking")) = some true
  ix_InvalidSet_InvalidRanking : PySem.W.kitOne K (.ref (He.ga K "InvalidSet")) (.ref (He.ga K "InvalidRanking")) = some false
  ix_InvalidText_InvalidRanking : PySem.W.kitOne K (.ref (He.ga K "InvalidText")) (.ref (He.ga K "InvalidRanking")) = some false
  ix_InvalidTurns_InvalidRanking : PySem.W.kitOne K (.ref (He.ga K "InvalidTurns")) (.ref (He.ga K "InvalidRanking")) = some false
  ix_LimitExceeded_InvalidRanking : PySem.W.kitOne K (.ref (He.ga K "LimitExceeded")) (.ref (He.ga K "InvalidRanking")) = some false
  ix_NoTurn_InvalidRanking : PySem.W.kitOne K (.ref (He.ga K "NoTurn")) (.ref (He.ga K "InvalidRanking")) = some false
  ix_UnknownItem_InvalidRanking : PySem.W.kitOne K (.ref (He.ga K "UnknownItem")) (.ref (He.ga K "InvalidRanking")) = some false
  i0_InvalidSet : PySem.W.kitOne K (.type "NoneType") (.ref (He.ga K "InvalidSet")) = some false
  ix_Contradiction_InvalidSet : PySem.W.kitOne K (.ref (He.ga K "Contradiction")) (.ref (He.ga K "InvalidSet")) = some false
  ix_InvalidCommand_InvalidSet : PySem.W.kitOne K (.ref (He.ga K "InvalidCommand")) (.ref (He.ga K "InvalidSet")) = some false
  ix_InvalidFact_InvalidSet : PySem.W.kitOne K (.ref (He.ga K "InvalidFact")) (.ref (He.ga K "InvalidSet")) = some false
  ix_InvalidItem_InvalidSet : PySem.W.kitOne K (.ref (He.ga K "InvalidItem")) (.ref (He.ga K "InvalidSet")) = some false
  ix_InvalidNumber_InvalidSet : PySem.W.kitOne K (.ref (He.ga K "InvalidNumber")) (.ref (He.ga K "InvalidSet")) = some false
  ix_InvalidRanking_InvalidSet : PySem.W.kitOne K (.ref (He.ga K "InvalidRanking")) (.ref (He.ga K "InvalidSet")) = some false
  ix_InvalidSet_InvalidSet : PySem.W.kitOne K (.ref (He.ga K "InvalidSet")) (.ref (He.ga K "InvalidSet")) = some true
  ix_InvalidText_InvalidSet : PySem.W.kitOne K (.ref (He.ga K "InvalidText")) (.ref (He.ga K "InvalidSet")) = some false
  ix_InvalidTurns_InvalidSet : PySem.W.kitOne K (.ref (He.ga K "InvalidTurns")) (.ref (He.ga K "InvalidSet")) = some false
  ix_LimitExceeded_InvalidSet : PySem.W.kitOne K (.ref (He.ga K "LimitExceeded")) (.ref (He.ga K "InvalidSet")) = some false
  ix_NoTurn_InvalidSet : PySem.W.kitOne K (.ref (He.ga K "NoTurn")) (.ref (He.ga K "InvalidSet")) = some false
  ix_UnknownItem_InvalidSet : PySem.W.kitOne K (.ref (He.ga K "UnknownItem")) (.ref (He.ga K "InvalidSet")) = some false
  i0_InvalidText : PySem.W.kitOne K (.type "NoneType") (.ref (He.ga K "InvalidText")) = some false
  ix_Contradiction_InvalidText : PySem.W.kitOne K (.ref (He.ga K "Contradiction")) (.ref (He.ga K "InvalidText")) = some false
  ix_InvalidCommand_InvalidText : PySem.W.kitOne K (.ref (He.ga K "InvalidCommand")) (.ref (He.ga K "InvalidText")) = some false
  ix_InvalidFact_InvalidText : PySem.W.kitOne K (.ref (He.ga K "InvalidFact")) (.ref (He.ga K "InvalidText")) = some false
  ix_InvalidItem_InvalidText : PySem.W.kitOne K (.ref (He.ga K "InvalidItem")) (.ref (He.ga K "InvalidText")) = some false
  ix_InvalidNumber_InvalidText : PySem.W.kitOne K (.ref (He.ga K "InvalidNumber")) (.ref (He.ga K "InvalidText")) = some false
  ix_InvalidRanking_InvalidText : PySem.W.kitOne K (.ref (He.ga K "InvalidRanking")) (.ref (He.ga K "InvalidText")) = some false
  ix_InvalidSet_InvalidText : PySem.W.kitOne K (.ref (He.ga K "InvalidSet")) (.ref (He.ga K "InvalidText")) = some false
  ix_InvalidText_InvalidText : PySem.W.kitOne K (.ref (He.ga K "InvalidText")) (.ref (He.ga K "InvalidText")) = some true
  ix_InvalidTurns_InvalidText : PySem.W.kitOne K (.ref (He.ga K "InvalidTurns")) (.ref (He.ga K "InvalidText")) = some false
  ix_LimitExceeded_InvalidText : PySem.W.kitOne K (.ref (He.ga K "LimitExceeded")) (.ref (He.ga K "InvalidText")) = some false
  ix_NoTurn_InvalidText : PySem.W.kitOne K (.ref (He.ga K "NoTurn")) (.ref (He.ga K "InvalidText")) = some false
  ix_UnknownItem_InvalidText : PySem.W.kitOne K (.ref (He.ga K "UnknownItem")) (.ref (He.ga K "InvalidText")) = some false
  i0_InvalidTurns : PySem.W.kitOne K (.type "NoneType") (.ref (He.ga K "InvalidTurns")) = some false
  ix_Contradiction_InvalidTurns : PySem.W.kitOne K (.ref (He.ga K "Contradiction")) (.ref (He.ga K "InvalidTurns")) = some false
  ix_InvalidCommand_InvalidTurns : PySem.W.kitOne K (.ref (He.ga K "InvalidCommand")) (.ref (He.ga K "InvalidTurns")) = some false
  ix_InvalidFact_InvalidTurns : PySem.W.kitOne K (.ref (He.ga K "InvalidFact")) (.ref (He.ga K "InvalidTurns")) = some false
  ix_InvalidItem_InvalidTurns : PySem.W.kitOne K (.ref (He.ga K "InvalidItem")) (.ref (He.ga K "InvalidTurns")) = some false
  ix_InvalidNumber_InvalidTurns : PySem.W.kitOne K (.ref (He.ga K "InvalidNumber")) (.ref (He.ga K "InvalidTurns")) = some false
  ix_InvalidRanking_InvalidTurns : PySem.W.kitOne K (.ref (He.ga K "InvalidRanking")) (.ref (He.ga K "InvalidTurns")) = some false
  ix_InvalidSet_InvalidTurns : PySem.W.kitOne K (.ref (He.ga K "InvalidSet")) (.ref (He.ga K "InvalidTurns")) = some false
  ix_InvalidText_InvalidTurns : PySem.W.kitOne K (.ref (He.ga K "InvalidText")) (.ref (He.ga K "InvalidTurns")) = some false
  ix_InvalidTurns_InvalidTurns : PySem.W.kitOne K (.ref (He.ga K "InvalidTurns")) (.ref (He.ga K "InvalidTurns")) = some true
  ix_LimitExceeded_InvalidTurns : PySem.W.kitOne K (.ref (He.ga K "LimitExceeded")) (.ref (He.ga K "InvalidTurns")) = some false
  ix_NoTurn_InvalidTurns : PySem.W.kitOne K (.ref (He.ga K "NoTurn")) (.ref (He.ga K "InvalidTurns")) = some false
  ix_UnknownItem_InvalidTurns : PySem.W.kitOne K (.ref (He.ga K "UnknownItem")) (.ref (He.ga K "InvalidTurns")) = some false
  i0_LimitExceeded : PySem.W.kitOne K (.type "NoneType") (.ref (He.ga K "LimitExceeded")) = some false
  ix_Contradiction_LimitExceeded : PySem.W.kitOne K (.ref (He.ga K "Contradiction")) (.ref (He.ga K "LimitExceeded")) = some false
  ix_InvalidCommand_LimitExceeded : PySem.W.kitOne K (.ref (He.ga K "InvalidCommand")) (.ref (He.ga K "LimitExceeded")) = some false
  ix_InvalidFact_LimitExceeded : PySem.W.kitOne K (.ref (He.ga K "InvalidFact")) (.ref (He.ga K "LimitExceeded")) = some false
  ix_InvalidItem_LimitExceeded : PySem.W.kitOne K (.ref (He.ga K "InvalidItem")) (.ref (He.ga K "LimitExceeded")) = some false
  ix_InvalidNumber_LimitExceeded : PySem.W.kitOne K (.ref (He.ga K "InvalidNumber")) (.ref (He.ga K "LimitExceeded")) = some false
  ix_InvalidRanking_LimitExceeded : PySem.W.kitOne K (.ref (He.ga K "InvalidRanking")) (.ref (He.ga K "LimitExceeded")) = some false
  ix_InvalidSet_LimitExceeded : PySem.W.kitOne K (.ref (He.ga K "InvalidSet")) (.ref (He.ga K "LimitExceeded")) = some false
  ix_InvalidText_LimitExceeded : PySem.W.kitOne K (.ref (He.ga K "InvalidText")) (.ref (He.ga K "LimitExceeded")) = some false
  ix_InvalidTurns_LimitExceeded : PySem.W.kitOne K (.ref (He.ga K "InvalidTurns")) (.ref (He.ga K "LimitExceeded")) = some false
  ix_LimitExceeded_LimitExceeded : PySem.W.kitOne K (.ref (He.ga K "LimitExceeded")) (.ref (He.ga K "LimitExceeded")) = some true
  ix_NoTurn_LimitExceeded : PySem.W.kitOne K (.ref (He.ga K "NoTurn")) (.ref (He.ga K "LimitExceeded")) = some false
  ix_UnknownItem_LimitExceeded : PySem.W.kitOne K (.ref (He.ga K "UnknownItem")) (.ref (He.ga K "LimitExceeded")) = some false
  i0_NoTurn : PySem.W.kitOne K (.type "NoneType") (.ref (He.ga K "NoTurn")) = some false
  ix_Contradiction_NoTurn : PySem.W.kitOne K (.ref (He.ga K "Contradiction")) (.ref (He.ga K "NoTurn")) = some false
  ix_InvalidCommand_NoTurn : PySem.W.kitOne K (.ref (He.ga K "InvalidCommand")) (.ref (He.ga K "NoTurn")) = some false
  ix_InvalidFact_NoTurn : PySem.W.kitOne K (.ref (He.ga K "InvalidFact")) (.ref (He.ga K "NoTurn")) = some false
  ix_InvalidItem_NoTurn : PySem.W.kitOne K (.ref (He.ga K "InvalidItem")) (.ref (He.ga K "NoTurn")) = some false
  ix_InvalidNumber_NoTurn : PySem.W.kitOne K (.ref (He.ga K "InvalidNumber")) (.ref (He.ga K "NoTurn")) = some false
  ix_InvalidRanking_NoTurn : PySem.W.kitOne K (.ref (He.ga K "InvalidRanking")) (.ref (He.ga K "NoTurn")) = some false
  ix_InvalidSet_NoTurn : PySem.W.kitOne K (.ref (He.ga K "InvalidSet")) (.ref (He.ga K "NoTurn")) = some false
  ix_InvalidText_NoTurn : PySem.W.kitOne K (.ref (He.ga K "InvalidText")) (.ref (He.ga K "NoTurn")) = some false
  ix_InvalidTurns_NoTurn : PySem.W.kitOne K (.ref (He.ga K "InvalidTurns")) (.ref (He.ga K "NoTurn")) = some false
  ix_LimitExceeded_NoTurn : PySem.W.kitOne K (.ref (He.ga K "LimitExceeded")) (.ref (He.ga K "NoTurn")) = some false
  ix_NoTurn_NoTurn : PySem.W.kitOne K (.ref (He.ga K "NoTurn")) (.ref (He.ga K "NoTurn")) = some true
  ix_UnknownItem_NoTurn : PySem.W.kitOne K (.ref (He.ga K "UnknownItem")) (.ref (He.ga K "NoTurn")) = some false
  i0_PickingError : PySem.W.kitOne K (.type "NoneType") (.ref (He.ga K "PickingError")) = some false
  ix_Contradiction_PickingError : PySem.W.kitOne K (.ref (He.ga K "Contradiction")) (.ref (He.ga K "PickingError")) = some false
  ix_InvalidCommand_PickingError : PySem.W.kitOne K (.ref (He.ga K "InvalidCommand")) (.ref (He.ga K "PickingError")) = some true
  ix_InvalidFact_PickingError : PySem.W.kitOne K (.ref (He.ga K "InvalidFact")) (.ref (He.ga K "PickingError")) = some true
  ix_InvalidItem_PickingError : PySem.W.kitOne K (.ref (He.ga K "InvalidItem")) (.ref (He.ga K "PickingError")) = some true
  ix_InvalidNumber_PickingError : PySem.W.kitOne K (.ref (He.ga K "InvalidNumber")) (.ref (He.ga K "PickingError")) = some true
  ix_InvalidRanking_PickingError : PySem.W.kitOne K (.ref (He.ga K "InvalidRanking")) (.ref (He.ga K "PickingError")) = some true
  ix_InvalidSet_PickingError : PySem.W.kitOne K (.ref (He.ga K "InvalidSet")) (.ref (He.ga K "PickingError")) = some true
  ix_InvalidText_PickingError : PySem.W.kitOne K (.ref (He.ga K "InvalidText")) (.ref (He.ga K "PickingError")) = some true
  ix_InvalidTurns_PickingError : PySem.W.kitOne K (.ref (He.ga K "InvalidTurns")) (.ref (He.ga K "PickingError")) = some true
  ix_LimitExceeded_PickingError : PySem.W.kitOne K (.ref (He.ga K "LimitExceeded")) (.ref (He.ga K "PickingError")) = some false
  ix_NoTurn_PickingError : PySem.W.kitOne K (.ref (He.ga K "NoTurn")) (.ref (He.ga K "PickingError")) = some false
  ix_UnknownItem_PickingError : PySem.W.kitOne K (.ref (He.ga K "UnknownItem")) (.ref (He.ga K "PickingError")) = some false
  i0_UnknownItem : PySem.W.kitOne K (.type "NoneType") (.ref (He.ga K "UnknownItem")) = some false
  ix_Contradiction_UnknownItem : PySem.W.kitOne K (.ref (He.ga K "Contradiction")) (.ref (He.ga K "UnknownItem")) = some false
  ix_InvalidCommand_UnknownItem : PySem.W.kitOne K (.ref (He.ga K "InvalidCommand")) (.ref (He.ga K "UnknownItem")) = some false
  ix_InvalidFact_UnknownItem : PySem.W.kitOne K (.ref (He.ga K "InvalidFact")) (.ref (He.ga K "UnknownItem")) = some false
  ix_InvalidItem_UnknownItem : PySem.W.kitOne K (.ref (He.ga K "InvalidItem")) (.ref (He.ga K "UnknownItem")) = some false
  ix_InvalidNumber_UnknownItem : PySem.W.kitOne K (.ref (He.ga K "InvalidNumber")) (.ref (He.ga K "UnknownItem")) = some false
  ix_InvalidRanking_UnknownItem : PySem.W.kitOne K (.ref (He.ga K "InvalidRanking")) (.ref (He.ga K "UnknownItem")) = some false
  ix_InvalidSet_UnknownItem : PySem.W.kitOne K (.ref (He.ga K "InvalidSet")) (.ref (He.ga K "UnknownItem")) = some false
  ix_InvalidText_UnknownItem : PySem.W.kitOne K (.ref (He.ga K "InvalidText")) (.ref (He.ga K "UnknownItem")) = some false
  ix_InvalidTurns_UnknownItem : PySem.W.kitOne K (.ref (He.ga K "InvalidTurns")) (.ref (He.ga K "UnknownItem")) = some false
  ix_LimitExceeded_UnknownItem : PySem.W.kitOne K (.ref (He.ga K "LimitExceeded")) (.ref (He.ga K "UnknownItem")) = some false
  ix_NoTurn_UnknownItem : PySem.W.kitOne K (.ref (He.ga K "NoTurn")) (.ref (He.ga K "UnknownItem")) = some false
  ix_UnknownItem_UnknownItem : PySem.W.kitOne K (.ref (He.ga K "UnknownItem")) (.ref (He.ga K "UnknownItem")) = some true
  b_ArithmeticError : mg "ArithmeticError" = none
  b_KeyError : mg "KeyError" = none
  b_LookupError : mg "LookupError" = none
  b_OverflowError : mg "OverflowError" = none
  b_ValueError : mg "ValueError" = none
  b_abs : mg "abs" = none
  b_enumerate : mg "enumerate" = none
  b_int : mg "int" = none
  b_isinstance : mg "isinstance" = none
  b_len : mg "len" = none
  b_max : mg "max" = none
  b_min : mg "min" = none
  b_range : mg "range" = none
  b_repr : mg "repr" = none
section
variable {K : PySem.W.Frag} {mg : Str → Option Value} {w : World} {base : Heap} {cl : Str → Addr}
theorem b__law_pool {fd : FuncData} {a : Addr} (F : FnP K "_law_pool" st__law_pool a fd) : Binds K fd ["_law_script", "_law_k"] [] := F.bindsN fun _ _ _ _ _ _ us hl => match us, hl with | [_, _], _ => rfl
theorem b__law_take {fd : FuncData} {a : Addr} (F : FnP K "_law_take" st__law_take a fd) : Binds K fd ["_law_pool_here", "_law_wide"] [] := F.bindsN fun _ _ _ _ _ _ us hl => match us, hl with | [_, _], _ => rfl
theorem b__law_kinds {fd : FuncData} {a : Addr} (F : FnP K "_law_kinds" st__law_kinds a fd) : Binds K fd ["_law_e"] [] := F.bindsN fun _ _ _ _ _ _ us hl => match us, hl with | [_], _ => rfl
theorem b__law_bases {fd : FuncData} {a : Addr} (F : FnP K "_law_bases" st__law_bases a fd) : Binds K fd ["_law_e"] [] := F.bindsN fun _ _ _ _ _ _ us hl => match us, hl with | [_], _ => rfl
theorem b__law_due {fd : FuncData} {a : Addr} (F : FnP K "_law_due" st__law_due a fd) : Binds K fd ["_law_number"] [] := F.bindsN fun _ _ _ _ _ _ us hl => match us, hl with | [_], _ => rfl
theorem b_Contradiction____init__ {fd : FuncData} {a : Addr} (F : FnP2 K "__init__" "Contradiction.__init__" st_Contradiction____init__ a fd) : Binds K fd ["self", "index"] [] := F.bindsN fun _ _ _ _ _ _ us hl => match us, hl with | [_, _], _ => rfl
theorem b_InvalidCommand____init__ {fd : FuncData} {a : Addr} (F : FnP2 K "__init__" "InvalidCommand.__init__" st_InvalidCommand____init__ a fd) : Binds K fd ["self", "word"] [] := F.bindsN fun _ _ _ _ _ _ us hl => match us, hl with | [_, _], _ => rfl
theorem b_InvalidFact____init__ {fd : FuncData} {a : Addr} (F : FnP2 K "__init__" "InvalidFact.__init__" st_InvalidFact____init__ a fd) : Binds K fd ["self", "index"] [] := F.bindsN fun _ _ _ _ _ _ us hl => match us, hl with | [_, _], _ => rfl
theorem b_InvalidItem____init__ {fd : FuncData} {a : Addr} (F : FnP2 K "__init__" "InvalidItem.__init__" st_InvalidItem____init__ a fd) : Binds K fd ["self", "value"] [] := F.bindsN fun _ _ _ _ _ _ us hl => match us, hl with | [_, _], _ => rfl
theorem b_InvalidNumber____init__ {fd : FuncData} {a : Addr} (F : FnP2 K "__init__" "InvalidNumber.__init__" st_InvalidNumber____init__ a fd) : Binds K fd ["self", "value"] [] := F.bindsN fun _ _ _ _ _ _ us hl => match us, hl with | [_, _], _ => rfl
theorem b_InvalidRanking____init__ {fd : FuncData} {a : Addr} (F : FnP2 K "__init__" "InvalidRanking.__init__" st_InvalidRanking____init__ a fd) : Binds K fd ["self", "value"] [] := F.bindsN fun _ _ _ _ _ _ us hl => match us, hl with | [_, _], _ => rfl
theorem b_InvalidSet____init__ {fd : FuncData} {a : Addr} (F : FnP2 K "__init__" "InvalidSet.__init__" st_InvalidSet____init__ a fd) : Binds K fd ["self", "value"] [] := F.bindsN fun _ _ _ _ _ _ us hl => match us, hl with | [_, _], _ => rfl
theorem b_InvalidText____init__ {fd : FuncData} {a : Addr} (F : FnP2 K "__init__" "InvalidText.__init__" st_InvalidText____init__ a fd) : Binds K fd ["self", "line"] [] := F.bindsN fun _ _ _ _ _ _ us hl => match us, hl with | [_, _], _ => rfl
theorem b_InvalidTurns____init__ {fd : FuncData} {a : Addr} (F : FnP2 K "__init__" "InvalidTurns.__init__" st_InvalidTurns____init__ a fd) : Binds K fd ["self", "value"] [] := F.bindsN fun _ _ _ _ _ _ us hl => match us, hl with | [_, _], _ => rfl
theorem b_LimitExceeded____init__ {fd : FuncData} {a : Addr} (F : FnP2 K "__init__" "LimitExceeded.__init__" st_LimitExceeded____init__ a fd) : Binds K fd ["self", "limit"] [] := F.bindsN fun _ _ _ _ _ _ us hl => match us, hl with | [_, _], _ => rfl
theorem b_UnknownItem____init__ {fd : FuncData} {a : Addr} (F : FnP2 K "__init__" "UnknownItem.__init__" st_UnknownItem____init__ a fd) : Binds K fd ["self", "item"] [] := F.bindsN fun _ _ _ _ _ _ us hl => match us, hl with | [_, _], _ => rfl
theorem fg__law_pool (hb : SmB base) (L : Lw K mg) : FnG prog w K mg base (He.ga K) 1 (He.ga K "_law_pool") L.fd__law_pool ["_law_script", "_law_k"] sem__law_pool :=
  fn_GC L.F__law_pool sc__law_pool fun cdv A outer s H E hk =>
    (dss_cons (ds_set hk.nd rfl (by first | exact .inl rfl | exact .inr rfl) de_int) (dss_cons (ds_if (dt_cmp od_ltI (de_var rfl (by first | exact .inl rfl | exact .inr (.inl rfl) | exact .inr (.inr rfl))) (de_callB cd_len L.b_len (da_cons (de_var rfl (by first | exact .inl rfl | exact .inr (.inl rfl) | exact .inr (.inr rfl))) da_nil)) rfl) (dss_one (ds_set hk.nd rfl (by first | exact .inl rfl | exact .inr rfl) (de_sub hk (de_var rfl (by first | exact .inl rfl | exact .inr (.inl rfl) | exact .inr (.inr rfl))) (de_var rfl (by first | exact .inl rfl | exact .inr (.inl rfl) | exact .inr (.inr rfl)))))) dss_nil) (dss_cons (ds_set hk.nd rfl (by first | exact .inl rfl | exact .inr rfl) (de_callB cd_abs L.b_abs (da_cons (de_var rfl (by first | exact .inl rfl | exact .inr (.inl rfl) | exact .inr (.inr rfl))) da_nil))) (dss_cons (ds_set hk.nd rfl (by first | exact .inl rfl | exact .inr rfl) (de_op od_modI (de_op od_mulI (de_op od_add (de_op od_modI (de_var rfl (by first | exact .inl rfl | exact .inr (.inl rfl) | exact .inr (.inr rfl))) de_int) (de_op od_mulI de_int (de_op od_add (de_var rfl (by first | exact .inl rfl | exact .inr (.inl rfl) | exact .inr (.inr rfl))) de_int))) (de_op od_add (de_var rfl (by first | exact .inl rfl | exact .inr (.inl rfl) | exact .inr (.inr rfl))) de_int)) de_int)) (dss_cons (ds_set hk.nd rfl (by first | exact .inl rfl | exact .inr rfl) (de_op od_modI (de_op od_mulI (de_op od_modI (de_op od_mulI (de_var rfl (by first | exact .inl rfl | exact .inr (.inl rfl) | exact .inr (.inr rfl))) (de_var rfl (by first | exact .inl rfl | exact .inr (.inl rfl) | exact .inr (.inr rfl)))) de_int) de_int) de_int)) (dss_one (ds_ret (de_lstC (da_cons (de_op od_mulI (de_var rfl (by first | exact .inl rfl | exact .inr (.inl rfl) | exact .inr (.inr rfl))) (de_callT cd_int L.b_int (da_cons (de_cmp od_geI (de_var rfl (by first | exact .inl rfl | exact .inr (.inl rfl) | exact .inr (.inr rfl))) (de_op od_powI de_int de_int) rfl) da_nil))) (da_cons (de_var rfl (by first | exact .inl rfl | exact .inr (.inl rfl) | exact .inr (.inr rfl))) da_nil))))))))))
theorem fg__law_take (hb : SmB base) (L : Lw K mg) : FnG prog w K mg base (He.ga K) 1 (He.ga K "_law_take") L.fd__law_take ["_law_pool_here", "_law_wide"] sem__law_take :=
  fn_G L.F__law_take sc__law_take fun cdv A outer s H E hk =>
    (dss_cons (ds_if (dt_cmp od_gtI (de_sub hk (de_var rfl (by first | exact .inl rfl | exact .inr (.inl rfl) | exact .inr (.inr rfl))) de_int) de_int rfl) (dss_cons (ds_set hk.nd rfl (by first | exact .inl rfl | exact .inr rfl) (de_op od_modI (de_sub hk (de_var rfl (by first | exact .inl rfl | exact .inr (.inl rfl) | exact .inr (.inr rfl))) de_int) (de_var rfl (by first | exact .inl rfl | exact .inr (.inl rfl) | exact .inr (.inr rfl))))) (dss_cons (ds_asg (de_op od_divI (de_sub hk (de_var rfl (by first | exact .inl rfl | exact .inr (.inl rfl) | exact .inr (.inr rfl))) de_int) (de_var rfl (by first | exact .inl rfl | exact .inr (.inl rfl) | exact .inr (.inr rfl)))) (dh_sub std_list (de_var rfl (by first | exact .inl rfl | exact .inr (.inl rfl) | exact .inr (.inr rfl))) de_int)) (dss_one (ds_ret (de_var rfl (by first | exact .inl rfl | exact .inr (.inl rfl) | exact .inr (.inr rfl))))))) dss_nil) (dss_cons (ds_asg (de_op od_modI (de_op od_add (de_op od_mulI (de_sub hk (de_var rfl (by first | exact .inl rfl | exact .inr (.inl rfl) | exact .inr (.inr rfl))) de_int) de_int) de_int) de_int) (dh_sub std_list (de_var rfl (by first | exact .inl rfl | exact .inr (.inl rfl) | exact .inr (.inr rfl))) de_int)) (dss_one (ds_ret (de_op od_modI (de_op od_divI (de_op od_modI (de_op od_mulI (de_sub hk (de_var rfl (by first | exact .inl rfl | exact .inr (.inl rfl) | exact .inr (.inr rfl))) de_int) (de_sub hk (de_var rfl (by first | exact .inl rfl | exact .inr (.inl rfl) | exact .inr (.inr rfl))) de_int)) de_int) de_int) (de_var rfl (by first | exact .inl rfl | exact .inr (.inl rfl) | exact .inr (.inr rfl))))))))
theorem fg__law_kinds (hb : SmB base) (L : Lw K mg) : FnG prog w K mg base (He.ga K) 1 (He.ga K "_law_kinds") L.fd__law_kinds ["_law_e"] sem__law_kinds :=
  fn_GW L.F__law_kinds sc__law_kinds fun cdv A outer s H E hk =>
    (dss_cons (ds_set hk.nd rfl (by first | exact .inl rfl | exact .inr rfl) (de_lst (da_cons (de_isX (m := (tabX [("Contradiction", false), ("InvalidCommand", false), ("InvalidFact", false), ("InvalidItem", true), ("InvalidNumber", false), ("InvalidRanking", false), ("InvalidSet", false), ("InvalidText", false), ("InvalidTurns", false), ("LimitExceeded", false), ("NoTurn", false), ("UnknownItem", false)])) L.i0_InvalidItem (tabX_ok (.cons ⟨L.ek_Contradiction, L.ix_Contradiction_InvalidItem⟩ (.cons ⟨L.ek_InvalidCommand, L.ix_InvalidCommand_InvalidItem⟩ (.cons ⟨L.ek_InvalidFact, L.ix_InvalidFact_InvalidItem⟩ (.cons ⟨L.ek_InvalidItem, L.ix_InvalidItem_InvalidItem⟩ (.cons ⟨L.ek_InvalidNumber, L.ix_InvalidNumber_InvalidItem⟩ (.cons ⟨L.ek_InvalidRanking, L.ix_InvalidRanking_InvalidItem⟩ (.cons ⟨L.ek_InvalidSet, L.ix_InvalidSet_InvalidItem⟩ (.cons ⟨L.ek_InvalidText, L.ix_InvalidText_InvalidItem⟩ (.cons ⟨L.ek_InvalidTurns, L.ix_InvalidTurns_InvalidItem⟩ (.cons ⟨L.ek_LimitExceeded, L.ix_LimitExceeded_InvalidItem⟩ (.cons ⟨L.ek_NoTurn, L.ix_NoTurn_InvalidItem⟩ (.cons ⟨L.ek_UnknownItem, L.ix_UnknownItem_InvalidItem⟩ .nil))))))))))))) L.b_isinstance L.g_InvalidItem (de_var rfl (by first | exact .inl rfl | exact .inr (.inl rfl) | exact .inr (.inr rfl)))) (da_cons (de_isX (m := (tabX [("Contradiction", false), ("InvalidCommand", false), ("InvalidFact", false), ("InvalidItem", false), ("InvalidNumber", false), ("InvalidRanking", true), ("InvalidSet", false), ("InvalidText", false), ("InvalidTurns", false), ("LimitExceeded", false), ("NoTurn", false), ("UnknownItem", false)])) L.i0_InvalidRanking (tabX_ok (.cons ⟨L.ek_Contradiction, L.ix_Contradiction_InvalidRanking⟩ (.cons ⟨L.ek_InvalidCommand, L.ix_InvalidCommand_InvalidRanking⟩ (.cons ⟨L.ek_InvalidFact, L.ix_InvalidFact_InvalidRanking⟩ (.cons ⟨L.ek_InvalidItem, L.ix_InvalidItem_InvalidRanking⟩ (.cons ⟨L.ek_InvalidNumber, L.ix_InvalidNumber_InvalidRanking⟩ (.cons ⟨L.ek_InvalidRanking, L.ix_InvalidRanking_InvalidRanking⟩ (.cons ⟨L.ek_InvalidSet, L.ix_InvalidSet_InvalidRanking⟩ (.cons ⟨L.ek_InvalidText, L.ix_InvalidText_InvalidRanking⟩ (.cons ⟨L.ek_InvalidTurns, L.ix_InvalidTurns_InvalidRanking⟩ (.cons ⟨L.ek_LimitExceeded, L.ix_LimitExceeded_InvalidRanking⟩ (.cons ⟨L.ek_NoTurn, L.ix_NoTurn_InvalidRanking⟩ (.cons ⟨L.ek_UnknownItem, L.ix_UnknownItem_InvalidRanking⟩ .nil))))))))))))) L.b_isinstance L.g_InvalidRanking (de_var rfl (by first | exact .inl rfl | exact .inr (.inl rfl) | exact .inr (.inr rfl)))) (da_cons (de_isX (m := (tabX [("Contradiction", false), ("InvalidCommand", false), ("InvalidFact", false), ("InvalidItem", false), ("InvalidNumber", false), ("InvalidRanking", false), ("InvalidSet", false), ("InvalidText", false), ("InvalidTurns", true), ("LimitExceeded", false), ("NoTurn", false), ("UnknownItem", false)])) L.i0_InvalidTurns (tabX_ok (.cons ⟨L.ek_Contradiction, L.ix_Contradiction_InvalidTurns⟩ (.cons ⟨L.ek_InvalidCommand, L.ix_InvalidCommand_InvalidTurns⟩ (.cons ⟨L.ek_InvalidFact, L.ix_InvalidFact_InvalidTurns⟩ (.cons ⟨L.ek_InvalidItem, L.ix_InvalidItem_InvalidTurns⟩ (.cons ⟨L.ek_InvalidNumber, L.ix_InvalidNumber_InvalidTurns⟩ (.cons ⟨L.ek_InvalidRanking, L.ix_InvalidRanking_InvalidTurns⟩ (.cons ⟨L.ek_InvalidSet, L.ix_InvalidSet_InvalidTurns⟩ (.cons ⟨L.ek_InvalidText, L.ix_InvalidText_InvalidTurns⟩ (.cons ⟨L.ek_InvalidTurns, L.ix_InvalidTurns_InvalidTurns⟩ (.cons ⟨L.ek_LimitExceeded, L.ix_LimitExceeded_InvalidTurns⟩ (.cons ⟨L.ek_NoTurn, L.ix_NoTurn_InvalidTurns⟩ (.cons ⟨L.ek_UnknownItem, L.ix_UnknownItem_InvalidTurns⟩ .nil))))))))))))) L.b_isinstance L.g_InvalidTurns (de_var rfl (by first | exact .inl rfl | exact .inr (.inl rfl) | exact .inr (.inr rfl)))) da_nil))))) (dss_cons (ds_set hk.nd rfl (by first | exact .inl rfl | exact .inr rfl) (de_op od_add (de_var rfl (by first | exact .inl rfl | exact .inr (.inl rfl) | exact .inr (.inr rfl))) (de_lst (da_cons (de_isX (m := (tabX [("Contradiction", false), ("InvalidCommand", false), ("InvalidFact", false), ("InvalidItem", false), ("InvalidNumber", false), ("InvalidRanking", false), ("InvalidSet", true), ("InvalidText", false), ("InvalidTurns", false), ("LimitExceeded", false), ("NoTurn", false), ("UnknownItem", false)])) L.i0_InvalidSet (tabX_ok (.cons ⟨L.ek_Contradiction, L.ix_Contradiction_InvalidSet⟩ (.cons ⟨L.ek_InvalidCommand, L.ix_InvalidCommand_InvalidSet⟩ (.cons ⟨L.ek_InvalidFact, L.ix_InvalidFact_InvalidSet⟩ (.cons ⟨L.ek_InvalidItem, L.ix_InvalidItem_InvalidSet⟩ (.cons ⟨L.ek_InvalidNumber, L.ix_InvalidNumber_InvalidSet⟩ (.cons ⟨L.ek_InvalidRanking, L.ix_InvalidRanking_InvalidSet⟩ (.cons ⟨L.ek_InvalidSet, L.ix_InvalidSet_InvalidSet⟩ (.cons ⟨L.ek_InvalidText, L.ix_InvalidText_InvalidSet⟩ (.cons ⟨L.ek_InvalidTurns, L.ix_InvalidTurns_InvalidSet⟩ (.cons ⟨L.ek_LimitExceeded, L.ix_LimitExceeded_InvalidSet⟩ (.cons ⟨L.ek_NoTurn, L.ix_NoTurn_InvalidSet⟩ (.cons ⟨L.ek_UnknownItem, L.ix_UnknownItem_InvalidSet⟩ .nil))))))))))))) L.b_isinstance L.g_InvalidSet (de_var rfl (by first | exact .inl rfl | exact .inr (.inl rfl) | exact .inr (.inr rfl)))) (da_cons (de_isX (m := (tabX [("Contradiction", false), ("InvalidCommand", false), ("InvalidFact", true), ("InvalidItem", false), ("InvalidNumber", false), ("InvalidRanking", false), ("InvalidSet", false), ("InvalidText", false), ("InvalidTurns", false), ("LimitExceeded", false), ("NoTurn", false), ("UnknownItem", false)])) L.i0_InvalidFact (tabX_ok (.cons ⟨L.ek_Contradiction, L.ix_Contradiction_InvalidFact⟩ (.cons ⟨L.ek_InvalidCommand, L.ix_InvalidCommand_InvalidFact⟩ (.cons ⟨L.ek_InvalidFact, L.ix_InvalidFact_InvalidFact⟩ (.cons ⟨L.ek_InvalidItem, L.ix_InvalidItem_InvalidFact⟩ (.cons ⟨L.ek_InvalidNumber, L.ix_InvalidNumber_InvalidFact⟩ (.cons ⟨L.ek_InvalidRanking, L.ix_InvalidRanking_InvalidFact⟩ (.cons ⟨L.ek_InvalidSet, L.ix_InvalidSet_InvalidFact⟩ (.cons ⟨L.ek_InvalidText, L.ix_InvalidText_InvalidFact⟩ (.cons ⟨L.ek_InvalidTurns, L.ix_InvalidTurns_InvalidFact⟩ (.cons ⟨L.ek_LimitExceeded, L.ix_LimitExceeded_InvalidFact⟩ (.cons ⟨L.ek_NoTurn, L.ix_NoTurn_InvalidFact⟩ (.cons ⟨L.ek_UnknownItem, L.ix_UnknownItem_InvalidFact⟩ .nil))))))))))))) L.b_isinstance L.g_InvalidFact (de_var rfl (by first | exact .inl rfl | exact .inr (.inl rfl) | exact .inr (.inr rfl)))) (da_cons (de_isX (m := (tabX [("Contradiction", false), ("InvalidCommand", false), ("InvalidFact", false), ("InvalidItem", false), ("InvalidNumber", true), ("InvalidRanking", false), ("InvalidSet", false), ("InvalidText", false), ("InvalidTurns", false), ("LimitExceeded", false), ("NoTurn", false), ("UnknownItem", false)])) L.i0_InvalidNumber (tabX_ok (.cons ⟨L.ek_Contradiction, L.ix_Contradiction_InvalidNumber⟩ (.cons ⟨L.ek_InvalidCommand, L.ix_InvalidCommand_InvalidNumber⟩ (.cons ⟨L.ek_InvalidFact, L.ix_InvalidFact_InvalidNumber⟩ (.cons ⟨L.ek_InvalidItem, L.ix_InvalidItem_InvalidNumber⟩ (.cons ⟨L.ek_InvalidNumber, L.ix_InvalidNumber_InvalidNumber⟩ (.cons ⟨L.ek_InvalidRanking, L.ix_InvalidRanking_InvalidNumber⟩ (.cons ⟨L.ek_InvalidSet, L.ix_InvalidSet_InvalidNumber⟩ (.cons ⟨L.ek_InvalidText, L.ix_InvalidText_InvalidNumber⟩ (.cons ⟨L.ek_InvalidTurns, L.ix_InvalidTurns_InvalidNumber⟩ (.cons ⟨L.ek_LimitExceeded, L.ix_LimitExceeded_InvalidNumber⟩ (.cons ⟨L.ek_NoTurn, L.ix_NoTurn_InvalidNumber⟩ (.cons ⟨L.ek_UnknownItem, L.ix_UnknownItem_InvalidNumber⟩ .nil))))))))))))) L.b_isinstance L.g_InvalidNumber (de_var rfl (by first | exact .inl rfl | exact .inr (.inl rfl) | exact .inr (.inr rfl)))) da_nil)))))) (dss_cons (ds_set hk.nd rfl (by first | exact .inl rfl | exact .inr rfl) (de_op od_add (de_var rfl (by first | exact .inl rfl | exact .inr (.inl rfl) | exact .inr (.inr rfl))) (de_lst (da_cons (de_isX (m := (tabX [("Contradiction", false), ("InvalidCommand", false), ("InvalidFact", false), ("InvalidItem", false), ("InvalidNumber", false), ("InvalidRanking", false), ("InvalidSet", false), ("InvalidText", true), ("InvalidTurns", false), ("LimitExceeded", false), ("NoTurn", false), ("UnknownItem", false)])) L.i0_InvalidText (tabX_ok (.cons ⟨L.ek_Contradiction, L.ix_Contradiction_InvalidText⟩ (.cons ⟨L.ek_InvalidCommand, L.ix_InvalidCommand_InvalidText⟩ (.cons ⟨L.ek_InvalidFact, L.ix_InvalidFact_InvalidText⟩ (.cons ⟨L.ek_InvalidItem, L.ix_InvalidItem_InvalidText⟩ (.cons ⟨L.ek_InvalidNumber, L.ix_InvalidNumber_InvalidText⟩ (.cons ⟨L.ek_InvalidRanking, L.ix_InvalidRanking_InvalidText⟩ (.cons ⟨L.ek_InvalidSet, L.ix_InvalidSet_InvalidText⟩ (.cons ⟨L.ek_InvalidText, L.ix_InvalidText_InvalidText⟩ (.cons ⟨L.ek_InvalidTurns, L.ix_InvalidTurns_InvalidText⟩ (.cons ⟨L.ek_LimitExceeded, L.ix_LimitExceeded_InvalidText⟩ (.cons ⟨L.ek_NoTurn, L.ix_NoTurn_InvalidText⟩ (.cons ⟨L.ek_UnknownItem, L.ix_UnknownItem_InvalidText⟩ .nil))))))))))))) L.b_isinstance L.g_InvalidText (de_var rfl (by first | exact .inl rfl | exact .inr (.inl rfl) | exact .inr (.inr rfl)))) (da_cons (de_isX (m := (tabX [("Contradiction", false), ("InvalidCommand", true), ("InvalidFact", false), ("InvalidItem", false), ("InvalidNumber", false), ("InvalidRanking", false), ("InvalidSet", false), ("InvalidText", false), ("InvalidTurns", false), ("LimitExceeded", false), ("NoTurn", false), ("UnknownItem", false)])) L.i0_InvalidCommand (tabX_ok (.cons ⟨L.ek_Contradiction, L.ix_Contradiction_InvalidCommand⟩ (.cons ⟨L.ek_InvalidCommand, L.ix_InvalidCommand_InvalidCommand⟩ (.cons ⟨L.ek_InvalidFact, L.ix_InvalidFact_InvalidCommand⟩ (.cons ⟨L.ek_InvalidItem, L.ix_InvalidItem_InvalidCommand⟩ (.cons ⟨L.ek_InvalidNumber, L.ix_InvalidNumber_InvalidCommand⟩ (.cons ⟨L.ek_InvalidRanking, L.ix_InvalidRanking_InvalidCommand⟩ (.cons ⟨L.ek_InvalidSet, L.ix_InvalidSet_InvalidCommand⟩ (.cons ⟨L.ek_InvalidText, L.ix_InvalidText_InvalidCommand⟩ (.cons ⟨L.ek_InvalidTurns, L.ix_InvalidTurns_InvalidCommand⟩ (.cons ⟨L.ek_LimitExceeded, L.ix_LimitExceeded_InvalidCommand⟩ (.cons ⟨L.ek_NoTurn, L.ix_NoTurn_InvalidCommand⟩ (.cons ⟨L.ek_UnknownItem, L.ix_UnknownItem_InvalidCommand⟩ .nil))))))))))))) L.b_isinstance L.g_InvalidCommand (de_var rfl (by first | exact .inl rfl | exact .inr (.inl rfl) | exact .inr (.inr rfl)))) (da_cons (de_isX (m := (tabX [("Contradiction", false), ("InvalidCommand", false), ("InvalidFact", false), ("InvalidItem", false), ("InvalidNumber", false), ("InvalidRanking", false), ("InvalidSet", false), ("InvalidText", false), ("InvalidTurns", false), ("LimitExceeded", false), ("NoTurn", false), ("UnknownItem", true)])) L.i0_UnknownItem (tabX_ok (.cons ⟨L.ek_Contradiction, L.ix_Contradiction_UnknownItem⟩ (.cons ⟨L.ek_InvalidCommand, L.ix_InvalidCommand_UnknownItem⟩ (.cons ⟨L.ek_InvalidFact, L.ix_InvalidFact_UnknownItem⟩ (.cons ⟨L.ek_InvalidItem, L.ix_InvalidItem_UnknownItem⟩ (.cons ⟨L.ek_InvalidNumber, L.ix_InvalidNumber_UnknownItem⟩ (.cons ⟨L.ek_InvalidRanking, L.ix_InvalidRanking_UnknownItem⟩ (.cons ⟨L.ek_InvalidSet, L.ix_InvalidSet_UnknownItem⟩ (.cons ⟨L.ek_InvalidText, L.ix_InvalidText_UnknownItem⟩ (.cons ⟨L.ek_InvalidTurns, L.ix_InvalidTurns_UnknownItem⟩ (.cons ⟨L.ek_LimitExceeded, L.ix_LimitExceeded_UnknownItem⟩ (.cons ⟨L.ek_NoTurn, L.ix_NoTurn_UnknownItem⟩ (.cons ⟨L.ek_UnknownItem, L.ix_UnknownItem_UnknownItem⟩ .nil))))))))))))) L.b_isinstance L.g_UnknownItem (de_var rfl (by first | exact .inl rfl | exact .inr (.inl rfl) | exact .inr (.inr rfl)))) da_nil)))))) (dss_one (ds_ret (de_op od_add (de_var rfl (by first | exact .inl rfl | exact .inr (.inl rfl) | exact .inr (.inr rfl))) (de_lst (da_cons (de_isX (m := (tabX [("Contradiction", false), ("InvalidCommand", false), ("InvalidFact", false), ("InvalidItem", false), ("InvalidNumber", false), ("InvalidRanking", false), ("InvalidSet", false), ("InvalidText", false), ("InvalidTurns", false), ("LimitExceeded", false), ("NoTurn", true), ("UnknownItem", false)])) L.i0_NoTurn (tabX_ok (.cons ⟨L.ek_Contradiction, L.ix_Contradiction_NoTurn⟩ (.cons ⟨L.ek_InvalidCommand, L.ix_InvalidCommand_NoTurn⟩ (.cons ⟨L.ek_InvalidFact, L.ix_InvalidFact_NoTurn⟩ (.cons ⟨L.ek_InvalidItem, L.ix_InvalidItem_NoTurn⟩ (.cons ⟨L.ek_InvalidNumber, L.ix_InvalidNumber_NoTurn⟩ (.cons ⟨L.ek_InvalidRanking, L.ix_InvalidRanking_NoTurn⟩ (.cons ⟨L.ek_InvalidSet, L.ix_InvalidSet_NoTurn⟩ (.cons ⟨L.ek_InvalidText, L.ix_InvalidText_NoTurn⟩ (.cons ⟨L.ek_InvalidTurns, L.ix_InvalidTurns_NoTurn⟩ (.cons ⟨L.ek_LimitExceeded, L.ix_LimitExceeded_NoTurn⟩ (.cons ⟨L.ek_NoTurn, L.ix_NoTurn_NoTurn⟩ (.cons ⟨L.ek_UnknownItem, L.ix_UnknownItem_NoTurn⟩ .nil))))))))))))) L.b_isinstance L.g_NoTurn (de_var rfl (by first | exact .inl rfl | exact .inr (.inl rfl) | exact .inr (.inr rfl)))) (da_cons (de_isX (m := (tabX [("Contradiction", false), ("InvalidCommand", false), ("InvalidFact", false), ("InvalidItem", false), ("InvalidNumber", false), ("InvalidRanking", false), ("InvalidSet", false), ("InvalidText", false), ("InvalidTurns", false), ("LimitExceeded", true), ("NoTurn", false), ("UnknownItem", false)])) L.i0_LimitExceeded (tabX_ok (.cons ⟨L.ek_Contradiction, L.ix_Contradiction_LimitExceeded⟩ (.cons ⟨L.ek_InvalidCommand, L.ix_InvalidCommand_LimitExceeded⟩ (.cons ⟨L.ek_InvalidFact, L.ix_InvalidFact_LimitExceeded⟩ (.cons ⟨L.ek_InvalidItem, L.ix_InvalidItem_LimitExceeded⟩ (.cons ⟨L.ek_InvalidNumber, L.ix_InvalidNumber_LimitExceeded⟩ (.cons ⟨L.ek_InvalidRanking, L.ix_InvalidRanking_LimitExceeded⟩ (.cons ⟨L.ek_InvalidSet, L.ix_InvalidSet_LimitExceeded⟩ (.cons ⟨L.ek_InvalidText, L.ix_InvalidText_LimitExceeded⟩ (.cons ⟨L.ek_InvalidTurns, L.ix_InvalidTurns_LimitExceeded⟩ (.cons ⟨L.ek_LimitExceeded, L.ix_LimitExceeded_LimitExceeded⟩ (.cons ⟨L.ek_NoTurn, L.ix_NoTurn_LimitExceeded⟩ (.cons ⟨L.ek_UnknownItem, L.ix_UnknownItem_LimitExceeded⟩ .nil))))))))))))) L.b_isinstance L.g_LimitExceeded (de_var rfl (by first | exact .inl rfl | exact .inr (.inl rfl) | exact .inr (.inr rfl)))) (da_cons (de_isX (m := (tabX [("Contradiction", true), ("InvalidCommand", false), ("InvalidFact", false), ("InvalidItem", false), ("InvalidNumber", false), ("InvalidRanking", false), ("InvalidSet", false), ("InvalidText", false), ("InvalidTurns", false), ("LimitExceeded", false), ("NoTurn", false), ("UnknownItem", false)])) L.i0_Contradiction (tabX_ok (.cons ⟨L.ek_Contradiction, L.ix_Contradiction_Contradiction⟩ (.cons ⟨L.ek_InvalidCommand, L.ix_InvalidCommand_Contradiction⟩ (.cons ⟨L.ek_InvalidFact, L.ix_InvalidFact_Contradiction⟩ (.cons ⟨L.ek_InvalidItem, L.ix_InvalidItem_Contradiction⟩ (.cons ⟨L.ek_InvalidNumber, L.ix_InvalidNumber_Contradiction⟩ (.cons ⟨L.ek_InvalidRanking, L.ix_InvalidRanking_Contradiction⟩ (.cons ⟨L.ek_InvalidSet, L.ix_InvalidSet_Contradiction⟩ (.cons ⟨L.ek_InvalidText, L.ix_InvalidText_Contradiction⟩ (.cons ⟨L.ek_InvalidTurns, L.ix_InvalidTurns_Contradiction⟩ (.cons ⟨L.ek_LimitExceeded, L.ix_LimitExceeded_Contradiction⟩ (.cons ⟨L.ek_NoTurn, L.ix_NoTurn_Contradiction⟩ (.cons ⟨L.ek_UnknownItem, L.ix_UnknownItem_Contradiction⟩ .nil))))))))))))) L.b_isinstance L.g_Contradiction (de_var rfl (by first | exact .inl rfl | exact .inr (.inl rfl) | exact .inr (.inr rfl)))) da_nil))))))))))
theorem fg__law_bases (hb : SmB base) (L : Lw K mg) : FnG prog w K mg base (He.ga K) 1 (He.ga K "_law_bases") L.fd__law_bases ["_law_e"] sem__law_bases :=
  fn_GW L.F__law_bases sc__law_bases fun cdv A outer s H E hk =>
    (dss_cons (ds_set hk.nd rfl (by first | exact .inl rfl | exact .inr rfl) (de_lst (da_cons (de_isX (m := (tabX [("Contradiction", false), ("InvalidCommand", true), ("InvalidFact", true), ("InvalidItem", true), ("InvalidNumber", true), ("InvalidRanking", true), ("InvalidSet", true), ("InvalidText", true), ("InvalidTurns", true), ("LimitExceeded", false), ("NoTurn", false), ("UnknownItem", false)])) L.i0_PickingError (tabX_ok (.cons ⟨L.ek_Contradiction, L.ix_Contradiction_PickingError⟩ (.cons ⟨L.ek_InvalidCommand, L.ix_InvalidCommand_PickingError⟩ (.cons ⟨L.ek_InvalidFact, L.ix_InvalidFact_PickingError⟩ (.cons ⟨L.ek_InvalidItem, L.ix_InvalidItem_PickingError⟩ (.cons ⟨L.ek_InvalidNumber, L.ix_InvalidNumber_PickingError⟩ (.cons ⟨L.ek_InvalidRanking, L.ix_InvalidRanking_PickingError⟩ (.cons ⟨L.ek_InvalidSet, L.ix_InvalidSet_PickingError⟩ (.cons ⟨L.ek_InvalidText, L.ix_InvalidText_PickingError⟩ (.cons ⟨L.ek_InvalidTurns, L.ix_InvalidTurns_PickingError⟩ (.cons ⟨L.ek_LimitExceeded, L.ix_LimitExceeded_PickingError⟩ (.cons ⟨L.ek_NoTurn, L.ix_NoTurn_PickingError⟩ (.cons ⟨L.ek_UnknownItem, L.ix_UnknownItem_PickingError⟩ .nil))))))))))))) L.b_isinstance L.g_PickingError (de_var rfl (by first | exact .inl rfl | exact .inr (.inl rfl) | exact .inr (.inr rfl)))) (da_cons (de_isXT (T := "ValueError") (m := (tabX [("Contradiction", false), ("InvalidCommand", true), ("InvalidFact", true), ("InvalidItem", true), ("InvalidNumber", true), ("InvalidRanking", true), ("InvalidSet", true), ("InvalidText", true), ("InvalidTurns", true), ("LimitExceeded", false), ("NoTurn", false), ("UnknownItem", false)])) (tabX_ok (.cons ⟨L.ek_Contradiction, L.it_Contradiction_ValueError⟩ (.cons ⟨L.ek_InvalidCommand, L.it_InvalidCommand_ValueError⟩ (.cons ⟨L.ek_InvalidFact, L.it_InvalidFact_ValueError⟩ (.cons ⟨L.ek_InvalidItem, L.it_InvalidItem_ValueError⟩ (.cons ⟨L.ek_InvalidNumber, L.it_InvalidNumber_ValueError⟩ (.cons ⟨L.ek_InvalidRanking, L.it_InvalidRanking_ValueError⟩ (.cons ⟨L.ek_InvalidSet, L.it_InvalidSet_ValueError⟩ (.cons ⟨L.ek_InvalidText, L.it_InvalidText_ValueError⟩ (.cons ⟨L.ek_InvalidTurns, L.it_InvalidTurns_ValueError⟩ (.cons ⟨L.ek_LimitExceeded, L.it_LimitExceeded_ValueError⟩ (.cons ⟨L.ek_NoTurn, L.it_NoTurn_ValueError⟩ (.cons ⟨L.ek_UnknownItem, L.it_UnknownItem_ValueError⟩ .nil))))))))))))) L.b_isinstance L.b_ValueError (de_var rfl (by first | exact .inl rfl | exact .inr (.inl rfl) | exact .inr (.inr rfl)))) (da_cons (de_isXT (T := "KeyError") (m := (tabX [("Contradiction", false), ("InvalidCommand", false), ("InvalidFact", false), ("InvalidItem", false), ("InvalidNumber", false), ("InvalidRanking", false), ("InvalidSet", false), ("InvalidText", false), ("InvalidTurns", false), ("LimitExceeded", false), ("NoTurn", false), ("UnknownItem", true)])) (tabX_ok (.cons ⟨L.ek_Contradiction, L.it_Contradiction_KeyError⟩ (.cons ⟨L.ek_InvalidCommand, L.it_InvalidCommand_KeyError⟩ (.cons ⟨L.ek_InvalidFact, L.it_InvalidFact_KeyError⟩ (.cons ⟨L.ek_InvalidItem, L.it_InvalidItem_KeyError⟩ (.cons ⟨L.ek_InvalidNumber, L.it_InvalidNumber_KeyError⟩ (.cons ⟨L.ek_InvalidRanking, L.it_InvalidRanking_KeyError⟩ (.cons ⟨L.ek_InvalidSet, L.it_InvalidSet_KeyError⟩ (.cons ⟨L.ek_InvalidText, L.it_InvalidText_KeyError⟩ (.cons ⟨L.ek_InvalidTurns, L.it_InvalidTurns_KeyError⟩ (.cons ⟨L.ek_LimitExceeded, L.it_LimitExceeded_KeyError⟩ (.cons ⟨L.ek_NoTurn, L.it_NoTurn_KeyError⟩ (.cons ⟨L.ek_UnknownItem, L.it_UnknownItem_KeyError⟩ .nil))))))))))))) L.b_isinstance L.b_KeyError (de_var rfl (by first | exact .inl rfl | exact .inr (.inl rfl) | exact .inr (.inr rfl)))) da_nil))))) (dss_one (ds_ret (de_op od_add (de_var rfl (by first | exact .inl rfl | exact .inr (.inl rfl) | exact .inr (.inr rfl))) (de_lst (da_cons (de_isXT (T := "LookupError") (m := (tabX [("Contradiction", false), ("InvalidCommand", false), ("InvalidFact", false), ("InvalidItem", false), ("InvalidNumber", false), ("InvalidRanking", false), ("InvalidSet", false), ("InvalidText", false), ("InvalidTurns", false), ("LimitExceeded", false), ("NoTurn", true), ("UnknownItem", true)])) (tabX_ok (.cons ⟨L.ek_Contradiction, L.it_Contradiction_LookupError⟩ (.cons ⟨L.ek_InvalidCommand, L.it_InvalidCommand_LookupError⟩ (.cons ⟨L.ek_InvalidFact, L.it_InvalidFact_LookupError⟩ (.cons ⟨L.ek_InvalidItem, L.it_InvalidItem_LookupError⟩ (.cons ⟨L.ek_InvalidNumber, L.it_InvalidNumber_LookupError⟩ (.cons ⟨L.ek_InvalidRanking, L.it_InvalidRanking_LookupError⟩ (.cons ⟨L.ek_InvalidSet, L.it_InvalidSet_LookupError⟩ (.cons ⟨L.ek_InvalidText, L.it_InvalidText_LookupError⟩ (.cons ⟨L.ek_InvalidTurns, L.it_InvalidTurns_LookupError⟩ (.cons ⟨L.ek_LimitExceeded, L.it_LimitExceeded_LookupError⟩ (.cons ⟨L.ek_NoTurn, L.it_NoTurn_LookupError⟩ (.cons ⟨L.ek_UnknownItem, L.it_UnknownItem_LookupError⟩ .nil))))))))))))) L.b_isinstance L.b_LookupError (de_var rfl (by first | exact .inl rfl | exact .inr (.inl rfl) | exact .inr (.inr rfl)))) (da_cons (de_isXT (T := "OverflowError") (m := (tabX [("Contradiction", false), ("InvalidCommand", false), ("InvalidFact", false), ("InvalidItem", false), ("InvalidNumber", false), ("InvalidRanking", false), ("InvalidSet", false), ("InvalidText", false), ("InvalidTurns", false), ("LimitExceeded", true), ("NoTurn", false), ("UnknownItem", false)])) (tabX_ok (.cons ⟨L.ek_Contradiction, L.it_Contradiction_OverflowError⟩ (.cons ⟨L.ek_InvalidCommand, L.it_InvalidCommand_OverflowError⟩ (.cons ⟨L.ek_InvalidFact, L.it_InvalidFact_OverflowError⟩ (.cons ⟨L.ek_InvalidItem, L.it_InvalidItem_OverflowError⟩ (.cons ⟨L.ek_InvalidNumber, L.it_InvalidNumber_OverflowError⟩ (.cons ⟨L.ek_InvalidRanking, L.it_InvalidRanking_OverflowError⟩ (.cons ⟨L.ek_InvalidSet, L.it_InvalidSet_OverflowError⟩ (.cons ⟨L.ek_InvalidText, L.it_InvalidText_OverflowError⟩ (.cons ⟨L.ek_InvalidTurns, L.it_InvalidTurns_OverflowError⟩ (.cons ⟨L.ek_LimitExceeded, L.it_LimitExceeded_OverflowError⟩ (.cons ⟨L.ek_NoTurn, L.it_NoTurn_OverflowError⟩ (.cons ⟨L.ek_UnknownItem, L.it_UnknownItem_OverflowError⟩ .nil))))))))))))) L.b_isinstance L.b_OverflowError (de_var rfl (by first | exact .inl rfl | exact .inr (.inl rfl) | exact .inr (.inr rfl)))) (da_cons (de_isXT (T := "ArithmeticError") (m := (tabX [("Contradiction", true), ("InvalidCommand", false), ("InvalidFact", false), ("InvalidItem", false), ("InvalidNumber", false), ("InvalidRanking", false), ("InvalidSet", false), ("InvalidText", false), ("InvalidTurns", false), ("LimitExceeded", true), ("NoTurn", false), ("UnknownItem", false)])) (tabX_ok (.cons ⟨L.ek_Contradiction, L.it_Contradiction_ArithmeticError⟩ (.cons ⟨L.ek_InvalidCommand, L.it_InvalidCommand_ArithmeticError⟩ (.cons ⟨L.ek_InvalidFact, L.it_InvalidFact_ArithmeticError⟩ (.cons ⟨L.ek_InvalidItem, L.it_InvalidItem_ArithmeticError⟩ (.cons ⟨L.ek_InvalidNumber, L.it_InvalidNumber_ArithmeticError⟩ (.cons ⟨L.ek_InvalidRanking, L.it_InvalidRanking_ArithmeticError⟩ (.cons ⟨L.ek_InvalidSet, L.it_InvalidSet_ArithmeticError⟩ (.cons ⟨L.ek_InvalidText, L.it_InvalidText_ArithmeticError⟩ (.cons ⟨L.ek_InvalidTurns, L.it_InvalidTurns_ArithmeticError⟩ (.cons ⟨L.ek_LimitExceeded, L.it_LimitExceeded_ArithmeticError⟩ (.cons ⟨L.ek_NoTurn, L.it_NoTurn_ArithmeticError⟩ (.cons ⟨L.ek_UnknownItem, L.it_UnknownItem_ArithmeticError⟩ .nil))))))))))))) L.b_isinstance L.b_ArithmeticError (de_var rfl (by first | exact .inl rfl | exact .inr (.inl rfl) | exact .inr (.inr rfl)))) da_nil))))))))
theorem fg__law_due (hb : SmB base) (L : Lw K mg) : FnG prog w K mg base (He.ga K) 1 (He.ga K "_law_due") L.fd__law_due ["_law_number"] sem__law_due :=
  fn_G L.F__law_due sc__law_due fun cdv A outer s H E hk =>
    (dss_cons (ds_if (dt_cmp od_ltI (de_var rfl (by first | exact .inl rfl | exact .inr (.inl rfl) | exact .inr (.inr rfl))) de_int rfl) (dss_one (ds_ret (de_lst (da_cons de_bl (da_cons de_bl (da_cons de_bl (da_cons de_bl (da_cons de_bl (da_cons de_bl da_nil))))))))) dss_nil) (dss_one (ds_ret (de_lst (da_cons de_bl (da_cons de_bl (da_cons (de_cmp (od_eq hk.u64) (de_var rfl (by first | exact .inl rfl | exact .inr (.inl rfl) | exact .inr (.inr rfl))) de_int rfl) (da_cons (de_cmp od_ltI (de_var rfl (by first | exact .inl rfl | exact .inr (.inl rfl) | exact .inr (.inr rfl))) de_int rfl) (da_cons (de_cmp (od_eq hk.u64) (de_var rfl (by first | exact .inl rfl | exact .inr (.inl rfl) | exact .inr (.inr rfl))) de_int rfl) (da_cons (de_cmp od_gtI (de_var rfl (by first | exact .inl rfl | exact .inr (.inl rfl) | exact .inr (.inr rfl))) de_int rfl) da_nil))))))))))
theorem fg_law (hb : SmB base) (L : Lw K mg) : FnG prog w K mg base (He.ga K) 3 (He.ga K "law") L.fd_law ["_law_script"] sem_law :=
  fn_G L.F_law sc_law fun cdv A outer s H E hk =>
    (dss_cons (ds_for hk (di_rng1 (da_cons (de_callB (cd_max2 hk.calm) L.b_max (da_cons de_int (da_cons (de_callB (cd_min2 hk.calm) L.b_min (da_cons (de_callB cd_len L.b_len (da_cons (de_var rfl (by first | exact .inl rfl | exact .inr (.inl rfl) | exact .inr (.inr rfl))) da_nil)) (da_cons de_int da_nil))) da_nil))) da_nil) L.b_range) (dg_name hk.nd rfl (by first | exact .inl rfl | exact .inr rfl)) (dss_cons (ds_set hk.nd rfl (by first | exact .inl rfl | exact .inr rfl) (de_callC ((fg__law_pool hb L).mono (by decide)) (runC_len _ _) rfl hk L.g__law_pool L.F__law_pool.kp (b__law_pool L.F__law_pool) (da_cons (de_var rfl (by first | exact .inl rfl | exact .inr (.inl rfl) | exact .inr (.inr rfl))) (da_cons (de_var rfl (by first | exact .inl rfl | exact .inr (.inl rfl) | exact .inr (.inr rfl))) da_nil)))) (dss_cons (ds_set hk.nd rfl (by first | exact .inl rfl | exact .inr rfl) (de_sub hk (de_lst (da_cons de_non (da_cons de_int (da_cons (de_neg de_int) (da_cons de_str (da_cons (de_tup da_nil) (da_cons (de_tup (da_cons de_str (da_cons de_int da_nil))) (da_cons de_bl (da_cons de_str (da_cons (de_op od_powI de_int de_int) (da_cons (de_lst (da_cons de_str da_nil)) da_nil))))))))))) (de_call ((fg__law_take hb L).mono (by decide)) (run_len _ _) rfl hk L.g__law_take L.F__law_take.kp (b__law_take L.F__law_take) (da_cons (de_var rfl (by first | exact .inl rfl | exact .inr (.inl rfl) | exact .inr (.inr rfl))) (da_cons de_int da_nil))))) (dss_cons (ds_set hk.nd rfl (by first | exact .inl rfl | exact .inr rfl) (de_lst (da_cons (de_newX (x := "InvalidItem") (f := "value") (pn := "value") exT_Value L.oD_InvalidItem L.F_InvalidItem____init__ sc_InvalidItem____init__ rfl (b_InvalidItem____init__ L.F_InvalidItem____init__) hk L.g_InvalidItem (de_var rfl (by first | exact .inl rfl | exact .inr (.inl rfl) | exact .inr (.inr rfl)))) (da_cons (de_newX (x := "InvalidRanking") (f := "value") (pn := "value") exT_Value L.oD_InvalidRanking L.F_InvalidRanking____init__ sc_InvalidRanking____init__ rfl (b_InvalidRanking____init__ L.F_InvalidRanking____init__) hk L.g_InvalidRanking (de_var rfl (by first | exact .inl rfl | exact .inr (.inl rfl) | exact .inr (.inr rfl)))) (da_cons (de_newX (x := "InvalidTurns") (f := "value") (pn := "value") exT_Value L.oD_InvalidTurns L.F_InvalidTurns____init__ sc_InvalidTurns____init__ rfl (b_InvalidTurns____init__ L.F_InvalidTurns____init__) hk L.g_InvalidTurns (de_var rfl (by first | exact .inl rfl | exact .inr (.inl rfl) | exact .inr (.inr rfl)))) (da_cons (de_newX (x := "InvalidSet") (f := "value") (pn := "value") exT_Value L.oD_InvalidSet L.F_InvalidSet____init__ sc_InvalidSet____init__ rfl (b_InvalidSet____init__ L.F_InvalidSet____init__) hk L.g_InvalidSet (de_var rfl (by first | exact .inl rfl | exact .inr (.inl rfl) | exact .inr (.inr rfl)))) (da_cons (de_newX (x := "InvalidFact") (f := "index") (pn := "index") exT_Value L.oD_InvalidFact L.F_InvalidFact____init__ sc_InvalidFact____init__ rfl (b_InvalidFact____init__ L.F_InvalidFact____init__) hk L.g_InvalidFact (de_var rfl (by first | exact .inl rfl | exact .inr (.inl rfl) | exact .inr (.inr rfl)))) da_nil))))))) (dss_cons (ds_set hk.nd rfl (by first | exact .inl rfl | exact .inr rfl) (de_op od_add (de_var rfl (by first | exact .inl rfl | exact .inr (.inl rfl) | exact .inr (.inr rfl))) (de_lst (da_cons (de_newX (x := "InvalidNumber") (f := "value") (pn := "value") exT_Value L.oD_InvalidNumber L.F_InvalidNumber____init__ sc_InvalidNumber____init__ rfl (b_InvalidNumber____init__ L.F_InvalidNumber____init__) hk L.g_InvalidNumber (de_var rfl (by first | exact .inl rfl | exact .inr (.inl rfl) | exact .inr (.inr rfl)))) (da_cons (de_newX (x := "InvalidText") (f := "line") (pn := "line") exT_Value L.oD_InvalidText L.F_InvalidText____init__ sc_InvalidText____init__ rfl (b_InvalidText____init__ L.F_InvalidText____init__) hk L.g_InvalidText (de_var rfl (by first | exact .inl rfl | exact .inr (.inl rfl) | exact .inr (.inr rfl)))) (da_cons (de_newX (x := "InvalidCommand") (f := "word") (pn := "word") exT_Value L.oD_InvalidCommand L.F_InvalidCommand____init__ sc_InvalidCommand____init__ rfl (b_InvalidCommand____init__ L.F_InvalidCommand____init__) hk L.g_InvalidCommand (de_var rfl (by first | exact .inl rfl | exact .inr (.inl rfl) | exact .inr (.inr rfl)))) (da_cons (de_newX (x := "UnknownItem") (f := "item") (pn := "item") exT_Key L.oD_UnknownItem L.F_UnknownItem____init__ sc_UnknownItem____init__ rfl (b_UnknownItem____init__ L.F_UnknownItem____init__) hk L.g_UnknownItem (de_var rfl (by first | exact .inl rfl | exact .inr (.inl rfl) | exact .inr (.inr rfl)))) (da_cons (de_newX0 (x := "NoTurn") PySem.F.excBase_LookupError L.z_NoTurn hk L.g_NoTurn) da_nil)))))))) (dss_cons (ds_set hk.nd rfl (by first | exact .inl rfl | exact .inr rfl) (de_op od_add (de_var rfl (by first | exact .inl rfl | exact .inr (.inl rfl) | exact .inr (.inr rfl))) (de_lst (da_cons (de_newX (x := "LimitExceeded") (f := "limit") (pn := "limit") exT_Overflow L.oD_LimitExceeded L.F_LimitExceeded____init__ sc_LimitExceeded____init__ rfl (b_LimitExceeded____init__ L.F_LimitExceeded____init__) hk L.g_LimitExceeded (de_var rfl (by first | exact .inl rfl | exact .inr (.inl rfl) | exact .inr (.inr rfl)))) (da_cons (de_newX (x := "Contradiction") (f := "index") (pn := "index") exT_Arith L.oD_Contradiction L.F_Contradiction____init__ sc_Contradiction____init__ rfl (b_Contradiction____init__ L.F_Contradiction____init__) hk L.g_Contradiction (de_var rfl (by first | exact .inl rfl | exact .inr (.inl rfl) | exact .inr (.inr rfl)))) da_nil))))) (dss_cons (ds_for hk (di_enum (de_var rfl (by first | exact .inl rfl | exact .inr (.inl rfl) | exact .inr (.inr rfl))) L.b_enumerate) (dg_tup hk.calm (dgs_cons (dg_name hk.nd rfl (by first | exact .inl rfl | exact .inr rfl)) (dgs_cons (dg_name hk.nd rfl (by first | exact .inl rfl | exact .inr rfl)) dgs_nil))) (dss_cons (ds_if (dt_cmp (od_ne hk.u64) (de_lc (own := [("_law_at", 8), ("_law_own", 9)]) hk (di_enum (de_callW ((fg__law_kinds hb L).mono (by decide)) hk L.g__law_kinds L.F__law_kinds.kp (b__law_kinds L.F__law_kinds) (da_cons (de_var rfl (by first | exact .inl rfl | exact .inr (.inl rfl) | exact .inr (.inr rfl))) da_nil)) L.b_enumerate) (show BlkOk ["_law_script", "_law_k", "_law_pool_here", "_law_thing", "_law_some", "_law_number", "_law_one", "_law_told", "_law_at", "_law_own"] (defScope st_law) _ [("_law_at", 8), ("_law_own", 9)] from ⟨rfl, by decide +kernel, by decide +kernel, by decide +kernel, by decide +kernel⟩) (Blk.of hk (fun s H C cc fp hk => (dg_tup hk.calm (dgs_cons (dg_name hk.nd rfl (by first | exact .inl rfl | exact .inr rfl)) (dgs_cons (dg_name hk.nd rfl (by first | exact .inl rfl | exact .inr rfl)) dgs_nil)))) (fun s H C cc fp hk => (dts_one (dt_val (de_var rfl (by first | exact .inl rfl | exact .inr (.inl rfl) | exact .inr (.inr rfl)))))) (fun s H C cc fp hk => (de_var rfl (by first | exact .inl rfl | exact .inr (.inl rfl) | exact .inr (.inr rfl)))))) (de_lst (da_cons (de_var rfl (by first | exact .inl rfl | exact .inr (.inl rfl) | exact .inr (.inr rfl))) da_nil)) rfl) (dss_one (ds_ret de_bl)) dss_nil) (dss_one (ds_if (dt_cmp (od_ne hk.u64) (de_callW ((fg__law_bases hb L).mono (by decide)) hk L.g__law_bases L.F__law_bases.kp (b__law_bases L.F__law_bases) (da_cons (de_var rfl (by first | exact .inl rfl | exact .inr (.inl rfl) | exact .inr (.inr rfl))) da_nil)) (de_call ((fg__law_due hb L).mono (by decide)) (run_len _ _) rfl hk L.g__law_due L.F__law_due.kp (b__law_due L.F__law_due) (da_cons (de_var rfl (by first | exact .inl rfl | exact .inr (.inl rfl) | exact .inr (.inr rfl))) da_nil)) rfl) (dss_one (ds_ret de_bl)) dss_nil)))) (dss_cons (ds_set hk.nd rfl (by first | exact .inl rfl | exact .inr rfl) (de_lst (da_cons (de_kf (ns := ["InvalidItem", "InvalidNumber", "InvalidRanking", "InvalidSet", "InvalidTurns"]) (fun n hn => by simp only [List.mem_cons, List.not_mem_nil, or_false] at hn; rcases hn with rfl | rfl | rfl | rfl | rfl <;> first | exact ⟨L.xf_InvalidItem, L.n_InvalidItem_value⟩ | exact ⟨L.xf_InvalidNumber, L.n_InvalidNumber_value⟩ | exact ⟨L.xf_InvalidRanking, L.n_InvalidRanking_value⟩ | exact ⟨L.xf_InvalidSet, L.n_InvalidSet_value⟩ | exact ⟨L.xf_InvalidTurns, L.n_InvalidTurns_value⟩) (de_sub hk (de_var rfl (by first | exact .inl rfl | exact .inr (.inl rfl) | exact .inr (.inr rfl))) de_int)) (da_cons (de_kf (ns := ["InvalidItem", "InvalidNumber", "InvalidRanking", "InvalidSet", "InvalidTurns"]) (fun n hn => by simp only [List.mem_cons, List.not_mem_nil, or_false] at hn; rcases hn with rfl | rfl | rfl | rfl | rfl <;> first | exact ⟨L.xf_InvalidItem, L.n_InvalidItem_value⟩ | exact ⟨L.xf_InvalidNumber, L.n_InvalidNumber_value⟩ | exact ⟨L.xf_InvalidRanking, L.n_InvalidRanking_value⟩ | exact ⟨L.xf_InvalidSet, L.n_InvalidSet_value⟩ | exact ⟨L.xf_InvalidTurns, L.n_InvalidTurns_value⟩) (de_sub hk (de_var rfl (by first | exact .inl rfl | exact .inr (.inl rfl) | exact .inr (.inr rfl))) de_int)) (da_cons (de_kf (ns := ["InvalidItem", "InvalidNumber", "InvalidRanking", "InvalidSet", "InvalidTurns"]) (fun n hn => by simp only [List.mem_cons, List.not_mem_nil, or_false] at hn; rcases hn with rfl | rfl | rfl | rfl | rfl <;> first | exact ⟨L.xf_InvalidItem, L.n_InvalidItem_value⟩ | exact ⟨L.xf_InvalidNumber, L.n_InvalidNumber_value⟩ | exact ⟨L.xf_InvalidRanking, L.n_InvalidRanking_value⟩ | exact ⟨L.xf_InvalidSet, L.n_InvalidSet_value⟩ | exact ⟨L.xf_InvalidTurns, L.n_InvalidTurns_value⟩) (de_sub hk (de_var rfl (by first | exact .inl rfl | exact .inr (.inl rfl) | exact .inr (.inr rfl))) de_int)) (da_cons (de_kf (ns := ["InvalidItem", "InvalidNumber", "InvalidRanking", "InvalidSet", "InvalidTurns"]) (fun n hn => by simp only [List.mem_cons, List.not_mem_nil, or_false] at hn; rcases hn with rfl | rfl | rfl | rfl | rfl <;> first | exact ⟨L.xf_InvalidItem, L.n_InvalidItem_value⟩ | exact ⟨L.xf_InvalidNumber, L.n_InvalidNumber_value⟩ | exact ⟨L.xf_InvalidRanking, L.n_InvalidRanking_value⟩ | exact ⟨L.xf_InvalidSet, L.n_InvalidSet_value⟩ | exact ⟨L.xf_InvalidTurns, L.n_InvalidTurns_value⟩) (de_sub hk (de_var rfl (by first | exact .inl rfl | exact .inr (.inl rfl) | exact .inr (.inr rfl))) de_int)) (da_cons (de_kf (ns := ["Contradiction", "InvalidFact"]) (fun n hn => by simp only [List.mem_cons, List.not_mem_nil, or_false] at hn; rcases hn with rfl | rfl <;> first | exact ⟨L.xf_Contradiction, L.n_Contradiction_index⟩ | exact ⟨L.xf_InvalidFact, L.n_InvalidFact_index⟩) (de_sub hk (de_var rfl (by first | exact .inl rfl | exact .inr (.inl rfl) | exact .inr (.inr rfl))) de_int)) (da_cons (de_kf (ns := ["InvalidItem", "InvalidNumber", "InvalidRanking", "InvalidSet", "InvalidTurns"]) (fun n hn => by simp only [List.mem_cons, List.not_mem_nil, or_false] at hn; rcases hn with rfl | rfl | rfl | rfl | rfl <;> first | exact ⟨L.xf_InvalidItem, L.n_InvalidItem_value⟩ | exact ⟨L.xf_InvalidNumber, L.n_InvalidNumber_value⟩ | exact ⟨L.xf_InvalidRanking, L.n_InvalidRanking_value⟩ | exact ⟨L.xf_InvalidSet, L.n_InvalidSet_value⟩ | exact ⟨L.xf_InvalidTurns, L.n_InvalidTurns_value⟩) (de_sub hk (de_var rfl (by first | exact .inl rfl | exact .inr (.inl rfl) | exact .inr (.inr rfl))) de_int)) (da_cons (de_kf (ns := ["InvalidText"]) (fun n hn => by simp only [List.mem_cons, List.not_mem_nil, or_false] at hn; subst hn <;> first | exact ⟨L.xf_InvalidText, L.n_InvalidText_line⟩) (de_sub hk (de_var rfl (by first | exact .inl rfl | exact .inr (.inl rfl) | exact .inr (.inr rfl))) de_int)) da_nil))))))))) (dss_cons (ds_set hk.nd rfl (by first | exact .inl rfl | exact .inr rfl) (de_op od_add (de_var rfl (by first | exact .inl rfl | exact .inr (.inl rfl) | exact .inr (.inr rfl))) (de_lst (da_cons (de_kf (ns := ["InvalidCommand"]) (fun n hn => by simp only [List.mem_cons, List.not_mem_nil, or_false] at hn; subst hn <;> first | exact ⟨L.xf_InvalidCommand, L.n_InvalidCommand_word⟩) (de_sub hk (de_var rfl (by first | exact .inl rfl | exact .inr (.inl rfl) | exact .inr (.inr rfl))) de_int)) (da_cons (de_kf (ns := ["UnknownItem"]) (fun n hn => by simp only [List.mem_cons, List.not_mem_nil, or_false] at hn; subst hn <;> first | exact ⟨L.xf_UnknownItem, L.n_UnknownItem_item⟩) (de_sub hk (de_var rfl (by first | exact .inl rfl | exact .inr (.inl rfl) | exact .inr (.inr rfl))) de_int)) (da_cons (de_kf (ns := ["LimitExceeded"]) (fun n hn => by simp only [List.mem_cons, List.not_mem_nil, or_false] at hn; subst hn <;> first | exact ⟨L.xf_LimitExceeded, L.n_LimitExceeded_limit⟩) (de_sub hk (de_var rfl (by first | exact .inl rfl | exact .inr (.inl rfl) | exact .inr (.inr rfl))) de_int)) (da_cons (de_kf (ns := ["Contradiction", "InvalidFact"]) (fun n hn => by simp only [List.mem_cons, List.not_mem_nil, or_false] at hn; rcases hn with rfl | rfl <;> first | exact ⟨L.xf_Contradiction, L.n_Contradiction_index⟩ | exact ⟨L.xf_InvalidFact, L.n_InvalidFact_index⟩) (de_sub hk (de_var rfl (by first | exact .inl rfl | exact .inr (.inl rfl) | exact .inr (.inr rfl))) de_int)) da_nil))))))) (dss_cons (ds_set hk.nd rfl (by first | exact .inl rfl | exact .inr rfl) (de_op od_add (de_var rfl (by first | exact .inl rfl | exact .inr (.inl rfl) | exact .inr (.inr rfl))) (de_lst (da_cons (de_kf (ns := ["InvalidItem", "InvalidNumber", "InvalidRanking", "InvalidSet", "InvalidTurns"]) (fun n hn => by simp only [List.mem_cons, List.not_mem_nil, or_false] at hn; rcases hn with rfl | rfl | rfl | rfl | rfl <;> first | exact ⟨L.xf_InvalidItem, L.n_InvalidItem_value⟩ | exact ⟨L.xf_InvalidNumber, L.n_InvalidNumber_value⟩ | exact ⟨L.xf_InvalidRanking, L.n_InvalidRanking_value⟩ | exact ⟨L.xf_InvalidSet, L.n_InvalidSet_value⟩ | exact ⟨L.xf_InvalidTurns, L.n_InvalidTurns_value⟩) (de_newXK (x := "InvalidItem") (f := "value") (pn := "value") exT_Value L.oD_InvalidItem L.F_InvalidItem____init__ sc_InvalidItem____init__ rfl (kbn_of L.F_InvalidItem____init__ 1 ["value"] (ix := [0, 1]) fun _ _ _ _ _ _ us ws h1 h2 => match us, ws, h1, h2 with | [_], [_], _, _ => rfl) hk L.g_InvalidItem (dk_cons (de_var rfl (by first | exact .inl rfl | exact .inr (.inl rfl) | exact .inr (.inr rfl))) dk_nil))) (da_cons (de_kf (ns := ["InvalidItem", "InvalidNumber", "InvalidRanking", "InvalidSet", "InvalidTurns"]) (fun n hn => by simp only [List.mem_cons, List.not_mem_nil, or_false] at hn; rcases hn with rfl | rfl | rfl | rfl | rfl <;> first | exact ⟨L.xf_InvalidItem, L.n_InvalidItem_value⟩ | exact ⟨L.xf_InvalidNumber, L.n_InvalidNumber_value⟩ | exact ⟨L.xf_InvalidRanking, L.n_InvalidRanking_value⟩ | exact ⟨L.xf_InvalidSet, L.n_InvalidSet_value⟩ | exact ⟨L.xf_InvalidTurns, L.n_InvalidTurns_value⟩) (de_newXK (x := "InvalidRanking") (f := "value") (pn := "value") exT_Value L.oD_InvalidRanking L.F_InvalidRanking____init__ sc_InvalidRanking____init__ rfl (kbn_of L.F_InvalidRanking____init__ 1 ["value"] (ix := [0, 1]) fun _ _ _ _ _ _ us ws h1 h2 => match us, ws, h1, h2 with | [_], [_], _, _ => rfl) hk L.g_InvalidRanking (dk_cons (de_var rfl (by first | exact .inl rfl | exact .inr (.inl rfl) | exact .inr (.inr rfl))) dk_nil))) da_nil))))) (dss_cons (ds_set hk.nd rfl (by first | exact .inl rfl | exact .inr rfl) (de_op od_add (de_var rfl (by first | exact .inl rfl | exact .inr (.inl rfl) | exact .inr (.inr rfl))) (de_lst (da_cons (de_kf (ns := ["InvalidItem", "InvalidNumber", "InvalidRanking", "InvalidSet", "InvalidTurns"]) (fun n hn => by simp only [List.mem_cons, List.not_mem_nil, or_false] at hn; rcases hn with rfl | rfl | rfl | rfl | rfl <;> first | exact ⟨L.xf_InvalidItem, L.n_InvalidItem_value⟩ | exact ⟨L.xf_InvalidNumber, L.n_InvalidNumber_value⟩ | exact ⟨L.xf_InvalidRanking, L.n_InvalidRanking_value⟩ | exact ⟨L.xf_InvalidSet, L.n_InvalidSet_value⟩ | exact ⟨L.xf_InvalidTurns, L.n_InvalidTurns_value⟩) (de_newXK (x := "InvalidTurns") (f := "value") (pn := "value") exT_Value L.oD_InvalidTurns L.F_InvalidTurns____init__ sc_InvalidTurns____init__ rfl (kbn_of L.F_InvalidTurns____init__ 1 ["value"] (ix := [0, 1]) fun _ _ _ _ _ _ us ws h1 h2 => match us, ws, h1, h2 with | [_], [_], _, _ => rfl) hk L.g_InvalidTurns (dk_cons (de_var rfl (by first | exact .inl rfl | exact .inr (.inl rfl) | exact .inr (.inr rfl))) dk_nil))) da_nil)))) (dss_cons (ds_set hk.nd rfl (by first | exact .inl rfl | exact .inr rfl) (de_op od_add (de_var rfl (by first | exact .inl rfl | exact .inr (.inl rfl) | exact .inr (.inr rfl))) (de_lst (da_cons (de_kf (ns := ["InvalidItem", "InvalidNumber", "InvalidRanking", "InvalidSet", "InvalidTurns"]) (fun n hn => by simp only [List.mem_cons, List.not_mem_nil, or_false] at hn; rcases hn with rfl | rfl | rfl | rfl | rfl <;> first | exact ⟨L.xf_InvalidItem, L.n_InvalidItem_value⟩ | exact ⟨L.xf_InvalidNumber, L.n_InvalidNumber_value⟩ | exact ⟨L.xf_InvalidRanking, L.n_InvalidRanking_value⟩ | exact ⟨L.xf_InvalidSet, L.n_InvalidSet_value⟩ | exact ⟨L.xf_InvalidTurns, L.n_InvalidTurns_value⟩) (de_newXK (x := "InvalidSet") (f := "value") (pn := "value") exT_Value L.oD_InvalidSet L.F_InvalidSet____init__ sc_InvalidSet____init__ rfl (kbn_of L.F_InvalidSet____init__ 1 ["value"] (ix := [0, 1]) fun _ _ _ _ _ _ us ws h1 h2 => match us, ws, h1, h2 with | [_], [_], _, _ => rfl) hk L.g_InvalidSet (dk_cons (de_var rfl (by first | exact .inl rfl | exact .inr (.inl rfl) | exact .inr (.inr rfl))) dk_nil))) (da_cons (de_kf (ns := ["Contradiction", "InvalidFact"]) (fun n hn => by simp only [List.mem_cons, List.not_mem_nil, or_false] at hn; rcases hn with rfl | rfl <;> first | exact ⟨L.xf_Contradiction, L.n_Contradiction_index⟩ | exact ⟨L.xf_InvalidFact, L.n_InvalidFact_index⟩) (de_newXK (x := "InvalidFact") (f := "index") (pn := "index") exT_Value L.oD_InvalidFact L.F_InvalidFact____init__ sc_InvalidFact____init__ rfl (kbn_of L.F_InvalidFact____init__ 1 ["index"] (ix := [0, 1]) fun _ _ _ _ _ _ us ws h1 h2 => match us, ws, h1, h2 with | [_], [_], _, _ => rfl) hk L.g_InvalidFact (dk_cons (de_var rfl (by first | exact .inl rfl | exact .inr (.inl rfl) | exact .inr (.inr rfl))) dk_nil))) (da_cons (de_kf (ns := ["InvalidItem", "InvalidNumber", "InvalidRanking", "InvalidSet", "InvalidTurns"]) (fun n hn => by simp only [List.mem_cons, List.not_mem_nil, or_false] at hn; rcases hn with rfl | rfl | rfl | rfl | rfl <;> first | exact ⟨L.xf_InvalidItem, L.n_InvalidItem_value⟩ | exact ⟨L.xf_InvalidNumber, L.n_InvalidNumber_value⟩ | exact ⟨L.xf_InvalidRanking, L.n_InvalidRanking_value⟩ | exact ⟨L.xf_InvalidSet, L.n_InvalidSet_value⟩ | exact ⟨L.xf_InvalidTurns, L.n_InvalidTurns_value⟩) (de_newXK (x := "InvalidNumber") (f := "value") (pn := "value") exT_Value L.oD_InvalidNumber L.F_InvalidNumber____init__ sc_InvalidNumber____init__ rfl (kbn_of L.F_InvalidNumber____init__ 1 ["value"] (ix := [0, 1]) fun _ _ _ _ _ _ us ws h1 h2 => match us, ws, h1, h2 with | [_], [_], _, _ => rfl) hk L.g_InvalidNumber (dk_cons (de_var rfl (by first | exact .inl rfl | exact .inr (.inl rfl) | exact .inr (.inr rfl))) dk_nil))) da_nil)))))) (dss_cons (ds_set hk.nd rfl (by first | exact .inl rfl | exact .inr rfl) (de_op od_add (de_var rfl (by first | exact .inl rfl | exact .inr (.inl rfl) | exact .inr (.inr rfl))) (de_lst (da_cons (de_kf (ns := ["InvalidText"]) (fun n hn => by simp only [List.mem_cons, List.not_mem_nil, or_false] at hn; subst hn <;> first | exact ⟨L.xf_InvalidText, L.n_InvalidText_line⟩) (de_newXK (x := "InvalidText") (f := "line") (pn := "line") exT_Value L.oD_InvalidText L.F_InvalidText____init__ sc_InvalidText____init__ rfl (kbn_of L.F_InvalidText____init__ 1 ["line"] (ix := [0, 1]) fun _ _ _ _ _ _ us ws h1 h2 => match us, ws, h1, h2 with | [_], [_], _, _ => rfl) hk L.g_InvalidText (dk_cons (de_var rfl (by first | exact .inl rfl | exact .inr (.inl rfl) | exact .inr (.inr rfl))) dk_nil))) (da_cons (de_kf (ns := ["InvalidCommand"]) (fun n hn => by simp only [List.mem_cons, List.not_mem_nil, or_false] at hn; subst hn <;> first | exact ⟨L.xf_InvalidCommand, L.n_InvalidCommand_word⟩) (de_newXK (x := "InvalidCommand") (f := "word") (pn := "word") exT_Value L.oD_InvalidCommand L.F_InvalidCommand____init__ sc_InvalidCommand____init__ rfl (kbn_of L.F_InvalidCommand____init__ 1 ["word"] (ix := [0, 1]) fun _ _ _ _ _ _ us ws h1 h2 => match us, ws, h1, h2 with | [_], [_], _, _ => rfl) hk L.g_InvalidCommand (dk_cons (de_var rfl (by first | exact .inl rfl | exact .inr (.inl rfl) | exact .inr (.inr rfl))) dk_nil))) (da_cons (de_kf (ns := ["UnknownItem"]) (fun n hn => by simp only [List.mem_cons, List.not_mem_nil, or_false] at hn; subst hn <;> first | exact ⟨L.xf_UnknownItem, L.n_UnknownItem_item⟩) (de_newXK (x := "UnknownItem") (f := "item") (pn := "item") exT_Key L.oD_UnknownItem L.F_UnknownItem____init__ sc_UnknownItem____init__ rfl (kbn_of L.F_UnknownItem____init__ 1 ["item"] (ix := [0, 1]) fun _ _ _ _ _ _ us ws h1 h2 => match us, ws, h1, h2 with | [_], [_], _, _ => rfl) hk L.g_UnknownItem (dk_cons (de_var rfl (by first | exact .inl rfl | exact .inr (.inl rfl) | exact .inr (.inr rfl))) dk_nil))) da_nil)))))) (dss_cons (ds_set hk.nd rfl (by first | exact .inl rfl | exact .inr rfl) (de_op od_add (de_var rfl (by first | exact .inl rfl | exact .inr (.inl rfl) | exact .inr (.inr rfl))) (de_lst (da_cons (de_kf (ns := ["LimitExceeded"]) (fun n hn => by simp only [List.mem_cons, List.not_mem_nil, or_false] at hn; subst hn <;> first | exact ⟨L.xf_LimitExceeded, L.n_LimitExceeded_limit⟩) (de_newXK (x := "LimitExceeded") (f := "limit") (pn := "limit") exT_Overflow L.oD_LimitExceeded L.F_LimitExceeded____init__ sc_LimitExceeded____init__ rfl (kbn_of L.F_LimitExceeded____init__ 1 ["limit"] (ix := [0, 1]) fun _ _ _ _ _ _ us ws h1 h2 => match us, ws, h1, h2 with | [_], [_], _, _ => rfl) hk L.g_LimitExceeded (dk_cons (de_var rfl (by first | exact .inl rfl | exact .inr (.inl rfl) | exact .inr (.inr rfl))) dk_nil))) (da_cons (de_kf (ns := ["Contradiction", "InvalidFact"]) (fun n hn => by simp only [List.mem_cons, List.not_mem_nil, or_false] at hn; rcases hn with rfl | rfl <;> first | exact ⟨L.xf_Contradiction, L.n_Contradiction_index⟩ | exact ⟨L.xf_InvalidFact, L.n_InvalidFact_index⟩) (de_newXK (x := "Contradiction") (f := "index") (pn := "index") exT_Arith L.oD_Contradiction L.F_Contradiction____init__ sc_Contradiction____init__ rfl (kbn_of L.F_Contradiction____init__ 1 ["index"] (ix := [0, 1]) fun _ _ _ _ _ _ us ws h1 h2 => match us, ws, h1, h2 with | [_], [_], _, _ => rfl) hk L.g_Contradiction (dk_cons (de_var rfl (by first | exact .inl rfl | exact .inr (.inl rfl) | exact .inr (.inr rfl))) dk_nil))) da_nil))))) (dss_one (ds_if (dt_cmp (od_ne hk.u64) (de_callB (cd_reprZ hb hk.gd hk.u64) L.b_repr (da_cons (de_var rfl (by first | exact .inl rfl | exact .inr (.inl rfl) | exact .inr (.inr rfl))) da_nil)) (de_callB (cd_reprZ hb hk.gd hk.u64) L.b_repr (da_cons (de_op od_mul (de_lst (da_cons (de_var rfl (by first | exact .inl rfl | exact .inr (.inl rfl) | exact .inr (.inr rfl))) da_nil)) de_int) da_nil)) rfl) (dss_one (ds_ret de_bl)) dss_nil)))))))))))))))) (dss_one (ds_ret de_bl)))
end
/-! ### the head -/
def dd__law_pool : He.DefD := ⟨("_law_pool", none), "_law_pool", "_law_pool", defArgs st__law_pool, defBody st__law_pool, defScope st__law_pool, [], []⟩
def dd__law_take : He.DefD := ⟨("_law_take", none), "_law_take", "_law_take", defArgs st__law_take, defBody st__law_take, defScope st__law_take, [], []⟩
def dd__law_kinds : He.DefD := ⟨("_law_kinds", none), "_law_kinds", "_law_kinds", defArgs st__law_kinds, defBody st__law_kinds, defScope st__law_kinds, [], []⟩
def dd__law_bases : He.DefD := ⟨("_law_bases", none), "_law_bases", "_law_bases", defArgs st__law_bases, defBody st__law_bases, defScope st__law_bases, [], []⟩
def dd__law_due : He.DefD := ⟨("_law_due", none), "_law_due", "_law_due", defArgs st__law_due, defBody st__law_due, defScope st__law_due, [], []⟩
def dd_law : He.DefD := ⟨("law", none), "law", "law", defArgs st_law, defBody st_law, defScope st_law, [], []⟩
def dd_Contradiction____init__ : He.DefD := ⟨("Contradiction", some "__init__"), "__init__", "Contradiction.__init__", defArgs st_Contradiction____init__, defBody st_Contradiction____init__, defScope st_Contradiction____init__, [], []⟩
def dd_InvalidCommand____init__ : He.DefD := ⟨("InvalidCommand", some "__init__"), "__init__", "InvalidCommand.__init__", defArgs st_InvalidCommand____init__, defBody st_InvalidCommand____init__, defScope st_InvalidCommand____init__, [], []⟩
def dd_InvalidFact____init__ : He.DefD := ⟨("InvalidFact", some "__init__"), "__init__", "InvalidFact.__init__", defArgs st_InvalidFact____init__, defBody st_InvalidFact____init__, defScope st_InvalidFact____init__, [], []⟩
def dd_InvalidItem____init__ : He.DefD := ⟨("InvalidItem", some "__init__"), "__init__", "InvalidItem.__init__", defArgs st_InvalidItem____init__, defBody st_InvalidItem____init__, defScope st_InvalidItem____init__, [], []⟩
def dd_InvalidNumber____init__ : He.DefD := ⟨("InvalidNumber", some "__init__"), "__init__", "InvalidNumber.__init__", defArgs st_InvalidNumber____init__, defBody st_InvalidNumber____init__, defScope st_InvalidNumber____init__, [], []⟩
def dd_InvalidRanking____init__ : He.DefD := ⟨("InvalidRanking", some "__init__"), "__init__", "InvalidRanking.__init__", defArgs st_InvalidRanking____init__, defBody st_InvalidRanking____init__, defScope st_InvalidRanking____init__, [], []⟩
def dd_InvalidSet____init__ : He.DefD := ⟨("InvalidSet", some "__init__"), "__init__", "InvalidSet.__init__", defArgs st_InvalidSet____init__, defBody st_InvalidSet____init__, defScope st_InvalidSet____init__, [], []⟩
def dd_InvalidText____init__ : He.DefD := ⟨("InvalidText", some "__init__"), "__init__", "InvalidText.__init__", defArgs st_InvalidText____init__, defBody st_InvalidText____init__, defScope st_InvalidText____init__, [], []⟩
def dd_InvalidTurns____init__ : He.DefD := ⟨("InvalidTurns", some "__init__"), "__init__", "InvalidTurns.__init__", defArgs st_InvalidTurns____init__, defBody st_InvalidTurns____init__, defScope st_InvalidTurns____init__, [], []⟩
def dd_LimitExceeded____init__ : He.DefD := ⟨("LimitExceeded", some "__init__"), "__init__", "LimitExceeded.__init__", defArgs st_LimitExceeded____init__, defBody st_LimitExceeded____init__, defScope st_LimitExceeded____init__, [], []⟩
def dd_UnknownItem____init__ : He.DefD := ⟨("UnknownItem", some "__init__"), "__init__", "UnknownItem.__init__", defArgs st_UnknownItem____init__, defBody st_UnknownItem____init__, defScope st_UnknownItem____init__, [], []⟩
def fp : List He5.DefA := []
def fn : List He.DefD := [dd__law_pool, dd__law_take, dd__law_kinds, dd__law_bases, dd__law_due, dd_law, dd_Contradiction____init__, dd_InvalidCommand____init__, dd_InvalidFact____init__, dd_InvalidItem____init__, dd_InvalidNumber____init__, dd_InvalidRanking____init__, dd_InvalidSet____init__, dd_InvalidText____init__, dd_InvalidTurns____init__, dd_LimitExceeded____init__, dd_UnknownItem____init__]
def fa : List He.Fa := [.glo "_law_pool", .glo "_law_take", .glo "_law_kinds", .glo "_law_bases", .glo "_law_due", .glo "law", .glo "Contradiction", .glo "InvalidCommand", .glo "InvalidFact", .glo "InvalidItem", .glo "InvalidNumber", .glo "InvalidRanking", .glo "InvalidSet", .glo "InvalidText", .glo "InvalidTurns", .glo "LimitExceeded", .glo "NoTurn", .glo "PickingError", .glo "UnknownItem", .noat "Contradiction" "index", .noat "InvalidCommand" "word", .noat "InvalidFact" "index", .noat "InvalidItem" "value", .noat "InvalidNumber" "value", .noat "InvalidRanking" "value", .noat "InvalidSet" "value", .noat "InvalidText" "line", .noat "InvalidTurns" "value", .noat "LimitExceeded" "limit", .noat "UnknownItem" "item", .free "ArithmeticError", .free "KeyError", .free "LookupError", .free "OverflowError", .free "ValueError", .free "abs", .free "enumerate", .free "int", .free "isinstance", .free "len", .free "max", .free "min", .free "range", .free "repr"]
def ex (K : PySem.W.Frag) : Bool := true && own0B K (He.ga K "NoTurn") "LookupError.__new__" [.type "LookupError", .type "Exception", .type "BaseException", .type "object"] && oexIDB K "Contradiction" "index" "ArithmeticError.__new__" [.type "ArithmeticError", .type "Exception", .type "BaseException", .type "object"] && oexIB K "InvalidCommand" "word" && oexIB K "InvalidFact" "index" && oexIB K "InvalidItem" "value" && oexIB K "InvalidNumber" "value" && oexIB K "InvalidRanking" "value" && oexIB K "InvalidSet" "value" && oexIB K "InvalidText" "line" && oexIB K "InvalidTurns" "value" && oexIDB K "LimitExceeded" "limit" "OverflowError.__new__" [.type "OverflowError", .type "ArithmeticError", .type "Exception", .type "BaseException", .type "object"] && oexIDB K "UnknownItem" "item" "LookupError.__new__" [.type "KeyError", .type "LookupError", .type "Exception", .type "BaseException", .type "object"] && xfB K (He.ga K "Contradiction") && xfB K (He.ga K "InvalidCommand") && xfB K (He.ga K "InvalidFact") && xfB K (He.ga K "InvalidItem") && xfB K (He.ga K "InvalidNumber") && xfB K (He.ga K "InvalidRanking") && xfB K (He.ga K "InvalidSet") && xfB K (He.ga K "InvalidText") && xfB K (He.ga K "InvalidTurns") && xfB K (He.ga K "LimitExceeded") && xfB K (He.ga K "UnknownItem") && oexIDB K "Contradiction" "index" "ArithmeticError.__new__" [.type "ArithmeticError", .type "Exception", .type "BaseException", .type "object"] && oexIDB K "InvalidCommand" "word" "ValueError.__new__" [.type "ValueError", .type "Exception", .type "BaseException", .type "object"] && oexIDB K "InvalidFact" "index" "ValueError.__new__" [.type "ValueError", .type "Exception", .type "BaseException", .type "object"] && oexIDB K "InvalidItem" "value" "ValueError.__new__" [.type "ValueError", .type "Exception", .type "BaseException", .type "object"] && oexIDB K "InvalidNumber" "value" "ValueError.__new__" [.type "ValueError", .type "Exception", .type "BaseException", .type "object"] && oexIDB K "InvalidRanking" "value" "ValueError.__new__" [.type "ValueError", .type "Exception", .type "BaseException", .type "object"] && oexIDB K "InvalidSet" "value" "ValueError.__new__" [.type "ValueError", .type "Exception", .type "BaseException", .type "object"] && oexIDB K "InvalidText" "line" "ValueError.__new__" [.type "ValueError", .type "Exception", .type "BaseException", .type "object"] && oexIDB K "InvalidTurns" "value" "ValueError.__new__" [.type "ValueError", .type "Exception", .type "BaseException", .type "object"] && oexIDB K "LimitExceeded" "limit" "OverflowError.__new__" [.type "OverflowError", .type "ArithmeticError", .type "Exception", .type "BaseException", .type "object"] && oexIDB K "UnknownItem" "item" "LookupError.__new__" [.type "KeyError", .type "LookupError", .type "Exception", .type "BaseException", .type "object"] && isxTB K (He.ga K "Contradiction") "ArithmeticError" true && isxTB K (He.ga K "InvalidCommand") "ArithmeticError" false && isxTB K (He.ga K "InvalidFact") "ArithmeticError" false && isxTB K (He.ga K "InvalidItem") "ArithmeticError" false && isxTB K (He.ga K "InvalidNumber") "ArithmeticError" false && isxTB K (He.ga K "InvalidRanking") "ArithmeticError" false && isxTB K (He.ga K "InvalidSet") "ArithmeticError" false && isxTB K (He.ga K "InvalidText") "ArithmeticError" false && isxTB K (He.ga K "InvalidTurns") "ArithmeticError" false && isxTB K (He.ga K "LimitExceeded") "ArithmeticError" true && isxTB K (He.ga K "NoTurn") "ArithmeticError" false && isxTB K (He.ga K "UnknownItem") "ArithmeticError" false && isxTB K (He.ga K "Contradiction") "KeyError" false && isxTB K (He.ga K "InvalidCommand") "KeyError" false && isxTB K (He.ga K "InvalidFact") "KeyError" false && isxTB K (He.ga K "InvalidItem") "KeyError" false && isxTB K (He.ga K "InvalidNumber") "KeyError" false && isxTB K (He.ga K "InvalidRanking") "KeyError" false && isxTB K (He.ga K "InvalidSet") "KeyError" false && isxTB K (He.ga K "InvalidText") "KeyError" false && isxTB K (He.ga K "InvalidTurns") "KeyError" false && isxTB K (He.ga K "LimitExceeded") "KeyError" false && isxTB K (He.ga K "NoTurn") "KeyError" false && isxTB K (He.ga K "UnknownItem") "KeyError" true && isxTB K (He.ga K "Contradiction") "LookupError" false && isxTB K (He.ga K "InvalidCommand") "LookupError" false && isxTB K (He.ga K "InvalidFact") "LookupError" false && isxTB K (He.ga K "InvalidItem") "LookupError" false && isxTB K (He.ga K "InvalidNumber") "LookupError" false && isxTB K (He.ga K "InvalidRanking") "LookupError" false && isxTB K (He.ga K "InvalidSet") "LookupError" false && isxTB K (He.ga K "InvalidText") "LookupError" false && isxTB K (He.ga K "InvalidTurns") "LookupError" false && isxTB K (He.ga K "LimitExceeded") "LookupError" false && isxTB K (He.ga K "NoTurn") "LookupError" true && isxTB K (He.ga K "UnknownItem") "LookupError" true && isxTB K (He.ga K "Contradiction") "OverflowError" false && isxTB K (He.ga K "InvalidCommand") "OverflowError" false && isxTB K (He.ga K "InvalidFact") "OverflowError" false && isxTB K (He.ga K "InvalidItem") "OverflowError" false && isxTB K (He.ga K "InvalidNumber") "OverflowError" false && isxTB K (He.ga K "InvalidRanking") "OverflowError" false && isxTB K (He.ga K "InvalidSet") "OverflowError" false && isxTB K (He.ga K "InvalidText") "OverflowError" false && isxTB K (He.ga K "InvalidTurns") "OverflowError" false && isxTB K (He.ga K "LimitExceeded") "OverflowError" true && isxTB K (He.ga K "NoTurn") "OverflowError" false && isxTB K (He.ga K "UnknownItem") "OverflowError" false && isxTB K (He.ga K "Contradiction") "ValueError" false && isxTB K (He.ga K "InvalidCommand") "ValueError" true && isxTB K (He.ga K "InvalidFact") "ValueError" true && isxTB K (He.ga K "InvalidItem") "ValueError" true && isxTB K (He.ga K "InvalidNumber") "ValueError" true && isxTB K (He.ga K "InvalidRanking") "ValueError" true && isxTB K (He.ga K "InvalidSet") "ValueError" true && isxTB K (He.ga K "InvalidText") "ValueError" true && isxTB K (He.ga K "InvalidTurns") "ValueError" true && isxTB K (He.ga K "LimitExceeded") "ValueError" false && isxTB K (He.ga K "NoTurn") "ValueError" false && isxTB K (He.ga K "UnknownItem") "ValueError" false && exkB K (He.ga K "Contradiction") && exkB K (He.ga K "InvalidCommand") && exkB K (He.ga K "InvalidFact") && exkB K (He.ga K "InvalidItem") && exkB K (He.ga K "InvalidNumber") && exkB K (He.ga K "InvalidRanking") && exkB K (He.ga K "InvalidSet") && exkB K (He.ga K "InvalidText") && exkB K (He.ga K "InvalidTurns") && exkB K (He.ga K "LimitExceeded") && exkB K (He.ga K "NoTurn") && exkB K (He.ga K "UnknownItem") && isxB K (.type "NoneType") (He.ga K "Contradiction") false && isxB K (.ref (He.ga K "Contradiction")) (He.ga K "Contradiction") true && isxB K (.ref (He.ga K "InvalidCommand")) (He.ga K "Contradiction") false && isxB K (.ref (He.ga K "InvalidFact")) (He.ga K "Contradiction") false && isxB K (.ref (He.ga K "InvalidItem")) (He.ga K "Contradiction") false && isxB K (.ref (He.ga K "InvalidNumber")) (He.ga K "Contradiction") false && isxB K (.ref (He.ga K "InvalidRanking")) (He.ga K "Contradiction") false && isxB K (.ref (He.ga K "InvalidSet")) (He.ga K "Contradiction") false && isxB K (.ref (He.ga K "InvalidText")) (He.ga K "Contradiction") false && isxB K (.ref (He.ga K "InvalidTurns")) (He.ga K "Contradiction") false && isxB K (.ref (He.ga K "LimitExceeded")) (He.ga K "Contradiction") false && isxB K (.ref (He.ga K "NoTurn")) (He.ga K "Contradiction") false && isxB K (.ref (He.ga K "UnknownItem")) (He.ga K "Contradiction") false && isxB K (.type "NoneType") (He.ga K "InvalidCommand") false && isxB K (.ref (He.ga K "Contradiction")) (He.ga K "InvalidCommand") false && isxB K (.ref (He.ga K "InvalidCommand")) (He.ga K "InvalidCommand") true && isxB K (.ref (He.ga K "InvalidFact")) (He.ga K "InvalidCommand") false && isxB K (.ref (He.ga K "InvalidItem")) (He.ga K "InvalidCommand") false && isxB K (.ref (He.ga K "InvalidNumber")) (He.ga K "InvalidCommand") false && isxB K (.ref (He.ga K "InvalidRanking")) (He.ga K "InvalidCommand") false && isxB K (.ref (He.ga K "InvalidSet")) (He.ga K "InvalidCommand") false && isxB K (.ref (He.ga K "InvalidText")) (He.ga K "InvalidCommand") false && isxB K (.ref (He.ga K "InvalidTurns")) (He.ga K "InvalidCommand") false && isxB K (.ref (He.ga K "LimitExceeded")) (He.ga K "InvalidCommand") false && isxB K (.ref (He.ga K "NoTurn")) (He.ga K "InvalidCommand") false && isxB K (.ref (He.ga K "UnknownItem")) (He.ga K "InvalidCommand") false && isxB K (.type "NoneType") (He.ga K "InvalidFact") false && isxB K (.ref (He.ga K "Contradiction")) (He.ga K "InvalidFact") false && isxB K (.ref (He.ga K "InvalidCommand")) (He.ga K "InvalidFact") false && isxB K (.ref (He.ga K "InvalidFact")) (He.ga K "InvalidFact") true && isxB K (.ref (He.ga K "InvalidItem")) (He.ga K "InvalidFact") false && isxB K (.ref (He.ga K "InvalidNumber")) (He.ga K "InvalidFact") false && isxB K (.ref (He.ga K "InvalidRanking")) (He.ga K "InvalidFact") false && isxB K (.ref (He.ga K "InvalidSet")) (He.ga K "InvalidFact") false && isxB K (.ref (He.ga K "InvalidText")) (He.ga K "InvalidFact") false && isxB K (.ref (He.ga K "InvalidTurns")) (He.ga K "InvalidFact") false && isxB K (.ref (He.ga K "LimitExceeded")) (He.ga K "InvalidFact") false && isxB K (.ref (He.ga K "NoTurn")) (He.ga K "InvalidFact") false && isxB K (.ref (He.ga K "UnknownItem")) (He.ga K "InvalidFact") false && isxB K (.type "NoneType") (He.ga K "InvalidItem") false && isxB K (.ref (He.ga K "Contradiction")) (He.ga K "InvalidItem") false && isxB K (.ref (He.ga K "InvalidCommand")) (He.ga K "InvalidItem") false && isxB K (.ref (He.ga K "InvalidFact")) (He.ga K "InvalidItem") false && isxB K (.ref (He.ga K "InvalidItem")) (He.ga K "InvalidItem") true && isxB K (.ref (He.ga K "InvalidNumber")) (He.ga K "InvalidItem") false && isxB K (.ref (He.ga K "InvalidRanking")) (He.ga K "InvalidItem") false && isxB K (.ref (He.ga K "InvalidSet")) (He.ga K "InvalidItem") false && isxB K (.ref (He.ga K "InvalidText")) (He.ga K "InvalidItem") false && isxB K (.ref (He.ga K "InvalidTurns")) (He.ga K "InvalidItem") false && isxB K (.ref (He.ga K "LimitExceeded")) (He.ga K "InvalidItem") false && isxB K (.ref (He.ga K "NoTurn")) (He.ga K "InvalidItem") false && isxB K (.ref (He.ga K "UnknownItem")) (He.ga K "InvalidItem") false && isxB K (.type "NoneType") (He.ga K "InvalidNumber") false && isxB K (.ref (He.ga K "Contradiction")) (He.ga K "InvalidNumber") false && isxB K (.ref (He.ga K "InvalidCommand")) (He.ga K "InvalidNumber") false && isxB K (.ref (He.ga K "InvalidFact")) (He.ga K "InvalidNumber") false && isxB K (.ref (He.ga K "InvalidItem")) (He.ga K "InvalidNumber") false && isxB K (.ref (He.ga K "InvalidNumber")) (He.ga K "InvalidNumber") true && isxB K (.ref (He.ga K "InvalidRanking")) (He.ga K "InvalidNumber") false && isxB K (.ref (He.ga K "InvalidSet")) (He.ga K "InvalidNumber") false && isxB K (.ref (He.ga K "InvalidText")) (He.ga K "InvalidNumber") false && isxB K (.ref (He.ga K "InvalidTurns")) (He.ga K "InvalidNumber") false && isxB K (.ref (He.ga K "LimitExceeded")) (He.ga K "InvalidNumber") false && isxB K (.ref (He.ga K "NoTurn")) (He.ga K "InvalidNumber") false && isxB K (.ref (He.ga K "UnknownItem")) (He.ga K "InvalidNumber") false && isxB K (.type "NoneType") (He.ga K "InvalidRanking") false && isxB K (.ref (He.ga K "Contradiction")) (He.ga K "InvalidRanking") false && isxB K (.ref (He.ga K "InvalidCommand")) (He.ga K "InvalidRanking") false && isxB K (.ref (He.ga K "InvalidFact")) (He.ga K "InvalidRanking") false && isxB K (.ref (He.ga K "InvalidItem")) (He.ga K "InvalidRanking") false && isxB K (.ref (He.ga K "InvalidNumber")) (He.ga K "InvalidRanking") false && isxB K (.ref (He.ga K "InvalidRanking")) (He.ga K "InvalidRanking") true && isxB K (.ref (He.ga K "InvalidSet")) (He.ga K "InvalidRanking") false && isxB K (.ref (He.ga K "InvalidText")) (He.ga K "InvalidRanking") false && isxB K (.ref (He.ga K "InvalidTurns")) (He.ga K "InvalidRanking") false && isxB K (.ref (He.ga K "LimitExceeded")) (He.ga K "InvalidRanking") false && isxB K (.ref (He.ga K "NoTurn")) (He.ga K "InvalidRanking") false && isxB K (.ref (He.ga K "UnknownItem")) (He.ga K "InvalidRanking") false && isxB K (.type "NoneType") (He.ga K "InvalidSet") false && isxB K (.ref (He.ga K "Contradiction")) (He.ga K "InvalidSet") false && isxB K (.ref (He.ga K "InvalidCommand")) (He.ga K "InvalidSet") false && isxB K (.ref (He.ga K "InvalidFact")) (He.ga K "InvalidSet") false && isxB K (.ref (He.ga K "InvalidItem")) (He.ga K "InvalidSet") false && isxB K (.ref (He.ga K "InvalidNumber")) (He.ga K "InvalidSet") false && isxB K (.ref (He.ga K "InvalidRanking")) (He.ga K "InvalidSet") false && isxB K (.ref (He.ga K "InvalidSet")) (He.ga K "InvalidSet") true && isxB K (.ref (He.ga K "InvalidText")) (He.ga K "InvalidSet") false && isxB K (.ref (He.ga K "InvalidTurns")) (He.ga K "InvalidSet") false && isxB K (.ref (He.ga K "LimitExceeded")) (He.ga K "InvalidSet") false && isxB K (.ref (He.ga K "NoTurn")) (He.ga K "InvalidSet") false && isxB K (.ref (He.ga K "UnknownItem")) (He.ga K "InvalidSet") false && isxB K (.type "NoneType") (He.ga K "InvalidText") false && isxB K (.ref (He.ga K "Contradiction")) (He.ga K "InvalidText") false && isxB K (.ref (He.ga K "InvalidCommand")) (He.ga K "InvalidText") false && isxB K (.ref (He.ga K "InvalidFact")) (He.ga K "InvalidText") false && isxB K (.ref (He.ga K "InvalidItem")) (He.ga K "InvalidText") false && isxB K (.ref (He.ga K "InvalidNumber")) (He.ga K "InvalidText") false && isxB K (.ref (He.ga K "InvalidRanking")) (He.ga K "InvalidText") false && isxB K (.ref (He.ga K "InvalidSet")) (He.ga K "InvalidText") false && isxB K (.ref (He.ga K "InvalidText")) (He.ga K "InvalidText") true && isxB K (.ref (He.ga K "InvalidTurns")) (He.ga K "InvalidText") false && isxB K (.ref (He.ga K "LimitExceeded")) (He.ga K "InvalidText") false && isxB K (.ref (He.ga K "NoTurn")) (He.ga K "InvalidText") false && isxB K (.ref (He.ga K "UnknownItem")) (He.ga K "InvalidText") false && isxB K (.type "NoneType") (He.ga K "InvalidTurns") false && isxB K (.ref (He.ga K "Contradiction")) (He.ga K "InvalidTurns") false && isxB K (.ref (He.ga K "InvalidCommand")) (He.ga K "InvalidTurns") false && isxB K (.ref (He.ga K "InvalidFact")) (He.ga K "InvalidTurns") false && isxB K (.ref (He.ga K "InvalidItem")) (He.ga K "InvalidTurns") false && isxB K (.ref (He.ga K "InvalidNumber")) (He.ga K "InvalidTurns") false && isxB K (.ref (He.ga K "InvalidRanking")) (He.ga K "InvalidTurns") false && isxB K (.ref (He.ga K "InvalidSet")) (He.ga K "InvalidTurns") false && isxB K (.ref (He.ga K "InvalidText")) (He.ga K "InvalidTurns") false && isxB K (.ref (He.ga K "InvalidTurns")) (He.ga K "InvalidTurns") true && isxB K (.ref (He.ga K "LimitExceeded")) (He.ga K "InvalidTurns") false && isxB K (.ref (He.ga K "NoTurn")) (He.ga K "InvalidTurns") false && isxB K (.ref (He.ga K "UnknownItem")) (He.ga K "InvalidTurns") false && isxB K (.type "NoneType") (He.ga K "LimitExceeded") false && isxB K (.ref (He.ga K "Contradiction")) (He.ga K "LimitExceeded") false && isxB K (.ref (He.ga K "InvalidCommand")) (He.ga K "LimitExceeded") false && isxB K (.ref (He.ga K "InvalidFact")) (He.ga K "LimitExceeded") false && isxB K (.ref (He.ga K "InvalidItem")) (He.ga K "LimitExceeded") false && isxB K (.ref (He.ga K "InvalidNumber")) (He.ga K "LimitExceeded") false && isxB K (.ref (He.ga K "InvalidRanking")) (He.ga K "LimitExceeded") false && isxB K (.ref (He.ga K "InvalidSet")) (He.ga K "LimitExceeded") false && isxB K (.ref (He.ga K "InvalidText")) (He.ga K "LimitExceeded") false && isxB K (.ref (He.ga K "InvalidTurns")) (He.ga K "LimitExceeded") false && isxB K (.ref (He.ga K "LimitExceeded")) (He.ga K "LimitExceeded") true && isxB K (.ref (He.ga K "NoTurn")) (He.ga K "LimitExceeded") false && isxB K (.ref (He.ga K "UnknownItem")) (He.ga K "LimitExceeded") false && isxB K (.type "NoneType") (He.ga K "NoTurn") false && isxB K (.ref (He.ga K "Contradiction")) (He.ga K "NoTurn") false && isxB K (.ref (He.ga K "InvalidCommand")) (He.ga K "NoTurn") false && isxB K (.ref (He.ga K "InvalidFact")) (He.ga K "NoTurn") false && isxB K (.ref (He.ga K "InvalidItem")) (He.ga K "NoTurn") false && isxB K (.ref (He.ga K "InvalidNumber")) (He.ga K "NoTurn") false && isxB K (.ref (He.ga K "InvalidRanking")) (He.ga K "NoTurn") false && isxB K (.ref (He.ga K "InvalidSet")) (He.ga K "NoTurn") false && isxB K (.ref (He.ga K "InvalidText")) (He.ga K "NoTurn") false && isxB K (.ref (He.ga K "InvalidTurns")) (He.ga K "NoTurn") false && isxB K (.ref (He.ga K "LimitExceeded")) (He.ga K "NoTurn") false && isxB K (.ref (He.ga K "NoTurn")) (He.ga K "NoTurn") true && isxB K (.ref (He.ga K "UnknownItem")) (He.ga K "NoTurn") false && isxB K (.type "NoneType") (He.ga K "PickingError") false && isxB K (.ref (He.ga K "Contradiction")) (He.ga K "PickingError") false && isxB K (.ref (He.ga K "InvalidCommand")) (He.ga K "PickingError") true && isxB K (.ref (He.ga K "InvalidFact")) (He.ga K "PickingError") true && isxB K (.ref (He.ga K "InvalidItem")) (He.ga K "PickingError") true && isxB K (.ref (He.ga K "InvalidNumber")) (He.ga K "PickingError") true && isxB K (.ref (He.ga K "InvalidRanking")) (He.ga K "PickingError") true && isxB K (.ref (He.ga K "InvalidSet")) (He.ga K "PickingError") true && isxB K (.ref (He.ga K "InvalidText")) (He.ga K "PickingError") true && isxB K (.ref (He.ga K "InvalidTurns")) (He.ga K "PickingError") true && isxB K (.ref (He.ga K "LimitExceeded")) (He.ga K "PickingError") false && isxB K (.ref (He.ga K "NoTurn")) (He.ga K "PickingError") false && isxB K (.ref (He.ga K "UnknownItem")) (He.ga K "PickingError") false && isxB K (.type "NoneType") (He.ga K "UnknownItem") false && isxB K (.ref (He.ga K "Contradiction")) (He.ga K "UnknownItem") false && isxB K (.ref (He.ga K "InvalidCommand")) (He.ga K "UnknownItem") false && isxB K (.ref (He.ga K "InvalidFact")) (He.ga K "UnknownItem") false && isxB K (.ref (He.ga K "InvalidItem")) (He.ga K "UnknownItem") false && isxB K (.ref (He.ga K "InvalidNumber")) (He.ga K "UnknownItem") false && isxB K (.ref (He.ga K "InvalidRanking")) (He.ga K "UnknownItem") false && isxB K (.ref (He.ga K "InvalidSet")) (He.ga K "UnknownItem") false && isxB K (.ref (He.ga K "InvalidText")) (He.ga K "UnknownItem") false && isxB K (.ref (He.ga K "InvalidTurns")) (He.ga K "UnknownItem") false && isxB K (.ref (He.ga K "LimitExceeded")) (He.ga K "UnknownItem") false && isxB K (.ref (He.ga K "NoTurn")) (He.ga K "UnknownItem") false && isxB K (.ref (He.ga K "UnknownItem")) (He.ga K "UnknownItem") true
abbrev R : PySem.W.OpenRow := PySem.W.OpenLaw.row PySem.Challenge.rw_lastchoicefirst_k03_error_classes
abbrev hook : PySem.W.Hook := hookS 6 fa fn fp ex
def ob (s : PySem.W.SharedT) : AlS := obsS 6 fa fn fp ex (HandSHeadRun.getT s)
theorem ob_eq (s : PySem.W.SharedT) : ob s = hook.obs s.abs := obsS_eq (HandSHeadRun.getT_eq s)
theorem runs (w : World) : HandSHeadRun.RunEq R (PySem.W.view R.prog [20]) hook ob 4000 [("PickingError" : Str), ("InvalidItem" : Str), ("InvalidRanking" : Str), ("InvalidTurns" : Str), ("InvalidSet" : Str), ("InvalidFact" : Str), ("InvalidNumber" : Str), ("InvalidText" : Str), ("InvalidCommand" : Str), ("UnknownItem" : Str), ("NoTurn" : Str), ("LimitExceeded" : Str), ("Contradiction" : Str), ("_law_pool" : Str), ("_law_take" : Str), ("_law_kinds" : Str), ("_law_bases" : Str), ("_law_due" : Str)] w := by
  intro os
  kernel_rfl
theorem lw_of {w : World} {h : Heap} {K : PySem.W.Frag} {mg : Str → Option Value} (X : K.In h) (G : h.Ns mainGlobals mg) (c : SaysB fa fn fp ex w h K) : Nonempty (Lw K mg) := by
  have cd : He.SaysD fa fn K := c.x.t.d
  obtain ⟨fd__law_pool, F__law_pool⟩ := cd.def_ 0 (d := dd__law_pool) rfl
  obtain ⟨fd__law_take, F__law_take⟩ := cd.def_ 1 (d := dd__law_take) rfl
  obtain ⟨fd__law_kinds, F__law_kinds⟩ := cd.def_ 2 (d := dd__law_kinds) rfl
  obtain ⟨fd__law_bases, F__law_bases⟩ := cd.def_ 3 (d := dd__law_bases) rfl
  obtain ⟨fd__law_due, F__law_due⟩ := cd.def_ 4 (d := dd__law_due) rfl
  obtain ⟨fd_law, F_law⟩ := cd.def_ 5 (d := dd_law) rfl
  obtain ⟨fd_Contradiction____init__, F_Contradiction____init__⟩ := cd.def_ 6 (d := dd_Contradiction____init__) rfl
  obtain ⟨fd_InvalidCommand____init__, F_InvalidCommand____init__⟩ := cd.def_ 7 (d := dd_InvalidCommand____init__) rfl
  obtain ⟨fd_InvalidFact____init__, F_InvalidFact____init__⟩ := cd.def_ 8 (d := dd_InvalidFact____init__) rfl
  obtain ⟨fd_InvalidItem____init__, F_InvalidItem____init__⟩ := cd.def_ 9 (d := dd_InvalidItem____init__) rfl
  obtain ⟨fd_InvalidNumber____init__, F_InvalidNumber____init__⟩ := cd.def_ 10 (d := dd_InvalidNumber____init__) rfl
  obtain ⟨fd_InvalidRanking____init__, F_InvalidRanking____init__⟩ := cd.def_ 11 (d := dd_InvalidRanking____init__) rfl
  obtain ⟨fd_InvalidSet____init__, F_InvalidSet____init__⟩ := cd.def_ 12 (d := dd_InvalidSet____init__) rfl
  obtain ⟨fd_InvalidText____init__, F_InvalidText____init__⟩ := cd.def_ 13 (d := dd_InvalidText____init__) rfl
  obtain ⟨fd_InvalidTurns____init__, F_InvalidTurns____init__⟩ := cd.def_ 14 (d := dd_InvalidTurns____init__) rfl
  obtain ⟨fd_LimitExceeded____init__, F_LimitExceeded____init__⟩ := cd.def_ 15 (d := dd_LimitExceeded____init__) rfl
  obtain ⟨fd_UnknownItem____init__, F_UnknownItem____init__⟩ := cd.def_ 16 (d := dd_UnknownItem____init__) rfl
  have e_z_NoTurn : own0B K (He.ga K "NoTurn") "LookupError.__new__" [.type "LookupError", .type "Exception", .type "BaseException", .type "object"] = true := by
    have h := c.x.more
    simp only [ex, Bool.and_eq_true] at h
    exact h.1.1.1.1.1.1.1.1.1.1.1.1.1.1.1.1.1.1.1.1.1.1.1.1.1.1.1.1.1.1.1.1.1.1.1.1.1.1.1.1.1.1.1.1.1.1.1.1.1.1.1.1.1.1.1.1.1.1.1.1.1.1.1.1.1.1.1.1.1.1.1.1.1.1.1.1.1.1.1.1.1.1.1.1.1.1.1.1.1.1.1.1.1.1.1.1.1.1.1.1.1.1.1.1.1.1.1.1.1.1.1.1.1.1.1.1.1.1.1.1.1.1.1.1.1.1.1.1.1.1.1.1.1.1.1.1.1.1.1.1.1.1.1.1.1.1.1.1.1.1.1.1.1.1.1.1.1.1.1.1.1.1.1.1.1.1.1.1.1.1.1.1.1.1.1.1.1.1.1.1.1.1.1.1.1.1.1.1.1.1.1.1.1.1.1.1.1.1.1.1.1.1.1.1.1.1.1.1.1.1.1.1.1.1.1.1.1.1.1.1.1.1.1.1.1.1.1.1.1.1.1.1.1.1.1.1.1.1.1.1.1.1.1.1.1.1.1.1.1.1.1.1.1.1.1.1.1.1.1.1.1.1.1.1.1.1.1.1.1.1.1.1.1.1.2
  have e_o_Contradiction : oexIDB K "Contradiction" "index" "ArithmeticError.__new__" [.type "ArithmeticError", .type "Exception", .type "BaseException", .type "object"] = true := by
    have h := c.x.more
    simp only [ex, Bool.and_eq_true] at h
    exact h.1.1.1.1.1.1.1.1.1.1.1.1.1.1.1.1.1.1.1.1.1.1.1.1.1.1.1.1.1.1.1.1.1.1.1.1.1.1.1.1.1.1.1.1.1.1.1.1.1.1.1.1.1.1.1.1.1.1.1.1.1.1.1.1.1.1.1.1.1.1.1.1.1.1.1.1.1.1.1.1.1.1.1.1.1.1.1.1.1.1.1.1.1.1.1.1.1.1.1.1.1.1.1.1.1.1.1.1.1.1.1.1.1.1.1.1.1.1.1.1.1.1.1.1.1.1.1.1.1.1.1.1.1.1.1.1.1.1.1.1.1.1.1.1.1.1.1.1.1.1.1.1.1.1.1.1.1.1.1.1.1.1.1.1.1.1.1.1.1.1.1.1.1.1.1.1.1.1.1.1.1.1.1.1.1.1.1.1.1.1.1.1.1.1.1.1.1.1.1.1.1.1.1.1.1.1.1.1.1.1.1.1.1.1.1.1.1.1.1.1.1.1.1.1.1.1.1.1.1.1.1.1.1.1.1.1.1.1.1.1.1.1.1.1.1.1.1.1.1.1.1.1.1.1.1.1.1.1.1.1.1.1.1.1.1.1.1.1.1.1.1.1.1.2
  have e_o_InvalidCommand : oexIB K "InvalidCommand" "word" = true := by
    have h := c.x.more
    simp only [ex, Bool.and_eq_true] at h
    exact h.1.1.1.1.1.1.1.1.1.1.1.1.1.1.1.1.1.1.1.1.1.1.1.1.1.1.1.1.1.1.1.1.1.1.1.1.1.1.1.1.1.1.1.1.1.1.1.1.1.1.1.1.1.1.1.1.1.1.1.1.1.1.1.1.1.1.1.1.1.1.1.1.1.1.1.1.1.1.1.1.1.1.1.1.1.1.1.1.1.1.1.1.1.1.1.1.1.1.1.1.1.1.1.1.1.1.1.1.1.1.1.1.1.1.1.1.1.1.1.1.1.1.1.1.1.1.1.1.1.1.1.1.1.1.1.1.1.1.1.1.1.1.1.1.1.1.1.1.1.1.1.1.1.1.1.1.1.1.1.1.1.1.1.1.1.1.1.1.1.1.1.1.1.1.1.1.1.1.1.1.1.1.1.1.1.1.1.1.1.1.1.1.1.1.1.1.1.1.1.1.1.1.1.1.1.1.1.1.1.1.1.1.1.1.1.1.1.1.1.1.1.1.1.1.1.1.1.1.1.1.1.1.1.1.1.1.1.1.1.1.1.1.1.1.1.1.1.1.1.1.1.1.1.1.1.1.1.1.1.1.1.1.1.1.1.1.1.1.1.1.1.1.2
  have e_o_InvalidFact : oexIB K "InvalidFact" "index" = true := by
    have h := c.x.more
    simp only [ex, Bool.and_eq_true] at h
    exact h.1.1.1.1.1.1.1.1.1.1.1.1.1.1.1.1.1.1.1.1.1.1.1.1.1.1.1.1.1.1.1.1.1.1.1.1.1.1.1.1.1.1.1.1.1.1.1.1.1.1.1.1.1.1.1.1.1.1.1.1.1.1.1.1.1.1.1.1.1.1.1.1.1.1.1.1.1.1.1.1.1.1.1.1.1.1.1.1.1.1.1.1.1.1.1.1.1.1.1.1.1.1.1.1.1.1.1.1.1.1.1.1.1.1.1.1.1.1.1.1.1.1.1.1.1.1.1.1.1.1.1.1.1.1.1.1.1.1.1.1.1.1.1.1.1.1.1.1.1.1.1.1.1.1.1.1.1.1.1.1.1.1.1.1.1.1.1.1.1.1.1.1.1.1.1.1.1.1.1.1.1.1.1.1.1.1.1.1.1.1.1.1.1.1.1.1.1.1.1.1.1.1.1.1.1.1.1.1.1.1.1.1.1.1.1.1.1.1.1.1.1.1.1.1.1.1.1.1.1.1.1.1.1.1.1.1.1.1.1.1.1.1.1.1.1.1.1.1.1.1.1.1.1.1.1.1.1.1.1.1.1.1.1.1.1.1.1.1.1.1.1.2
  have e_o_InvalidItem : oexIB K "InvalidItem" "value" = true := by
    have h := c.x.more
    simp only [ex, Bool.and_eq_true] at h
    exact h.1.1.1.1.1.1.1.1.1.1.1.1.1.1.1.1.1.1.1.1.1.1.1.1.1.1.1.1.1.1.1.1.1.1.1.1.1.1.1.1.1.1.1.1.1.1.1.1.1.1.1.1.1.1.1.1.1.1.1.1.1.1.1.1.1.1.1.1.1.1.1.1.1.1.1.1.1.1.1.1.1.1.1.1.1.1.1.1.1.1.1.1.1.1.1.1.1.1.1.1.1.1.1.1.1.1.1.1.1.1.1.1.1.1.1.1.1.1.1.1.1.1.1.1.1.1.1.1.1.1.1.1.1.1.1.1.1.1.1.1.1.1.1.1.1.1.1.1.1.1.1.1.1.1.1.1.1.1.1.1.1.1.1.1.1.1.1.1.1.1.1.1.1.1.1.1.1.1.1.1.1.1.1.1.1.1.1.1.1.1.1.1.1.1.1.1.1.1.1.1.1.1.1.1.1.1.1.1.1.1.1.1.1.1.1.1.1.1.1.1.1.1.1.1.1.1.1.1.1.1.1.1.1.1.1.1.1.1.1.1.1.1.1.1.1.1.1.1.1.1.1.1.1.1.1.1.1.1.1.1.1.1.1.1.1.1.1.1.1.1.2
  have e_o_InvalidNumber : oexIB K "InvalidNumber" "value" = true := by
    have h := c.x.more
    simp only [ex, Bool.and_eq_true] at h
    exact h.1.1.1.1.1.1.1.1.1.1.1.1.1.1.1.1.1.1.1.1.1.1.1.1.1.1.1.1.1.1.1.1.1.1.1.1.1.1.1.1.1.1.1.1.1.1.1.1.1.1.1.1.1.1.1.1.1.1.1.1.1.1.1.1.1.1.1.1.1.1.1.1.1.1.1.1.1.1.1.1.1.1.1.1.1.1.1.1.1.1.1.1.1.1.1.1.1.1.1.1.1.1.1.1.1.1.1.1.1.1.1.1.1.1.1.1.1.1.1.1.1.1.1.1.1.1.1.1.1.1.1.1.1.1.1.1.1.1.1.1.1.1.1.1.1.1.1.1.1.1.1.1.1.1.1.1.1.1.1.1.1.1.1.1.1.1.1.1.1.1.1.1.1.1.1.1.1.1.1.1.1.1.1.1.1.1.1.1.1.1.1.1.1.1.1.1.1.1.1.1.1.1.1.1.1.1.1.1.1.1.1.1.1.1.1.1.1.1.1.1.1.1.1.1.1.1.1.1.1.1.1.1.1.1.1.1.1.1.1.1.1.1.1.1.1.1.1.1.1.1.1.1.1.1.1.1.1.1.1.1.1.1.1.1.1.1.1.1.1.2
  have e_o_InvalidRanking : oexIB K "InvalidRanking" "value" = true := by
    have h := c.x.more
    simp only [ex, Bool.and_eq_true] at h
    exact h.1.1.1.1.1.1.1.1.1.1.1.1.1.1.1.1.1.1.1.1.1.1.1.1.1.1.1.1.1.1.1.1.1.1.1.1.1.1.1.1.1.1.1.1.1.1.1.1.1.1.1.1.1.1.1.1.1.1.1.1.1.1.1.1.1.1.1.1.1.1.1.1.1.1.1.1.1.1.1.1.1.1.1.1.1.1.1.1.1.1.1.1.1.1.1.1.1.1.1.1.1.1.1.1.1.1.1.1.1.1.1.1.1.1.1.1.1.1.1.1.1.1.1.1.1.1.1.1.1.1.1.1.1.1.1.1.1.1.1.1.1.1.1.1.1.1.1.1.1.1.1.1.1.1.1.1.1.1.1.1.1.1.1.1.1.1.1.1.1.1.1.1.1.1.1.1.1.1.1.1.1.1.1.1.1.1.1.1.1.1.1.1.1.1.1.1.1.1.1.1.1.1.1.1.1.1.1.1.1.1.1.1.1.1.1.1.1.1.1.1.1.1.1.1.1.1.1.1.1.1.1.1.1.1.1.1.1.1.1.1.1.1.1.1.1.1.1.1.1.1.1.1.1.1.1.1.1.1.1.1.1.1.1.1.1.1.1.1.2
  have e_o_InvalidSet : oexIB K "InvalidSet" "value" = true := by
    have h := c.x.more
    simp only [ex, Bool.and_eq_true] at h
    exact h.1.1.1.1.1.1.1.1.1.1.1.1.1.1.1.1.1.1.1.1.1.1.1.1.1.1.1.1.1.1.1.1.1.1.1.1.1.1.1.1.1.1.1.1.1.1.1.1.1.1.1.1.1.1.1.1.1.1.1.1.1.1.1.1.1.1.1.1.1.1.1.1.1.1.1.1.1.1.1.1.1.1.1.1.1.1.1.1.1.1.1.1.1.1.1.1.1.1.1.1.1.1.1.1.1.1.1.1.1.1.1.1.1.1.1.1.1.1.1.1.1.1.1.1.1.1.1.1.1.1.1.1.1.1.1.1.1.1.1.1.1.1.1.1.1.1.1.1.1.1.1.1.1.1.1.1.1.1.1.1.1.1.1.1.1.1.1.1.1.1.1.1.1.1.1.1.1.1.1.1.1.1.1.1.1.1.1.1.1.1.1.1.1.1.1.1.1.1.1.1.1.1.1.1.1.1.1.1.1.1.1.1.1.1.1.1.1.1.1.1.1.1.1.1.1.1.1.1.1.1.1.1.1.1.1.1.1.1.1.1.1.1.1.1.1.1.1.1.1.1.1.1.1.1.1.1.1.1.1.1.1.1.1.1.1.1.1.2
  have e_o_InvalidText : oexIB K "InvalidText" "line" = true := by
    have h := c.x.more
    simp only [ex, Bool.and_eq_true] at h
    exact h.1.1.1.1.1.1.1.1.1.1.1.1.1.1.1.1.1.1.1.1.1.1.1.1.1.1.1.1.1.1.1.1.1.1.1.1.1.1.1.1.1.1.1.1.1.1.1.1.1.1.1.1.1.1.1.1.1.1.1.1.1.1.1.1.1.1.1.1.1.1.1.1.1.1.1.1.1.1.1.1.1.1.1.1.1.1.1.1.1.1.1.1.1.1.1.1.1.1.1.1.1.1.1.1.1.1.1.1.1.1.1.1.1.1.1.1.1.1.1.1.1.1.1.1.1.1.1.1.1.1.1.1.1.1.1.1.1.1.1.1.1.1.1.1.1.1.1.1.1.1.1.1.1.1.1.1.1.1.1.1.1.1.1.1.1.1.1.1.1.1.1.1.1.1.1.1.1.1.1.1.1.1.1.1.1.1.1.1.1.1.1.1.1.1.1.1.1.1.1.1.1.1.1.1.1.1.1.1.1.1.1.1.1.1.1.1.1.1.1.1.1.1.1.1.1.1.1.1.1.1.1.1.1.1.1.1.1.1.1.1.1.1.1.1.1.1.1.1.1.1.1.1.1.1.1.1.1.1.1.1.1.1.1.1.1.1.2
  have e_o_InvalidTurns : oexIB K "InvalidTurns" "value" = true := by
    have h := c.x.more
    simp only [ex, Bool.and_eq_true] at h
    exact h.1.1.1.1.1.1.1.1.1.1.1.1.1.1.1.1.1.1.1.1.1.1.1.1.1.1.1.1.1.1.1.1.1.1.1.1.1.1.1.1.1.1.1.1.1.1.1.1.1.1.1.1.1.1.1.1.1.1.1.1.1.1.1.1.1.1.1.1.1.1.1.1.1.1.1.1.1.1.1.1.1.1.1.1.1.1.1.1.1.1.1.1.1.1.1.1.1.1.1.1.1.1.1.1.1.1.1.1.1.1.1.1.1.1.1.1.1.1.1.1.1.1.1.1.1.1.1.1.1.1.1.1.1.1.1.1.1.1.1.1.1.1.1.1.1.1.1.1.1.1.1.1.1.1.1.1.1.1.1.1.1.1.1.1.1.1.1.1.1.1.1.1.1.1.1.1.1.1.1.1.1.1.1.1.1.1.1.1.1.1.1.1.1.1.1.1.1.1.1.1.1.1.1.1.1.1.1.1.1.1.1.1.1.1.1.1.1.1.1.1.1.1.1.1.1.1.1.1.1.1.1.1.1.1.1.1.1.1.1.1.1.1.1.1.1.1.1.1.1.1.1.1.1.1.1.1.1.1.1.1.1.1.1.1.1.2
  have e_o_LimitExceeded : oexIDB K "LimitExceeded" "limit" "OverflowError.__new__" [.type "OverflowError", .type "ArithmeticError", .type "Exception", .type "BaseException", .type "object"] = true := by
    have h := c.x.more
    simp only [ex, Bool.and_eq_true] at h
    exact h.1.1.1.1.1.1.1.1.1.1.1.1.1.1.1.1.1.1.1.1.1.1.1.1.1.1.1.1.1.1.1.1.1.1.1.1.1.1.1.1.1.1.1.1.1.1.1.1.1.1.1.1.1.1.1.1.1.1.1.1.1.1.1.1.1.1.1.1.1.1.1.1.1.1.1.1.1.1.1.1.1.1.1.1.1.1.1.1.1.1.1.1.1.1.1.1.1.1.1.1.1.1.1.1.1.1.1.1.1.1.1.1.1.1.1.1.1.1.1.1.1.1.1.1.1.1.1.1.1.1.1.1.1.1.1.1.1.1.1.1.1.1.1.1.1.1.1.1.1.1.1.1.1.1.1.1.1.1.1.1.1.1.1.1.1.1.1.1.1.1.1.1.1.1.1.1.1.1.1.1.1.1.1.1.1.1.1.1.1.1.1.1.1.1.1.1.1.1.1.1.1.1.1.1.1.1.1.1.1.1.1.1.1.1.1.1.1.1.1.1.1.1.1.1.1.1.1.1.1.1.1.1.1.1.1.1.1.1.1.1.1.1.1.1.1.1.1.1.1.1.1.1.1.1.1.1.1.1.1.1.1.1.1.1.2
  have e_o_UnknownItem : oexIDB K "UnknownItem" "item" "LookupError.__new__" [.type "KeyError", .type "LookupError", .type "Exception", .type "BaseException", .type "object"] = true := by
    have h := c.x.more
    simp only [ex, Bool.and_eq_true] at h
    exact h.1.1.1.1.1.1.1.1.1.1.1.1.1.1.1.1.1.1.1.1.1.1.1.1.1.1.1.1.1.1.1.1.1.1.1.1.1.1.1.1.1.1.1.1.1.1.1.1.1.1.1.1.1.1.1.1.1.1.1.1.1.1.1.1.1.1.1.1.1.1.1.1.1.1.1.1.1.1.1.1.1.1.1.1.1.1.1.1.1.1.1.1.1.1.1.1.1.1.1.1.1.1.1.1.1.1.1.1.1.1.1.1.1.1.1.1.1.1.1.1.1.1.1.1.1.1.1.1.1.1.1.1.1.1.1.1.1.1.1.1.1.1.1.1.1.1.1.1.1.1.1.1.1.1.1.1.1.1.1.1.1.1.1.1.1.1.1.1.1.1.1.1.1.1.1.1.1.1.1.1.1.1.1.1.1.1.1.1.1.1.1.1.1.1.1.1.1.1.1.1.1.1.1.1.1.1.1.1.1.1.1.1.1.1.1.1.1.1.1.1.1.1.1.1.1.1.1.1.1.1.1.1.1.1.1.1.1.1.1.1.1.1.1.1.1.1.1.1.1.1.1.1.1.1.1.1.1.1.1.1.1.1.1.2
  have e_xf_Contradiction : xfB K (He.ga K "Contradiction") = true := by
    have h := c.x.more
    simp only [ex, Bool.and_eq_true] at h
    exact h.1.1.1.1.1.1.1.1.1.1.1.1.1.1.1.1.1.1.1.1.1.1.1.1.1.1.1.1.1.1.1.1.1.1.1.1.1.1.1.1.1.1.1.1.1.1.1.1.1.1.1.1.1.1.1.1.1.1.1.1.1.1.1.1.1.1.1.1.1.1.1.1.1.1.1.1.1.1.1.1.1.1.1.1.1.1.1.1.1.1.1.1.1.1.1.1.1.1.1.1.1.1.1.1.1.1.1.1.1.1.1.1.1.1.1.1.1.1.1.1.1.1.1.1.1.1.1.1.1.1.1.1.1.1.1.1.1.1.1.1.1.1.1.1.1.1.1.1.1.1.1.1.1.1.1.1.1.1.1.1.1.1.1.1.1.1.1.1.1.1.1.1.1.1.1.1.1.1.1.1.1.1.1.1.1.1.1.1.1.1.1.1.1.1.1.1.1.1.1.1.1.1.1.1.1.1.1.1.1.1.1.1.1.1.1.1.1.1.1.1.1.1.1.1.1.1.1.1.1.1.1.1.1.1.1.1.1.1.1.1.1.1.1.1.1.1.1.1.1.1.1.1.1.1.1.1.1.1.1.1.1.1.2
  have e_xf_InvalidCommand : xfB K (He.ga K "InvalidCommand") = true := by
    have h := c.x.more
    simp only [ex, Bool.and_eq_true] at h
    exact h.1.1.1.1.1.1.1.1.1.1.1.1.1.1.1.1.1.1.1.1.1.1.1.1.1.1.1.1.1.1.1.1.1.1.1.1.1.1.1.1.1.1.1.1.1.1.1.1.1.1.1.1.1.1.1.1.1.1.1.1.1.1.1.1.1.1.1.1.1.1.1.1.1.1.1.1.1.1.1.1.1.1.1.1.1.1.1.1.1.1.1.1.1.1.1.1.1.1.1.1.1.1.1.1.1.1.1.1.1.1.1.1.1.1.1.1.1.1.1.1.1.1.1.1.1.1.1.1.1.1.1.1.1.1.1.1.1.1.1.1.1.1.1.1.1.1.1.1.1.1.1.1.1.1.1.1.1.1.1.1.1.1.1.1.1.1.1.1.1.1.1.1.1.1.1.1.1.1.1.1.1.1.1.1.1.1.1.1.1.1.1.1.1.1.1.1.1.1.1.1.1.1.1.1.1.1.1.1.1.1.1.1.1.1.1.1.1.1.1.1.1.1.1.1.1.1.1.1.1.1.1.1.1.1.1.1.1.1.1.1.1.1.1.1.1.1.1.1.1.1.1.1.1.1.1.1.1.1.1.1.1.2
  have e_xf_InvalidFact : xfB K (He.ga K "InvalidFact") = true := by
    have h := c.x.more
    simp only [ex, Bool.and_eq_true] at h
    exact h.1.1.1.1.1.1.1.1.1.1.1.1.1.1.1.1.1.1.1.1.1.1.1.1.1.1.1.1.1.1.1.1.1.1.1.1.1.1.1.1.1.1.1.1.1.1.1.1.1.1.1.1.1.1.1.1.1.1.1.1.1.1.1.1.1.1.1.1.1.1.1.1.1.1.1.1.1.1.1.1.1.1.1.1.1.1.1.1.1.1.1.1.1.1.1.1.1.1.1.1.1.1.1.1.1.1.1.1.1.1.1.1.1.1.1.1.1.1.1.1.1.1.1.1.1.1.1.1.1.1.1.1.1.1.1.1.1.1.1.1.1.1.1.1.1.1.1.1.1.1.1.1.1.1.1.1.1.1.1.1.1.1.1.1.1.1.1.1.1.1.1.1.1.1.1.1.1.1.1.1.1.1.1.1.1.1.1.1.1.1.1.1.1.1.1.1.1.1.1.1.1.1.1.1.1.1.1.1.1.1.1.1.1.1.1.1.1.1.1.1.1.1.1.1.1.1.1.1.1.1.1.1.1.1.1.1.1.1.1.1.1.1.1.1.1.1.1.1.1.1.1.1.1.1.1.1.1.1.1.1.2
  have e_xf_InvalidItem : xfB K (He.ga K "InvalidItem") = true := by
    have h := c.x.more
    simp only [ex, Bool.and_eq_true] at h
    exact h.1.1.1.1.1.1.1.1.1.1.1.1.1.1.1.1.1.1.1.1.1.1.1.1.1.1.1.1.1.1.1.1.1.1.1.1.1.1.1.1.1.1.1.1.1.1.1.1.1.1.1.1.1.1.1.1.1.1.1.1.1.1.1.1.1.1.1.1.1.1.1.1.1.1.1.1.1.1.1.1.1.1.1.1.1.1.1.1.1.1.1.1.1.1.1.1.1.1.1.1.1.1.1.1.1.1.1.1.1.1.1.1.1.1.1.1.1.1.1.1.1.1.1.1.1.1.1.1.1.1.1.1.1.1.1.1.1.1.1.1.1.1.1.1.1.1.1.1.1.1.1.1.1.1.1.1.1.1.1.1.1.1.1.1.1.1.1.1.1.1.1.1.1.1.1.1.1.1.1.1.1.1.1.1.1.1.1.1.1.1.1.1.1.1.1.1.1.1.1.1.1.1.1.1.1.1.1.1.1.1.1.1.1.1.1.1.1.1.1.1.1.1.1.1.1.1.1.1.1.1.1.1.1.1.1.1.1.1.1.1.1.1.1.1.1.1.1.1.1.1.1.1.1.1.1.1.1.1.1.2
  have e_xf_InvalidNumber : xfB K (He.ga K "InvalidNumber") = true := by
    have h := c.x.more
    simp only [ex, Bool.and_eq_true] at h
    exact h.1.1.1.1.1.1.1.1.1.1.1.1.1.1.1.1.1.1.1.1.1.1.1.1.1.1.1.1.1.1.1.1.1.1.1.1.1.1.1.1.1.1.1.1.1.1.1.1.1.1.1.1.1.1.1.1.1.1.1.1.1.1.1.1.1.1.1.1.1.1.1.1.1.1.1.1.1.1.1.1.1.1.1.1.1.1.1.1.1.1.1.1.1.1.1.1.1.1.1.1.1.1.1.1.1.1.1.1.1.1.1.1.1.1.1.1.1.1.1.1.1.1.1.1.1.1.1.1.1.1.1.1.1.1.1.1.1.1.1.1.1.1.1.1.1.1.1.1.1.1.1.1.1.1.1.1.1.1.1.1.1.1.1.1.1.1.1.1.1.1.1.1.1.1.1.1.1.1.1.1.1.1.1.1.1.1.1.1.1.1.1.1.1.1.1.1.1.1.1.1.1.1.1.1.1.1.1.1.1.1.1.1.1.1.1.1.1.1.1.1.1.1.1.1.1.1.1.1.1.1.1.1.1.1.1.1.1.1.1.1.1.1.1.1.1.1.1.1.1.1.1.1.1.1.1.1.1.1.2
  have e_xf_InvalidRanking : xfB K (He.ga K "InvalidRanking") = true := by
    have h := c.x.more
    simp only [ex, Bool.and_eq_true] at h
    exact h.1.1.1.1.1.1.1.1.1.1.1.1.1.1.1.1.1.1.1.1.1.1.1.1.1.1.1.1.1.1.1.1.1.1.1.1.1.1.1.1.1.1.1.1.1.1.1.1.1.1.1.1.1.1.1.1.1.1.1.1.1.1.1.1.1.1.1.1.1.1.1.1.1.1.1.1.1.1.1.1.1.1.1.1.1.1.1.1.1.1.1.1.1.1.1.1.1.1.1.1.1.1.1.1.1.1.1.1.1.1.1.1.1.1.1.1.1.1.1.1.1.1.1.1.1.1.1.1.1.1.1.1.1.1.1.1.1.1.1.1.1.1.1.1.1.1.1.1.1.1.1.1.1.1.1.1.1.1.1.1.1.1.1.1.1.1.1.1.1.1.1.1.1.1.1.1.1.1.1.1.1.1.1.1.1.1.1.1.1.1.1.1.1.1.1.1.1.1.1.1.1.1.1.1.1.1.1.1.1.1.1.1.1.1.1.1.1.1.1.1.1.1.1.1.1.1.1.1.1.1.1.1.1.1.1.1.1.1.1.1.1.1.1.1.1.1.1.1.1.1.1.1.1.1.1.1.1.2
  have e_xf_InvalidSet : xfB K (He.ga K "InvalidSet") = true := by
    have h := c.x.more
    simp only [ex, Bool.and_eq_true] at h
    exact h.1.1.1.1.1.1.1.1.1.1.1.1.1.1.1.1.1.1.1.1.1.1.1.1.1.1.1.1.1.1.1.1.1.1.1.1.1.1.1.1.1.1.1.1.1.1.1.1.1.1.1.1.1.1.1.1.1.1.1.1.1.1.1.1.1.1.1.1.1.1.1.1.1.1.1.1.1.1.1.1.1.1.1.1.1.1.1.1.1.1.1.1.1.1.1.1.1.1.1.1.1.1.1.1.1.1.1.1.1.1.1.1.1.1.1.1.1.1.1.1.1.1.1.1.1.1.1.1.1.1.1.1.1.1.1.1.1.1.1.1.1.1.1.1.1.1.1.1.1.1.1.1.1.1.1.1.1.1.1.1.1.1.1.1.1.1.1.1.1.1.1.1.1.1.1.1.1.1.1.1.1.1.1.1.1.1.1.1.1.1.1.1.1.1.1.1.1.1.1.1.1.1.1.1.1.1.1.1.1.1.1.1.1.1.1.1.1.1.1.1.1.1.1.1.1.1.1.1.1.1.1.1.1.1.1.1.1.1.1.1.1.1.1.1.1.1.1.1.1.1.1.1.1.1.1.1.2
  have e_xf_InvalidText : xfB K (He.ga K "InvalidText") = true := by
    have h := c.x.more
    simp only [ex, Bool.and_eq_true] at h
    exact h.1.1.1.1.1.1.1.1.1.1.1.1.1.1.1.1.1.1.1.1.1.1.1.1.1.1.1.1.1.1.1.1.1.1.1.1.1.1.1.1.1.1.1.1.1.1.1.1.1.1.1.1.1.1.1.1.1.1.1.1.1.1.1.1.1.1.1.1.1.1.1.1.1.1.1.1.1.1.1.1.1.1.1.1.1.1.1.1.1.1.1.1.1.1.1.1.1.1.1.1.1.1.1.1.1.1.1.1.1.1.1.1.1.1.1.1.1.1.1.1.1.1.1.1.1.1.1.1.1.1.1.1.1.1.1.1.1.1.1.1.1.1.1.1.1.1.1.1.1.1.1.1.1.1.1.1.1.1.1.1.1.1.1.1.1.1.1.1.1.1.1.1.1.1.1.1.1.1.1.1.1.1.1.1.1.1.1.1.1.1.1.1.1.1.1.1.1.1.1.1.1.1.1.1.1.1.1.1.1.1.1.1.1.1.1.1.1.1.1.1.1.1.1.1.1.1.1.1.1.1.1.1.1.1.1.1.1.1.1.1.1.1.1.1.1.1.1.1.1.1.1.1.1.1.1.2
  have e_xf_InvalidTurns : xfB K (He.ga K "InvalidTurns") = true := by
    have h := c.x.more
    simp only [ex, Bool.and_eq_true] at h
    exact h.1.1.1.1.1.1.1.1.1.1.1.1.1.1.1.1.1.1.1.1.1.1.1.1.1.1.1.1.1.1.1.1.1.1.1.1.1.1.1.1.1.1.1.1.1.1.1.1.1.1.1.1.1.1.1.1.1.1.1.1.1.1.1.1.1.1.1.1.1.1.1.1.1.1.1.1.1.1.1.1.1.1.1.1.1.1.1.1.1.1.1.1.1.1.1.1.1.1.1.1.1.1.1.1.1.1.1.1.1.1.1.1.1.1.1.1.1.1.1.1.1.1.1.1.1.1.1.1.1.1.1.1.1.1.1.1.1.1.1.1.1.1.1.1.1.1.1.1.1.1.1.1.1.1.1.1.1.1.1.1.1.1.1.1.1.1.1.1.1.1.1.1.1.1.1.1.1.1.1.1.1.1.1.1.1.1.1.1.1.1.1.1.1.1.1.1.1.1.1.1.1.1.1.1.1.1.1.1.1.1.1.1.1.1.1.1.1.1.1.1.1.1.1.1.1.1.1.1.1.1.1.1.1.1.1.1.1.1.1.1.1.1.1.1.1.1.1.1.1.1.1.1.1.1.2
  have e_xf_LimitExceeded : xfB K (He.ga K "LimitExceeded") = true := by
    have h := c.x.more
    simp only [ex, Bool.and_eq_true] at h
    exact h.1.1.1.1.1.1.1.1.1.1.1.1.1.1.1.1.1.1.1.1.1.1.1.1.1.1.1.1.1.1.1.1.1.1.1.1.1.1.1.1.1.1.1.1.1.1.1.1.1.1.1.1.1.1.1.1.1.1.1.1.1.1.1.1.1.1.1.1.1.1.1.1.1.1.1.1.1.1.1.1.1.1.1.1.1.1.1.1.1.1.1.1.1.1.1.1.1.1.1.1.1.1.1.1.1.1.1.1.1.1.1.1.1.1.1.1.1.1.1.1.1.1.1.1.1.1.1.1.1.1.1.1.1.1.1.1.1.1.1.1.1.1.1.1.1.1.1.1.1.1.1.1.1.1.1.1.1.1.1.1.1.1.1.1.1.1.1.1.1.1.1.1.1.1.1.1.1.1.1.1.1.1.1.1.1.1.1.1.1.1.1.1.1.1.1.1.1.1.1.1.1.1.1.1.1.1.1.1.1.1.1.1.1.1.1.1.1.1.1.1.1.1.1.1.1.1.1.1.1.1.1.1.1.1.1.1.1.1.1.1.1.1.1.1.1.1.1.1.1.1.1.1.1.2
  have e_xf_UnknownItem : xfB K (He.ga K "UnknownItem") = true := by
    have h := c.x.more
    simp only [ex, Bool.and_eq_true] at h
    exact h.1.1.1.1.1.1.1.1.1.1.1.1.1.1.1.1.1.1.1.1.1.1.1.1.1.1.1.1.1.1.1.1.1.1.1.1.1.1.1.1.1.1.1.1.1.1.1.1.1.1.1.1.1.1.1.1.1.1.1.1.1.1.1.1.1.1.1.1.1.1.1.1.1.1.1.1.1.1.1.1.1.1.1.1.1.1.1.1.1.1.1.1.1.1.1.1.1.1.1.1.1.1.1.1.1.1.1.1.1.1.1.1.1.1.1.1.1.1.1.1.1.1.1.1.1.1.1.1.1.1.1.1.1.1.1.1.1.1.1.1.1.1.1.1.1.1.1.1.1.1.1.1.1.1.1.1.1.1.1.1.1.1.1.1.1.1.1.1.1.1.1.1.1.1.1.1.1.1.1.1.1.1.1.1.1.1.1.1.1.1.1.1.1.1.1.1.1.1.1.1.1.1.1.1.1.1.1.1.1.1.1.1.1.1.1.1.1.1.1.1.1.1.1.1.1.1.1.1.1.1.1.1.1.1.1.1.1.1.1.1.1.1.1.1.1.1.1.1.1.1.1.1.2
  have e_oD_Contradiction : oexIDB K "Contradiction" "index" "ArithmeticError.__new__" [.type "ArithmeticError", .type "Exception", .type "BaseException", .type "object"] = true := by
    have h := c.x.more
    simp only [ex, Bool.and_eq_true] at h
    exact h.1.1.1.1.1.1.1.1.1.1.1.1.1.1.1.1.1.1.1.1.1.1.1.1.1.1.1.1.1.1.1.1.1.1.1.1.1.1.1.1.1.1.1.1.1.1.1.1.1.1.1.1.1.1.1.1.1.1.1.1.1.1.1.1.1.1.1.1.1.1.1.1.1.1.1.1.1.1.1.1.1.1.1.1.1.1.1.1.1.1.1.1.1.1.1.1.1.1.1.1.1.1.1.1.1.1.1.1.1.1.1.1.1.1.1.1.1.1.1.1.1.1.1.1.1.1.1.1.1.1.1.1.1.1.1.1.1.1.1.1.1.1.1.1.1.1.1.1.1.1.1.1.1.1.1.1.1.1.1.1.1.1.1.1.1.1.1.1.1.1.1.1.1.1.1.1.1.1.1.1.1.1.1.1.1.1.1.1.1.1.1.1.1.1.1.1.1.1.1.1.1.1.1.1.1.1.1.1.1.1.1.1.1.1.1.1.1.1.1.1.1.1.1.1.1.1.1.1.1.1.1.1.1.1.1.1.1.1.1.1.1.1.1.1.1.1.1.1.1.1.1.2
  have e_oD_InvalidCommand : oexIDB K "InvalidCommand" "word" "ValueError.__new__" [.type "ValueError", .type "Exception", .type "BaseException", .type "object"] = true := by
    have h := c.x.more
    simp only [ex, Bool.and_eq_true] at h
    exact h.1.1.1.1.1.1.1.1.1.1.1.1.1.1.1.1.1.1.1.1.1.1.1.1.1.1.1.1.1.1.1.1.1.1.1.1.1.1.1.1.1.1.1.1.1.1.1.1.1.1.1.1.1.1.1.1.1.1.1.1.1.1.1.1.1.1.1.1.1.1.1.1.1.1.1.1.1.1.1.1.1.1.1.1.1.1.1.1.1.1.1.1.1.1.1.1.1.1.1.1.1.1.1.1.1.1.1.1.1.1.1.1.1.1.1.1.1.1.1.1.1.1.1.1.1.1.1.1.1.1.1.1.1.1.1.1.1.1.1.1.1.1.1.1.1.1.1.1.1.1.1.1.1.1.1.1.1.1.1.1.1.1.1.1.1.1.1.1.1.1.1.1.1.1.1.1.1.1.1.1.1.1.1.1.1.1.1.1.1.1.1.1.1.1.1.1.1.1.1.1.1.1.1.1.1.1.1.1.1.1.1.1.1.1.1.1.1.1.1.1.1.1.1.1.1.1.1.1.1.1.1.1.1.1.1.1.1.1.1.1.1.1.1.1.1.1.1.1.1.1.2
  have e_oD_InvalidFact : oexIDB K "InvalidFact" "index" "ValueError.__new__" [.type "ValueError", .type "Exception", .type "BaseException", .type "object"] = true := by
    have h := c.x.more
    simp only [ex, Bool.and_eq_true] at h
    exact h.1.1.1.1.1.1.1.1.1.1.1.1.1.1.1.1.1.1.1.1.1.1.1.1.1.1.1.1.1.1.1.1.1.1.1.1.1.1.1.1.1.1.1.1.1.1.1.1.1.1.1.1.1.1.1.1.1.1.1.1.1.1.1.1.1.1.1.1.1.1.1.1.1.1.1.1.1.1.1.1.1.1.1.1.1.1.1.1.1.1.1.1.1.1.1.1.1.1.1.1.1.1.1.1.1.1.1.1.1.1.1.1.1.1.1.1.1.1.1.1.1.1.1.1.1.1.1.1.1.1.1.1.1.1.1.1.1.1.1.1.1.1.1.1.1.1.1.1.1.1.1.1.1.1.1.1.1.1.1.1.1.1.1.1.1.1.1.1.1.1.1.1.1.1.1.1.1.1.1.1.1.1.1.1.1.1.1.1.1.1.1.1.1.1.1.1.1.1.1.1.1.1.1.1.1.1.1.1.1.1.1.1.1.1.1.1.1.1.1.1.1.1.1.1.1.1.1.1.1.1.1.1.1.1.1.1.1.1.1.1.1.1.1.1.1.1.1.1.1.2
  have e_oD_InvalidItem : oexIDB K "InvalidItem" "value" "ValueError.__new__" [.type "ValueError", .type "Exception", .type "BaseException", .type "object"] = true := by
    have h := c.x.more
    simp only [ex, Bool.and_eq_true] at h
    exact h.1.1.1.1.1.1.1.1.1.1.1.1.1.1.1.1.1.1.1.1.1.1.1.1.1.1.1.1.1.1.1.1.1.1.1.1.1.1.1.1.1.1.1.1.1.1.1.1.1.1.1.1.1.1.1.1.1.1.1.1.1.1.1.1.1.1.1.1.1.1.1.1.1.1.1.1.1.1.1.1.1.1.1.1.1.1.1.1.1.1.1.1.1.1.1.1.1.1.1.1.1.1.1.1.1.1.1.1.1.1.1.1.1.1.1.1.1.1.1.1.1.1.1.1.1.1.1.1.1.1.1.1.1.1.1.1.1.1.1.1.1.1.1.1.1.1.1.1.1.1.1.1.1.1.1.1.1.1.1.1.1.1.1.1.1.1.1.1.1.1.1.1.1.1.1.1.1.1.1.1.1.1.1.1.1.1.1.1.1.1.1.1.1.1.1.1.1.1.1.1.1.1.1.1.1.1.1.1.1.1.1.1.1.1.1.1.1.1.1.1.1.1.1.1.1.1.1.1.1.1.1.1.1.1.1.1.1.1.1.1.1.1.1.1.1.1.1.1.2
  have e_oD_InvalidNumber : oexIDB K "InvalidNumber" "value" "ValueError.__new__" [.type "ValueError", .type "Exception", .type "BaseException", .type "object"] = true := by
    have h := c.x.more
    simp only [ex, Bool.and_eq_true] at h
    exact h.1.1.1.1.1.1.1.1.1.1.1.1.1.1.1.1.1.1.1.1.1.1.1.1.1.1.1.1.1.1.1.1.1.1.1.1.1.1.1.1.1.1.1.1.1.1.1.1.1.1.1.1.1.1.1.1.1.1.1.1.1.1.1.1.1.1.1.1.1.1.1.1.1.1.1.1.1.1.1.1.1.1.1.1.1.1.1.1.1.1.1.1.1.1.1.1.1.1.1.1.1.1.1.1.1.1.1.1.1.1.1.1.1.1.1.1.1.1.1.1.1.1.1.1.1.1.1.1.1.1.1.1.1.1.1.1.1.1.1.1.1.1.1.1.1.1.1.1.1.1.1.1.1.1.1.1.1.1.1.1.1.1.1.1.1.1.1.1.1.1.1.1.1.1.1.1.1.1.1.1.1.1.1.1.1.1.1.1.1.1.1.1.1.1.1.1.1.1.1.1.1.1.1.1.1.1.1.1.1.1.1.1.1.1.1.1.1.1.1.1.1.1.1.1.1.1.1.1.1.1.1.1.1.1.1.1.1.1.1.1.1.1.1.1.1.1.1.2
  have e_oD_InvalidRanking : oexIDB K "InvalidRanking" "value" "ValueError.__new__" [.type "ValueError", .type "Exception", .type "BaseException", .type "object"] = true := by
    have h := c.x.more
    simp only [ex, Bool.and_eq_true] at h
    exact h.1.1.1.1.1.1.1.1.1.1.1.1.1.1.1.1.1.1.1.1.1.1.1.1.1.1.1.1.1.1.1.1.1.1.1.1.1.1.1.1.1.1.1.1.1.1.1.1.1.1.1.1.1.1.1.1.1.1.1.1.1.1.1.1.1.1.1.1.1.1.1.1.1.1.1.1.1.1.1.1.1.1.1.1.1.1.1.1.1.1.1.1.1.1.1.1.1.1.1.1.1.1.1.1.1.1.1.1.1.1.1.1.1.1.1.1.1.1.1.1.1.1.1.1.1.1.1.1.1.1.1.1.1.1.1.1.1.1.1.1.1.1.1.1.1.1.1.1.1.1.1.1.1.1.1.1.1.1.1.1.1.1.1.1.1.1.1.1.1.1.1.1.1.1.1.1.1.1.1.1.1.1.1.1.1.1.1.1.1.1.1.1.1.1.1.1.1.1.1.1.1.1.1.1.1.1.1.1.1.1.1.1.1.1.1.1.1.1.1.1.1.1.1.1.1.1.1.1.1.1.1.1.1.1.1.1.1.1.1.1.1.1.1.1.1.1.2
  have e_oD_InvalidSet : oexIDB K "InvalidSet" "value" "ValueError.__new__" [.type "ValueError", .type "Exception", .type "BaseException", .type "object"] = true := by
    have h := c.x.more
    simp only [ex, Bool.and_eq_true] at h
    exact h.1.1.1.1.1.1.1.1.1.1.1.1.1.1.1.1.1.1.1.1.1.1.1.1.1.1.1.1.1.1.1.1.1.1.1.1.1.1.1.1.1.1.1.1.1.1.1.1.1.1.1.1.1.1.1.1.1.1.1.1.1.1.1.1.1.1.1.1.1.1.1.1.1.1.1.1.1.1.1.1.1.1.1.1.1.1.1.1.1.1.1.1.1.1.1.1.1.1.1.1.1.1.1.1.1.1.1.1.1.1.1.1.1.1.1.1.1.1.1.1.1.1.1.1.1.1.1.1.1.1.1.1.1.1.1.1.1.1.1.1.1.1.1.1.1.1.1.1.1.1.1.1.1.1.1.1.1.1.1.1.1.1.1.1.1.1.1.1.1.1.1.1.1.1.1.1.1.1.1.1.1.1.1.1.1.1.1.1.1.1.1.1.1.1.1.1.1.1.1.1.1.1.1.1.1.1.1.1.1.1.1.1.1.1.1.1.1.1.1.1.1.1.1.1.1.1.1.1.1.1.1.1.1.1.1.1.1.1.1.1.1.1.1.1.1.2
  have e_oD_InvalidText : oexIDB K "InvalidText" "line" "ValueError.__new__" [.type "ValueError", .type "Exception", .type "BaseException", .type "object"] = true := by
    have h := c.x.more
    simp only [ex, Bool.and_eq_true] at h
    exact h.1.1.1.1.1.1.1.1.1.1.1.1.1.1.1.1.1.1.1.1.1.1.1.1.1.1.1.1.1.1.1.1.1.1.1.1.1.1.1.1.1.1.1.1.1.1.1.1.1.1.1.1.1.1.1.1.1.1.1.1.1.1.1.1.1.1.1.1.1.1.1.1.1.1.1.1.1.1.1.1.1.1.1.1.1.1.1.1.1.1.1.1.1.1.1.1.1.1.1.1.1.1.1.1.1.1.1.1.1.1.1.1.1.1.1.1.1.1.1.1.1.1.1.1.1.1.1.1.1.1.1.1.1.1.1.1.1.1.1.1.1.1.1.1.1.1.1.1.1.1.1.1.1.1.1.1.1.1.1.1.1.1.1.1.1.1.1.1.1.1.1.1.1.1.1.1.1.1.1.1.1.1.1.1.1.1.1.1.1.1.1.1.1.1.1.1.1.1.1.1.1.1.1.1.1.1.1.1.1.1.1.1.1.1.1.1.1.1.1.1.1.1.1.1.1.1.1.1.1.1.1.1.1.1.1.1.1.1.1.1.1.1.1.1.2
  have e_oD_InvalidTurns : oexIDB K "InvalidTurns" "value" "ValueError.__new__" [.type "ValueError", .type "Exception", .type "BaseException", .type "object"] = true := by
    have h := c.x.more
    simp only [ex, Bool.and_eq_true] at h
    exact h.1.1.1.1.1.1.1.1.1.1.1.1.1.1.1.1.1.1.1.1.1.1.1.1.1.1.1.1.1.1.1.1.1.1.1.1.1.1.1.1.1.1.1.1.1.1.1.1.1.1.1.1.1.1.1.1.1.1.1.1.1.1.1.1.1.1.1.1.1.1.1.1.1.1.1.1.1.1.1.1.1.1.1.1.1.1.1.1.1.1.1.1.1.1.1.1.1.1.1.1.1.1.1.1.1.1.1.1.1.1.1.1.1.1.1.1.1.1.1.1.1.1.1.1.1.1.1.1.1.1.1.1.1.1.1.1.1.1.1.1.1.1.1.1.1.1.1.1.1.1.1.1.1.1.1.1.1.1.1.1.1.1.1.1.1.1.1.1.1.1.1.1.1.1.1.1.1.1.1.1.1.1.1.1.1.1.1.1.1.1.1.1.1.1.1.1.1.1.1.1.1.1.1.1.1.1.1.1.1.1.1.1.1.1.1.1.1.1.1.1.1.1.1.1.1.1.1.1.1.1.1.1.1.1.1.1.1.1.1.1.1.1.1.2
  have e_oD_LimitExceeded : oexIDB K "LimitExceeded" "limit" "OverflowError.__new__" [.type "OverflowError", .type "ArithmeticError", .type "Exception", .type "BaseException", .type "object"] = true := by
    have h := c.x.more
    simp only [ex, Bool.and_eq_true] at h
    exact h.1.1.1.1.1.1.1.1.1.1.1.1.1.1.1.1.1.1.1.1.1.1.1.1.1.1.1.1.1.1.1.1.1.1.1.1.1.1.1.1.1.1.1.1.1.1.1.1.1.1.1.1.1.1.1.1.1.1.1.1.1.1.1.1.1.1.1.1.1.1.1.1.1.1.1.1.1.1.1.1.1.1.1.1.1.1.1.1.1.1.1.1.1.1.1.1.1.1.1.1.1.1.1.1.1.1.1.1.1.1.1.1.1.1.1.1.1.1.1.1.1.1.1.1.1.1.1.1.1.1.1.1.1.1.1.1.1.1.1.1.1.1.1.1.1.1.1.1.1.1.1.1.1.1.1.1.1.1.1.1.1.1.1.1.1.1.1.1.1.1.1.1.1.1.1.1.1.1.1.1.1.1.1.1.1.1.1.1.1.1.1.1.1.1.1.1.1.1.1.1.1.1.1.1.1.1.1.1.1.1.1.1.1.1.1.1.1.1.1.1.1.1.1.1.1.1.1.1.1.1.1.1.1.1.1.1.1.1.1.1.1.1.2
  have e_oD_UnknownItem : oexIDB K "UnknownItem" "item" "LookupError.__new__" [.type "KeyError", .type "LookupError", .type "Exception", .type "BaseException", .type "object"] = true := by
    have h := c.x.more
    simp only [ex, Bool.and_eq_true] at h
    exact h.1.1.1.1.1.1.1.1.1.1.1.1.1.1.1.1.1.1.1.1.1.1.1.1.1.1.1.1.1.1.1.1.1.1.1.1.1.1.1.1.1.1.1.1.1.1.1.1.1.1.1.1.1.1.1.1.1.1.1.1.1.1.1.1.1.1.1.1.1.1.1.1.1.1.1.1.1.1.1.1.1.1.1.1.1.1.1.1.1.1.1.1.1.1.1.1.1.1.1.1.1.1.1.1.1.1.1.1.1.1.1.1.1.1.1.1.1.1.1.1.1.1.1.1.1.1.1.1.1.1.1.1.1.1.1.1.1.1.1.1.1.1.1.1.1.1.1.1.1.1.1.1.1.1.1.1.1.1.1.1.1.1.1.1.1.1.1.1.1.1.1.1.1.1.1.1.1.1.1.1.1.1.1.1.1.1.1.1.1.1.1.1.1.1.1.1.1.1.1.1.1.1.1.1.1.1.1.1.1.1.1.1.1.1.1.1.1.1.1.1.1.1.1.1.1.1.1.1.1.1.1.1.1.1.1.1.1.1.1.1.1.2
  have e_it_Contradiction_ArithmeticError : isxTB K (He.ga K "Contradiction") "ArithmeticError" true = true := by
    have h := c.x.more
    simp only [ex, Bool.and_eq_true] at h
    exact h.1.1.1.1.1.1.1.1.1.1.1.1.1.1.1.1.1.1.1.1.1.1.1.1.1.1.1.1.1.1.1.1.1.1.1.1.1.1.1.1.1.1.1.1.1.1.1.1.1.1.1.1.1.1.1.1.1.1.1.1.1.1.1.1.1.1.1.1.1.1.1.1.1.1.1.1.1.1.1.1.1.1.1.1.1.1.1.1.1.1.1.1.1.1.1.1.1.1.1.1.1.1.1.1.1.1.1.1.1.1.1.1.1.1.1.1.1.1.1.1.1.1.1.1.1.1.1.1.1.1.1.1.1.1.1.1.1.1.1.1.1.1.1.1.1.1.1.1.1.1.1.1.1.1.1.1.1.1.1.1.1.1.1.1.1.1.1.1.1.1.1.1.1.1.1.1.1.1.1.1.1.1.1.1.1.1.1.1.1.1.1.1.1.1.1.1.1.1.1.1.1.1.1.1.1.1.1.1.1.1.1.1.1.1.1.1.1.1.1.1.1.1.1.1.1.1.1.1.1.1.1.1.1.1.1.1.1.1.1.1.2
  have e_it_InvalidCommand_ArithmeticError : isxTB K (He.ga K "InvalidCommand") "ArithmeticError" false = true := by
    have h := c.x.more
    simp only [ex, Bool.and_eq_true] at h
    exact h.1.1.1.1.1.1.1.1.1.1.1.1.1.1.1.1.1.1.1.1.1.1.1.1.1.1.1.1.1.1.1.1.1.1.1.1.1.1.1.1.1.1.1.1.1.1.1.1.1.1.1.1.1.1.1.1.1.1.1.1.1.1.1.1.1.1.1.1.1.1.1.1.1.1.1.1.1.1.1.1.1.1.1.1.1.1.1.1.1.1.1.1.1.1.1.1.1.1.1.1.1.1.1.1.1.1.1.1.1.1.1.1.1.1.1.1.1.1.1.1.1.1.1.1.1.1.1.1.1.1.1.1.1.1.1.1.1.1.1.1.1.1.1.1.1.1.1.1.1.1.1.1.1.1.1.1.1.1.1.1.1.1.1.1.1.1.1.1.1.1.1.1.1.1.1.1.1.1.1.1.1.1.1.1.1.1.1.1.1.1.1.1.1.1.1.1.1.1.1.1.1.1.1.1.1.1.1.1.1.1.1.1.1.1.1.1.1.1.1.1.1.1.1.1.1.1.1.1.1.1.1.1.1.1.1.1.1.1.1.2
  have e_it_InvalidFact_ArithmeticError : isxTB K (He.ga K "InvalidFact") "ArithmeticError" false = true := by
    have h := c.x.more
    simp only [ex, Bool.and_eq_true] at h
    exact h.1.1.1.1.1.1.1.1.1.1.1.1.1.1.1.1.1.1.1.1.1.1.1.1.1.1.1.1.1.1.1.1.1.1.1.1.1.1.1.1.1.1.1.1.1.1.1.1.1.1.1.1.1.1.1.1.1.1.1.1.1.1.1.1.1.1.1.1.1.1.1.1.1.1.1.1.1.1.1.1.1.1.1.1.1.1.1.1.1.1.1.1.1.1.1.1.1.1.1.1.1.1.1.1.1.1.1.1.1.1.1.1.1.1.1.1.1.1.1.1.1.1.1.1.1.1.1.1.1.1.1.1.1.1.1.1.1.1.1.1.1.1.1.1.1.1.1.1.1.1.1.1.1.1.1.1.1.1.1.1.1.1.1.1.1.1.1.1.1.1.1.1.1.1.1.1.1.1.1.1.1.1.1.1.1.1.1.1.1.1.1.1.1.1.1.1.1.1.1.1.1.1.1.1.1.1.1.1.1.1.1.1.1.1.1.1.1.1.1.1.1.1.1.1.1.1.1.1.1.1.1.1.1.1.1.1.1.1.2
  have e_it_InvalidItem_ArithmeticError : isxTB K (He.ga K "InvalidItem") "ArithmeticError" false = true := by
    have h := c.x.more
    simp only [ex, Bool.and_eq_true] at h
    exact h.1.1.1.1.1.1.1.1.1.1.1.1.1.1.1.1.1.1.1.1.1.1.1.1.1.1.1.1.1.1.1.1.1.1.1.1.1.1.1.1.1.1.1.1.1.1.1.1.1.1.1.1.1.1.1.1.1.1.1.1.1.1.1.1.1.1.1.1.1.1.1.1.1.1.1.1.1.1.1.1.1.1.1.1.1.1.1.1.1.1.1.1.1.1.1.1.1.1.1.1.1.1.1.1.1.1.1.1.1.1.1.1.1.1.1.1.1.1.1.1.1.1.1.1.1.1.1.1.1.1.1.1.1.1.1.1.1.1.1.1.1.1.1.1.1.1.1.1.1.1.1.1.1.1.1.1.1.1.1.1.1.1.1.1.1.1.1.1.1.1.1.1.1.1.1.1.1.1.1.1.1.1.1.1.1.1.1.1.1.1.1.1.1.1.1.1.1.1.1.1.1.1.1.1.1.1.1.1.1.1.1.1.1.1.1.1.1.1.1.1.1.1.1.1.1.1.1.1.1.1.1.1.1.1.1.1.1.2
  have e_it_InvalidNumber_ArithmeticError : isxTB K (He.ga K "InvalidNumber") "ArithmeticError" false = true := by
    have h := c.x.more
    simp only [ex, Bool.and_eq_true] at h
    exact h.1.1.1.1.1.1.1.1.1.1.1.1.1.1.1.1.1.1.1.1.1.1.1.1.1.1.1.1.1.1.1.1.1.1.1.1.1.1.1.1.1.1.1.1.1.1.1.1.1.1.1.1.1.1.1.1.1.1.1.1.1.1.1.1.1.1.1.1.1.1.1.1.1.1.1.1.1.1.1.1.1.1.1.1.1.1.1.1.1.1.1.1.1.1.1.1.1.1.1.1.1.1.1.1.1.1.1.1.1.1.1.1.1.1.1.1.1.1.1.1.1.1.1.1.1.1.1.1.1.1.1.1.1.1.1.1.1.1.1.1.1.1.1.1.1.1.1.1.1.1.1.1.1.1.1.1.1.1.1.1.1.1.1.1.1.1.1.1.1.1.1.1.1.1.1.1.1.1.1.1.1.1.1.1.1.1.1.1.1.1.1.1.1.1.1.1.1.1.1.1.1.1.1.1.1.1.1.1.1.1.1.1.1.1.1.1.1.1.1.1.1.1.1.1.1.1.1.1.1.1.1.1.1.1.1.1.2
  have e_it_InvalidRanking_ArithmeticError : isxTB K (He.ga K "InvalidRanking") "ArithmeticError" false = true := by
    have h := c.x.more
    simp only [ex, Bool.and_eq_true] at h
    exact h.1.1.1.1.1.1.1.1.1.1.1.1.1.1.1.1.1.1.1.1.1.1.1.1.1.1.1.1.1.1.1.1.1.1.1.1.1.1.1.1.1.1.1.1.1.1.1.1.1.1.1.1.1.1.1.1.1.1.1.1.1.1.1.1.1.1.1.1.1.1.1.1.1.1.1.1.1.1.1.1.1.1.1.1.1.1.1.1.1.1.1.1.1.1.1.1.1.1.1.1.1.1.1.1.1.1.1.1.1.1.1.1.1.1.1.1.1.1.1.1.1.1.1.1.1.1.1.1.1.1.1.1.1.1.1.1.1.1.1.1.1.1.1.1.1.1.1.1.1.1.1.1.1.1.1.1.1.1.1.1.1.1.1.1.1.1.1.1.1.1.1.1.1.1.1.1.1.1.1.1.1.1.1.1.1.1.1.1.1.1.1.1.1.1.1.1.1.1.1.1.1.1.1.1.1.1.1.1.1.1.1.1.1.1.1.1.1.1.1.1.1.1.1.1.1.1.1.1.1.1.1.1.1.1.1.2
  have e_it_InvalidSet_ArithmeticError : isxTB K (He.ga K "InvalidSet") "ArithmeticError" false = true := by
    have h := c.x.more
    simp only [ex, Bool.and_eq_true] at h
    exact h.1.1.1.1.1.1.1.1.1.1.1.1.1.1.1.1.1.1.1.1.1.1.1.1.1.1.1.1.1.1.1.1.1.1.1.1.1.1.1.1.1.1.1.1.1.1.1.1.1.1.1.1.1.1.1.1.1.1.1.1.1.1.1.1.1.1.1.1.1.1.1.1.1.1.1.1.1.1.1.1.1.1.1.1.1.1.1.1.1.1.1.1.1.1.1.1.1.1.1.1.1.1.1.1.1.1.1.1.1.1.1.1.1.1.1.1.1.1.1.1.1.1.1.1.1.1.1.1.1.1.1.1.1.1.1.1.1.1.1.1.1.1.1.1.1.1.1.1.1.1.1.1.1.1.1.1.1.1.1.1.1.1.1.1.1.1.1.1.1.1.1.1.1.1.1.1.1.1.1.1.1.1.1.1.1.1.1.1.1.1.1.1.1.1.1.1.1.1.1.1.1.1.1.1.1.1.1.1.1.1.1.1.1.1.1.1.1.1.1.1.1.1.1.1.1.1.1.1.1.1.1.1.1.1.2
  have e_it_InvalidText_ArithmeticError : isxTB K (He.ga K "InvalidText") "ArithmeticError" false = true := by
    have h := c.x.more
    simp only [ex, Bool.and_eq_true] at h
    exact h.1.1.1.1.1.1.1.1.1.1.1.1.1.1.1.1.1.1.1.1.1.1.1.1.1.1.1.1.1.1.1.1.1.1.1.1.1.1.1.1.1.1.1.1.1.1.1.1.1.1.1.1.1.1.1.1.1.1.1.1.1.1.1.1.1.1.1.1.1.1.1.1.1.1.1.1.1.1.1.1.1.1.1.1.1.1.1.1.1.1.1.1.1.1.1.1.1.1.1.1.1.1.1.1.1.1.1.1.1.1.1.1.1.1.1.1.1.1.1.1.1.1.1.1.1.1.1.1.1.1.1.1.1.1.1.1.1.1.1.1.1.1.1.1.1.1.1.1.1.1.1.1.1.1.1.1.1.1.1.1.1.1.1.1.1.1.1.1.1.1.1.1.1.1.1.1.1.1.1.1.1.1.1.1.1.1.1.1.1.1.1.1.1.1.1.1.1.1.1.1.1.1.1.1.1.1.1.1.1.1.1.1.1.1.1.1.1.1.1.1.1.1.1.1.1.1.1.1.1.1.1.1.1.2
  have e_it_InvalidTurns_ArithmeticError : isxTB K (He.ga K "InvalidTurns") "ArithmeticError" false = true := by
    have h := c.x.more
    simp only [ex, Bool.and_eq_true] at h
    exact h.1.1.1.1.1.1.1.1.1.1.1.1.1.1.1.1.1.1.1.1.1.1.1.1.1.1.1.1.1.1.1.1.1.1.1.1.1.1.1.1.1.1.1.1.1.1.1.1.1.1.1.1.1.1.1.1.1.1.1.1.1.1.1.1.1.1.1.1.1.1.1.1.1.1.1.1.1.1.1.1.1.1.1.1.1.1.1.1.1.1.1.1.1.1.1.1.1.1.1.1.1.1.1.1.1.1.1.1.1.1.1.1.1.1.1.1.1.1.1.1.1.1.1.1.1.1.1.1.1.1.1.1.1.1.1.1.1.1.1.1.1.1.1.1.1.1.1.1.1.1.1.1.1.1.1.1.1.1.1.1.1.1.1.1.1.1.1.1.1.1.1.1.1.1.1.1.1.1.1.1.1.1.1.1.1.1.1.1.1.1.1.1.1.1.1.1.1.1.1.1.1.1.1.1.1.1.1.1.1.1.1.1.1.1.1.1.1.1.1.1.1.1.1.1.1.1.1.1.1.1.1.1.2
  have e_it_LimitExceeded_ArithmeticError : isxTB K (He.ga K "LimitExceeded") "ArithmeticError" true = true := by
    have h := c.x.more
    simp only [ex, Bool.and_eq_true] at h
    exact h.1.1.1.1.1.1.1.1.1.1.1.1.1.1.1.1.1.1.1.1.1.1.1.1.1.1.1.1.1.1.1.1.1.1.1.1.1.1.1.1.1.1.1.1.1.1.1.1.1.1.1.1.1.1.1.1.1.1.1.1.1.1.1.1.1.1.1.1.1.1.1.1.1.1.1.1.1.1.1.1.1.1.1.1.1.1.1.1.1.1.1.1.1.1.1.1.1.1.1.1.1.1.1.1.1.1.1.1.1.1.1.1.1.1.1.1.1.1.1.1.1.1.1.1.1.1.1.1.1.1.1.1.1.1.1.1.1.1.1.1.1.1.1.1.1.1.1.1.1.1.1.1.1.1.1.1.1.1.1.1.1.1.1.1.1.1.1.1.1.1.1.1.1.1.1.1.1.1.1.1.1.1.1.1.1.1.1.1.1.1.1.1.1.1.1.1.1.1.1.1.1.1.1.1.1.1.1.1.1.1.1.1.1.1.1.1.1.1.1.1.1.1.1.1.1.1.1.1.1.1.1.2
  have e_it_NoTurn_ArithmeticError : isxTB K (He.ga K "NoTurn") "ArithmeticError" false = true := by
    have h := c.x.more
    simp only [ex, Bool.and_eq_true] at h
    exact h.1.1.1.1.1.1.1.1.1.1.1.1.1.1.1.1.1.1.1.1.1.1.1.1.1.1.1.1.1.1.1.1.1.1.1.1.1.1.1.1.1.1.1.1.1.1.1.1.1.1.1.1.1.1.1.1.1.1.1.1.1.1.1.1.1.1.1.1.1.1.1.1.1.1.1.1.1.1.1.1.1.1.1.1.1.1.1.1.1.1.1.1.1.1.1.1.1.1.1.1.1.1.1.1.1.1.1.1.1.1.1.1.1.1.1.1.1.1.1.1.1.1.1.1.1.1.1.1.1.1.1.1.1.1.1.1.1.1.1.1.1.1.1.1.1.1.1.1.1.1.1.1.1.1.1.1.1.1.1.1.1.1.1.1.1.1.1.1.1.1.1.1.1.1.1.1.1.1.1.1.1.1.1.1.1.1.1.1.1.1.1.1.1.1.1.1.1.1.1.1.1.1.1.1.1.1.1.1.1.1.1.1.1.1.1.1.1.1.1.1.1.1.1.1.1.1.1.1.1.1.2
  have e_it_UnknownItem_ArithmeticError : isxTB K (He.ga K "UnknownItem") "ArithmeticError" false = true := by
    have h := c.x.more
    simp only [ex, Bool.and_eq_true] at h
    exact h.1.1.1.1.1.1.1.1.1.1.1.1.1.1.1.1.1.1.1.1.1.1.1.1.1.1.1.1.1.1.1.1.1.1.1.1.1.1.1.1.1.1.1.1.1.1.1.1.1.1.1.1.1.1.1.1.1.1.1.1.1.1.1.1.1.1.1.1.1.1.1.1.1.1.1.1.1.1.1.1.1.1.1.1.1.1.1.1.1.1.1.1.1.1.1.1.1.1.1.1.1.1.1.1.1.1.1.1.1.1.1.1.1.1.1.1.1.1.1.1.1.1.1.1.1.1.1.1.1.1.1.1.1.1.1.1.1.1.1.1.1.1.1.1.1.1.1.1.1.1.1.1.1.1.1.1.1.1.1.1.1.1.1.1.1.1.1.1.1.1.1.1.1.1.1.1.1.1.1.1.1.1.1.1.1.1.1.1.1.1.1.1.1.1.1.1.1.1.1.1.1.1.1.1.1.1.1.1.1.1.1.1.1.1.1.1.1.1.1.1.1.1.1.1.1.1.1.1.1.2
  have e_it_Contradiction_KeyError : isxTB K (He.ga K "Contradiction") "KeyError" false = true := by
    have h := c.x.more
    simp only [ex, Bool.and_eq_true] at h
    exact h.1.1.1.1.1.1.1.1.1.1.1.1.1.1.1.1.1.1.1.1.1.1.1.1.1.1.1.1.1.1.1.1.1.1.1.1.1.1.1.1.1.1.1.1.1.1.1.1.1.1.1.1.1.1.1.1.1.1.1.1.1.1.1.1.1.1.1.1.1.1.1.1.1.1.1.1.1.1.1.1.1.1.1.1.1.1.1.1.1.1.1.1.1.1.1.1.1.1.1.1.1.1.1.1.1.1.1.1.1.1.1.1.1.1.1.1.1.1.1.1.1.1.1.1.1.1.1.1.1.1.1.1.1.1.1.1.1.1.1.1.1.1.1.1.1.1.1.1.1.1.1.1.1.1.1.1.1.1.1.1.1.1.1.1.1.1.1.1.1.1.1.1.1.1.1.1.1.1.1.1.1.1.1.1.1.1.1.1.1.1.1.1.1.1.1.1.1.1.1.1.1.1.1.1.1.1.1.1.1.1.1.1.1.1.1.1.1.1.1.1.1.1.1.1.1.1.1.1.2
  have e_it_InvalidCommand_KeyError : isxTB K (He.ga K "InvalidCommand") "KeyError" false = true := by
    have h := c.x.more
    simp only [ex, Bool.and_eq_true] at h
    exact h.1.1.1.1.1.1.1.1.1.1.1.1.1.1.1.1.1.1.1.1.1.1.1.1.1.1.1.1.1.1.1.1.1.1.1.1.1.1.1.1.1.1.1.1.1.1.1.1.1.1.1.1.1.1.1.1.1.1.1.1.1.1.1.1.1.1.1.1.1.1.1.1.1.1.1.1.1.1.1.1.1.1.1.1.1.1.1.1.1.1.1.1.1.1.1.1.1.1.1.1.1.1.1.1.1.1.1.1.1.1.1.1.1.1.1.1.1.1.1.1.1.1.1.1.1.1.1.1.1.1.1.1.1.1.1.1.1.1.1.1.1.1.1.1.1.1.1.1.1.1.1.1.1.1.1.1.1.1.1.1.1.1.1.1.1.1.1.1.1.1.1.1.1.1.1.1.1.1.1.1.1.1.1.1.1.1.1.1.1.1.1.1.1.1.1.1.1.1.1.1.1.1.1.1.1.1.1.1.1.1.1.1.1.1.1.1.1.1.1.1.1.1.1.1.1.1.1.2
  have e_it_InvalidFact_KeyError : isxTB K (He.ga K "InvalidFact") "KeyError" false = true := by
    have h := c.x.more
    simp only [ex, Bool.and_eq_true] at h
    exact h.1.1.1.1.1.1.1.1.1.1.1.1.1.1.1.1.1.1.1.1.1.1.1.1.1.1.1.1.1.1.1.1.1.1.1.1.1.1.1.1.1.1.1.1.1.1.1.1.1.1.1.1.1.1.1.1.1.1.1.1.1.1.1.1.1.1.1.1.1.1.1.1.1.1.1.1.1.1.1.1.1.1.1.1.1.1.1.1.1.1.1.1.1.1.1.1.1.1.1.1.1.1.1.1.1.1.1.1.1.1.1.1.1.1.1.1.1.1.1.1.1.1.1.1.1.1.1.1.1.1.1.1.1.1.1.1.1.1.1.1.1.1.1.1.1.1.1.1.1.1.1.1.1.1.1.1.1.1.1.1.1.1.1.1.1.1.1.1.1.1.1.1.1.1.1.1.1.1.1.1.1.1.1.1.1.1.1.1.1.1.1.1.1.1.1.1.1.1.1.1.1.1.1.1.1.1.1.1.1.1.1.1.1.1.1.1.1.1.1.1.1.1.1.1.1.1.2
  have e_it_InvalidItem_KeyError : isxTB K (He.ga K "InvalidItem") "KeyError" false = true := by
    have h := c.x.more
    simp only [ex, Bool.and_eq_true] at h
    exact h.1.1.1.1.1.1.1.1.1.1.1.1.1.1.1.1.1.1.1.1.1.1.1.1.1.1.1.1.1.1.1.1.1.1.1.1.1.1.1.1.1.1.1.1.1.1.1.1.1.1.1.1.1.1.1.1.1.1.1.1.1.1.1.1.1.1.1.1.1.1.1.1.1.1.1.1.1.1.1.1.1.1.1.1.1.1.1.1.1.1.1.1.1.1.1.1.1.1.1.1.1.1.1.1.1.1.1.1.1.1.1.1.1.1.1.1.1.1.1.1.1.1.1.1.1.1.1.1.1.1.1.1.1.1.1.1.1.1.1.1.1.1.1.1.1.1.1.1.1.1.1.1.1.1.1.1.1.1.1.1.1.1.1.1.1.1.1.1.1.1.1.1.1.1.1.1.1.1.1.1.1.1.1.1.1.1.1.1.1.1.1.1.1.1.1.1.1.1.1.1.1.1.1.1.1.1.1.1.1.1.1.1.1.1.1.1.1.1.1.1.1.1.1.1.1.2
  have e_it_InvalidNumber_KeyError : isxTB K (He.ga K "InvalidNumber") "KeyError" false = true := by
    have h := c.x.more
    simp only [ex, Bool.and_eq_true] at h
    exact h.1.1.1.1.1.1.1.1.1.1.1.1.1.1.1.1.1.1.1.1.1.1.1.1.1.1.1.1.1.1.1.1.1.1.1.1.1.1.1.1.1.1.1.1.1.1.1.1.1.1.1.1.1.1.1.1.1.1.1.1.1.1.1.1.1.1.1.1.1.1.1.1.1.1.1.1.1.1.1.1.1.1.1.1.1.1.1.1.1.1.1.1.1.1.1.1.1.1.1.1.1.1.1.1.1.1.1.1.1.1.1.1.1.1.1.1.1.1.1.1.1.1.1.1.1.1.1.1.1.1.1.1.1.1.1.1.1.1.1.1.1.1.1.1.1.1.1.1.1.1.1.1.1.1.1.1.1.1.1.1.1.1.1.1.1.1.1.1.1.1.1.1.1.1.1.1.1.1.1.1.1.1.1.1.1.1.1.1.1.1.1.1.1.1.1.1.1.1.1.1.1.1.1.1.1.1.1.1.1.1.1.1.1.1.1.1.1.1.1.1.1.1.1.1.2
  have e_it_InvalidRanking_KeyError : isxTB K (He.ga K "InvalidRanking") "KeyError" false = true := by
    have h := c.x.more
    simp only [ex, Bool.and_eq_true] at h
    exact h.1.1.1.1.1.1.1.1.1.1.1.1.1.1.1.1.1.1.1.1.1.1.1.1.1.1.1.1.1.1.1.1.1.1.1.1.1.1.1.1.1.1.1.1.1.1.1.1.1.1.1.1.1.1.1.1.1.1.1.1.1.1.1.1.1.1.1.1.1.1.1.1.1.1.1.1.1.1.1.1.1.1.1.1.1.1.1.1.1.1.1.1.1.1.1.1.1.1.1.1.1.1.1.1.1.1.1.1.1.1.1.1.1.1.1.1.1.1.1.1.1.1.1.1.1.1.1.1.1.1.1.1.1.1.1.1.1.1.1.1.1.1.1.1.1.1.1.1.1.1.1.1.1.1.1.1.1.1.1.1.1.1.1.1.1.1.1.1.1.1.1.1.1.1.1.1.1.1.1.1.1.1.1.1.1.1.1.1.1.1.1.1.1.1.1.1.1.1.1.1.1.1.1.1.1.1.1.1.1.1.1.1.1.1.1.1.1.1.1.1.1.1.1.2
  have e_it_InvalidSet_KeyError : isxTB K (He.ga K "InvalidSet") "KeyError" false = true := by
    have h := c.x.more
    simp only [ex, Bool.and_eq_true] at h
    exact h.1.1.1.1.1.1.1.1.1.1.1.1.1.1.1.1.1.1.1.1.1.1.1.1.1.1.1.1.1.1.1.1.1.1.1.1.1.1.1.1.1.1.1.1.1.1.1.1.1.1.1.1.1.1.1.1.1.1.1.1.1.1.1.1.1.1.1.1.1.1.1.1.1.1.1.1.1.1.1.1.1.1.1.1.1.1.1.1.1.1.1.1.1.1.1.1.1.1.1.1.1.1.1.1.1.1.1.1.1.1.1.1.1.1.1.1.1.1.1.1.1.1.1.1.1.1.1.1.1.1.1.1.1.1.1.1.1.1.1.1.1.1.1.1.1.1.1.1.1.1.1.1.1.1.1.1.1.1.1.1.1.1.1.1.1.1.1.1.1.1.1.1.1.1.1.1.1.1.1.1.1.1.1.1.1.1.1.1.1.1.1.1.1.1.1.1.1.1.1.1.1.1.1.1.1.1.1.1.1.1.1.1.1.1.1.1.1.1.1.1.1.1.2
  have e_it_InvalidText_KeyError : isxTB K (He.ga K "InvalidText") "KeyError" false = true := by
    have h := c.x.more
    simp only [ex, Bool.and_eq_true] at h
    exact h.1.1.1.1.1.1.1.1.1.1.1.1.1.1.1.1.1.1.1.1.1.1.1.1.1.1.1.1.1.1.1.1.1.1.1.1.1.1.1.1.1.1.1.1.1.1.1.1.1.1.1.1.1.1.1.1.1.1.1.1.1.1.1.1.1.1.1.1.1.1.1.1.1.1.1.1.1.1.1.1.1.1.1.1.1.1.1.1.1.1.1.1.1.1.1.1.1.1.1.1.1.1.1.1.1.1.1.1.1.1.1.1.1.1.1.1.1.1.1.1.1.1.1.1.1.1.1.1.1.1.1.1.1.1.1.1.1.1.1.1.1.1.1.1.1.1.1.1.1.1.1.1.1.1.1.1.1.1.1.1.1.1.1.1.1.1.1.1.1.1.1.1.1.1.1.1.1.1.1.1.1.1.1.1.1.1.1.1.1.1.1.1.1.1.1.1.1.1.1.1.1.1.1.1.1.1.1.1.1.1.1.1.1.1.1.1.1.1.1.1.1.2
  have e_it_InvalidTurns_KeyError : isxTB K (He.ga K "InvalidTurns") "KeyError" false = true := by
    have h := c.x.more
    simp only [ex, Bool.and_eq_true] at h
    exact h.1.1.1.1.1.1.1.1.1.1.1.1.1.1.1.1.1.1.1.1.1.1.1.1.1.1.1.1.1.1.1.1.1.1.1.1.1.1.1.1.1.1.1.1.1.1.1.1.1.1.1.1.1.1.1.1.1.1.1.1.1.1.1.1.1.1.1.1.1.1.1.1.1.1.1.1.1.1.1.1.1.1.1.1.1.1.1.1.1.1.1.1.1.1.1.1.1.1.1.1.1.1.1.1.1.1.1.1.1.1.1.1.1.1.1.1.1.1.1.1.1.1.1.1.1.1.1.1.1.1.1.1.1.1.1.1.1.1.1.1.1.1.1.1.1.1.1.1.1.1.1.1.1.1.1.1.1.1.1.1.1.1.1.1.1.1.1.1.1.1.1.1.1.1.1.1.1.1.1.1.1.1.1.1.1.1.1.1.1.1.1.1.1.1.1.1.1.1.1.1.1.1.1.1.1.1.1.1.1.1.1.1.1.1.1.1.1.1.1.1.2
  have e_it_LimitExceeded_KeyError : isxTB K (He.ga K "LimitExceeded") "KeyError" false = true := by
    have h := c.x.more
    simp only [ex, Bool.and_eq_true] at h
    exact h.1.1.1.1.1.1.1.1.1.1.1.1.1.1.1.1.1.1.1.1.1.1.1.1.1.1.1.1.1.1.1.1.1.1.1.1.1.1.1.1.1.1.1.1.1.1.1.1.1.1.1.1.1.1.1.1.1.1.1.1.1.1.1.1.1.1.1.1.1.1.1.1.1.1.1.1.1.1.1.1.1.1.1.1.1.1.1.1.1.1.1.1.1.1.1.1.1.1.1.1.1.1.1.1.1.1.1.1.1.1.1.1.1.1.1.1.1.1.1.1.1.1.1.1.1.1.1.1.1.1.1.1.1.1.1.1.1.1.1.1.1.1.1.1.1.1.1.1.1.1.1.1.1.1.1.1.1.1.1.1.1.1.1.1.1.1.1.1.1.1.1.1.1.1.1.1.1.1.1.1.1.1.1.1.1.1.1.1.1.1.1.1.1.1.1.1.1.1.1.1.1.1.1.1.1.1.1.1.1.1.1.1.1.1.1.1.1.1.1.2
  have e_it_NoTurn_KeyError : isxTB K (He.ga K "NoTurn") "KeyError" false = true := by
    have h := c.x.more
    simp only [ex, Bool.and_eq_true] at h
    exact h.1.1.1.1.1.1.1.1.1.1.1.1.1.1.1.1.1.1.1.1.1.1.1.1.1.1.1.1.1.1.1.1.1.1.1.1.1.1.1.1.1.1.1.1.1.1.1.1.1.1.1.1.1.1.1.1.1.1.1.1.1.1.1.1.1.1.1.1.1.1.1.1.1.1.1.1.1.1.1.1.1.1.1.1.1.1.1.1.1.1.1.1.1.1.1.1.1.1.1.1.1.1.1.1.1.1.1.1.1.1.1.1.1.1.1.1.1.1.1.1.1.1.1.1.1.1.1.1.1.1.1.1.1.1.1.1.1.1.1.1.1.1.1.1.1.1.1.1.1.1.1.1.1.1.1.1.1.1.1.1.1.1.1.1.1.1.1.1.1.1.1.1.1.1.1.1.1.1.1.1.1.1.1.1.1.1.1.1.1.1.1.1.1.1.1.1.1.1.1.1.1.1.1.1.1.1.1.1.1.1.1.1.1.1.1.1.1.1.2
  have e_it_UnknownItem_KeyError : isxTB K (He.ga K "UnknownItem") "KeyError" true = true := by
    have h := c.x.more
    simp only [ex, Bool.and_eq_true] at h
    exact h.1.1.1.1.1.1.1.1.1.1.1.1.1.1.1.1.1.1.1.1.1.1.1.1.1.1.1.1.1.1.1.1.1.1.1.1.1.1.1.1.1.1.1.1.1.1.1.1.1.1.1.1.1.1.1.1.1.1.1.1.1.1.1.1.1.1.1.1.1.1.1.1.1.1.1.1.1.1.1.1.1.1.1.1.1.1.1.1.1.1.1.1.1.1.1.1.1.1.1.1.1.1.1.1.1.1.1.1.1.1.1.1.1.1.1.1.1.1.1.1.1.1.1.1.1.1.1.1.1.1.1.1.1.1.1.1.1.1.1.1.1.1.1.1.1.1.1.1.1.1.1.1.1.1.1.1.1.1.1.1.1.1.1.1.1.1.1.1.1.1.1.1.1.1.1.1.1.1.1.1.1.1.1.1.1.1.1.1.1.1.1.1.1.1.1.1.1.1.1.1.1.1.1.1.1.1.1.1.1.1.1.1.1.1.1.1.1.2
  have e_it_Contradiction_LookupError : isxTB K (He.ga K "Contradiction") "LookupError" false = true := by
    have h := c.x.more
    simp only [ex, Bool.and_eq_true] at h
    exact h.1.1.1.1.1.1.1.1.1.1.1.1.1.1.1.1.1.1.1.1.1.1.1.1.1.1.1.1.1.1.1.1.1.1.1.1.1.1.1.1.1.1.1.1.1.1.1.1.1.1.1.1.1.1.1.1.1.1.1.1.1.1.1.1.1.1.1.1.1.1.1.1.1.1.1.1.1.1.1.1.1.1.1.1.1.1.1.1.1.1.1.1.1.1.1.1.1.1.1.1.1.1.1.1.1.1.1.1.1.1.1.1.1.1.1.1.1.1.1.1.1.1.1.1.1.1.1.1.1.1.1.1.1.1.1.1.1.1.1.1.1.1.1.1.1.1.1.1.1.1.1.1.1.1.1.1.1.1.1.1.1.1.1.1.1.1.1.1.1.1.1.1.1.1.1.1.1.1.1.1.1.1.1.1.1.1.1.1.1.1.1.1.1.1.1.1.1.1.1.1.1.1.1.1.1.1.1.1.1.1.1.1.1.1.1.1.2
  have e_it_InvalidCommand_LookupError : isxTB K (He.ga K "InvalidCommand") "LookupError" false = true := by
    have h := c.x.more
    simp only [ex, Bool.and_eq_true] at h
    exact h.1.1.1.1.1.1.1.1.1.1.1.1.1.1.1.1.1.1.1.1.1.1.1.1.1.1.1.1.1.1.1.1.1.1.1.1.1.1.1.1.1.1.1.1.1.1.1.1.1.1.1.1.1.1.1.1.1.1.1.1.1.1.1.1.1.1.1.1.1.1.1.1.1.1.1.1.1.1.1.1.1.1.1.1.1.1.1.1.1.1.1.1.1.1.1.1.1.1.1.1.1.1.1.1.1.1.1.1.1.1.1.1.1.1.1.1.1.1.1.1.1.1.1.1.1.1.1.1.1.1.1.1.1.1.1.1.1.1.1.1.1.1.1.1.1.1.1.1.1.1.1.1.1.1.1.1.1.1.1.1.1.1.1.1.1.1.1.1.1.1.1.1.1.1.1.1.1.1.1.1.1.1.1.1.1.1.1.1.1.1.1.1.1.1.1.1.1.1.1.1.1.1.1.1.1.1.1.1.1.1.1.1.1.1.1.2
  have e_it_InvalidFact_LookupError : isxTB K (He.ga K "InvalidFact") "LookupError" false = true := by
    have h := c.x.more
    simp only [ex, Bool.and_eq_true] at h
    exact h.1.1.1.1.1.1.1.1.1.1.1.1.1.1.1.1.1.1.1.1.1.1.1.1.1.1.1.1.1.1.1.1.1.1.1.1.1.1.1.1.1.1.1.1.1.1.1.1.1.1.1.1.1.1.1.1.1.1.1.1.1.1.1.1.1.1.1.1.1.1.1.1.1.1.1.1.1.1.1.1.1.1.1.1.1.1.1.1.1.1.1.1.1.1.1.1.1.1.1.1.1.1.1.1.1.1.1.1.1.1.1.1.1.1.1.1.1.1.1.1.1.1.1.1.1.1.1.1.1.1.1.1.1.1.1.1.1.1.1.1.1.1.1.1.1.1.1.1.1.1.1.1.1.1.1.1.1.1.1.1.1.1.1.1.1.1.1.1.1.1.1.1.1.1.1.1.1.1.1.1.1.1.1.1.1.1.1.1.1.1.1.1.1.1.1.1.1.1.1.1.1.1.1.1.1.1.1.1.1.1.1.1.1.1.2
  have e_it_InvalidItem_LookupError : isxTB K (He.ga K "InvalidItem") "LookupError" false = true := by
    have h := c.x.more
    simp only [ex, Bool.and_eq_true] at h
    exact h.1.1.1.1.1.1.1.1.1.1.1.1.1.1.1.1.1.1.1.1.1.1.1.1.1.1.1.1.1.1.1.1.1.1.1.1.1.1.1.1.1.1.1.1.1.1.1.1.1.1.1.1.1.1.1.1.1.1.1.1.1.1.1.1.1.1.1.1.1.1.1.1.1.1.1.1.1.1.1.1.1.1.1.1.1.1.1.1.1.1.1.1.1.1.1.1.1.1.1.1.1.1.1.1.1.1.1.1.1.1.1.1.1.1.1.1.1.1.1.1.1.1.1.1.1.1.1.1.1.1.1.1.1.1.1.1.1.1.1.1.1.1.1.1.1.1.1.1.1.1.1.1.1.1.1.1.1.1.1.1.1.1.1.1.1.1.1.1.1.1.1.1.1.1.1.1.1.1.1.1.1.1.1.1.1.1.1.1.1.1.1.1.1.1.1.1.1.1.1.1.1.1.1.1.1.1.1.1.1.1.1.1.1.2
  have e_it_InvalidNumber_LookupError : isxTB K (He.ga K "InvalidNumber") "LookupError" false = true := by
    have h := c.x.more
    simp only [ex, Bool.and_eq_true] at h
    exact h.1.1.1.1.1.1.1.1.1.1.1.1.1.1.1.1.1.1.1.1.1.1.1.1.1.1.1.1.1.1.1.1.1.1.1.1.1.1.1.1.1.1.1.1.1.1.1.1.1.1.1.1.1.1.1.1.1.1.1.1.1.1.1.1.1.1.1.1.1.1.1.1.1.1.1.1.1.1.1.1.1.1.1.1.1.1.1.1.1.1.1.1.1.1.1.1.1.1.1.1.1.1.1.1.1.1.1.1.1.1.1.1.1.1.1.1.1.1.1.1.1.1.1.1.1.1.1.1.1.1.1.1.1.1.1.1.1.1.1.1.1.1.1.1.1.1.1.1.1.1.1.1.1.1.1.1.1.1.1.1.1.1.1.1.1.1.1.1.1.1.1.1.1.1.1.1.1.1.1.1.1.1.1.1.1.1.1.1.1.1.1.1.1.1.1.1.1.1.1.1.1.1.1.1.1.1.1.1.1.1.1.1.2
  have e_it_InvalidRanking_LookupError : isxTB K (He.ga K "InvalidRanking") "LookupError" false = true := by
    have h := c.x.more
    simp only [ex, Bool.and_eq_true] at h
    exact h.1.1.1.1.1.1.1.1.1.1.1.1.1.1.1.1.1.1.1.1.1.1.1.1.1.1.1.1.1.1.1.1.1.1.1.1.1.1.1.1.1.1.1.1.1.1.1.1.1.1.1.1.1.1.1.1.1.1.1.1.1.1.1.1.1.1.1.1.1.1.1.1.1.1.1.1.1.1.1.1.1.1.1.1.1.1.1.1.1.1.1.1.1.1.1.1.1.1.1.1.1.1.1.1.1.1.1.1.1.1.1.1.1.1.1.1.1.1.1.1.1.1.1.1.1.1.1.1.1.1.1.1.1.1.1.1.1.1.1.1.1.1.1.1.1.1.1.1.1.1.1.1.1.1.1.1.1.1.1.1.1.1.1.1.1.1.1.1.1.1.1.1.1.1.1.1.1.1.1.1.1.1.1.1.1.1.1.1.1.1.1.1.1.1.1.1.1.1.1.1.1.1.1.1.1.1.1.1.1.1.1.2
  have e_it_InvalidSet_LookupError : isxTB K (He.ga K "InvalidSet") "LookupError" false = true := by
    have h := c.x.more
    simp only [ex, Bool.and_eq_true] at h
    exact h.1.1.1.1.1.1.1.1.1.1.1.1.1.1.1.1.1.1.1.1.1.1.1.1.1.1.1.1.1.1.1.1.1.1.1.1.1.1.1.1.1.1.1.1.1.1.1.1.1.1.1.1.1.1.1.1.1.1.1.1.1.1.1.1.1.1.1.1.1.1.1.1.1.1.1.1.1.1.1.1.1.1.1.1.1.1.1.1.1.1.1.1.1.1.1.1.1.1.1.1.1.1.1.1.1.1.1.1.1.1.1.1.1.1.1.1.1.1.1.1.1.1.1.1.1.1.1.1.1.1.1.1.1.1.1.1.1.1.1.1.1.1.1.1.1.1.1.1.1.1.1.1.1.1.1.1.1.1.1.1.1.1.1.1.1.1.1.1.1.1.1.1.1.1.1.1.1.1.1.1.1.1.1.1.1.1.1.1.1.1.1.1.1.1.1.1.1.1.1.1.1.1.1.1.1.1.1.1.1.1.2
  have e_it_InvalidText_LookupError : isxTB K (He.ga K "InvalidText") "LookupError" false = true := by
    have h := c.x.more
    simp only [ex, Bool.and_eq_true] at h
    exact h.1.1.1.1.1.1.1.1.1.1.1.1.1.1.1.1.1.1.1.1.1.1.1.1.1.1.1.1.1.1.1.1.1.1.1.1.1.1.1.1.1.1.1.1.1.1.1.1.1.1.1.1.1.1.1.1.1.1.1.1.1.1.1.1.1.1.1.1.1.1.1.1.1.1.1.1.1.1.1.1.1.1.1.1.1.1.1.1.1.1.1.1.1.1.1.1.1.1.1.1.1.1.1.1.1.1.1.1.1.1.1.1.1.1.1.1.1.1.1.1.1.1.1.1.1.1.1.1.1.1.1.1.1.1.1.1.1.1.1.1.1.1.1.1.1.1.1.1.1.1.1.1.1.1.1.1.1.1.1.1.1.1.1.1.1.1.1.1.1.1.1.1.1.1.1.1.1.1.1.1.1.1.1.1.1.1.1.1.1.1.1.1.1.1.1.1.1.1.1.1.1.1.1.1.1.1.1.1.1.2
  have e_it_InvalidTurns_LookupError : isxTB K (He.ga K "InvalidTurns") "LookupError" false = true := by
    have h := c.x.more
    simp only [ex, Bool.and_eq_true] at h
    exact h.1.1.1.1.1.1.1.1.1.1.1.1.1.1.1.1.1.1.1.1.1.1.1.1.1.1.1.1.1.1.1.1.1.1.1.1.1.1.1.1.1.1.1.1.1.1.1.1.1.1.1.1.1.1.1.1.1.1.1.1.1.1.1.1.1.1.1.1.1.1.1.1.1.1.1.1.1.1.1.1.1.1.1.1.1.1.1.1.1.1.1.1.1.1.1.1.1.1.1.1.1.1.1.1.1.1.1.1.1.1.1.1.1.1.1.1.1.1.1.1.1.1.1.1.1.1.1.1.1.1.1.1.1.1.1.1.1.1.1.1.1.1.1.1.1.1.1.1.1.1.1.1.1.1.1.1.1.1.1.1.1.1.1.1.1.1.1.1.1.1.1.1.1.1.1.1.1.1.1.1.1.1.1.1.1.1.1.1.1.1.1.1.1.1.1.1.1.1.1.1.1.1.1.1.1.1.1.1.2
  have e_it_LimitExceeded_LookupError : isxTB K (He.ga K "LimitExceeded") "LookupError" false = true := by
    have h := c.x.more
    simp only [ex, Bool.and_eq_true] at h
    exact h.1.1.1.1.1.1.1.1.1.1.1.1.1.1.1.1.1.1.1.1.1.1.1.1.1.1.1.1.1.1.1.1.1.1.1.1.1.1.1.1.1.1.1.1.1.1.1.1.1.1.1.1.1.1.1.1.1.1.1.1.1.1.1.1.1.1.1.1.1.1.1.1.1.1.1.1.1.1.1.1.1.1.1.1.1.1.1.1.1.1.1.1.1.1.1.1.1.1.1.1.1.1.1.1.1.1.1.1.1.1.1.1.1.1.1.1.1.1.1.1.1.1.1.1.1.1.1.1.1.1.1.1.1.1.1.1.1.1.1.1.1.1.1.1.1.1.1.1.1.1.1.1.1.1.1.1.1.1.1.1.1.1.1.1.1.1.1.1.1.1.1.1.1.1.1.1.1.1.1.1.1.1.1.1.1.1.1.1.1.1.1.1.1.1.1.1.1.1.1.1.1.1.1.1.1.1.1.2
  have e_it_NoTurn_LookupError : isxTB K (He.ga K "NoTurn") "LookupError" true = true := by
    have h := c.x.more
    simp only [ex, Bool.and_eq_true] at h
    exact h.1.1.1.1.1.1.1.1.1.1.1.1.1.1.1.1.1.1.1.1.1.1.1.1.1.1.1.1.1.1.1.1.1.1.1.1.1.1.1.1.1.1.1.1.1.1.1.1.1.1.1.1.1.1.1.1.1.1.1.1.1.1.1.1.1.1.1.1.1.1.1.1.1.1.1.1.1.1.1.1.1.1.1.1.1.1.1.1.1.1.1.1.1.1.1.1.1.1.1.1.1.1.1.1.1.1.1.1.1.1.1.1.1.1.1.1.1.1.1.1.1.1.1.1.1.1.1.1.1.1.1.1.1.1.1.1.1.1.1.1.1.1.1.1.1.1.1.1.1.1.1.1.1.1.1.1.1.1.1.1.1.1.1.1.1.1.1.1.1.1.1.1.1.1.1.1.1.1.1.1.1.1.1.1.1.1.1.1.1.1.1.1.1.1.1.1.1.1.1.1.1.1.1.1.1.1.2
  have e_it_UnknownItem_LookupError : isxTB K (He.ga K "UnknownItem") "LookupError" true = true := by
    have h := c.x.more
    simp only [ex, Bool.and_eq_true] at h
    exact h.1.1.1.1.1.1.1.1.1.1.1.1.1.1.1.1.1.1.1.1.1.1.1.1.1.1.1.1.1.1.1.1.1.1.1.1.1.1.1.1.1.1.1.1.1.1.1.1.1.1.1.1.1.1.1.1.1.1.1.1.1.1.1.1.1.1.1.1.1.1.1.1.1.1.1.1.1.1.1.1.1.1.1.1.1.1.1.1.1.1.1.1.1.1.1.1.1.1.1.1.1.1.1.1.1.1.1.1.1.1.1.1.1.1.1.1.1.1.1.1.1.1.1.1.1.1.1.1.1.1.1.1.1.1.1.1.1.1.1.1.1.1.1.1.1.1.1.1.1.1.1.1.1.1.1.1.1.1.1.1.1.1.1.1.1.1.1.1.1.1.1.1.1.1.1.1.1.1.1.1.1.1.1.1.1.1.1.1.1.1.1.1.1.1.1.1.1.1.1.1.1.1.1.1.1.2
  have e_it_Contradiction_OverflowError : isxTB K (He.ga K "Contradiction") "OverflowError" false = true := by
    have h := c.x.more
    simp only [ex, Bool.and_eq_true] at h
    exact h.1.1.1.1.1.1.1.1.1.1.1.1.1.1.1.1.1.1.1.1.1.1.1.1.1.1.1.1.1.1.1.1.1.1.1.1.1.1.1.1.1.1.1.1.1.1.1.1.1.1.1.1.1.1.1.1.1.1.1.1.1.1.1.1.1.1.1.1.1.1.1.1.1.1.1.1.1.1.1.1.1.1.1.1.1.1.1.1.1.1.1.1.1.1.1.1.1.1.1.1.1.1.1.1.1.1.1.1.1.1.1.1.1.1.1.1.1.1.1.1.1.1.1.1.1.1.1.1.1.1.1.1.1.1.1.1.1.1.1.1.1.1.1.1.1.1.1.1.1.1.1.1.1.1.1.1.1.1.1.1.1.1.1.1.1.1.1.1.1.1.1.1.1.1.1.1.1.1.1.1.1.1.1.1.1.1.1.1.1.1.1.1.1.1.1.1.1.1.1.1.1.1.1.1.2
  have e_it_InvalidCommand_OverflowError : isxTB K (He.ga K "InvalidCommand") "OverflowError" false = true := by
    have h := c.x.more
    simp only [ex, Bool.and_eq_true] at h
    exact h.1.1.1.1.1.1.1.1.1.1.1.1.1.1.1.1.1.1.1.1.1.1.1.1.1.1.1.1.1.1.1.1.1.1.1.1.1.1.1.1.1.1.1.1.1.1.1.1.1.1.1.1.1.1.1.1.1.1.1.1.1.1.1.1.1.1.1.1.1.1.1.1.1.1.1.1.1.1.1.1.1.1.1.1.1.1.1.1.1.1.1.1.1.1.1.1.1.1.1.1.1.1.1.1.1.1.1.1.1.1.1.1.1.1.1.1.1.1.1.1.1.1.1.1.1.1.1.1.1.1.1.1.1.1.1.1.1.1.1.1.1.1.1.1.1.1.1.1.1.1.1.1.1.1.1.1.1.1.1.1.1.1.1.1.1.1.1.1.1.1.1.1.1.1.1.1.1.1.1.1.1.1.1.1.1.1.1.1.1.1.1.1.1.1.1.1.1.1.1.1.1.1.1.2
  have e_it_InvalidFact_OverflowError : isxTB K (He.ga K "InvalidFact") "OverflowError" false = true := by
    have h := c.x.more
    simp only [ex, Bool.and_eq_true] at h
    exact h.1.1.1.1.1.1.1.1.1.1.1.1.1.1.1.1.1.1.1.1.1.1.1.1.1.1.1.1.1.1.1.1.1.1.1.1.1.1.1.1.1.1.1.1.1.1.1.1.1.1.1.1.1.1.1.1.1.1.1.1.1.1.1.1.1.1.1.1.1.1.1.1.1.1.1.1.1.1.1.1.1.1.1.1.1.1.1.1.1.1.1.1.1.1.1.1.1.1.1.1.1.1.1.1.1.1.1.1.1.1.1.1.1.1.1.1.1.1.1.1.1.1.1.1.1.1.1.1.1.1.1.1.1.1.1.1.1.1.1.1.1.1.1.1.1.1.1.1.1.1.1.1.1.1.1.1.1.1.1.1.1.1.1.1.1.1.1.1.1.1.1.1.1.1.1.1.1.1.1.1.1.1.1.1.1.1.1.1.1.1.1.1.1.1.1.1.1.1.1.1.1.1.2
  have e_it_InvalidItem_OverflowError : isxTB K (He.ga K "InvalidItem") "OverflowError" false = true := by
    have h := c.x.more
    simp only [ex, Bool.and_eq_true] at h
    exact h.1.1.1.1.1.1.1.1.1.1.1.1.1.1.1.1.1.1.1.1.1.1.1.1.1.1.1.1.1.1.1.1.1.1.1.1.1.1.1.1.1.1.1.1.1.1.1.1.1.1.1.1.1.1.1.1.1.1.1.1.1.1.1.1.1.1.1.1.1.1.1.1.1.1.1.1.1.1.1.1.1.1.1.1.1.1.1.1.1.1.1.1.1.1.1.1.1.1.1.1.1.1.1.1.1.1.1.1.1.1.1.1.1.1.1.1.1.1.1.1.1.1.1.1.1.1.1.1.1.1.1.1.1.1.1.1.1.1.1.1.1.1.1.1.1.1.1.1.1.1.1.1.1.1.1.1.1.1.1.1.1.1.1.1.1.1.1.1.1.1.1.1.1.1.1.1.1.1.1.1.1.1.1.1.1.1.1.1.1.1.1.1.1.1.1.1.1.1.1.1.1.2
  have e_it_InvalidNumber_OverflowError : isxTB K (He.ga K "InvalidNumber") "OverflowError" false = true := by
    have h := c.x.more
    simp only [ex, Bool.and_eq_true] at h
    exact h.1.1.1.1.1.1.1.1.1.1.1.1.1.1.1.1.1.1.1.1.1.1.1.1.1.1.1.1.1.1.1.1.1.1.1.1.1.1.1.1.1.1.1.1.1.1.1.1.1.1.1.1.1.1.1.1.1.1.1.1.1.1.1.1.1.1.1.1.1.1.1.1.1.1.1.1.1.1.1.1.1.1.1.1.1.1.1.1.1.1.1.1.1.1.1.1.1.1.1.1.1.1.1.1.1.1.1.1.1.1.1.1.1.1.1.1.1.1.1.1.1.1.1.1.1.1.1.1.1.1.1.1.1.1.1.1.1.1.1.1.1.1.1.1.1.1.1.1.1.1.1.1.1.1.1.1.1.1.1.1.1.1.1.1.1.1.1.1.1.1.1.1.1.1.1.1.1.1.1.1.1.1.1.1.1.1.1.1.1.1.1.1.1.1.1.1.1.1.1.1.2
  have e_it_InvalidRanking_OverflowError : isxTB K (He.ga K "InvalidRanking") "OverflowError" false = true := by
    have h := c.x.more
    simp only [ex, Bool.and_eq_true] at h
    exact h.1.1.1.1.1.1.1.1.1.1.1.1.1.1.1.1.1.1.1.1.1.1.1.1.1.1.1.1.1.1.1.1.1.1.1.1.1.1.1.1.1.1.1.1.1.1.1.1.1.1.1.1.1.1.1.1.1.1.1.1.1.1.1.1.1.1.1.1.1.1.1.1.1.1.1.1.1.1.1.1.1.1.1.1.1.1.1.1.1.1.1.1.1.1.1.1.1.1.1.1.1.1.1.1.1.1.1.1.1.1.1.1.1.1.1.1.1.1.1.1.1.1.1.1.1.1.1.1.1.1.1.1.1.1.1.1.1.1.1.1.1.1.1.1.1.1.1.1.1.1.1.1.1.1.1.1.1.1.1.1.1.1.1.1.1.1.1.1.1.1.1.1.1.1.1.1.1.1.1.1.1.1.1.1.1.1.1.1.1.1.1.1.1.1.1.1.1.1.1.2
  have e_it_InvalidSet_OverflowError : isxTB K (He.ga K "InvalidSet") "OverflowError" false = true := by
    have h := c.x.more
    simp only [ex, Bool.and_eq_true] at h
    exact h.1.1.1.1.1.1.1.1.1.1.1.1.1.1.1.1.1.1.1.1.1.1.1.1.1.1.1.1.1.1.1.1.1.1.1.1.1.1.1.1.1.1.1.1.1.1.1.1.1.1.1.1.1.1.1.1.1.1.1.1.1.1.1.1.1.1.1.1.1.1.1.1.1.1.1.1.1.1.1.1.1.1.1.1.1.1.1.1.1.1.1.1.1.1.1.1.1.1.1.1.1.1.1.1.1.1.1.1.1.1.1.1.1.1.1.1.1.1.1.1.1.1.1.1.1.1.1.1.1.1.1.1.1.1.1.1.1.1.1.1.1.1.1.1.1.1.1.1.1.1.1.1.1.1.1.1.1.1.1.1.1.1.1.1.1.1.1.1.1.1.1.1.1.1.1.1.1.1.1.1.1.1.1.1.1.1.1.1.1.1.1.1.1.1.1.1.1.1.2
  have e_it_InvalidText_OverflowError : isxTB K (He.ga K "InvalidText") "OverflowError" false = true := by
    have h := c.x.more
    simp only [ex, Bool.and_eq_true] at h
    exact h.1.1.1.1.1.1.1.1.1.1.1.1.1.1.1.1.1.1.1.1.1.1.1.1.1.1.1.1.1.1.1.1.1.1.1.1.1.1.1.1.1.1.1.1.1.1.1.1.1.1.1.1.1.1.1.1.1.1.1.1.1.1.1.1.1.1.1.1.1.1.1.1.1.1.1.1.1.1.1.1.1.1.1.1.1.1.1.1.1.1.1.1.1.1.1.1.1.1.1.1.1.1.1.1.1.1.1.1.1.1.1.1.1.1.1.1.1.1.1.1.1.1.1.1.1.1.1.1.1.1.1.1.1.1.1.1.1.1.1.1.1.1.1.1.1.1.1.1.1.1.1.1.1.1.1.1.1.1.1.1.1.1.1.1.1.1.1.1.1.1.1.1.1.1.1.1.1.1.1.1.1.1.1.1.1.1.1.1.1.1.1.1.1.1.1.1.1.2
  have e_it_InvalidTurns_OverflowError : isxTB K (He.ga K "InvalidTurns") "OverflowError" false = true := by
    have h := c.x.more
    simp only [ex, Bool.and_eq_true] at h
    exact h.1.1.1.1.1.1.1.1.1.1.1.1.1.1.1.1.1.1.1.1.1.1.1.1.1.1.1.1.1.1.1.1.1.1.1.1.1.1.1.1.1.1.1.1.1.1.1.1.1.1.1.1.1.1.1.1.1.1.1.1.1.1.1.1.1.1.1.1.1.1.1.1.1.1.1.1.1.1.1.1.1.1.1.1.1.1.1.1.1.1.1.1.1.1.1.1.1.1.1.1.1.1.1.1.1.1.1.1.1.1.1.1.1.1.1.1.1.1.1.1.1.1.1.1.1.1.1.1.1.1.1.1.1.1.1.1.1.1.1.1.1.1.1.1.1.1.1.1.1.1.1.1.1.1.1.1.1.1.1.1.1.1.1.1.1.1.1.1.1.1.1.1.1.1.1.1.1.1.1.1.1.1.1.1.1.1.1.1.1.1.1.1.1.1.1.1.2
  have e_it_LimitExceeded_OverflowError : isxTB K (He.ga K "LimitExceeded") "OverflowError" true = true := by
    have h := c.x.more
    simp only [ex, Bool.and_eq_true] at h
    exact h.1.1.1.1.1.1.1.1.1.1.1.1.1.1.1.1.1.1.1.1.1.1.1.1.1.1.1.1.1.1.1.1.1.1.1.1.1.1.1.1.1.1.1.1.1.1.1.1.1.1.1.1.1.1.1.1.1.1.1.1.1.1.1.1.1.1.1.1.1.1.1.1.1.1.1.1.1.1.1.1.1.1.1.1.1.1.1.1.1.1.1.1.1.1.1.1.1.1.1.1.1.1.1.1.1.1.1.1.1.1.1.1.1.1.1.1.1.1.1.1.1.1.1.1.1.1.1.1.1.1.1.1.1.1.1.1.1.1.1.1.1.1.1.1.1.1.1.1.1.1.1.1.1.1.1.1.1.1.1.1.1.1.1.1.1.1.1.1.1.1.1.1.1.1.1.1.1.1.1.1.1.1.1.1.1.1.1.1.1.1.1.1.1.1.1.2
  have e_it_NoTurn_OverflowError : isxTB K (He.ga K "NoTurn") "OverflowError" false = true := by
    have h := c.x.more
    simp only [ex, Bool.and_eq_true] at h
    exact h.1.1.1.1.1.1.1.1.1.1.1.1.1.1.1.1.1.1.1.1.1.1.1.1.1.1.1.1.1.1.1.1.1.1.1.1.1.1.1.1.1.1.1.1.1.1.1.1.1.1.1.1.1.1.1.1.1.1.1.1.1.1.1.1.1.1.1.1.1.1.1.1.1.1.1.1.1.1.1.1.1.1.1.1.1.1.1.1.1.1.1.1.1.1.1.1.1.1.1.1.1.1.1.1.1.1.1.1.1.1.1.1.1.1.1.1.1.1.1.1.1.1.1.1.1.1.1.1.1.1.1.1.1.1.1.1.1.1.1.1.1.1.1.1.1.1.1.1.1.1.1.1.1.1.1.1.1.1.1.1.1.1.1.1.1.1.1.1.1.1.1.1.1.1.1.1.1.1.1.1.1.1.1.1.1.1.1.1.1.1.1.1.1.1.2
  have e_it_UnknownItem_OverflowError : isxTB K (He.ga K "UnknownItem") "OverflowError" false = true := by
    have h := c.x.more
    simp only [ex, Bool.and_eq_true] at h
    exact h.1.1.1.1.1.1.1.1.1.1.1.1.1.1.1.1.1.1.1.1.1.1.1.1.1.1.1.1.1.1.1.1.1.1.1.1.1.1.1.1.1.1.1.1.1.1.1.1.1.1.1.1.1.1.1.1.1.1.1.1.1.1.1.1.1.1.1.1.1.1.1.1.1.1.1.1.1.1.1.1.1.1.1.1.1.1.1.1.1.1.1.1.1.1.1.1.1.1.1.1.1.1.1.1.1.1.1.1.1.1.1.1.1.1.1.1.1.1.1.1.1.1.1.1.1.1.1.1.1.1.1.1.1.1.1.1.1.1.1.1.1.1.1.1.1.1.1.1.1.1.1.1.1.1.1.1.1.1.1.1.1.1.1.1.1.1.1.1.1.1.1.1.1.1.1.1.1.1.1.1.1.1.1.1.1.1.1.1.1.1.1.1.1.2
  have e_it_Contradiction_ValueError : isxTB K (He.ga K "Contradiction") "ValueError" false = true := by
    have h := c.x.more
    simp only [ex, Bool.and_eq_true] at h
    exact h.1.1.1.1.1.1.1.1.1.1.1.1.1.1.1.1.1.1.1.1.1.1.1.1.1.1.1.1.1.1.1.1.1.1.1.1.1.1.1.1.1.1.1.1.1.1.1.1.1.1.1.1.1.1.1.1.1.1.1.1.1.1.1.1.1.1.1.1.1.1.1.1.1.1.1.1.1.1.1.1.1.1.1.1.1.1.1.1.1.1.1.1.1.1.1.1.1.1.1.1.1.1.1.1.1.1.1.1.1.1.1.1.1.1.1.1.1.1.1.1.1.1.1.1.1.1.1.1.1.1.1.1.1.1.1.1.1.1.1.1.1.1.1.1.1.1.1.1.1.1.1.1.1.1.1.1.1.1.1.1.1.1.1.1.1.1.1.1.1.1.1.1.1.1.1.1.1.1.1.1.1.1.1.1.1.1.1.1.1.1.1.1.2
  have e_it_InvalidCommand_ValueError : isxTB K (He.ga K "InvalidCommand") "ValueError" true = true := by
    have h := c.x.more
    simp only [ex, Bool.and_eq_true] at h
    exact h.1.1.1.1.1.1.1.1.1.1.1.1.1.1.1.1.1.1.1.1.1.1.1.1.1.1.1.1.1.1.1.1.1.1.1.1.1.1.1.1.1.1.1.1.1.1.1.1.1.1.1.1.1.1.1.1.1.1.1.1.1.1.1.1.1.1.1.1.1.1.1.1.1.1.1.1.1.1.1.1.1.1.1.1.1.1.1.1.1.1.1.1.1.1.1.1.1.1.1.1.1.1.1.1.1.1.1.1.1.1.1.1.1.1.1.1.1.1.1.1.1.1.1.1.1.1.1.1.1.1.1.1.1.1.1.1.1.1.1.1.1.1.1.1.1.1.1.1.1.1.1.1.1.1.1.1.1.1.1.1.1.1.1.1.1.1.1.1.1.1.1.1.1.1.1.1.1.1.1.1.1.1.1.1.1.1.1.1.1.1.1.2
  have e_it_InvalidFact_ValueError : isxTB K (He.ga K "InvalidFact") "ValueError" true = true := by
    have h := c.x.more
    simp only [ex, Bool.and_eq_true] at h
    exact h.1.1.1.1.1.1.1.1.1.1.1.1.1.1.1.1.1.1.1.1.1.1.1.1.1.1.1.1.1.1.1.1.1.1.1.1.1.1.1.1.1.1.1.1.1.1.1.1.1.1.1.1.1.1.1.1.1.1.1.1.1.1.1.1.1.1.1.1.1.1.1.1.1.1.1.1.1.1.1.1.1.1.1.1.1.1.1.1.1.1.1.1.1.1.1.1.1.1.1.1.1.1.1.1.1.1.1.1.1.1.1.1.1.1.1.1.1.1.1.1.1.1.1.1.1.1.1.1.1.1.1.1.1.1.1.1.1.1.1.1.1.1.1.1.1.1.1.1.1.1.1.1.1.1.1.1.1.1.1.1.1.1.1.1.1.1.1.1.1.1.1.1.1.1.1.1.1.1.1.1.1.1.1.1.1.1.1.1.1.1.2
  have e_it_InvalidItem_ValueError : isxTB K (He.ga K "InvalidItem") "ValueError" true = true := by
    have h := c.x.more
    simp only [ex, Bool.and_eq_true] at h
    exact h.1.1.1.1.1.1.1.1.1.1.1.1.1.1.1.1.1.1.1.1.1.1.1.1.1.1.1.1.1.1.1.1.1.1.1.1.1.1.1.1.1.1.1.1.1.1.1.1.1.1.1.1.1.1.1.1.1.1.1.1.1.1.1.1.1.1.1.1.1.1.1.1.1.1.1.1.1.1.1.1.1.1.1.1.1.1.1.1.1.1.1.1.1.1.1.1.1.1.1.1.1.1.1.1.1.1.1.1.1.1.1.1.1.1.1.1.1.1.1.1.1.1.1.1.1.1.1.1.1.1.1.1.1.1.1.1.1.1.1.1.1.1.1.1.1.1.1.1.1.1.1.1.1.1.1.1.1.1.1.1.1.1.1.1.1.1.1.1.1.1.1.1.1.1.1.1.1.1.1.1.1.1.1.1.1.1.1.1.1.2
  have e_it_InvalidNumber_ValueError : isxTB K (He.ga K "InvalidNumber") "ValueError" true = true := by
    have h := c.x.more
    simp only [ex, Bool.and_eq_true] at h
    exact h.1.1.1.1.1.1.1.1.1.1.1.1.1.1.1.1.1.1.1.1.1.1.1.1.1.1.1.1.1.1.1.1.1.1.1.1.1.1.1.1.1.1.1.1.1.1.1.1.1.1.1.1.1.1.1.1.1.1.1.1.1.1.1.1.1.1.1.1.1.1.1.1.1.1.1.1.1.1.1.1.1.1.1.1.1.1.1.1.1.1.1.1.1.1.1.1.1.1.1.1.1.1.1.1.1.1.1.1.1.1.1.1.1.1.1.1.1.1.1.1.1.1.1.1.1.1.1.1.1.1.1.1.1.1.1.1.1.1.1.1.1.1.1.1.1.1.1.1.1.1.1.1.1.1.1.1.1.1.1.1.1.1.1.1.1.1.1.1.1.1.1.1.1.1.1.1.1.1.1.1.1.1.1.1.1.1.1.1.2
  have e_it_InvalidRanking_ValueError : isxTB K (He.ga K "InvalidRanking") "ValueError" true = true := by
    have h := c.x.more
    simp only [ex, Bool.and_eq_true] at h
    exact h.1.1.1.1.1.1.1.1.1.1.1.1.1.1.1.1.1.1.1.1.1.1.1.1.1.1.1.1.1.1.1.1.1.1.1.1.1.1.1.1.1.1.1.1.1.1.1.1.1.1.1.1.1.1.1.1.1.1.1.1.1.1.1.1.1.1.1.1.1.1.1.1.1.1.1.1.1.1.1.1.1.1.1.1.1.1.1.1.1.1.1.1.1.1.1.1.1.1.1.1.1.1.1.1.1.1.1.1.1.1.1.1.1.1.1.1.1.1.1.1.1.1.1.1.1.1.1.1.1.1.1.1.1.1.1.1.1.1.1.1.1.1.1.1.1.1.1.1.1.1.1.1.1.1.1.1.1.1.1.1.1.1.1.1.1.1.1.1.1.1.1.1.1.1.1.1.1.1.1.1.1.1.1.1.1.1.1.2
  have e_it_InvalidSet_ValueError : isxTB K (He.ga K "InvalidSet") "ValueError" true = true := by
    have h := c.x.more
    simp only [ex, Bool.and_eq_true] at h
    exact h.1.1.1.1.1.1.1.1.1.1.1.1.1.1.1.1.1.1.1.1.1.1.1.1.1.1.1.1.1.1.1.1.1.1.1.1.1.1.1.1.1.1.1.1.1.1.1.1.1.1.1.1.1.1.1.1.1.1.1.1.1.1.1.1.1.1.1.1.1.1.1.1.1.1.1.1.1.1.1.1.1.1.1.1.1.1.1.1.1.1.1.1.1.1.1.1.1.1.1.1.1.1.1.1.1.1.1.1.1.1.1.1.1.1.1.1.1.1.1.1.1.1.1.1.1.1.1.1.1.1.1.1.1.1.1.1.1.1.1.1.1.1.1.1.1.1.1.1.1.1.1.1.1.1.1.1.1.1.1.1.1.1.1.1.1.1.1.1.1.1.1.1.1.1.1.1.1.1.1.1.1.1.1.1.1.1.2
  have e_it_InvalidText_ValueError : isxTB K (He.ga K "InvalidText") "ValueError" true = true := by
    have h := c.x.more
    simp only [ex, Bool.and_eq_true] at h
    exact h.1.1.1.1.1.1.1.1.1.1.1.1.1.1.1.1.1.1.1.1.1.1.1.1.1.1.1.1.1.1.1.1.1.1.1.1.1.1.1.1.1.1.1.1.1.1.1.1.1.1.1.1.1.1.1.1.1.1.1.1.1.1.1.1.1.1.1.1.1.1.1.1.1.1.1.1.1.1.1.1.1.1.1.1.1.1.1.1.1.1.1.1.1.1.1.1.1.1.1.1.1.1.1.1.1.1.1.1.1.1.1.1.1.1.1.1.1.1.1.1.1.1.1.1.1.1.1.1.1.1.1.1.1.1.1.1.1.1.1.1.1.1.1.1.1.1.1.1.1.1.1.1.1.1.1.1.1.1.1.1.1.1.1.1.1.1.1.1.1.1.1.1.1.1.1.1.1.1.1.1.1.1.1.1.1.2
  have e_it_InvalidTurns_ValueError : isxTB K (He.ga K "InvalidTurns") "ValueError" true = true := by
    have h := c.x.more
    simp only [ex, Bool.and_eq_true] at h
    exact h.1.1.1.1.1.1.1.1.1.1.1.1.1.1.1.1.1.1.1.1.1.1.1.1.1.1.1.1.1.1.1.1.1.1.1.1.1.1.1.1.1.1.1.1.1.1.1.1.1.1.1.1.1.1.1.1.1.1.1.1.1.1.1.1.1.1.1.1.1.1.1.1.1.1.1.1.1.1.1.1.1.1.1.1.1.1.1.1.1.1.1.1.1.1.1.1.1.1.1.1.1.1.1.1.1.1.1.1.1.1.1.1.1.1.1.1.1.1.1.1.1.1.1.1.1.1.1.1.1.1.1.1.1.1.1.1.1.1.1.1.1.1.1.1.1.1.1.1.1.1.1.1.1.1.1.1.1.1.1.1.1.1.1.1.1.1.1.1.1.1.1.1.1.1.1.1.1.1.1.1.1.1.1.1.2
  have e_it_LimitExceeded_ValueError : isxTB K (He.ga K "LimitExceeded") "ValueError" false = true := by
    have h := c.x.more
    simp only [ex, Bool.and_eq_true] at h
    exact h.1.1.1.1.1.1.1.1.1.1.1.1.1.1.1.1.1.1.1.1.1.1.1.1.1.1.1.1.1.1.1.1.1.1.1.1.1.1.1.1.1.1.1.1.1.1.1.1.1.1.1.1.1.1.1.1.1.1.1.1.1.1.1.1.1.1.1.1.1.1.1.1.1.1.1.1.1.1.1.1.1.1.1.1.1.1.1.1.1.1.1.1.1.1.1.1.1.1.1.1.1.1.1.1.1.1.1.1.1.1.1.1.1.1.1.1.1.1.1.1.1.1.1.1.1.1.1.1.1.1.1.1.1.1.1.1.1.1.1.1.1.1.1.1.1.1.1.1.1.1.1.1.1.1.1.1.1.1.1.1.1.1.1.1.1.1.1.1.1.1.1.1.1.1.1.1.1.1.1.1.1.1.1.2
  have e_it_NoTurn_ValueError : isxTB K (He.ga K "NoTurn") "ValueError" false = true := by
    have h := c.x.more
    simp only [ex, Bool.and_eq_true] at h
    exact h.1.1.1.1.1.1.1.1.1.1.1.1.1.1.1.1.1.1.1.1.1.1.1.1.1.1.1.1.1.1.1.1.1.1.1.1.1.1.1.1.1.1.1.1.1.1.1.1.1.1.1.1.1.1.1.1.1.1.1.1.1.1.1.1.1.1.1.1.1.1.1.1.1.1.1.1.1.1.1.1.1.1.1.1.1.1.1.1.1.1.1.1.1.1.1.1.1.1.1.1.1.1.1.1.1.1.1.1.1.1.1.1.1.1.1.1.1.1.1.1.1.1.1.1.1.1.1.1.1.1.1.1.1.1.1.1.1.1.1.1.1.1.1.1.1.1.1.1.1.1.1.1.1.1.1.1.1.1.1.1.1.1.1.1.1.1.1.1.1.1.1.1.1.1.1.1.1.1.1.1.1.1.2
  have e_it_UnknownItem_ValueError : isxTB K (He.ga K "UnknownItem") "ValueError" false = true := by
    have h := c.x.more
    simp only [ex, Bool.and_eq_true] at h
    exact h.1.1.1.1.1.1.1.1.1.1.1.1.1.1.1.1.1.1.1.1.1.1.1.1.1.1.1.1.1.1.1.1.1.1.1.1.1.1.1.1.1.1.1.1.1.1.1.1.1.1.1.1.1.1.1.1.1.1.1.1.1.1.1.1.1.1.1.1.1.1.1.1.1.1.1.1.1.1.1.1.1.1.1.1.1.1.1.1.1.1.1.1.1.1.1.1.1.1.1.1.1.1.1.1.1.1.1.1.1.1.1.1.1.1.1.1.1.1.1.1.1.1.1.1.1.1.1.1.1.1.1.1.1.1.1.1.1.1.1.1.1.1.1.1.1.1.1.1.1.1.1.1.1.1.1.1.1.1.1.1.1.1.1.1.1.1.1.1.1.1.1.1.1.1.1.1.1.1.1.1.1.2
  have e_ek_Contradiction : exkB K (He.ga K "Contradiction") = true := by
    have h := c.x.more
    simp only [ex, Bool.and_eq_true] at h
    exact h.1.1.1.1.1.1.1.1.1.1.1.1.1.1.1.1.1.1.1.1.1.1.1.1.1.1.1.1.1.1.1.1.1.1.1.1.1.1.1.1.1.1.1.1.1.1.1.1.1.1.1.1.1.1.1.1.1.1.1.1.1.1.1.1.1.1.1.1.1.1.1.1.1.1.1.1.1.1.1.1.1.1.1.1.1.1.1.1.1.1.1.1.1.1.1.1.1.1.1.1.1.1.1.1.1.1.1.1.1.1.1.1.1.1.1.1.1.1.1.1.1.1.1.1.1.1.1.1.1.1.1.1.1.1.1.1.1.1.1.1.1.1.1.1.1.1.1.1.1.1.1.1.1.1.1.1.1.1.1.1.1.1.1.1.1.1.1.1.1.1.1.1.1.1.1.1.1.1.1.1.2
  have e_ek_InvalidCommand : exkB K (He.ga K "InvalidCommand") = true := by
    have h := c.x.more
    simp only [ex, Bool.and_eq_true] at h
    exact h.1.1.1.1.1.1.1.1.1.1.1.1.1.1.1.1.1.1.1.1.1.1.1.1.1.1.1.1.1.1.1.1.1.1.1.1.1.1.1.1.1.1.1.1.1.1.1.1.1.1.1.1.1.1.1.1.1.1.1.1.1.1.1.1.1.1.1.1.1.1.1.1.1.1.1.1.1.1.1.1.1.1.1.1.1.1.1.1.1.1.1.1.1.1.1.1.1.1.1.1.1.1.1.1.1.1.1.1.1.1.1.1.1.1.1.1.1.1.1.1.1.1.1.1.1.1.1.1.1.1.1.1.1.1.1.1.1.1.1.1.1.1.1.1.1.1.1.1.1.1.1.1.1.1.1.1.1.1.1.1.1.1.1.1.1.1.1.1.1.1.1.1.1.1.1.1.1.1.1.2
  have e_ek_InvalidFact : exkB K (He.ga K "InvalidFact") = true := by
    have h := c.x.more
    simp only [ex, Bool.and_eq_true] at h
    exact h.1.1.1.1.1.1.1.1.1.1.1.1.1.1.1.1.1.1.1.1.1.1.1.1.1.1.1.1.1.1.1.1.1.1.1.1.1.1.1.1.1.1.1.1.1.1.1.1.1.1.1.1.1.1.1.1.1.1.1.1.1.1.1.1.1.1.1.1.1.1.1.1.1.1.1.1.1.1.1.1.1.1.1.1.1.1.1.1.1.1.1.1.1.1.1.1.1.1.1.1.1.1.1.1.1.1.1.1.1.1.1.1.1.1.1.1.1.1.1.1.1.1.1.1.1.1.1.1.1.1.1.1.1.1.1.1.1.1.1.1.1.1.1.1.1.1.1.1.1.1.1.1.1.1.1.1.1.1.1.1.1.1.1.1.1.1.1.1.1.1.1.1.1.1.1.1.1.1.2
  have e_ek_InvalidItem : exkB K (He.ga K "InvalidItem") = true := by
    have h := c.x.more
    simp only [ex, Bool.and_eq_true] at h
    exact h.1.1.1.1.1.1.1.1.1.1.1.1.1.1.1.1.1.1.1.1.1.1.1.1.1.1.1.1.1.1.1.1.1.1.1.1.1.1.1.1.1.1.1.1.1.1.1.1.1.1.1.1.1.1.1.1.1.1.1.1.1.1.1.1.1.1.1.1.1.1.1.1.1.1.1.1.1.1.1.1.1.1.1.1.1.1.1.1.1.1.1.1.1.1.1.1.1.1.1.1.1.1.1.1.1.1.1.1.1.1.1.1.1.1.1.1.1.1.1.1.1.1.1.1.1.1.1.1.1.1.1.1.1.1.1.1.1.1.1.1.1.1.1.1.1.1.1.1.1.1.1.1.1.1.1.1.1.1.1.1.1.1.1.1.1.1.1.1.1.1.1.1.1.1.1.1.1.2
  have e_ek_InvalidNumber : exkB K (He.ga K "InvalidNumber") = true := by
    have h := c.x.more
    simp only [ex, Bool.and_eq_true] at h
    exact h.1.1.1.1.1.1.1.1.1.1.1.1.1.1.1.1.1.1.1.1.1.1.1.1.1.1.1.1.1.1.1.1.1.1.1.1.1.1.1.1.1.1.1.1.1.1.1.1.1.1.1.1.1.1.1.1.1.1.1.1.1.1.1.1.1.1.1.1.1.1.1.1.1.1.1.1.1.1.1.1.1.1.1.1.1.1.1.1.1.1.1.1.1.1.1.1.1.1.1.1.1.1.1.1.1.1.1.1.1.1.1.1.1.1.1.1.1.1.1.1.1.1.1.1.1.1.1.1.1.1.1.1.1.1.1.1.1.1.1.1.1.1.1.1.1.1.1.1.1.1.1.1.1.1.1.1.1.1.1.1.1.1.1.1.1.1.1.1.1.1.1.1.1.1.1.1.2
  have e_ek_InvalidRanking : exkB K (He.ga K "InvalidRanking") = true := by
    have h := c.x.more
    simp only [ex, Bool.and_eq_true] at h
    exact h.1.1.1.1.1.1.1.1.1.1.1.1.1.1.1.1.1.1.1.1.1.1.1.1.1.1.1.1.1.1.1.1.1.1.1.1.1.1.1.1.1.1.1.1.1.1.1.1.1.1.1.1.1.1.1.1.1.1.1.1.1.1.1.1.1.1.1.1.1.1.1.1.1.1.1.1.1.1.1.1.1.1.1.1.1.1.1.1.1.1.1.1.1.1.1.1.1.1.1.1.1.1.1.1.1.1.1.1.1.1.1.1.1.1.1.1.1.1.1.1.1.1.1.1.1.1.1.1.1.1.1.1.1.1.1.1.1.1.1.1.1.1.1.1.1.1.1.1.1.1.1.1.1.1.1.1.1.1.1.1.1.1.1.1.1.1.1.1.1.1.1.1.1.1.1.2
  have e_ek_InvalidSet : exkB K (He.ga K "InvalidSet") = true := by
    have h := c.x.more
    simp only [ex, Bool.and_eq_true] at h
    exact h.1.1.1.1.1.1.1.1.1.1.1.1.1.1.1.1.1.1.1.1.1.1.1.1.1.1.1.1.1.1.1.1.1.1.1.1.1.1.1.1.1.1.1.1.1.1.1.1.1.1.1.1.1.1.1.1.1.1.1.1.1.1.1.1.1.1.1.1.1.1.1.1.1.1.1.1.1.1.1.1.1.1.1.1.1.1.1.1.1.1.1.1.1.1.1.1.1.1.1.1.1.1.1.1.1.1.1.1.1.1.1.1.1.1.1.1.1.1.1.1.1.1.1.1.1.1.1.1.1.1.1.1.1.1.1.1.1.1.1.1.1.1.1.1.1.1.1.1.1.1.1.1.1.1.1.1.1.1.1.1.1.1.1.1.1.1.1.1.1.1.1.1.1.1.2
  have e_ek_InvalidText : exkB K (He.ga K "InvalidText") = true := by
    have h := c.x.more
    simp only [ex, Bool.and_eq_true] at h
    exact h.1.1.1.1.1.1.1.1.1.1.1.1.1.1.1.1.1.1.1.1.1.1.1.1.1.1.1.1.1.1.1.1.1.1.1.1.1.1.1.1.1.1.1.1.1.1.1.1.1.1.1.1.1.1.1.1.1.1.1.1.1.1.1.1.1.1.1.1.1.1.1.1.1.1.1.1.1.1.1.1.1.1.1.1.1.1.1.1.1.1.1.1.1.1.1.1.1.1.1.1.1.1.1.1.1.1.1.1.1.1.1.1.1.1.1.1.1.1.1.1.1.1.1.1.1.1.1.1.1.1.1.1.1.1.1.1.1.1.1.1.1.1.1.1.1.1.1.1.1.1.1.1.1.1.1.1.1.1.1.1.1.1.1.1.1.1.1.1.1.1.1.1.1.2
  have e_ek_InvalidTurns : exkB K (He.ga K "InvalidTurns") = true := by
    have h := c.x.more
    simp only [ex, Bool.and_eq_true] at h
    exact h.1.1.1.1.1.1.1.1.1.1.1.1.1.1.1.1.1.1.1.1.1.1.1.1.1.1.1.1.1.1.1.1.1.1.1.1.1.1.1.1.1.1.1.1.1.1.1.1.1.1.1.1.1.1.1.1.1.1.1.1.1.1.1.1.1.1.1.1.1.1.1.1.1.1.1.1.1.1.1.1.1.1.1.1.1.1.1.1.1.1.1.1.1.1.1.1.1.1.1.1.1.1.1.1.1.1.1.1.1.1.1.1.1.1.1.1.1.1.1.1.1.1.1.1.1.1.1.1.1.1.1.1.1.1.1.1.1.1.1.1.1.1.1.1.1.1.1.1.1.1.1.1.1.1.1.1.1.1.1.1.1.1.1.1.1.1.1.1.1.1.1.1.2
  have e_ek_LimitExceeded : exkB K (He.ga K "LimitExceeded") = true := by
    have h := c.x.more
    simp only [ex, Bool.and_eq_true] at h
    exact h.1.1.1.1.1.1.1.1.1.1.1.1.1.1.1.1.1.1.1.1.1.1.1.1.1.1.1.1.1.1.1.1.1.1.1.1.1.1.1.1.1.1.1.1.1.1.1.1.1.1.1.1.1.1.1.1.1.1.1.1.1.1.1.1.1.1.1.1.1.1.1.1.1.1.1.1.1.1.1.1.1.1.1.1.1.1.1.1.1.1.1.1.1.1.1.1.1.1.1.1.1.1.1.1.1.1.1.1.1.1.1.1.1.1.1.1.1.1.1.1.1.1.1.1.1.1.1.1.1.1.1.1.1.1.1.1.1.1.1.1.1.1.1.1.1.1.1.1.1.1.1.1.1.1.1.1.1.1.1.1.1.1.1.1.1.1.1.1.1.1.1.2
  have e_ek_NoTurn : exkB K (He.ga K "NoTurn") = true := by
    have h := c.x.more
    simp only [ex, Bool.and_eq_true] at h
    exact h.1.1.1.1.1.1.1.1.1.1.1.1.1.1.1.1.1.1.1.1.1.1.1.1.1.1.1.1.1.1.1.1.1.1.1.1.1.1.1.1.1.1.1.1.1.1.1.1.1.1.1.1.1.1.1.1.1.1.1.1.1.1.1.1.1.1.1.1.1.1.1.1.1.1.1.1.1.1.1.1.1.1.1.1.1.1.1.1.1.1.1.1.1.1.1.1.1.1.1.1.1.1.1.1.1.1.1.1.1.1.1.1.1.1.1.1.1.1.1.1.1.1.1.1.1.1.1.1.1.1.1.1.1.1.1.1.1.1.1.1.1.1.1.1.1.1.1.1.1.1.1.1.1.1.1.1.1.1.1.1.1.1.1.1.1.1.1.1.1.1.2
  have e_ek_UnknownItem : exkB K (He.ga K "UnknownItem") = true := by
    have h := c.x.more
    simp only [ex, Bool.and_eq_true] at h
    exact h.1.1.1.1.1.1.1.1.1.1.1.1.1.1.1.1.1.1.1.1.1.1.1.1.1.1.1.1.1.1.1.1.1.1.1.1.1.1.1.1.1.1.1.1.1.1.1.1.1.1.1.1.1.1.1.1.1.1.1.1.1.1.1.1.1.1.1.1.1.1.1.1.1.1.1.1.1.1.1.1.1.1.1.1.1.1.1.1.1.1.1.1.1.1.1.1.1.1.1.1.1.1.1.1.1.1.1.1.1.1.1.1.1.1.1.1.1.1.1.1.1.1.1.1.1.1.1.1.1.1.1.1.1.1.1.1.1.1.1.1.1.1.1.1.1.1.1.1.1.1.1.1.1.1.1.1.1.1.1.1.1.1.1.1.1.1.1.1.1.2
  have e_i0_Contradiction : isxB K (.type "NoneType") (He.ga K "Contradiction") false = true := by
    have h := c.x.more
    simp only [ex, Bool.and_eq_true] at h
    exact h.1.1.1.1.1.1.1.1.1.1.1.1.1.1.1.1.1.1.1.1.1.1.1.1.1.1.1.1.1.1.1.1.1.1.1.1.1.1.1.1.1.1.1.1.1.1.1.1.1.1.1.1.1.1.1.1.1.1.1.1.1.1.1.1.1.1.1.1.1.1.1.1.1.1.1.1.1.1.1.1.1.1.1.1.1.1.1.1.1.1.1.1.1.1.1.1.1.1.1.1.1.1.1.1.1.1.1.1.1.1.1.1.1.1.1.1.1.1.1.1.1.1.1.1.1.1.1.1.1.1.1.1.1.1.1.1.1.1.1.1.1.1.1.1.1.1.1.1.1.1.1.1.1.1.1.1.1.1.1.1.1.1.1.1.1.1.1.1.2
  have e_ix_Contradiction_Contradiction : isxB K (.ref (He.ga K "Contradiction")) (He.ga K "Contradiction") true = true := by
    have h := c.x.more
    simp only [ex, Bool.and_eq_true] at h
    exact h.1.1.1.1.1.1.1.1.1.1.1.1.1.1.1.1.1.1.1.1.1.1.1.1.1.1.1.1.1.1.1.1.1.1.1.1.1.1.1.1.1.1.1.1.1.1.1.1.1.1.1.1.1.1.1.1.1.1.1.1.1.1.1.1.1.1.1.1.1.1.1.1.1.1.1.1.1.1.1.1.1.1.1.1.1.1.1.1.1.1.1.1.1.1.1.1.1.1.1.1.1.1.1.1.1.1.1.1.1.1.1.1.1.1.1.1.1.1.1.1.1.1.1.1.1.1.1.1.1.1.1.1.1.1.1.1.1.1.1.1.1.1.1.1.1.1.1.1.1.1.1.1.1.1.1.1.1.1.1.1.1.1.1.1.1.1.1.2
  have e_ix_InvalidCommand_Contradiction : isxB K (.ref (He.ga K "InvalidCommand")) (He.ga K "Contradiction") false = true := by
    have h := c.x.more
    simp only [ex, Bool.and_eq_true] at h
    exact h.1.1.1.1.1.1.1.1.1.1.1.1.1.1.1.1.1.1.1.1.1.1.1.1.1.1.1.1.1.1.1.1.1.1.1.1.1.1.1.1.1.1.1.1.1.1.1.1.1.1.1.1.1.1.1.1.1.1.1.1.1.1.1.1.1.1.1.1.1.1.1.1.1.1.1.1.1.1.1.1.1.1.1.1.1.1.1.1.1.1.1.1.1.1.1.1.1.1.1.1.1.1.1.1.1.1.1.1.1.1.1.1.1.1.1.1.1.1.1.1.1.1.1.1.1.1.1.1.1.1.1.1.1.1.1.1.1.1.1.1.1.1.1.1.1.1.1.1.1.1.1.1.1.1.1.1.1.1.1.1.1.1.1.1.1.1.2
  have e_ix_InvalidFact_Contradiction : isxB K (.ref (He.ga K "InvalidFact")) (He.ga K "Contradiction") false = true := by
    have h := c.x.more
    simp only [ex, Bool.and_eq_true] at h
    exact h.1.1.1.1.1.1.1.1.1.1.1.1.1.1.1.1.1.1.1.1.1.1.1.1.1.1.1.1.1.1.1.1.1.1.1.1.1.1.1.1.1.1.1.1.1.1.1.1.1.1.1.1.1.1.1.1.1.1.1.1.1.1.1.1.1.1.1.1.1.1.1.1.1.1.1.1.1.1.1.1.1.1.1.1.1.1.1.1.1.1.1.1.1.1.1.1.1.1.1.1.1.1.1.1.1.1.1.1.1.1.1.1.1.1.1.1.1.1.1.1.1.1.1.1.1.1.1.1.1.1.1.1.1.1.1.1.1.1.1.1.1.1.1.1.1.1.1.1.1.1.1.1.1.1.1.1.1.1.1.1.1.1.1.1.1.2
  have e_ix_InvalidItem_Contradiction : isxB K (.ref (He.ga K "InvalidItem")) (He.ga K "Contradiction") false = true := by
    have h := c.x.more
    simp only [ex, Bool.and_eq_true] at h
    exact h.1.1.1.1.1.1.1.1.1.1.1.1.1.1.1.1.1.1.1.1.1.1.1.1.1.1.1.1.1.1.1.1.1.1.1.1.1.1.1.1.1.1.1.1.1.1.1.1.1.1.1.1.1.1.1.1.1.1.1.1.1.1.1.1.1.1.1.1.1.1.1.1.1.1.1.1.1.1.1.1.1.1.1.1.1.1.1.1.1.1.1.1.1.1.1.1.1.1.1.1.1.1.1.1.1.1.1.1.1.1.1.1.1.1.1.1.1.1.1.1.1.1.1.1.1.1.1.1.1.1.1.1.1.1.1.1.1.1.1.1.1.1.1.1.1.1.1.1.1.1.1.1.1.1.1.1.1.1.1.1.1.1.1.1.2
  have e_ix_InvalidNumber_Contradiction : isxB K (.ref (He.ga K "InvalidNumber")) (He.ga K "Contradiction") false = true := by
    have h := c.x.more
    simp only [ex, Bool.and_eq_true] at h
    exact h.1.1.1.1.1.1.1.1.1.1.1.1.1.1.1.1.1.1.1.1.1.1.1.1.1.1.1.1.1.1.1.1.1.1.1.1.1.1.1.1.1.1.1.1.1.1.1.1.1.1.1.1.1.1.1.1.1.1.1.1.1.1.1.1.1.1.1.1.1.1.1.1.1.1.1.1.1.1.1.1.1.1.1.1.1.1.1.1.1.1.1.1.1.1.1.1.1.1.1.1.1.1.1.1.1.1.1.1.1.1.1.1.1.1.1.1.1.1.1.1.1.1.1.1.1.1.1.1.1.1.1.1.1.1.1.1.1.1.1.1.1.1.1.1.1.1.1.1.1.1.1.1.1.1.1.1.1.1.1.1.1.1.1.2
  have e_ix_InvalidRanking_Contradiction : isxB K (.ref (He.ga K "InvalidRanking")) (He.ga K "Contradiction") false = true := by
    have h := c.x.more
    simp only [ex, Bool.and_eq_true] at h
    exact h.1.1.1.1.1.1.1.1.1.1.1.1.1.1.1.1.1.1.1.1.1.1.1.1.1.1.1.1.1.1.1.1.1.1.1.1.1.1.1.1.1.1.1.1.1.1.1.1.1.1.1.1.1.1.1.1.1.1.1.1.1.1.1.1.1.1.1.1.1.1.1.1.1.1.1.1.1.1.1.1.1.1.1.1.1.1.1.1.1.1.1.1.1.1.1.1.1.1.1.1.1.1.1.1.1.1.1.1.1.1.1.1.1.1.1.1.1.1.1.1.1.1.1.1.1.1.1.1.1.1.1.1.1.1.1.1.1.1.1.1.1.1.1.1.1.1.1.1.1.1.1.1.1.1.1.1.1.1.1.1.1.1.2
  have e_ix_InvalidSet_Contradiction : isxB K (.ref (He.ga K "InvalidSet")) (He.ga K "Contradiction") false = true := by
    have h := c.x.more
    simp only [ex, Bool.and_eq_true] at h
    exact h.1.1.1.1.1.1.1.1.1.1.1.1.1.1.1.1.1.1.1.1.1.1.1.1.1.1.1.1.1.1.1.1.1.1.1.1.1.1.1.1.1.1.1.1.1.1.1.1.1.1.1.1.1.1.1.1.1.1.1.1.1.1.1.1.1.1.1.1.1.1.1.1.1.1.1.1.1.1.1.1.1.1.1.1.1.1.1.1.1.1.1.1.1.1.1.1.1.1.1.1.1.1.1.1.1.1.1.1.1.1.1.1.1.1.1.1.1.1.1.1.1.1.1.1.1.1.1.1.1.1.1.1.1.1.1.1.1.1.1.1.1.1.1.1.1.1.1.1.1.1.1.1.1.1.1.1.1.1.1.1.1.2
  have e_ix_InvalidText_Contradiction : isxB K (.ref (He.ga K "InvalidText")) (He.ga K "Contradiction") false = true := by
    have h := c.x.more
    simp only [ex, Bool.and_eq_true] at h
    exact h.1.1.1.1.1.1.1.1.1.1.1.1.1.1.1.1.1.1.1.1.1.1.1.1.1.1.1.1.1.1.1.1.1.1.1.1.1.1.1.1.1.1.1.1.1.1.1.1.1.1.1.1.1.1.1.1.1.1.1.1.1.1.1.1.1.1.1.1.1.1.1.1.1.1.1.1.1.1.1.1.1.1.1.1.1.1.1.1.1.1.1.1.1.1.1.1.1.1.1.1.1.1.1.1.1.1.1.1.1.1.1.1.1.1.1.1.1.1.1.1.1.1.1.1.1.1.1.1.1.1.1.1.1.1.1.1.1.1.1.1.1.1.1.1.1.1.1.1.1.1.1.1.1.1.1.1.1.1.1.1.2
  have e_ix_InvalidTurns_Contradiction : isxB K (.ref (He.ga K "InvalidTurns")) (He.ga K "Contradiction") false = true := by
    have h := c.x.more
    simp only [ex, Bool.and_eq_true] at h
    exact h.1.1.1.1.1.1.1.1.1.1.1.1.1.1.1.1.1.1.1.1.1.1.1.1.1.1.1.1.1.1.1.1.1.1.1.1.1.1.1.1.1.1.1.1.1.1.1.1.1.1.1.1.1.1.1.1.1.1.1.1.1.1.1.1.1.1.1.1.1.1.1.1.1.1.1.1.1.1.1.1.1.1.1.1.1.1.1.1.1.1.1.1.1.1.1.1.1.1.1.1.1.1.1.1.1.1.1.1.1.1.1.1.1.1.1.1.1.1.1.1.1.1.1.1.1.1.1.1.1.1.1.1.1.1.1.1.1.1.1.1.1.1.1.1.1.1.1.1.1.1.1.1.1.1.1.1.1.1.1.2
  have e_ix_LimitExceeded_Contradiction : isxB K (.ref (He.ga K "LimitExceeded")) (He.ga K "Contradiction") false = true := by
    have h := c.x.more
    simp only [ex, Bool.and_eq_true] at h
    exact h.1.1.1.1.1.1.1.1.1.1.1.1.1.1.1.1.1.1.1.1.1.1.1.1.1.1.1.1.1.1.1.1.1.1.1.1.1.1.1.1.1.1.1.1.1.1.1.1.1.1.1.1.1.1.1.1.1.1.1.1.1.1.1.1.1.1.1.1.1.1.1.1.1.1.1.1.1.1.1.1.1.1.1.1.1.1.1.1.1.1.1.1.1.1.1.1.1.1.1.1.1.1.1.1.1.1.1.1.1.1.1.1.1.1.1.1.1.1.1.1.1.1.1.1.1.1.1.1.1.1.1.1.1.1.1.1.1.1.1.1.1.1.1.1.1.1.1.1.1.1.1.1.1.1.1.1.1.1.2
  have e_ix_NoTurn_Contradiction : isxB K (.ref (He.ga K "NoTurn")) (He.ga K "Contradiction") false = true := by
    have h := c.x.more
    simp only [ex, Bool.and_eq_true] at h
    exact h.1.1.1.1.1.1.1.1.1.1.1.1.1.1.1.1.1.1.1.1.1.1.1.1.1.1.1.1.1.1.1.1.1.1.1.1.1.1.1.1.1.1.1.1.1.1.1.1.1.1.1.1.1.1.1.1.1.1.1.1.1.1.1.1.1.1.1.1.1.1.1.1.1.1.1.1.1.1.1.1.1.1.1.1.1.1.1.1.1.1.1.1.1.1.1.1.1.1.1.1.1.1.1.1.1.1.1.1.1.1.1.1.1.1.1.1.1.1.1.1.1.1.1.1.1.1.1.1.1.1.1.1.1.1.1.1.1.1.1.1.1.1.1.1.1.1.1.1.1.1.1.1.1.1.1.1.1.2
  have e_ix_UnknownItem_Contradiction : isxB K (.ref (He.ga K "UnknownItem")) (He.ga K "Contradiction") false = true := by
    have h := c.x.more
    simp only [ex, Bool.and_eq_true] at h
    exact h.1.1.1.1.1.1.1.1.1.1.1.1.1.1.1.1.1.1.1.1.1.1.1.1.1.1.1.1.1.1.1.1.1.1.1.1.1.1.1.1.1.1.1.1.1.1.1.1.1.1.1.1.1.1.1.1.1.1.1.1.1.1.1.1.1.1.1.1.1.1.1.1.1.1.1.1.1.1.1.1.1.1.1.1.1.1.1.1.1.1.1.1.1.1.1.1.1.1.1.1.1.1.1.1.1.1.1.1.1.1.1.1.1.1.1.1.1.1.1.1.1.1.1.1.1.1.1.1.1.1.1.1.1.1.1.1.1.1.1.1.1.1.1.1.1.1.1.1.1.1.1.1.1.1.1.1.2
  have e_i0_InvalidCommand : isxB K (.type "NoneType") (He.ga K "InvalidCommand") false = true := by
    have h := c.x.more
    simp only [ex, Bool.and_eq_true] at h
    exact h.1.1.1.1.1.1.1.1.1.1.1.1.1.1.1.1.1.1.1.1.1.1.1.1.1.1.1.1.1.1.1.1.1.1.1.1.1.1.1.1.1.1.1.1.1.1.1.1.1.1.1.1.1.1.1.1.1.1.1.1.1.1.1.1.1.1.1.1.1.1.1.1.1.1.1.1.1.1.1.1.1.1.1.1.1.1.1.1.1.1.1.1.1.1.1.1.1.1.1.1.1.1.1.1.1.1.1.1.1.1.1.1.1.1.1.1.1.1.1.1.1.1.1.1.1.1.1.1.1.1.1.1.1.1.1.1.1.1.1.1.1.1.1.1.1.1.1.1.1.1.1.1.1.1.1.2
  have e_ix_Contradiction_InvalidCommand : isxB K (.ref (He.ga K "Contradiction")) (He.ga K "InvalidCommand") false = true := by
    have h := c.x.more
    simp only [ex, Bool.and_eq_true] at h
    exact h.1.1.1.1.1.1.1.1.1.1.1.1.1.1.1.1.1.1.1.1.1.1.1.1.1.1.1.1.1.1.1.1.1.1.1.1.1.1.1.1.1.1.1.1.1.1.1.1.1.1.1.1.1.1.1.1.1.1.1.1.1.1.1.1.1.1.1.1.1.1.1.1.1.1.1.1.1.1.1.1.1.1.1.1.1.1.1.1.1.1.1.1.1.1.1.1.1.1.1.1.1.1.1.1.1.1.1.1.1.1.1.1.1.1.1.1.1.1.1.1.1.1.1.1.1.1.1.1.1.1.1.1.1.1.1.1.1.1.1.1.1.1.1.1.1.1.1.1.1.1.1.1.1.1.2
  have e_ix_InvalidCommand_InvalidCommand : isxB K (.ref (He.ga K "InvalidCommand")) (He.ga K "InvalidCommand") true = true := by
    have h := c.x.more
    simp only [ex, Bool.and_eq_true] at h
    exact h.1.1.1.1.1.1.1.1.1.1.1.1.1.1.1.1.1.1.1.1.1.1.1.1.1.1.1.1.1.1.1.1.1.1.1.1.1.1.1.1.1.1.1.1.1.1.1.1.1.1.1.1.1.1.1.1.1.1.1.1.1.1.1.1.1.1.1.1.1.1.1.1.1.1.1.1.1.1.1.1.1.1.1.1.1.1.1.1.1.1.1.1.1.1.1.1.1.1.1.1.1.1.1.1.1.1.1.1.1.1.1.1.1.1.1.1.1.1.1.1.1.1.1.1.1.1.1.1.1.1.1.1.1.1.1.1.1.1.1.1.1.1.1.1.1.1.1.1.1.1.1.1.1.2
  have e_ix_InvalidFact_InvalidCommand : isxB K (.ref (He.ga K "InvalidFact")) (He.ga K "InvalidCommand") false = true := by
    have h := c.x.more
    simp only [ex, Bool.and_eq_true] at h
    exact h.1.1.1.1.1.1.1.1.1.1.1.1.1.1.1.1.1.1.1.1.1.1.1.1.1.1.1.1.1.1.1.1.1.1.1.1.1.1.1.1.1.1.1.1.1.1.1.1.1.1.1.1.1.1.1.1.1.1.1.1.1.1.1.1.1.1.1.1.1.1.1.1.1.1.1.1.1.1.1.1.1.1.1.1.1.1.1.1.1.1.1.1.1.1.1.1.1.1.1.1.1.1.1.1.1.1.1.1.1.1.1.1.1.1.1.1.1.1.1.1.1.1.1.1.1.1.1.1.1.1.1.1.1.1.1.1.1.1.1.1.1.1.1.1.1.1.1.1.1.1.1.1.2
  have e_ix_InvalidItem_InvalidCommand : isxB K (.ref (He.ga K "InvalidItem")) (He.ga K "InvalidCommand") false = true := by
    have h := c.x.more
    simp only [ex, Bool.and_eq_true] at h
    exact h.1.1.1.1.1.1.1.1.1.1.1.1.1.1.1.1.1.1.1.1.1.1.1.1.1.1.1.1.1.1.1.1.1.1.1.1.1.1.1.1.1.1.1.1.1.1.1.1.1.1.1.1.1.1.1.1.1.1.1.1.1.1.1.1.1.1.1.1.1.1.1.1.1.1.1.1.1.1.1.1.1.1.1.1.1.1.1.1.1.1.1.1.1.1.1.1.1.1.1.1.1.1.1.1.1.1.1.1.1.1.1.1.1.1.1.1.1.1.1.1.1.1.1.1.1.1.1.1.1.1.1.1.1.1.1.1.1.1.1.1.1.1.1.1.1.1.1.1.1.1.1.2
  have e_ix_InvalidNumber_InvalidCommand : isxB K (.ref (He.ga K "InvalidNumber")) (He.ga K "InvalidCommand") false = true := by
    have h := c.x.more
    simp only [ex, Bool.and_eq_true] at h
    exact h.1.1.1.1.1.1.1.1.1.1.1.1.1.1.1.1.1.1.1.1.1.1.1.1.1.1.1.1.1.1.1.1.1.1.1.1.1.1.1.1.1.1.1.1.1.1.1.1.1.1.1.1.1.1.1.1.1.1.1.1.1.1.1.1.1.1.1.1.1.1.1.1.1.1.1.1.1.1.1.1.1.1.1.1.1.1.1.1.1.1.1.1.1.1.1.1.1.1.1.1.1.1.1.1.1.1.1.1.1.1.1.1.1.1.1.1.1.1.1.1.1.1.1.1.1.1.1.1.1.1.1.1.1.1.1.1.1.1.1.1.1.1.1.1.1.1.1.1.1.1.2
  have e_ix_InvalidRanking_InvalidCommand : isxB K (.ref (He.ga K "InvalidRanking")) (He.ga K "InvalidCommand") false = true := by
    have h := c.x.more
    simp only [ex, Bool.and_eq_true] at h
    exact h.1.1.1.1.1.1.1.1.1.1.1.1.1.1.1.1.1.1.1.1.1.1.1.1.1.1.1.1.1.1.1.1.1.1.1.1.1.1.1.1.1.1.1.1.1.1.1.1.1.1.1.1.1.1.1.1.1.1.1.1.1.1.1.1.1.1.1.1.1.1.1.1.1.1.1.1.1.1.1.1.1.1.1.1.1.1.1.1.1.1.1.1.1.1.1.1.1.1.1.1.1.1.1.1.1.1.1.1.1.1.1.1.1.1.1.1.1.1.1.1.1.1.1.1.1.1.1.1.1.1.1.1.1.1.1.1.1.1.1.1.1.1.1.1.1.1.1.1.1.2
  have e_ix_InvalidSet_InvalidCommand : isxB K (.ref (He.ga K "InvalidSet")) (He.ga K "InvalidCommand") false = true := by
    have h := c.x.more
    simp only [ex, Bool.and_eq_true] at h
    exact h.1.1.1.1.1.1.1.1.1.1.1.1.1.1.1.1.1.1.1.1.1.1.1.1.1.1.1.1.1.1.1.1.1.1.1.1.1.1.1.1.1.1.1.1.1.1.1.1.1.1.1.1.1.1.1.1.1.1.1.1.1.1.1.1.1.1.1.1.1.1.1.1.1.1.1.1.1.1.1.1.1.1.1.1.1.1.1.1.1.1.1.1.1.1.1.1.1.1.1.1.1.1.1.1.1.1.1.1.1.1.1.1.1.1.1.1.1.1.1.1.1.1.1.1.1.1.1.1.1.1.1.1.1.1.1.1.1.1.1.1.1.1.1.1.1.1.1.1.2
  have e_ix_InvalidText_InvalidCommand : isxB K (.ref (He.ga K "InvalidText")) (He.ga K "InvalidCommand") false = true := by
    have h := c.x.more
    simp only [ex, Bool.and_eq_true] at h
    exact h.1.1.1.1.1.1.1.1.1.1.1.1.1.1.1.1.1.1.1.1.1.1.1.1.1.1.1.1.1.1.1.1.1.1.1.1.1.1.1.1.1.1.1.1.1.1.1.1.1.1.1.1.1.1.1.1.1.1.1.1.1.1.1.1.1.1.1.1.1.1.1.1.1.1.1.1.1.1.1.1.1.1.1.1.1.1.1.1.1.1.1.1.1.1.1.1.1.1.1.1.1.1.1.1.1.1.1.1.1.1.1.1.1.1.1.1.1.1.1.1.1.1.1.1.1.1.1.1.1.1.1.1.1.1.1.1.1.1.1.1.1.1.1.1.1.1.1.2
  have e_ix_InvalidTurns_InvalidCommand : isxB K (.ref (He.ga K "InvalidTurns")) (He.ga K "InvalidCommand") false = true := by
    have h := c.x.more
    simp only [ex, Bool.and_eq_true] at h
    exact h.1.1.1.1.1.1.1.1.1.1.1.1.1.1.1.1.1.1.1.1.1.1.1.1.1.1.1.1.1.1.1.1.1.1.1.1.1.1.1.1.1.1.1.1.1.1.1.1.1.1.1.1.1.1.1.1.1.1.1.1.1.1.1.1.1.1.1.1.1.1.1.1.1.1.1.1.1.1.1.1.1.1.1.1.1.1.1.1.1.1.1.1.1.1.1.1.1.1.1.1.1.1.1.1.1.1.1.1.1.1.1.1.1.1.1.1.1.1.1.1.1.1.1.1.1.1.1.1.1.1.1.1.1.1.1.1.1.1.1.1.1.1.1.1.1.1.2
  have e_ix_LimitExceeded_InvalidCommand : isxB K (.ref (He.ga K "LimitExceeded")) (He.ga K "InvalidCommand") false = true := by
    have h := c.x.more
    simp only [ex, Bool.and_eq_true] at h
    exact h.1.1.1.1.1.1.1.1.1.1.1.1.1.1.1.1.1.1.1.1.1.1.1.1.1.1.1.1.1.1.1.1.1.1.1.1.1.1.1.1.1.1.1.1.1.1.1.1.1.1.1.1.1.1.1.1.1.1.1.1.1.1.1.1.1.1.1.1.1.1.1.1.1.1.1.1.1.1.1.1.1.1.1.1.1.1.1.1.1.1.1.1.1.1.1.1.1.1.1.1.1.1.1.1.1.1.1.1.1.1.1.1.1.1.1.1.1.1.1.1.1.1.1.1.1.1.1.1.1.1.1.1.1.1.1.1.1.1.1.1.1.1.1.1.1.2
  have e_ix_NoTurn_InvalidCommand : isxB K (.ref (He.ga K "NoTurn")) (He.ga K "InvalidCommand") false = true := by
    have h := c.x.more
    simp only [ex, Bool.and_eq_true] at h
    exact h.1.1.1.1.1.1.1.1.1.1.1.1.1.1.1.1.1.1.1.1.1.1.1.1.1.1.1.1.1.1.1.1.1.1.1.1.1.1.1.1.1.1.1.1.1.1.1.1.1.1.1.1.1.1.1.1.1.1.1.1.1.1.1.1.1.1.1.1.1.1.1.1.1.1.1.1.1.1.1.1.1.1.1.1.1.1.1.1.1.1.1.1.1.1.1.1.1.1.1.1.1.1.1.1.1.1.1.1.1.1.1.1.1.1.1.1.1.1.1.1.1.1.1.1.1.1.1.1.1.1.1.1.1.1.1.1.1.1.1.1.1.1.1.1.2
  have e_ix_UnknownItem_InvalidCommand : isxB K (.ref (He.ga K "UnknownItem")) (He.ga K "InvalidCommand") false = true := by
    have h := c.x.more
    simp only [ex, Bool.and_eq_true] at h
    exact h.1.1.1.1.1.1.1.1.1.1.1.1.1.1.1.1.1.1.1.1.1.1.1.1.1.1.1.1.1.1.1.1.1.1.1.1.1.1.1.1.1.1.1.1.1.1.1.1.1.1.1.1.1.1.1.1.1.1.1.1.1.1.1.1.1.1.1.1.1.1.1.1.1.1.1.1.1.1.1.1.1.1.1.1.1.1.1.1.1.1.1.1.1.1.1.1.1.1.1.1.1.1.1.1.1.1.1.1.1.1.1.1.1.1.1.1.1.1.1.1.1.1.1.1.1.1.1.1.1.1.1.1.1.1.1.1.1.1.1.1.1.1.1.2
  have e_i0_InvalidFact : isxB K (.type "NoneType") (He.ga K "InvalidFact") false = true := by
    have h := c.x.more
    simp only [ex, Bool.and_eq_true] at h
    exact h.1.1.1.1.1.1.1.1.1.1.1.1.1.1.1.1.1.1.1.1.1.1.1.1.1.1.1.1.1.1.1.1.1.1.1.1.1.1.1.1.1.1.1.1.1.1.1.1.1.1.1.1.1.1.1.1.1.1.1.1.1.1.1.1.1.1.1.1.1.1.1.1.1.1.1.1.1.1.1.1.1.1.1.1.1.1.1.1.1.1.1.1.1.1.1.1.1.1.1.1.1.1.1.1.1.1.1.1.1.1.1.1.1.1.1.1.1.1.1.1.1.1.1.1.1.1.1.1.1.1.1.1.1.1.1.1.1.1.1.1.1.1.2
  have e_ix_Contradiction_InvalidFact : isxB K (.ref (He.ga K "Contradiction")) (He.ga K "InvalidFact") false = true := by
    have h := c.x.more
    simp only [ex, Bool.and_eq_true] at h
    exact h.1.1.1.1.1.1.1.1.1.1.1.1.1.1.1.1.1.1.1.1.1.1.1.1.1.1.1.1.1.1.1.1.1.1.1.1.1.1.1.1.1.1.1.1.1.1.1.1.1.1.1.1.1.1.1.1.1.1.1.1.1.1.1.1.1.1.1.1.1.1.1.1.1.1.1.1.1.1.1.1.1.1.1.1.1.1.1.1.1.1.1.1.1.1.1.1.1.1.1.1.1.1.1.1.1.1.1.1.1.1.1.1.1.1.1.1.1.1.1.1.1.1.1.1.1.1.1.1.1.1.1.1.1.1.1.1.1.1.1.1.1.2
  have e_ix_InvalidCommand_InvalidFact : isxB K (.ref (He.ga K "InvalidCommand")) (He.ga K "InvalidFact") false = true := by
    have h := c.x.more
    simp only [ex, Bool.and_eq_true] at h
    exact h.1.1.1.1.1.1.1.1.1.1.1.1.1.1.1.1.1.1.1.1.1.1.1.1.1.1.1.1.1.1.1.1.1.1.1.1.1.1.1.1.1.1.1.1.1.1.1.1.1.1.1.1.1.1.1.1.1.1.1.1.1.1.1.1.1.1.1.1.1.1.1.1.1.1.1.1.1.1.1.1.1.1.1.1.1.1.1.1.1.1.1.1.1.1.1.1.1.1.1.1.1.1.1.1.1.1.1.1.1.1.1.1.1.1.1.1.1.1.1.1.1.1.1.1.1.1.1.1.1.1.1.1.1.1.1.1.1.1.1.1.2
  have e_ix_InvalidFact_InvalidFact : isxB K (.ref (He.ga K "InvalidFact")) (He.ga K "InvalidFact") true = true := by
    have h := c.x.more
    simp only [ex, Bool.and_eq_true] at h
    exact h.1.1.1.1.1.1.1.1.1.1.1.1.1.1.1.1.1.1.1.1.1.1.1.1.1.1.1.1.1.1.1.1.1.1.1.1.1.1.1.1.1.1.1.1.1.1.1.1.1.1.1.1.1.1.1.1.1.1.1.1.1.1.1.1.1.1.1.1.1.1.1.1.1.1.1.1.1.1.1.1.1.1.1.1.1.1.1.1.1.1.1.1.1.1.1.1.1.1.1.1.1.1.1.1.1.1.1.1.1.1.1.1.1.1.1.1.1.1.1.1.1.1.1.1.1.1.1.1.1.1.1.1.1.1.1.1.1.1.1.2
  have e_ix_InvalidItem_InvalidFact : isxB K (.ref (He.ga K "InvalidItem")) (He.ga K "InvalidFact") false = true := by
    have h := c.x.more
    simp only [ex, Bool.and_eq_true] at h
    exact h.1.1.1.1.1.1.1.1.1.1.1.1.1.1.1.1.1.1.1.1.1.1.1.1.1.1.1.1.1.1.1.1.1.1.1.1.1.1.1.1.1.1.1.1.1.1.1.1.1.1.1.1.1.1.1.1.1.1.1.1.1.1.1.1.1.1.1.1.1.1.1.1.1.1.1.1.1.1.1.1.1.1.1.1.1.1.1.1.1.1.1.1.1.1.1.1.1.1.1.1.1.1.1.1.1.1.1.1.1.1.1.1.1.1.1.1.1.1.1.1.1.1.1.1.1.1.1.1.1.1.1.1.1.1.1.1.1.1.2
  have e_ix_InvalidNumber_InvalidFact : isxB K (.ref (He.ga K "InvalidNumber")) (He.ga K "InvalidFact") false = true := by
    have h := c.x.more
    simp only [ex, Bool.and_eq_true] at h
    exact h.1.1.1.1.1.1.1.1.1.1.1.1.1.1.1.1.1.1.1.1.1.1.1.1.1.1.1.1.1.1.1.1.1.1.1.1.1.1.1.1.1.1.1.1.1.1.1.1.1.1.1.1.1.1.1.1.1.1.1.1.1.1.1.1.1.1.1.1.1.1.1.1.1.1.1.1.1.1.1.1.1.1.1.1.1.1.1.1.1.1.1.1.1.1.1.1.1.1.1.1.1.1.1.1.1.1.1.1.1.1.1.1.1.1.1.1.1.1.1.1.1.1.1.1.1.1.1.1.1.1.1.1.1.1.1.1.1.2
  have e_ix_InvalidRanking_InvalidFact : isxB K (.ref (He.ga K "InvalidRanking")) (He.ga K "InvalidFact") false = true := by
    have h := c.x.more
    simp only [ex, Bool.and_eq_true] at h
    exact h.1.1.1.1.1.1.1.1.1.1.1.1.1.1.1.1.1.1.1.1.1.1.1.1.1.1.1.1.1.1.1.1.1.1.1.1.1.1.1.1.1.1.1.1.1.1.1.1.1.1.1.1.1.1.1.1.1.1.1.1.1.1.1.1.1.1.1.1.1.1.1.1.1.1.1.1.1.1.1.1.1.1.1.1.1.1.1.1.1.1.1.1.1.1.1.1.1.1.1.1.1.1.1.1.1.1.1.1.1.1.1.1.1.1.1.1.1.1.1.1.1.1.1.1.1.1.1.1.1.1.1.1.1.1.1.1.2
  have e_ix_InvalidSet_InvalidFact : isxB K (.ref (He.ga K "InvalidSet")) (He.ga K "InvalidFact") false = true := by
    have h := c.x.more
    simp only [ex, Bool.and_eq_true] at h
    exact h.1.1.1.1.1.1.1.1.1.1.1.1.1.1.1.1.1.1.1.1.1.1.1.1.1.1.1.1.1.1.1.1.1.1.1.1.1.1.1.1.1.1.1.1.1.1.1.1.1.1.1.1.1.1.1.1.1.1.1.1.1.1.1.1.1.1.1.1.1.1.1.1.1.1.1.1.1.1.1.1.1.1.1.1.1.1.1.1.1.1.1.1.1.1.1.1.1.1.1.1.1.1.1.1.1.1.1.1.1.1.1.1.1.1.1.1.1.1.1.1.1.1.1.1.1.1.1.1.1.1.1.1.1.1.1.2
  have e_ix_InvalidText_InvalidFact : isxB K (.ref (He.ga K "InvalidText")) (He.ga K "InvalidFact") false = true := by
    have h := c.x.more
    simp only [ex, Bool.and_eq_true] at h
    exact h.1.1.1.1.1.1.1.1.1.1.1.1.1.1.1.1.1.1.1.1.1.1.1.1.1.1.1.1.1.1.1.1.1.1.1.1.1.1.1.1.1.1.1.1.1.1.1.1.1.1.1.1.1.1.1.1.1.1.1.1.1.1.1.1.1.1.1.1.1.1.1.1.1.1.1.1.1.1.1.1.1.1.1.1.1.1.1.1.1.1.1.1.1.1.1.1.1.1.1.1.1.1.1.1.1.1.1.1.1.1.1.1.1.1.1.1.1.1.1.1.1.1.1.1.1.1.1.1.1.1.1.1.1.1.2
  have e_ix_InvalidTurns_InvalidFact : isxB K (.ref (He.ga K "InvalidTurns")) (He.ga K "InvalidFact") false = true := by
    have h := c.x.more
    simp only [ex, Bool.and_eq_true] at h
    exact h.1.1.1.1.1.1.1.1.1.1.1.1.1.1.1.1.1.1.1.1.1.1.1.1.1.1.1.1.1.1.1.1.1.1.1.1.1.1.1.1.1.1.1.1.1.1.1.1.1.1.1.1.1.1.1.1.1.1.1.1.1.1.1.1.1.1.1.1.1.1.1.1.1.1.1.1.1.1.1.1.1.1.1.1.1.1.1.1.1.1.1.1.1.1.1.1.1.1.1.1.1.1.1.1.1.1.1.1.1.1.1.1.1.1.1.1.1.1.1.1.1.1.1.1.1.1.1.1.1.1.1.1.1.2
  have e_ix_LimitExceeded_InvalidFact : isxB K (.ref (He.ga K "LimitExceeded")) (He.ga K "InvalidFact") false = true := by
    have h := c.x.more
    simp only [ex, Bool.and_eq_true] at h
    exact h.1.1.1.1.1.1.1.1.1.1.1.1.1.1.1.1.1.1.1.1.1.1.1.1.1.1.1.1.1.1.1.1.1.1.1.1.1.1.1.1.1.1.1.1.1.1.1.1.1.1.1.1.1.1.1.1.1.1.1.1.1.1.1.1.1.1.1.1.1.1.1.1.1.1.1.1.1.1.1.1.1.1.1.1.1.1.1.1.1.1.1.1.1.1.1.1.1.1.1.1.1.1.1.1.1.1.1.1.1.1.1.1.1.1.1.1.1.1.1.1.1.1.1.1.1.1.1.1.1.1.1.1.2
  have e_ix_NoTurn_InvalidFact : isxB K (.ref (He.ga K "NoTurn")) (He.ga K "InvalidFact") false = true := by
    have h := c.x.more
    simp only [ex, Bool.and_eq_true] at h
    exact h.1.1.1.1.1.1.1.1.1.1.1.1.1.1.1.1.1.1.1.1.1.1.1.1.1.1.1.1.1.1.1.1.1.1.1.1.1.1.1.1.1.1.1.1.1.1.1.1.1.1.1.1.1.1.1.1.1.1.1.1.1.1.1.1.1.1.1.1.1.1.1.1.1.1.1.1.1.1.1.1.1.1.1.1.1.1.1.1.1.1.1.1.1.1.1.1.1.1.1.1.1.1.1.1.1.1.1.1.1.1.1.1.1.1.1.1.1.1.1.1.1.1.1.1.1.1.1.1.1.1.1.2
  have e_ix_UnknownItem_InvalidFact : isxB K (.ref (He.ga K "UnknownItem")) (He.ga K "InvalidFact") false = true := by
    have h := c.x.more
    simp only [ex, Bool.and_eq_true] at h
    exact h.1.1.1.1.1.1.1.1.1.1.1.1.1.1.1.1.1.1.1.1.1.1.1.1.1.1.1.1.1.1.1.1.1.1.1.1.1.1.1.1.1.1.1.1.1.1.1.1.1.1.1.1.1.1.1.1.1.1.1.1.1.1.1.1.1.1.1.1.1.1.1.1.1.1.1.1.1.1.1.1.1.1.1.1.1.1.1.1.1.1.1.1.1.1.1.1.1.1.1.1.1.1.1.1.1.1.1.1.1.1.1.1.1.1.1.1.1.1.1.1.1.1.1.1.1.1.1.1.1.1.2
  have e_i0_InvalidItem : isxB K (.type "NoneType") (He.ga K "InvalidItem") false = true := by
    have h := c.x.more
    simp only [ex, Bool.and_eq_true] at h
    exact h.1.1.1.1.1.1.1.1.1.1.1.1.1.1.1.1.1.1.1.1.1.1.1.1.1.1.1.1.1.1.1.1.1.1.1.1.1.1.1.1.1.1.1.1.1.1.1.1.1.1.1.1.1.1.1.1.1.1.1.1.1.1.1.1.1.1.1.1.1.1.1.1.1.1.1.1.1.1.1.1.1.1.1.1.1.1.1.1.1.1.1.1.1.1.1.1.1.1.1.1.1.1.1.1.1.1.1.1.1.1.1.1.1.1.1.1.1.1.1.1.1.1.1.1.1.1.1.1.1.2
  have e_ix_Contradiction_InvalidItem : isxB K (.ref (He.ga K "Contradiction")) (He.ga K "InvalidItem") false = true := by
    have h := c.x.more
    simp only [ex, Bool.and_eq_true] at h
    exact h.1.1.1.1.1.1.1.1.1.1.1.1.1.1.1.1.1.1.1.1.1.1.1.1.1.1.1.1.1.1.1.1.1.1.1.1.1.1.1.1.1.1.1.1.1.1.1.1.1.1.1.1.1.1.1.1.1.1.1.1.1.1.1.1.1.1.1.1.1.1.1.1.1.1.1.1.1.1.1.1.1.1.1.1.1.1.1.1.1.1.1.1.1.1.1.1.1.1.1.1.1.1.1.1.1.1.1.1.1.1.1.1.1.1.1.1.1.1.1.1.1.1.1.1.1.1.1.1.2
  have e_ix_InvalidCommand_InvalidItem : isxB K (.ref (He.ga K "InvalidCommand")) (He.ga K "InvalidItem") false = true := by
    have h := c.x.more
    simp only [ex, Bool.and_eq_true] at h
    exact h.1.1.1.1.1.1.1.1.1.1.1.1.1.1.1.1.1.1.1.1.1.1.1.1.1.1.1.1.1.1.1.1.1.1.1.1.1.1.1.1.1.1.1.1.1.1.1.1.1.1.1.1.1.1.1.1.1.1.1.1.1.1.1.1.1.1.1.1.1.1.1.1.1.1.1.1.1.1.1.1.1.1.1.1.1.1.1.1.1.1.1.1.1.1.1.1.1.1.1.1.1.1.1.1.1.1.1.1.1.1.1.1.1.1.1.1.1.1.1.1.1.1.1.1.1.1.1.2
  have e_ix_InvalidFact_InvalidItem : isxB K (.ref (He.ga K "InvalidFact")) (He.ga K "InvalidItem") false = true := by
    have h := c.x.more
    simp only [ex, Bool.and_eq_true] at h
    exact h.1.1.1.1.1.1.1.1.1.1.1.1.1.1.1.1.1.1.1.1.1.1.1.1.1.1.1.1.1.1.1.1.1.1.1.1.1.1.1.1.1.1.1.1.1.1.1.1.1.1.1.1.1.1.1.1.1.1.1.1.1.1.1.1.1.1.1.1.1.1.1.1.1.1.1.1.1.1.1.1.1.1.1.1.1.1.1.1.1.1.1.1.1.1.1.1.1.1.1.1.1.1.1.1.1.1.1.1.1.1.1.1.1.1.1.1.1.1.1.1.1.1.1.1.1.1.2
  have e_ix_InvalidItem_InvalidItem : isxB K (.ref (He.ga K "InvalidItem")) (He.ga K "InvalidItem") true = true := by
    have h := c.x.more
    simp only [ex, Bool.and_eq_true] at h
    exact h.1.1.1.1.1.1.1.1.1.1.1.1.1.1.1.1.1.1.1.1.1.1.1.1.1.1.1.1.1.1.1.1.1.1.1.1.1.1.1.1.1.1.1.1.1.1.1.1.1.1.1.1.1.1.1.1.1.1.1.1.1.1.1.1.1.1.1.1.1.1.1.1.1.1.1.1.1.1.1.1.1.1.1.1.1.1.1.1.1.1.1.1.1.1.1.1.1.1.1.1.1.1.1.1.1.1.1.1.1.1.1.1.1.1.1.1.1.1.1.1.1.1.1.1.1.2
  have e_ix_InvalidNumber_InvalidItem : isxB K (.ref (He.ga K "InvalidNumber")) (He.ga K "InvalidItem") false = true := by
    have h := c.x.more
    simp only [ex, Bool.and_eq_true] at h
    exact h.1.1.1.1.1.1.1.1.1.1.1.1.1.1.1.1.1.1.1.1.1.1.1.1.1.1.1.1.1.1.1.1.1.1.1.1.1.1.1.1.1.1.1.1.1.1.1.1.1.1.1.1.1.1.1.1.1.1.1.1.1.1.1.1.1.1.1.1.1.1.1.1.1.1.1.1.1.1.1.1.1.1.1.1.1.1.1.1.1.1.1.1.1.1.1.1.1.1.1.1.1.1.1.1.1.1.1.1.1.1.1.1.1.1.1.1.1.1.1.1.1.1.1.1.2
  have e_ix_InvalidRanking_InvalidItem : isxB K (.ref (He.ga K "InvalidRanking")) (He.ga K "InvalidItem") false = true := by
    have h := c.x.more
    simp only [ex, Bool.and_eq_true] at h
    exact h.1.1.1.1.1.1.1.1.1.1.1.1.1.1.1.1.1.1.1.1.1.1.1.1.1.1.1.1.1.1.1.1.1.1.1.1.1.1.1.1.1.1.1.1.1.1.1.1.1.1.1.1.1.1.1.1.1.1.1.1.1.1.1.1.1.1.1.1.1.1.1.1.1.1.1.1.1.1.1.1.1.1.1.1.1.1.1.1.1.1.1.1.1.1.1.1.1.1.1.1.1.1.1.1.1.1.1.1.1.1.1.1.1.1.1.1.1.1.1.1.1.1.1.2
  have e_ix_InvalidSet_InvalidItem : isxB K (.ref (He.ga K "InvalidSet")) (He.ga K "InvalidItem") false = true := by
    have h := c.x.more
    simp only [ex, Bool.and_eq_true] at h
    exact h.1.1.1.1.1.1.1.1.1.1.1.1.1.1.1.1.1.1.1.1.1.1.1.1.1.1.1.1.1.1.1.1.1.1.1.1.1.1.1.1.1.1.1.1.1.1.1.1.1.1.1.1.1.1.1.1.1.1.1.1.1.1.1.1.1.1.1.1.1.1.1.1.1.1.1.1.1.1.1.1.1.1.1.1.1.1.1.1.1.1.1.1.1.1.1.1.1.1.1.1.1.1.1.1.1.1.1.1.1.1.1.1.1.1.1.1.1.1.1.1.1.1.2
  have e_ix_InvalidText_InvalidItem : isxB K (.ref (He.ga K "InvalidText")) (He.ga K "InvalidItem") false = true := by
    have h := c.x.more
    simp only [ex, Bool.and_eq_true] at h
    exact h.1.1.1.1.1.1.1.1.1.1.1.1.1.1.1.1.1.1.1.1.1.1.1.1.1.1.1.1.1.1.1.1.1.1.1.1.1.1.1.1.1.1.1.1.1.1.1.1.1.1.1.1.1.1.1.1.1.1.1.1.1.1.1.1.1.1.1.1.1.1.1.1.1.1.1.1.1.1.1.1.1.1.1.1.1.1.1.1.1.1.1.1.1.1.1.1.1.1.1.1.1.1.1.1.1.1.1.1.1.1.1.1.1.1.1.1.1.1.1.1.1.2
  have e_ix_InvalidTurns_InvalidItem : isxB K (.ref (He.ga K "InvalidTurns")) (He.ga K "InvalidItem") false = true := by
    have h := c.x.more
    simp only [ex, Bool.and_eq_true] at h
    exact h.1.1.1.1.1.1.1.1.1.1.1.1.1.1.1.1.1.1.1.1.1.1.1.1.1.1.1.1.1.1.1.1.1.1.1.1.1.1.1.1.1.1.1.1.1.1.1.1.1.1.1.1.1.1.1.1.1.1.1.1.1.1.1.1.1.1.1.1.1.1.1.1.1.1.1.1.1.1.1.1.1.1.1.1.1.1.1.1.1.1.1.1.1.1.1.1.1.1.1.1.1.1.1.1.1.1.1.1.1.1.1.1.1.1.1.1.1.1.1.1.2
  have e_ix_LimitExceeded_InvalidItem : isxB K (.ref (He.ga K "LimitExceeded")) (He.ga K "InvalidItem") false = true := by
    have h := c.x.more
    simp only [ex, Bool.and_eq_true] at h
    exact h.1.1.1.1.1.1.1.1.1.1.1.1.1.1.1.1.1.1.1.1.1.1.1.1.1.1.1.1.1.1.1.1.1.1.1.1.1.1.1.1.1.1.1.1.1.1.1.1.1.1.1.1.1.1.1.1.1.1.1.1.1.1.1.1.1.1.1.1.1.1.1.1.1.1.1.1.1.1.1.1.1.1.1.1.1.1.1.1.1.1.1.1.1.1.1.1.1.1.1.1.1.1.1.1.1.1.1.1.1.1.1.1.1.1.1.1.1.1.1.2
  have e_ix_NoTurn_InvalidItem : isxB K (.ref (He.ga K "NoTurn")) (He.ga K "InvalidItem") false = true := by
    have h := c.x.more
    simp only [ex, Bool.and_eq_true] at h
    exact h.1.1.1.1.1.1.1.1.1.1.1.1.1.1.1.1.1.1.1.1.1.1.1.1.1.1.1.1.1.1.1.1.1.1.1.1.1.1.1.1.1.1.1.1.1.1.1.1.1.1.1.1.1.1.1.1.1.1.1.1.1.1.1.1.1.1.1.1.1.1.1.1.1.1.1.1.1.1.1.1.1.1.1.1.1.1.1.1.1.1.1.1.1.1.1.1.1.1.1.1.1.1.1.1.1.1.1.1.1.1.1.1.1.1.1.1.1.1.2
  have e_ix_UnknownItem_InvalidItem : isxB K (.ref (He.ga K "UnknownItem")) (He.ga K "InvalidItem") false = true := by
    have h := c.x.more
    simp only [ex, Bool.and_eq_true] at h
    exact h.1.1.1.1.1.1.1.1.1.1.1.1.1.1.1.1.1.1.1.1.1.1.1.1.1.1.1.1.1.1.1.1.1.1.1.1.1.1.1.1.1.1.1.1.1.1.1.1.1.1.1.1.1.1.1.1.1.1.1.1.1.1.1.1.1.1.1.1.1.1.1.1.1.1.1.1.1.1.1.1.1.1.1.1.1.1.1.1.1.1.1.1.1.1.1.1.1.1.1.1.1.1.1.1.1.1.1.1.1.1.1.1.1.1.1.1.1.2
  have e_i0_InvalidNumber : isxB K (.type "NoneType") (He.ga K "InvalidNumber") false = true := by
    have h := c.x.more
    simp only [ex, Bool.and_eq_true] at h
    exact h.1.1.1.1.1.1.1.1.1.1.1.1.1.1.1.1.1.1.1.1.1.1.1.1.1.1.1.1.1.1.1.1.1.1.1.1.1.1.1.1.1.1.1.1.1.1.1.1.1.1.1.1.1.1.1.1.1.1.1.1.1.1.1.1.1.1.1.1.1.1.1.1.1.1.1.1.1.1.1.1.1.1.1.1.1.1.1.1.1.1.1.1.1.1.1.1.1.1.1.1.1.1.1.1.1.1.1.1.1.1.1.1.1.1.1.1.2
  have e_ix_Contradiction_InvalidNumber : isxB K (.ref (He.ga K "Contradiction")) (He.ga K "InvalidNumber") false = true := by
    have h := c.x.more
    simp only [ex, Bool.and_eq_true] at h
    exact h.1.1.1.1.1.1.1.1.1.1.1.1.1.1.1.1.1.1.1.1.1.1.1.1.1.1.1.1.1.1.1.1.1.1.1.1.1.1.1.1.1.1.1.1.1.1.1.1.1.1.1.1.1.1.1.1.1.1.1.1.1.1.1.1.1.1.1.1.1.1.1.1.1.1.1.1.1.1.1.1.1.1.1.1.1.1.1.1.1.1.1.1.1.1.1.1.1.1.1.1.1.1.1.1.1.1.1.1.1.1.1.1.1.1.1.2
  have e_ix_InvalidCommand_InvalidNumber : isxB K (.ref (He.ga K "InvalidCommand")) (He.ga K "InvalidNumber") false = true := by
    have h := c.x.more
    simp only [ex, Bool.and_eq_true] at h
    exact h.1.1.1.1.1.1.1.1.1.1.1.1.1.1.1.1.1.1.1.1.1.1.1.1.1.1.1.1.1.1.1.1.1.1.1.1.1.1.1.1.1.1.1.1.1.1.1.1.1.1.1.1.1.1.1.1.1.1.1.1.1.1.1.1.1.1.1.1.1.1.1.1.1.1.1.1.1.1.1.1.1.1.1.1.1.1.1.1.1.1.1.1.1.1.1.1.1.1.1.1.1.1.1.1.1.1.1.1.1.1.1.1.1.1.2
  have e_ix_InvalidFact_InvalidNumber : isxB K (.ref (He.ga K "InvalidFact")) (He.ga K "InvalidNumber") false = true := by
    have h := c.x.more
    simp only [ex, Bool.and_eq_true] at h
    exact h.1.1.1.1.1.1.1.1.1.1.1.1.1.1.1.1.1.1.1.1.1.1.1.1.1.1.1.1.1.1.1.1.1.1.1.1.1.1.1.1.1.1.1.1.1.1.1.1.1.1.1.1.1.1.1.1.1.1.1.1.1.1.1.1.1.1.1.1.1.1.1.1.1.1.1.1.1.1.1.1.1.1.1.1.1.1.1.1.1.1.1.1.1.1.1.1.1.1.1.1.1.1.1.1.1.1.1.1.1.1.1.1.1.2
  have e_ix_InvalidItem_InvalidNumber : isxB K (.ref (He.ga K "InvalidItem")) (He.ga K "InvalidNumber") false = true := by
    have h := c.x.more
    simp only [ex, Bool.and_eq_true] at h
    exact h.1.1.1.1.1.1.1.1.1.1.1.1.1.1.1.1.1.1.1.1.1.1.1.1.1.1.1.1.1.1.1.1.1.1.1.1.1.1.1.1.1.1.1.1.1.1.1.1.1.1.1.1.1.1.1.1.1.1.1.1.1.1.1.1.1.1.1.1.1.1.1.1.1.1.1.1.1.1.1.1.1.1.1.1.1.1.1.1.1.1.1.1.1.1.1.1.1.1.1.1.1.1.1.1.1.1.1.1.1.1.1.1.2
  have e_ix_InvalidNumber_InvalidNumber : isxB K (.ref (He.ga K "InvalidNumber")) (He.ga K "InvalidNumber") true = true := by
    have h := c.x.more
    simp only [ex, Bool.and_eq_true] at h
    exact h.1.1.1.1.1.1.1.1.1.1.1.1.1.1.1.1.1.1.1.1.1.1.1.1.1.1.1.1.1.1.1.1.1.1.1.1.1.1.1.1.1.1.1.1.1.1.1.1.1.1.1.1.1.1.1.1.1.1.1.1.1.1.1.1.1.1.1.1.1.1.1.1.1.1.1.1.1.1.1.1.1.1.1.1.1.1.1.1.1.1.1.1.1.1.1.1.1.1.1.1.1.1.1.1.1.1.1.1.1.1.1.2
  have e_ix_InvalidRanking_InvalidNumber : isxB K (.ref (He.ga K "InvalidRanking")) (He.ga K "InvalidNumber") false = true := by
    have h := c.x.more
    simp only [ex, Bool.and_eq_true] at h
    exact h.1.1.1.1.1.1.1.1.1.1.1.1.1.1.1.1.1.1.1.1.1.1.1.1.1.1.1.1.1.1.1.1.1.1.1.1.1.1.1.1.1.1.1.1.1.1.1.1.1.1.1.1.1.1.1.1.1.1.1.1.1.1.1.1.1.1.1.1.1.1.1.1.1.1.1.1.1.1.1.1.1.1.1.1.1.1.1.1.1.1.1.1.1.1.1.1.1.1.1.1.1.1.1.1.1.1.1.1.1.1.2
  have e_ix_InvalidSet_InvalidNumber : isxB K (.ref (He.ga K "InvalidSet")) (He.ga K "InvalidNumber") false = true := by
    have h := c.x.more
    simp only [ex, Bool.and_eq_true] at h
    exact h.1.1.1.1.1.1.1.1.1.1.1.1.1.1.1.1.1.1.1.1.1.1.1.1.1.1.1.1.1.1.1.1.1.1.1.1.1.1.1.1.1.1.1.1.1.1.1.1.1.1.1.1.1.1.1.1.1.1.1.1.1.1.1.1.1.1.1.1.1.1.1.1.1.1.1.1.1.1.1.1.1.1.1.1.1.1.1.1.1.1.1.1.1.1.1.1.1.1.1.1.1.1.1.1.1.1.1.1.1.2
  have e_ix_InvalidText_InvalidNumber : isxB K (.ref (He.ga K "InvalidText")) (He.ga K "InvalidNumber") false = true := by
    have h := c.x.more
    simp only [ex, Bool.and_eq_true] at h
    exact h.1.1.1.1.1.1.1.1.1.1.1.1.1.1.1.1.1.1.1.1.1.1.1.1.1.1.1.1.1.1.1.1.1.1.1.1.1.1.1.1.1.1.1.1.1.1.1.1.1.1.1.1.1.1.1.1.1.1.1.1.1.1.1.1.1.1.1.1.1.1.1.1.1.1.1.1.1.1.1.1.1.1.1.1.1.1.1.1.1.1.1.1.1.1.1.1.1.1.1.1.1.1.1.1.1.1.1.1.2
  have e_ix_InvalidTurns_InvalidNumber : isxB K (.ref (He.ga K "InvalidTurns")) (He.ga K "InvalidNumber") false = true := by
    have h := c.x.more
    simp only [ex, Bool.and_eq_true] at h
    exact h.1.1.1.1.1.1.1.1.1.1.1.1.1.1.1.1.1.1.1.1.1.1.1.1.1.1.1.1.1.1.1.1.1.1.1.1.1.1.1.1.1.1.1.1.1.1.1.1.1.1.1.1.1.1.1.1.1.1.1.1.1.1.1.1.1.1.1.1.1.1.1.1.1.1.1.1.1.1.1.1.1.1.1.1.1.1.1.1.1.1.1.1.1.1.1.1.1.1.1.1.1.1.1.1.1.1.1.2
  have e_ix_LimitExceeded_InvalidNumber : isxB K (.ref (He.ga K "LimitExceeded")) (He.ga K "InvalidNumber") false = true := by
    have h := c.x.more
    simp only [ex, Bool.and_eq_true] at h
    exact h.1.1.1.1.1.1.1.1.1.1.1.1.1.1.1.1.1.1.1.1.1.1.1.1.1.1.1.1.1.1.1.1.1.1.1.1.1.1.1.1.1.1.1.1.1.1.1.1.1.1.1.1.1.1.1.1.1.1.1.1.1.1.1.1.1.1.1.1.1.1.1.1.1.1.1.1.1.1.1.1.1.1.1.1.1.1.1.1.1.1.1.1.1.1.1.1.1.1.1.1.1.1.1.1.1.1.2
  have e_ix_NoTurn_InvalidNumber : isxB K (.ref (He.ga K "NoTurn")) (He.ga K "InvalidNumber") false = true := by
    have h := c.x.more
    simp only [ex, Bool.and_eq_true] at h
    exact h.1.1.1.1.1.1.1.1.1.1.1.1.1.1.1.1.1.1.1.1.1.1.1.1.1.1.1.1.1.1.1.1.1.1.1.1.1.1.1.1.1.1.1.1.1.1.1.1.1.1.1.1.1.1.1.1.1.1.1.1.1.1.1.1.1.1.1.1.1.1.1.1.1.1.1.1.1.1.1.1.1.1.1.1.1.1.1.1.1.1.1.1.1.1.1.1.1.1.1.1.1.1.1.1.1.2
  have e_ix_UnknownItem_InvalidNumber : isxB K (.ref (He.ga K "UnknownItem")) (He.ga K "InvalidNumber") false = true := by
    have h := c.x.more
    simp only [ex, Bool.and_eq_true] at h
    exact h.1.1.1.1.1.1.1.1.1.1.1.1.1.1.1.1.1.1.1.1.1.1.1.1.1.1.1.1.1.1.1.1.1.1.1.1.1.1.1.1.1.1.1.1.1.1.1.1.1.1.1.1.1.1.1.1.1.1.1.1.1.1.1.1.1.1.1.1.1.1.1.1.1.1.1.1.1.1.1.1.1.1.1.1.1.1.1.1.1.1.1.1.1.1.1.1.1.1.1.1.1.1.1.1.2
  have e_i0_InvalidRanking : isxB K (.type "NoneType") (He.ga K "InvalidRanking") false = true := by
    have h := c.x.more
    simp only [ex, Bool.and_eq_true] at h
    exact h.1.1.1.1.1.1.1.1.1.1.1.1.1.1.1.1.1.1.1.1.1.1.1.1.1.1.1.1.1.1.1.1.1.1.1.1.1.1.1.1.1.1.1.1.1.1.1.1.1.1.1.1.1.1.1.1.1.1.1.1.1.1.1.1.1.1.1.1.1.1.1.1.1.1.1.1.1.1.1.1.1.1.1.1.1.1.1.1.1.1.1.1.1.1.1.1.1.1.1.1.1.1.1.2
  have e_ix_Contradiction_InvalidRanking : isxB K (.ref (He.ga K "Contradiction")) (He.ga K "InvalidRanking") false = true := by
    have h := c.x.more
    simp only [ex, Bool.and_eq_true] at h
    exact h.1.1.1.1.1.1.1.1.1.1.1.1.1.1.1.1.1.1.1.1.1.1.1.1.1.1.1.1.1.1.1.1.1.1.1.1.1.1.1.1.1.1.1.1.1.1.1.1.1.1.1.1.1.1.1.1.1.1.1.1.1.1.1.1.1.1.1.1.1.1.1.1.1.1.1.1.1.1.1.1.1.1.1.1.1.1.1.1.1.1.1.1.1.1.1.1.1.1.1.1.1.1.2
  have e_ix_InvalidCommand_InvalidRanking : isxB K (.ref (He.ga K "InvalidCommand")) (He.ga K "InvalidRanking") false = true := by
    have h := c.x.more
    simp only [ex, Bool.and_eq_true] at h
    exact h.1.1.1.1.1.1.1.1.1.1.1.1.1.1.1.1.1.1.1.1.1.1.1.1.1.1.1.1.1.1.1.1.1.1.1.1.1.1.1.1.1.1.1.1.1.1.1.1.1.1.1.1.1.1.1.1.1.1.1.1.1.1.1.1.1.1.1.1.1.1.1.1.1.1.1.1.1.1.1.1.1.1.1.1.1.1.1.1.1.1.1.1.1.1.1.1.1.1.1.1.1.2
  have e_ix_InvalidFact_InvalidRanking : isxB K (.ref (He.ga K "InvalidFact")) (He.ga K "InvalidRanking") false = true := by
    have h := c.x.more
    simp only [ex, Bool.and_eq_true] at h
    exact h.1.1.1.1.1.1.1.1.1.1.1.1.1.1.1.1.1.1.1.1.1.1.1.1.1.1.1.1.1.1.1.1.1.1.1.1.1.1.1.1.1.1.1.1.1.1.1.1.1.1.1.1.1.1.1.1.1.1.1.1.1.1.1.1.1.1.1.1.1.1.1.1.1.1.1.1.1.1.1.1.1.1.1.1.1.1.1.1.1.1.1.1.1.1.1.1.1.1.1.1.2
  have e_ix_InvalidItem_InvalidRanking : isxB K (.ref (He.ga K "InvalidItem")) (He.ga K "InvalidRanking") false = true := by
    have h := c.x.more
    simp only [ex, Bool.and_eq_true] at h
    exact h.1.1.1.1.1.1.1.1.1.1.1.1.1.1.1.1.1.1.1.1.1.1.1.1.1.1.1.1.1.1.1.1.1.1.1.1.1.1.1.1.1.1.1.1.1.1.1.1.1.1.1.1.1.1.1.1.1.1.1.1.1.1.1.1.1.1.1.1.1.1.1.1.1.1.1.1.1.1.1.1.1.1.1.1.1.1.1.1.1.1.1.1.1.1.1.1.1.1.1.2
  have e_ix_InvalidNumber_InvalidRanking : isxB K (.ref (He.ga K "InvalidNumber")) (He.ga K "InvalidRanking") false = true := by
    have h := c.x.more
    simp only [ex, Bool.and_eq_true] at h
    exact h.1.1.1.1.1.1.1.1.1.1.1.1.1.1.1.1.1.1.1.1.1.1.1.1.1.1.1.1.1.1.1.1.1.1.1.1.1.1.1.1.1.1.1.1.1.1.1.1.1.1.1.1.1.1.1.1.1.1.1.1.1.1.1.1.1.1.1.1.1.1.1.1.1.1.1.1.1.1.1.1.1.1.1.1.1.1.1.1.1.1.1.1.1.1.1.1.1.1.2
  have e_ix_InvalidRanking_InvalidRanking : isxB K (.ref (He.ga K "InvalidRanking")) (He.ga K "InvalidRanking") true = true := by
    have h := c.x.more
    simp only [ex, Bool.and_eq_true] at h
    exact h.1.1.1.1.1.1.1.1.1.1.1.1.1.1.1.1.1.1.1.1.1.1.1.1.1.1.1.1.1.1.1.1.1.1.1.1.1.1.1.1.1.1.1.1.1.1.1.1.1.1.1.1.1.1.1.1.1.1.1.1.1.1.1.1.1.1.1.1.1.1.1.1.1.1.1.1.1.1.1.1.1.1.1.1.1.1.1.1.1.1.1.1.1.1.1.1.1.2
  have e_ix_InvalidSet_InvalidRanking : isxB K (.ref (He.ga K "InvalidSet")) (He.ga K "InvalidRanking") false = true := by
    have h := c.x.more
    simp only [ex, Bool.and_eq_true] at h
    exact h.1.1.1.1.1.1.1.1.1.1.1.1.1.1.1.1.1.1.1.1.1.1.1.1.1.1.1.1.1.1.1.1.1.1.1.1.1.1.1.1.1.1.1.1.1.1.1.1.1.1.1.1.1.1.1.1.1.1.1.1.1.1.1.1.1.1.1.1.1.1.1.1.1.1.1.1.1.1.1.1.1.1.1.1.1.1.1.1.1.1.1.1.1.1.1.1.2
  have e_ix_InvalidText_InvalidRanking : isxB K (.ref (He.ga K "InvalidText")) (He.ga K "InvalidRanking") false = true := by
    have h := c.x.more
    simp only [ex, Bool.and_eq_true] at h
    exact h.1.1.1.1.1.1.1.1.1.1.1.1.1.1.1.1.1.1.1.1.1.1.1.1.1.1.1.1.1.1.1.1.1.1.1.1.1.1.1.1.1.1.1.1.1.1.1.1.1.1.1.1.1.1.1.1.1.1.1.1.1.1.1.1.1.1.1.1.1.1.1.1.1.1.1.1.1.1.1.1.1.1.1.1.1.1.1.1.1.1.1.1.1.1.1.2
  have e_ix_InvalidTurns_InvalidRanking : isxB K (.ref (He.ga K "InvalidTurns")) (He.ga K "InvalidRanking") false = true := by
    have h := c.x.more
    simp only [ex, Bool.and_eq_true] at h
    exact h.1.1.1.1.1.1.1.1.1.1.1.1.1.1.1.1.1.1.1.1.1.1.1.1.1.1.1.1.1.1.1.1.1.1.1.1.1.1.1.1.1.1.1.1.1.1.1.1.1.1.1.1.1.1.1.1.1.1.1.1.1.1.1.1.1.1.1.1.1.1.1.1.1.1.1.1.1.1.1.1.1.1.1.1.1.1.1.1.1.1.1.1.1.1.2
  have e_ix_LimitExceeded_InvalidRanking : isxB K (.ref (He.ga K "LimitExceeded")) (He.ga K "InvalidRanking") false = true := by
    have h := c.x.more
    simp only [ex, Bool.and_eq_true] at h
    exact h.1.1.1.1.1.1.1.1.1.1.1.1.1.1.1.1.1.1.1.1.1.1.1.1.1.1.1.1.1.1.1.1.1.1.1.1.1.1.1.1.1.1.1.1.1.1.1.1.1.1.1.1.1.1.1.1.1.1.1.1.1.1.1.1.1.1.1.1.1.1.1.1.1.1.1.1.1.1.1.1.1.1.1.1.1.1.1.1.1.1.1.1.1.2
  have e_ix_NoTurn_InvalidRanking : isxB K (.ref (He.ga K "NoTurn")) (He.ga K "InvalidRanking") false = true := by
    have h := c.x.more
    simp only [ex, Bool.and_eq_true] at h
    exact h.1.1.1.1.1.1.1.1.1.1.1.1.1.1.1.1.1.1.1.1.1.1.1.1.1.1.1.1.1.1.1.1.1.1.1.1.1.1.1.1.1.1.1.1.1.1.1.1.1.1.1.1.1.1.1.1.1.1.1.1.1.1.1.1.1.1.1.1.1.1.1.1.1.1.1.1.1.1.1.1.1.1.1.1.1.1.1.1.1.1.1.1.2
  have e_ix_UnknownItem_InvalidRanking : isxB K (.ref (He.ga K "UnknownItem")) (He.ga K "InvalidRanking") false = true := by
    have h := c.x.more
    simp only [ex, Bool.and_eq_true] at h
    exact h.1.1.1.1.1.1.1.1.1.1.1.1.1.1.1.1.1.1.1.1.1.1.1.1.1.1.1.1.1.1.1.1.1.1.1.1.1.1.1.1.1.1.1.1.1.1.1.1.1.1.1.1.1.1.1.1.1.1.1.1.1.1.1.1.1.1.1.1.1.1.1.1.1.1.1.1.1.1.1.1.1.1.1.1.1.1.1.1.1.1.1.2
  have e_i0_InvalidSet : isxB K (.type "NoneType") (He.ga K "InvalidSet") false = true := by
    have h := c.x.more
    simp only [ex, Bool.and_eq_true] at h
    exact h.1.1.1.1.1.1.1.1.1.1.1.1.1.1.1.1.1.1.1.1.1.1.1.1.1.1.1.1.1.1.1.1.1.1.1.1.1.1.1.1.1.1.1.1.1.1.1.1.1.1.1.1.1.1.1.1.1.1.1.1.1.1.1.1.1.1.1.1.1.1.1.1.1.1.1.1.1.1.1.1.1.1.1.1.1.1.1.1.1.1.2
  have e_ix_Contradiction_InvalidSet : isxB K (.ref (He.ga K "Contradiction")) (He.ga K "InvalidSet") false = true := by
    have h := c.x.more
    simp only [ex, Bool.and_eq_true] at h
    exact h.1.1.1.1.1.1.1.1.1.1.1.1.1.1.1.1.1.1.1.1.1.1.1.1.1.1.1.1.1.1.1.1.1.1.1.1.1.1.1.1.1.1.1.1.1.1.1.1.1.1.1.1.1.1.1.1.1.1.1.1.1.1.1.1.1.1.1.1.1.1.1.1.1.1.1.1.1.1.1.1.1.1.1.1.1.1.1.1.1.2
  have e_ix_InvalidCommand_InvalidSet : isxB K (.ref (He.ga K "InvalidCommand")) (He.ga K "InvalidSet") false = true := by
    have h := c.x.more
    simp only [ex, Bool.and_eq_true] at h
    exact h.1.1.1.1.1.1.1.1.1.1.1.1.1.1.1.1.1.1.1.1.1.1.1.1.1.1.1.1.1.1.1.1.1.1.1.1.1.1.1.1.1.1.1.1.1.1.1.1.1.1.1.1.1.1.1.1.1.1.1.1.1.1.1.1.1.1.1.1.1.1.1.1.1.1.1.1.1.1.1.1.1.1.1.1.1.1.1.1.2
  have e_ix_InvalidFact_InvalidSet : isxB K (.ref (He.ga K "InvalidFact")) (He.ga K "InvalidSet") false = true := by
    have h := c.x.more
    simp only [ex, Bool.and_eq_true] at h
    exact h.1.1.1.1.1.1.1.1.1.1.1.1.1.1.1.1.1.1.1.1.1.1.1.1.1.1.1.1.1.1.1.1.1.1.1.1.1.1.1.1.1.1.1.1.1.1.1.1.1.1.1.1.1.1.1.1.1.1.1.1.1.1.1.1.1.1.1.1.1.1.1.1.1.1.1.1.1.1.1.1.1.1.1.1.1.1.1.2
  have e_ix_InvalidItem_InvalidSet : isxB K (.ref (He.ga K "InvalidItem")) (He.ga K "InvalidSet") false = true := by
    have h := c.x.more
    simp only [ex, Bool.and_eq_true] at h
    exact h.1.1.1.1.1.1.1.1.1.1.1.1.1.1.1.1.1.1.1.1.1.1.1.1.1.1.1.1.1.1.1.1.1.1.1.1.1.1.1.1.1.1.1.1.1.1.1.1.1.1.1.1.1.1.1.1.1.1.1.1.1.1.1.1.1.1.1.1.1.1.1.1.1.1.1.1.1.1.1.1.1.1.1.1.1.1.2
  have e_ix_InvalidNumber_InvalidSet : isxB K (.ref (He.ga K "InvalidNumber")) (He.ga K "InvalidSet") false = true := by
    have h := c.x.more
    simp only [ex, Bool.and_eq_true] at h
    exact h.1.1.1.1.1.1.1.1.1.1.1.1.1.1.1.1.1.1.1.1.1.1.1.1.1.1.1.1.1.1.1.1.1.1.1.1.1.1.1.1.1.1.1.1.1.1.1.1.1.1.1.1.1.1.1.1.1.1.1.1.1.1.1.1.1.1.1.1.1.1.1.1.1.1.1.1.1.1.1.1.1.1.1.1.1.2
  have e_ix_InvalidRanking_InvalidSet : isxB K (.ref (He.ga K "InvalidRanking")) (He.ga K "InvalidSet") false = true := by
    have h := c.x.more
    simp only [ex, Bool.and_eq_true] at h
    exact h.1.1.1.1.1.1.1.1.1.1.1.1.1.1.1.1.1.1.1.1.1.1.1.1.1.1.1.1.1.1.1.1.1.1.1.1.1.1.1.1.1.1.1.1.1.1.1.1.1.1.1.1.1.1.1.1.1.1.1.1.1.1.1.1.1.1.1.1.1.1.1.1.1.1.1.1.1.1.1.1.1.1.1.1.2
  have e_ix_InvalidSet_InvalidSet : isxB K (.ref (He.ga K "InvalidSet")) (He.ga K "InvalidSet") true = true := by
    have h := c.x.more
    simp only [ex, Bool.and_eq_true] at h
    exact h.1.1.1.1.1.1.1.1.1.1.1.1.1.1.1.1.1.1.1.1.1.1.1.1.1.1.1.1.1.1.1.1.1.1.1.1.1.1.1.1.1.1.1.1.1.1.1.1.1.1.1.1.1.1.1.1.1.1.1.1.1.1.1.1.1.1.1.1.1.1.1.1.1.1.1.1.1.1.1.1.1.1.1.2
  have e_ix_InvalidText_InvalidSet : isxB K (.ref (He.ga K "InvalidText")) (He.ga K "InvalidSet") false = true := by
    have h := c.x.more
    simp only [ex, Bool.and_eq_true] at h
    exact h.1.1.1.1.1.1.1.1.1.1.1.1.1.1.1.1.1.1.1.1.1.1.1.1.1.1.1.1.1.1.1.1.1.1.1.1.1.1.1.1.1.1.1.1.1.1.1.1.1.1.1.1.1.1.1.1.1.1.1.1.1.1.1.1.1.1.1.1.1.1.1.1.1.1.1.1.1.1.1.1.1.1.2
  have e_ix_InvalidTurns_InvalidSet : isxB K (.ref (He.ga K "InvalidTurns")) (He.ga K "InvalidSet") false = true := by
    have h := c.x.more
    simp only [ex, Bool.and_eq_true] at h
    exact h.1.1.1.1.1.1.1.1.1.1.1.1.1.1.1.1.1.1.1.1.1.1.1.1.1.1.1.1.1.1.1.1.1.1.1.1.1.1.1.1.1.1.1.1.1.1.1.1.1.1.1.1.1.1.1.1.1.1.1.1.1.1.1.1.1.1.1.1.1.1.1.1.1.1.1.1.1.1.1.1.1.2
  have e_ix_LimitExceeded_InvalidSet : isxB K (.ref (He.ga K "LimitExceeded")) (He.ga K "InvalidSet") false = true := by
    have h := c.x.more
    simp only [ex, Bool.and_eq_true] at h
    exact h.1.1.1.1.1.1.1.1.1.1.1.1.1.1.1.1.1.1.1.1.1.1.1.1.1.1.1.1.1.1.1.1.1.1.1.1.1.1.1.1.1.1.1.1.1.1.1.1.1.1.1.1.1.1.1.1.1.1.1.1.1.1.1.1.1.1.1.1.1.1.1.1.1.1.1.1.1.1.1.1.2
  have e_ix_NoTurn_InvalidSet : isxB K (.ref (He.ga K "NoTurn")) (He.ga K "InvalidSet") false = true := by
    have h := c.x.more
    simp only [ex, Bool.and_eq_true] at h
    exact h.1.1.1.1.1.1.1.1.1.1.1.1.1.1.1.1.1.1.1.1.1.1.1.1.1.1.1.1.1.1.1.1.1.1.1.1.1.1.1.1.1.1.1.1.1.1.1.1.1.1.1.1.1.1.1.1.1.1.1.1.1.1.1.1.1.1.1.1.1.1.1.1.1.1.1.1.1.1.1.2
  have e_ix_UnknownItem_InvalidSet : isxB K (.ref (He.ga K "UnknownItem")) (He.ga K "InvalidSet") false = true := by
    have h := c.x.more
    simp only [ex, Bool.and_eq_true] at h
    exact h.1.1.1.1.1.1.1.1.1.1.1.1.1.1.1.1.1.1.1.1.1.1.1.1.1.1.1.1.1.1.1.1.1.1.1.1.1.1.1.1.1.1.1.1.1.1.1.1.1.1.1.1.1.1.1.1.1.1.1.1.1.1.1.1.1.1.1.1.1.1.1.1.1.1.1.1.1.1.2
  have e_i0_InvalidText : isxB K (.type "NoneType") (He.ga K "InvalidText") false = true := by
    have h := c.x.more
    simp only [ex, Bool.and_eq_true] at h
    exact h.1.1.1.1.1.1.1.1.1.1.1.1.1.1.1.1.1.1.1.1.1.1.1.1.1.1.1.1.1.1.1.1.1.1.1.1.1.1.1.1.1.1.1.1.1.1.1.1.1.1.1.1.1.1.1.1.1.1.1.1.1.1.1.1.1.1.1.1.1.1.1.1.1.1.1.1.1.2
  have e_ix_Contradiction_InvalidText : isxB K (.ref (He.ga K "Contradiction")) (He.ga K "InvalidText") false = true := by
    have h := c.x.more
    simp only [ex, Bool.and_eq_true] at h
    exact h.1.1.1.1.1.1.1.1.1.1.1.1.1.1.1.1.1.1.1.1.1.1.1.1.1.1.1.1.1.1.1.1.1.1.1.1.1.1.1.1.1.1.1.1.1.1.1.1.1.1.1.1.1.1.1.1.1.1.1.1.1.1.1.1.1.1.1.1.1.1.1.1.1.1.1.1.2
  have e_ix_InvalidCommand_InvalidText : isxB K (.ref (He.ga K "InvalidCommand")) (He.ga K "InvalidText") false = true := by
    have h := c.x.more
    simp only [ex, Bool.and_eq_true] at h
    exact h.1.1.1.1.1.1.1.1.1.1.1.1.1.1.1.1.1.1.1.1.1.1.1.1.1.1.1.1.1.1.1.1.1.1.1.1.1.1.1.1.1.1.1.1.1.1.1.1.1.1.1.1.1.1.1.1.1.1.1.1.1.1.1.1.1.1.1.1.1.1.1.1.1.1.1.2
  have e_ix_InvalidFact_InvalidText : isxB K (.ref (He.ga K "InvalidFact")) (He.ga K "InvalidText") false = true := by
    have h := c.x.more
    simp only [ex, Bool.and_eq_true] at h
    exact h.1.1.1.1.1.1.1.1.1.1.1.1.1.1.1.1.1.1.1.1.1.1.1.1.1.1.1.1.1.1.1.1.1.1.1.1.1.1.1.1.1.1.1.1.1.1.1.1.1.1.1.1.1.1.1.1.1.1.1.1.1.1.1.1.1.1.1.1.1.1.1.1.1.1.2
  have e_ix_InvalidItem_InvalidText : isxB K (.ref (He.ga K "InvalidItem")) (He.ga K "InvalidText") false = true := by
    have h := c.x.more
    simp only [ex, Bool.and_eq_true] at h
    exact h.1.1.1.1.1.1.1.1.1.1.1.1.1.1.1.1.1.1.1.1.1.1.1.1.1.1.1.1.1.1.1.1.1.1.1.1.1.1.1.1.1.1.1.1.1.1.1.1.1.1.1.1.1.1.1.1.1.1.1.1.1.1.1.1.1.1.1.1.1.1.1.1.1.2
  have e_ix_InvalidNumber_InvalidText : isxB K (.ref (He.ga K "InvalidNumber")) (He.ga K "InvalidText") false = true := by
    have h := c.x.more
    simp only [ex, Bool.and_eq_true] at h
    exact h.1.1.1.1.1.1.1.1.1.1.1.1.1.1.1.1.1.1.1.1.1.1.1.1.1.1.1.1.1.1.1.1.1.1.1.1.1.1.1.1.1.1.1.1.1.1.1.1.1.1.1.1.1.1.1.1.1.1.1.1.1.1.1.1.1.1.1.1.1.1.1.1.2
  have e_ix_InvalidRanking_InvalidText : isxB K (.ref (He.ga K "InvalidRanking")) (He.ga K "InvalidText") false = true := by
    have h := c.x.more
    simp only [ex, Bool.and_eq_true] at h
    exact h.1.1.1.1.1.1.1.1.1.1.1.1.1.1.1.1.1.1.1.1.1.1.1.1.1.1.1.1.1.1.1.1.1.1.1.1.1.1.1.1.1.1.1.1.1.1.1.1.1.1.1.1.1.1.1.1.1.1.1.1.1.1.1.1.1.1.1.1.1.1.1.2
  have e_ix_InvalidSet_InvalidText : isxB K (.ref (He.ga K "InvalidSet")) (He.ga K "InvalidText") false = true := by
    have h := c.x.more
    simp only [ex, Bool.and_eq_true] at h
    exact h.1.1.1.1.1.1.1.1.1.1.1.1.1.1.1.1.1.1.1.1.1.1.1.1.1.1.1.1.1.1.1.1.1.1.1.1.1.1.1.1.1.1.1.1.1.1.1.1.1.1.1.1.1.1.1.1.1.1.1.1.1.1.1.1.1.1.1.1.1.1.2
  have e_ix_InvalidText_InvalidText : isxB K (.ref (He.ga K "InvalidText")) (He.ga K "InvalidText") true = true := by
    have h := c.x.more
    simp only [ex, Bool.and_eq_true] at h
    exact h.1.1.1.1.1.1.1.1.1.1.1.1.1.1.1.1.1.1.1.1.1.1.1.1.1.1.1.1.1.1.1.1.1.1.1.1.1.1.1.1.1.1.1.1.1.1.1.1.1.1.1.1.1.1.1.1.1.1.1.1.1.1.1.1.1.1.1.1.1.2
  have e_ix_InvalidTurns_InvalidText : isxB K (.ref (He.ga K "InvalidTurns")) (He.ga K "InvalidText") false = true := by
    have h := c.x.more
    simp only [ex, Bool.and_eq_true] at h
    exact h.1.1.1.1.1.1.1.1.1.1.1.1.1.1.1.1.1.1.1.1.1.1.1.1.1.1.1.1.1.1.1.1.1.1.1.1.1.1.1.1.1.1.1.1.1.1.1.1.1.1.1.1.1.1.1.1.1.1.1.1.1.1.1.1.1.1.1.1.2
  have e_ix_LimitExceeded_InvalidText : isxB K (.ref (He.ga K "LimitExceeded")) (He.ga K "InvalidText") false = true := by
    have h := c.x.more
    simp only [ex, Bool.and_eq_true] at h
    exact h.1.1.1.1.1.1.1.1.1.1.1.1.1.1.1.1.1.1.1.1.1.1.1.1.1.1.1.1.1.1.1.1.1.1.1.1.1.1.1.1.1.1.1.1.1.1.1.1.1.1.1.1.1.1.1.1.1.1.1.1.1.1.1.1.1.1.1.2
  have e_ix_NoTurn_InvalidText : isxB K (.ref (He.ga K "NoTurn")) (He.ga K "InvalidText") false = true := by
    have h := c.x.more
    simp only [ex, Bool.and_eq_true] at h
    exact h.1.1.1.1.1.1.1.1.1.1.1.1.1.1.1.1.1.1.1.1.1.1.1.1.1.1.1.1.1.1.1.1.1.1.1.1.1.1.1.1.1.1.1.1.1.1.1.1.1.1.1.1.1.1.1.1.1.1.1.1.1.1.1.1.1.1.2
  have e_ix_UnknownItem_InvalidText : isxB K (.ref (He.ga K "UnknownItem")) (He.ga K "InvalidText") false = true := by
    have h := c.x.more
    simp only [ex, Bool.and_eq_true] at h
    exact h.1.1.1.1.1.1.1.1.1.1.1.1.1.1.1.1.1.1.1.1.1.1.1.1.1.1.1.1.1.1.1.1.1.1.1.1.1.1.1.1.1.1.1.1.1.1.1.1.1.1.1.1.1.1.1.1.1.1.1.1.1.1.1.1.1.2
  have e_i0_InvalidTurns : isxB K (.type "NoneType") (He.ga K "InvalidTurns") false = true := by
    have h := c.x.more
    simp only [ex, Bool.and_eq_true] at h
    exact h.1.1.1.1.1.1.1.1.1.1.1.1.1.1.1.1.1.1.1.1.1.1.1.1.1.1.1.1.1.1.1.1.1.1.1.1.1.1.1.1.1.1.1.1.1.1.1.1.1.1.1.1.1.1.1.1.1.1.1.1.1.1.1.1.2
  have e_ix_Contradiction_InvalidTurns : isxB K (.ref (He.ga K "Contradiction")) (He.ga K "InvalidTurns") false = true := by
    have h := c.x.more
    simp only [ex, Bool.and_eq_true] at h
    exact h.1.1.1.1.1.1.1.1.1.1.1.1.1.1.1.1.1.1.1.1.1.1.1.1.1.1.1.1.1.1.1.1.1.1.1.1.1.1.1.1.1.1.1.1.1.1.1.1.1.1.1.1.1.1.1.1.1.1.1.1.1.1.1.2
  have e_ix_InvalidCommand_InvalidTurns : isxB K (.ref (He.ga K "InvalidCommand")) (He.ga K "InvalidTurns") false = true := by
    have h := c.x.more
    simp only [ex, Bool.and_eq_true] at h
    exact h.1.1.1.1.1.1.1.1.1.1.1.1.1.1.1.1.1.1.1.1.1.1.1.1.1.1.1.1.1.1.1.1.1.1.1.1.1.1.1.1.1.1.1.1.1.1.1.1.1.1.1.1.1.1.1.1.1.1.1.1.1.1.2
  have e_ix_InvalidFact_InvalidTurns : isxB K (.ref (He.ga K "InvalidFact")) (He.ga K "InvalidTurns") false = true := by
    have h := c.x.more
    simp only [ex, Bool.and_eq_true] at h
    exact h.1.1.1.1.1.1.1.1.1.1.1.1.1.1.1.1.1.1.1.1.1.1.1.1.1.1.1.1.1.1.1.1.1.1.1.1.1.1.1.1.1.1.1.1.1.1.1.1.1.1.1.1.1.1.1.1.1.1.1.1.1.2
  have e_ix_InvalidItem_InvalidTurns : isxB K (.ref (He.ga K "InvalidItem")) (He.ga K "InvalidTurns") false = true := by
    have h := c.x.more
    simp only [ex, Bool.and_eq_true] at h
    exact h.1.1.1.1.1.1.1.1.1.1.1.1.1.1.1.1.1.1.1.1.1.1.1.1.1.1.1.1.1.1.1.1.1.1.1.1.1.1.1.1.1.1.1.1.1.1.1.1.1.1.1.1.1.1.1.1.1.1.1.1.2
  have e_ix_InvalidNumber_InvalidTurns : isxB K (.ref (He.ga K "InvalidNumber")) (He.ga K "InvalidTurns") false = true := by
    have h := c.x.more
    simp only [ex, Bool.and_eq_true] at h
    exact h.1.1.1.1.1.1.1.1.1.1.1.1.1.1.1.1.1.1.1.1.1.1.1.1.1.1.1.1.1.1.1.1.1.1.1.1.1.1.1.1.1.1.1.1.1.1.1.1.1.1.1.1.1.1.1.1.1.1.1.2
  have e_ix_InvalidRanking_InvalidTurns : isxB K (.ref (He.ga K "InvalidRanking")) (He.ga K "InvalidTurns") false = true := by
    have h := c.x.more
    simp only [ex, Bool.and_eq_true] at h
    exact h.1.1.1.1.1.1.1.1.1.1.1.1.1.1.1.1.1.1.1.1.1.1.1.1.1.1.1.1.1.1.1.1.1.1.1.1.1.1.1.1.1.1.1.1.1.1.1.1.1.1.1.1.1.1.1.1.1.1.2
  have e_ix_InvalidSet_InvalidTurns : isxB K (.ref (He.ga K "InvalidSet")) (He.ga K "InvalidTurns") false = true := by
    have h := c.x.more
    simp only [ex, Bool.and_eq_true] at h
    exact h.1.1.1.1.1.1.1.1.1.1.1.1.1.1.1.1.1.1.1.1.1.1.1.1.1.1.1.1.1.1.1.1.1.1.1.1.1.1.1.1.1.1.1.1.1.1.1.1.1.1.1.1.1.1.1.1.1.2
  have e_ix_InvalidText_InvalidTurns : isxB K (.ref (He.ga K "InvalidText")) (He.ga K "InvalidTurns") false = true := by
    have h := c.x.more
    simp only [ex, Bool.and_eq_true] at h
    exact h.1.1.1.1.1.1.1.1.1.1.1.1.1.1.1.1.1.1.1.1.1.1.1.1.1.1.1.1.1.1.1.1.1.1.1.1.1.1.1.1.1.1.1.1.1.1.1.1.1.1.1.1.1.1.1.1.2
  have e_ix_InvalidTurns_InvalidTurns : isxB K (.ref (He.ga K "InvalidTurns")) (He.ga K "InvalidTurns") true = true := by
    have h := c.x.more
    simp only [ex, Bool.and_eq_true] at h
    exact h.1.1.1.1.1.1.1.1.1.1.1.1.1.1.1.1.1.1.1.1.1.1.1.1.1.1.1.1.1.1.1.1.1.1.1.1.1.1.1.1.1.1.1.1.1.1.1.1.1.1.1.1.1.1.1.2
  have e_ix_LimitExceeded_InvalidTurns : isxB K (.ref (He.ga K "LimitExceeded")) (He.ga K "InvalidTurns") false = true := by
    have h := c.x.more
    simp only [ex, Bool.and_eq_true] at h
    exact h.1.1.1.1.1.1.1.1.1.1.1.1.1.1.1.1.1.1.1.1.1.1.1.1.1.1.1.1.1.1.1.1.1.1.1.1.1.1.1.1.1.1.1.1.1.1.1.1.1.1.1.1.1.1.2
  have e_ix_NoTurn_InvalidTurns : isxB K (.ref (He.ga K "NoTurn")) (He.ga K "InvalidTurns") false = true := by
    have h := c.x.more
    simp only [ex, Bool.and_eq_true] at h
    exact h.1.1.1.1.1.1.1.1.1.1.1.1.1.1.1.1.1.1.1.1.1.1.1.1.1.1.1.1.1.1.1.1.1.1.1.1.1.1.1.1.1.1.1.1.1.1.1.1.1.1.1.1.1.2
  have e_ix_UnknownItem_InvalidTurns : isxB K (.ref (He.ga K "UnknownItem")) (He.ga K "InvalidTurns") false = true := by
    have h := c.x.more
    simp only [ex, Bool.and_eq_true] at h
    exact h.1.1.1.1.1.1.1.1.1.1.1.1.1.1.1.1.1.1.1.1.1.1.1.1.1.1.1.1.1.1.1.1.1.1.1.1.1.1.1.1.1.1.1.1.1.1.1.1.1.1.1.1.2
  have e_i0_LimitExceeded : isxB K (.type "NoneType") (He.ga K "LimitExceeded") false = true := by
    have h := c.x.more
    simp only [ex, Bool.and_eq_true] at h
    exact h.1.1.1.1.1.1.1.1.1.1.1.1.1.1.1.1.1.1.1.1.1.1.1.1.1.1.1.1.1.1.1.1.1.1.1.1.1.1.1.1.1.1.1.1.1.1.1.1.1.1.1.2
  have e_ix_Contradiction_LimitExceeded : isxB K (.ref (He.ga K "Contradiction")) (He.ga K "LimitExceeded") false = true := by
    have h := c.x.more
    simp only [ex, Bool.and_eq_true] at h
    exact h.1.1.1.1.1.1.1.1.1.1.1.1.1.1.1.1.1.1.1.1.1.1.1.1.1.1.1.1.1.1.1.1.1.1.1.1.1.1.1.1.1.1.1.1.1.1.1.1.1.1.2
  have e_ix_InvalidCommand_LimitExceeded : isxB K (.ref (He.ga K "InvalidCommand")) (He.ga K "LimitExceeded") false = true := by
    have h := c.x.more
    simp only [ex, Bool.and_eq_true] at h
    exact h.1.1.1.1.1.1.1.1.1.1.1.1.1.1.1.1.1.1.1.1.1.1.1.1.1.1.1.1.1.1.1.1.1.1.1.1.1.1.1.1.1.1.1.1.1.1.1.1.1.2
  have e_ix_InvalidFact_LimitExceeded : isxB K (.ref (He.ga K "InvalidFact")) (He.ga K "LimitExceeded") false = true := by
    have h := c.x.more
    simp only [ex, Bool.and_eq_true] at h
    exact h.1.1.1.1.1.1.1.1.1.1.1.1.1.1.1.1.1.1.1.1.1.1.1.1.1.1.1.1.1.1.1.1.1.1.1.1.1.1.1.1.1.1.1.1.1.1.1.1.2
  have e_ix_InvalidItem_LimitExceeded : isxB K (.ref (He.ga K "InvalidItem")) (He.ga K "LimitExceeded") false = true := by
    have h := c.x.more
    simp only [ex, Bool.and_eq_true] at h
    exact h.1.1.1.1.1.1.1.1.1.1.1.1.1.1.1.1.1.1.1.1.1.1.1.1.1.1.1.1.1.1.1.1.1.1.1.1.1.1.1.1.1.1.1.1.1.1.1.2
  have e_ix_InvalidNumber_LimitExceeded : isxB K (.ref (He.ga K "InvalidNumber")) (He.ga K "LimitExceeded") false = true := by
    have h := c.x.more
    simp only [ex, Bool.and_eq_true] at h
    exact h.1.1.1.1.1.1.1.1.1.1.1.1.1.1.1.1.1.1.1.1.1.1.1.1.1.1.1.1.1.1.1.1.1.1.1.1.1.1.1.1.1.1.1.1.1.1.2
  have e_ix_InvalidRanking_LimitExceeded : isxB K (.ref (He.ga K "InvalidRanking")) (He.ga K "LimitExceeded") false = true := by
    have h := c.x.more
    simp only [ex, Bool.and_eq_true] at h
    exact h.1.1.1.1.1.1.1.1.1.1.1.1.1.1.1.1.1.1.1.1.1.1.1.1.1.1.1.1.1.1.1.1.1.1.1.1.1.1.1.1.1.1.1.1.1.2
  have e_ix_InvalidSet_LimitExceeded : isxB K (.ref (He.ga K "InvalidSet")) (He.ga K "LimitExceeded") false = true := by
    have h := c.x.more
    simp only [ex, Bool.and_eq_true] at h
    exact h.1.1.1.1.1.1.1.1.1.1.1.1.1.1.1.1.1.1.1.1.1.1.1.1.1.1.1.1.1.1.1.1.1.1.1.1.1.1.1.1.1.1.1.1.2
  have e_ix_InvalidText_LimitExceeded : isxB K (.ref (He.ga K "InvalidText")) (He.ga K "LimitExceeded") false = true := by
    have h := c.x.more
    simp only [ex, Bool.and_eq_true] at h
    exact h.1.1.1.1.1.1.1.1.1.1.1.1.1.1.1.1.1.1.1.1.1.1.1.1.1.1.1.1.1.1.1.1.1.1.1.1.1.1.1.1.1.1.1.2
  have e_ix_InvalidTurns_LimitExceeded : isxB K (.ref (He.ga K "InvalidTurns")) (He.ga K "LimitExceeded") false = true := by
    have h := c.x.more
    simp only [ex, Bool.and_eq_true] at h
    exact h.1.1.1.1.1.1.1.1.1.1.1.1.1.1.1.1.1.1.1.1.1.1.1.1.1.1.1.1.1.1.1.1.1.1.1.1.1.1.1.1.1.1.2
  have e_ix_LimitExceeded_LimitExceeded : isxB K (.ref (He.ga K "LimitExceeded")) (He.ga K "LimitExceeded") true = true := by
    have h := c.x.more
    simp only [ex, Bool.and_eq_true] at h
    exact h.1.1.1.1.1.1.1.1.1.1.1.1.1.1.1.1.1.1.1.1.1.1.1.1.1.1.1.1.1.1.1.1.1.1.1.1.1.1.1.1.1.2
  have e_ix_NoTurn_LimitExceeded : isxB K (.ref (He.ga K "NoTurn")) (He.ga K "LimitExceeded") false = true := by
    have h := c.x.more
    simp only [ex, Bool.and_eq_true] at h
    exact h.1.1.1.1.1.1.1.1.1.1.1.1.1.1.1.1.1.1.1.1.1.1.1.1.1.1.1.1.1.1.1.1.1.1.1.1.1.1.1.1.2
  have e_ix_UnknownItem_LimitExceeded : isxB K (.ref (He.ga K "UnknownItem")) (He.ga K "LimitExceeded") false = true := by
    have h := c.x.more
    simp only [ex, Bool.and_eq_true] at h
    exact h.1.1.1.1.1.1.1.1.1.1.1.1.1.1.1.1.1.1.1.1.1.1.1.1.1.1.1.1.1.1.1.1.1.1.1.1.1.1.1.2
  have e_i0_NoTurn : isxB K (.type "NoneType") (He.ga K "NoTurn") false = true := by
    have h := c.x.more
    simp only [ex, Bool.and_eq_true] at h
    exact h.1.1.1.1.1.1.1.1.1.1.1.1.1.1.1.1.1.1.1.1.1.1.1.1.1.1.1.1.1.1.1.1.1.1.1.1.1.1.2
  have e_ix_Contradiction_NoTurn : isxB K (.ref (He.ga K "Contradiction")) (He.ga K "NoTurn") false = true := by
    have h := c.x.more
    simp only [ex, Bool.and_eq_true] at h
    exact h.1.1.1.1.1.1.1.1.1.1.1.1.1.1.1.1.1.1.1.1.1.1.1.1.1.1.1.1.1.1.1.1.1.1.1.1.1.2
  have e_ix_InvalidCommand_NoTurn : isxB K (.ref (He.ga K "InvalidCommand")) (He.ga K "NoTurn") false = true := by
    have h := c.x.more
    simp only [ex, Bool.and_eq_true] at h
    exact h.1.1.1.1.1.1.1.1.1.1.1.1.1.1.1.1.1.1.1.1.1.1.1.1.1.1.1.1.1.1.1.1.1.1.1.1.2
  have e_ix_InvalidFact_NoTurn : isxB K (.ref (He.ga K "InvalidFact")) (He.ga K "NoTurn") false = true := by
    have h := c.x.more
    simp only [ex, Bool.and_eq_true] at h
    exact h.1.1.1.1.1.1.1.1.1.1.1.1.1.1.1.1.1.1.1.1.1.1.1.1.1.1.1.1.1.1.1.1.1.1.1.2
  have e_ix_InvalidItem_NoTurn : isxB K (.ref (He.ga K "InvalidItem")) (He.ga K "NoTurn") false = true := by
    have h := c.x.more
    simp only [ex, Bool.and_eq_true] at h
    exact h.1.1.1.1.1.1.1.1.1.1.1.1.1.1.1.1.1.1.1.1.1.1.1.1.1.1.1.1.1.1.1.1.1.1.2
  have e_ix_InvalidNumber_NoTurn : isxB K (.ref (He.ga K "InvalidNumber")) (He.ga K "NoTurn") false = true := by
    have h := c.x.more
    simp only [ex, Bool.and_eq_true] at h
    exact h.1.1.1.1.1.1.1.1.1.1.1.1.1.1.1.1.1.1.1.1.1.1.1.1.1.1.1.1.1.1.1.1.1.2
  have e_ix_InvalidRanking_NoTurn : isxB K (.ref (He.ga K "InvalidRanking")) (He.ga K "NoTurn") false = true := by
    have h := c.x.more
    simp only [ex, Bool.and_eq_true] at h
    exact h.1.1.1.1.1.1.1.1.1.1.1.1.1.1.1.1.1.1.1.1.1.1.1.1.1.1.1.1.1.1.1.1.2
  have e_ix_InvalidSet_NoTurn : isxB K (.ref (He.ga K "InvalidSet")) (He.ga K "NoTurn") false = true := by
    have h := c.x.more
    simp only [ex, Bool.and_eq_true] at h
    exact h.1.1.1.1.1.1.1.1.1.1.1.1.1.1.1.1.1.1.1.1.1.1.1.1.1.1.1.1.1.1.1.2
  have e_ix_InvalidText_NoTurn : isxB K (.ref (He.ga K "InvalidText")) (He.ga K "NoTurn") false = true := by
    have h := c.x.more
    simp only [ex, Bool.and_eq_true] at h
    exact h.1.1.1.1.1.1.1.1.1.1.1.1.1.1.1.1.1.1.1.1.1.1.1.1.1.1.1.1.1.1.2
  have e_ix_InvalidTurns_NoTurn : isxB K (.ref (He.ga K "InvalidTurns")) (He.ga K "NoTurn") false = true := by
    have h := c.x.more
    simp only [ex, Bool.and_eq_true] at h
    exact h.1.1.1.1.1.1.1.1.1.1.1.1.1.1.1.1.1.1.1.1.1.1.1.1.1.1.1.1.1.2
  have e_ix_LimitExceeded_NoTurn : isxB K (.ref (He.ga K "LimitExceeded")) (He.ga K "NoTurn") false = true := by
    have h := c.x.more
    simp only [ex, Bool.and_eq_true] at h
    exact h.1.1.1.1.1.1.1.1.1.1.1.1.1.1.1.1.1.1.1.1.1.1.1.1.1.1.1.1.2
  have e_ix_NoTurn_NoTurn : isxB K (.ref (He.ga K "NoTurn")) (He.ga K "NoTurn") true = true := by
    have h := c.x.more
    simp only [ex, Bool.and_eq_true] at h
    exact h.1.1.1.1.1.1.1.1.1.1.1.1.1.1.1.1.1.1.1.1.1.1.1.1.1.1.1.2
  have e_ix_UnknownItem_NoTurn : isxB K (.ref (He.ga K "UnknownItem")) (He.ga K "NoTurn") false = true := by
    have h := c.x.more
    simp only [ex, Bool.and_eq_true] at h
    exact h.1.1.1.1.1.1.1.1.1.1.1.1.1.1.1.1.1.1.1.1.1.1.1.1.1.1.2
  have e_i0_PickingError : isxB K (.type "NoneType") (He.ga K "PickingError") false = true := by
    have h := c.x.more
    simp only [ex, Bool.and_eq_true] at h
    exact h.1.1.1.1.1.1.1.1.1.1.1.1.1.1.1.1.1.1.1.1.1.1.1.1.1.2
  have e_ix_Contradiction_PickingError : isxB K (.ref (He.ga K "Contradiction")) (He.ga K "PickingError") false = true := by
    have h := c.x.more
    simp only [ex, Bool.and_eq_true] at h
    exact h.1.1.1.1.1.1.1.1.1.1.1.1.1.1.1.1.1.1.1.1.1.1.1.1.2
  have e_ix_InvalidCommand_PickingError : isxB K (.ref (He.ga K "InvalidCommand")) (He.ga K "PickingError") true = true := by
    have h := c.x.more
    simp only [ex, Bool.and_eq_true] at h
    exact h.1.1.1.1.1.1.1.1.1.1.1.1.1.1.1.1.1.1.1.1.1.1.1.2
  have e_ix_InvalidFact_PickingError : isxB K (.ref (He.ga K "InvalidFact")) (He.ga K "PickingError") true = true := by
    have h := c.x.more
    simp only [ex, Bool.and_eq_true] at h
    exact h.1.1.1.1.1.1.1.1.1.1.1.1.1.1.1.1.1.1.1.1.1.1.2
  have e_ix_InvalidItem_PickingError : isxB K (.ref (He.ga K "InvalidItem")) (He.ga K "PickingError") true = true := by
    have h := c.x.more
    simp only [ex, Bool.and_eq_true] at h
    exact h.1.1.1.1.1.1.1.1.1.1.1.1.1.1.1.1.1.1.1.1.1.2
  have e_ix_InvalidNumber_PickingError : isxB K (.ref (He.ga K "InvalidNumber")) (He.ga K "PickingError") true = true := by
    have h := c.x.more
    simp only [ex, Bool.and_eq_true] at h
    exact h.1.1.1.1.1.1.1.1.1.1.1.1.1.1.1.1.1.1.1.1.2
  have e_ix_InvalidRanking_PickingError : isxB K (.ref (He.ga K "InvalidRanking")) (He.ga K "PickingError") true = true := by
    have h := c.x.more
    simp only [ex, Bool.and_eq_true] at h
    exact h.1.1.1.1.1.1.1.1.1.1.1.1.1.1.1.1.1.1.1.2
  have e_ix_InvalidSet_PickingError : isxB K (.ref (He.ga K "InvalidSet")) (He.ga K "PickingError") true = true := by
    have h := c.x.more
    simp only [ex, Bool.and_eq_true] at h
    exact h.1.1.1.1.1.1.1.1.1.1.1.1.1.1.1.1.1.1.2
  have e_ix_InvalidText_PickingError : isxB K (.ref (He.ga K "InvalidText")) (He.ga K "PickingError") true = true := by
    have h := c.x.more
    simp only [ex, Bool.and_eq_true] at h
    exact h.1.1.1.1.1.1.1.1.1.1.1.1.1.1.1.1.1.2
  have e_ix_InvalidTurns_PickingError : isxB K (.ref (He.ga K "InvalidTurns")) (He.ga K "PickingError") true = true := by
    have h := c.x.more
    simp only [ex, Bool.and_eq_true] at h
    exact h.1.1.1.1.1.1.1.1.1.1.1.1.1.1.1.1.2
  have e_ix_LimitExceeded_PickingError : isxB K (.ref (He.ga K "LimitExceeded")) (He.ga K "PickingError") false = true := by
    have h := c.x.more
    simp only [ex, Bool.and_eq_true] at h
    exact h.1.1.1.1.1.1.1.1.1.1.1.1.1.1.1.2
  have e_ix_NoTurn_PickingError : isxB K (.ref (He.ga K "NoTurn")) (He.ga K "PickingError") false = true := by
    have h := c.x.more
    simp only [ex, Bool.and_eq_true] at h
    exact h.1.1.1.1.1.1.1.1.1.1.1.1.1.1.2
  have e_ix_UnknownItem_PickingError : isxB K (.ref (He.ga K "UnknownItem")) (He.ga K "PickingError") false = true := by
    have h := c.x.more
    simp only [ex, Bool.and_eq_true] at h
    exact h.1.1.1.1.1.1.1.1.1.1.1.1.1.2
  have e_i0_UnknownItem : isxB K (.type "NoneType") (He.ga K "UnknownItem") false = true := by
    have h := c.x.more
    simp only [ex, Bool.and_eq_true] at h
    exact h.1.1.1.1.1.1.1.1.1.1.1.1.2
  have e_ix_Contradiction_UnknownItem : isxB K (.ref (He.ga K "Contradiction")) (He.ga K "UnknownItem") false = true := by
    have h := c.x.more
    simp only [ex, Bool.and_eq_true] at h
    exact h.1.1.1.1.1.1.1.1.1.1.1.2
  have e_ix_InvalidCommand_UnknownItem : isxB K (.ref (He.ga K "InvalidCommand")) (He.ga K "UnknownItem") false = true := by
    have h := c.x.more
    simp only [ex, Bool.and_eq_true] at h
    exact h.1.1.1.1.1.1.1.1.1.1.2
  have e_ix_InvalidFact_UnknownItem : isxB K (.ref (He.ga K "InvalidFact")) (He.ga K "UnknownItem") false = true := by
    have h := c.x.more
    simp only [ex, Bool.and_eq_true] at h
    exact h.1.1.1.1.1.1.1.1.1.2
  have e_ix_InvalidItem_UnknownItem : isxB K (.ref (He.ga K "InvalidItem")) (He.ga K "UnknownItem") false = true := by
    have h := c.x.more
    simp only [ex, Bool.and_eq_true] at h
    exact h.1.1.1.1.1.1.1.1.2
  have e_ix_InvalidNumber_UnknownItem : isxB K (.ref (He.ga K "InvalidNumber")) (He.ga K "UnknownItem") false = true := by
    have h := c.x.more
    simp only [ex, Bool.and_eq_true] at h
    exact h.1.1.1.1.1.1.1.2
  have e_ix_InvalidRanking_UnknownItem : isxB K (.ref (He.ga K "InvalidRanking")) (He.ga K "UnknownItem") false = true := by
    have h := c.x.more
    simp only [ex, Bool.and_eq_true] at h
    exact h.1.1.1.1.1.1.2
  have e_ix_InvalidSet_UnknownItem : isxB K (.ref (He.ga K "InvalidSet")) (He.ga K "UnknownItem") false = true := by
    have h := c.x.more
    simp only [ex, Bool.and_eq_true] at h
    exact h.1.1.1.1.1.2
  have e_ix_InvalidText_UnknownItem : isxB K (.ref (He.ga K "InvalidText")) (He.ga K "UnknownItem") false = true := by
    have h := c.x.more
    simp only [ex, Bool.and_eq_true] at h
    exact h.1.1.1.1.2
  have e_ix_InvalidTurns_UnknownItem : isxB K (.ref (He.ga K "InvalidTurns")) (He.ga K "UnknownItem") false = true := by
    have h := c.x.more
    simp only [ex, Bool.and_eq_true] at h
    exact h.1.1.1.2
  have e_ix_LimitExceeded_UnknownItem : isxB K (.ref (He.ga K "LimitExceeded")) (He.ga K "UnknownItem") false = true := by
    have h := c.x.more
    simp only [ex, Bool.and_eq_true] at h
    exact h.1.1.2
  have e_ix_NoTurn_UnknownItem : isxB K (.ref (He.ga K "NoTurn")) (He.ga K "UnknownItem") false = true := by
    have h := c.x.more
    simp only [ex, Bool.and_eq_true] at h
    exact h.1.2
  have e_ix_UnknownItem_UnknownItem : isxB K (.ref (He.ga K "UnknownItem")) (He.ga K "UnknownItem") true = true := by
    have h := c.x.more
    simp only [ex, Bool.and_eq_true] at h
    exact h.2
  exact ⟨⟨fd__law_pool, F__law_pool, He.glo_ok X G (cd.fact 0 (f := .glo "_law_pool") rfl), fd__law_take, F__law_take, He.glo_ok X G (cd.fact 1 (f := .glo "_law_take") rfl), fd__law_kinds, F__law_kinds, He.glo_ok X G (cd.fact 2 (f := .glo "_law_kinds") rfl), fd__law_bases, F__law_bases, He.glo_ok X G (cd.fact 3 (f := .glo "_law_bases") rfl), fd__law_due, F__law_due, He.glo_ok X G (cd.fact 4 (f := .glo "_law_due") rfl), fd_law, F_law, He.glo_ok X G (cd.fact 5 (f := .glo "law") rfl), fd_Contradiction____init__, F_Contradiction____init__, fd_InvalidCommand____init__, F_InvalidCommand____init__, fd_InvalidFact____init__, F_InvalidFact____init__, fd_InvalidItem____init__, F_InvalidItem____init__, fd_InvalidNumber____init__, F_InvalidNumber____init__, fd_InvalidRanking____init__, F_InvalidRanking____init__, fd_InvalidSet____init__, F_InvalidSet____init__, fd_InvalidText____init__, F_InvalidText____init__, fd_InvalidTurns____init__, F_InvalidTurns____init__, fd_LimitExceeded____init__, F_LimitExceeded____init__, fd_UnknownItem____init__, F_UnknownItem____init__, own0B_ok e_z_NoTurn, oexIDB_ok e_o_Contradiction, oexIB_ok e_o_InvalidCommand, oexIB_ok e_o_InvalidFact, oexIB_ok e_o_InvalidItem, oexIB_ok e_o_InvalidNumber, oexIB_ok e_o_InvalidRanking, oexIB_ok e_o_InvalidSet, oexIB_ok e_o_InvalidText, oexIB_ok e_o_InvalidTurns, oexIDB_ok e_o_LimitExceeded, oexIDB_ok e_o_UnknownItem, He.glo_ok X G (cd.fact 6 (f := .glo "Contradiction") rfl), He.glo_ok X G (cd.fact 7 (f := .glo "InvalidCommand") rfl), He.glo_ok X G (cd.fact 8 (f := .glo "InvalidFact") rfl), He.glo_ok X G (cd.fact 9 (f := .glo "InvalidItem") rfl), He.glo_ok X G (cd.fact 10 (f := .glo "InvalidNumber") rfl), He.glo_ok X G (cd.fact 11 (f := .glo "InvalidRanking") rfl), He.glo_ok X G (cd.fact 12 (f := .glo "InvalidSet") rfl), He.glo_ok X G (cd.fact 13 (f := .glo "InvalidText") rfl), He.glo_ok X G (cd.fact 14 (f := .glo "InvalidTurns") rfl), He.glo_ok X G (cd.fact 15 (f := .glo "LimitExceeded") rfl), He.glo_ok X G (cd.fact 16 (f := .glo "NoTurn") rfl), He.glo_ok X G (cd.fact 17 (f := .glo "PickingError") rfl), He.glo_ok X G (cd.fact 18 (f := .glo "UnknownItem") rfl), xfB_ok e_xf_Contradiction, He.noat_ok (cd.fact 19 (f := .noat "Contradiction" "index") rfl), xfB_ok e_xf_InvalidCommand, He.noat_ok (cd.fact 20 (f := .noat "InvalidCommand" "word") rfl), xfB_ok e_xf_InvalidFact, He.noat_ok (cd.fact 21 (f := .noat "InvalidFact" "index") rfl), xfB_ok e_xf_InvalidItem, He.noat_ok (cd.fact 22 (f := .noat "InvalidItem" "value") rfl), xfB_ok e_xf_InvalidNumber, He.noat_ok (cd.fact 23 (f := .noat "InvalidNumber" "value") rfl), xfB_ok e_xf_InvalidRanking, He.noat_ok (cd.fact 24 (f := .noat "InvalidRanking" "value") rfl), xfB_ok e_xf_InvalidSet, He.noat_ok (cd.fact 25 (f := .noat "InvalidSet" "value") rfl), xfB_ok e_xf_InvalidText, He.noat_ok (cd.fact 26 (f := .noat "InvalidText" "line") rfl), xfB_ok e_xf_InvalidTurns, He.noat_ok (cd.fact 27 (f := .noat "InvalidTurns" "value") rfl), xfB_ok e_xf_LimitExceeded, He.noat_ok (cd.fact 28 (f := .noat "LimitExceeded" "limit") rfl), xfB_ok e_xf_UnknownItem, He.noat_ok (cd.fact 29 (f := .noat "UnknownItem" "item") rfl), oexIDB_ok e_oD_Contradiction, oexIDB_ok e_oD_InvalidCommand, oexIDB_ok e_oD_InvalidFact, oexIDB_ok e_oD_InvalidItem, oexIDB_ok e_oD_InvalidNumber, oexIDB_ok e_oD_InvalidRanking, oexIDB_ok e_oD_InvalidSet, oexIDB_ok e_oD_InvalidText, oexIDB_ok e_oD_InvalidTurns, oexIDB_ok e_oD_LimitExceeded, oexIDB_ok e_oD_UnknownItem, isxTB_ok e_it_Contradiction_ArithmeticError, isxTB_ok e_it_InvalidCommand_ArithmeticError, isxTB_ok e_it_InvalidFact_ArithmeticError, isxTB_ok e_it_InvalidItem_ArithmeticError, isxTB_ok e_it_InvalidNumber_ArithmeticError, isxTB_ok e_it_InvalidRanking_ArithmeticError, isxTB_ok e_it_InvalidSet_ArithmeticError, isxTB_ok e_it_InvalidText_ArithmeticError, isxTB_ok e_it_InvalidTurns_ArithmeticError, isxTB_ok e_it_LimitExceeded_ArithmeticError, isxTB_ok e_it_NoTurn_ArithmeticError, isxTB_ok e_it_UnknownItem_ArithmeticError, isxTB_ok e_it_Contradiction_KeyError, isxTB_ok e_it_InvalidCommand_KeyError, isxTB_ok e_it_InvalidFact_KeyError, isxTB_ok e_it_InvalidItem_KeyError, isxTB_ok e_it_InvalidNumber_KeyError, isxTB_ok e_it_InvalidRanking_KeyError, isxTB_ok e_it_InvalidSet_KeyError, isxTB_ok e_it_InvalidText_KeyError, isxTB_ok e_it_InvalidTurns_KeyError, isxTB_ok e_it_LimitExceeded_KeyError, isxTB_ok e_it_NoTurn_KeyError, isxTB_ok e_it_UnknownItem_KeyError, isxTB_ok e_it_Contradiction_LookupError, isxTB_ok e_it_InvalidCommand_LookupError, isxTB_ok e_it_InvalidFact_LookupError, isxTB_ok e_it_InvalidItem_LookupError, isxTB_ok e_it_InvalidNumber_LookupError, isxTB_ok e_it_InvalidRanking_LookupError, isxTB_ok e_it_InvalidSet_LookupError, isxTB_ok e_it_InvalidText_LookupError, isxTB_ok e_it_InvalidTurns_LookupError, isxTB_ok e_it_LimitExceeded_LookupError, isxTB_ok e_it_NoTurn_LookupError, isxTB_ok e_it_UnknownItem_LookupError, isxTB_ok e_it_Contradiction_OverflowError, isxTB_ok e_it_InvalidCommand_OverflowError, isxTB_ok e_it_InvalidFact_OverflowError, isxTB_ok e_it_InvalidItem_OverflowError, isxTB_ok e_it_InvalidNumber_OverflowError, isxTB_ok e_it_InvalidRanking_OverflowError, isxTB_ok e_it_InvalidSet_OverflowError, isxTB_ok e_it_InvalidText_OverflowError, isxTB_ok e_it_InvalidTurns_OverflowError, isxTB_ok e_it_LimitExceeded_OverflowError, isxTB_ok e_it_NoTurn_OverflowError, isxTB_ok e_it_UnknownItem_OverflowError, isxTB_ok e_it_Contradiction_ValueError, isxTB_ok e_it_InvalidCommand_ValueError, isxTB_ok e_it_InvalidFact_ValueError, isxTB_ok e_it_InvalidItem_ValueError, isxTB_ok e_it_InvalidNumber_ValueError, isxTB_ok e_it_InvalidRanking_ValueError, isxTB_ok e_it_InvalidSet_ValueError, isxTB_ok e_it_InvalidText_ValueError, isxTB_ok e_it_InvalidTurns_ValueError, isxTB_ok e_it_LimitExceeded_ValueError, isxTB_ok e_it_NoTurn_ValueError, isxTB_ok e_it_UnknownItem_ValueError, exkB_ok e_ek_Contradiction, exkB_ok e_ek_InvalidCommand, exkB_ok e_ek_InvalidFact, exkB_ok e_ek_InvalidItem, exkB_ok e_ek_InvalidNumber, exkB_ok e_ek_InvalidRanking, exkB_ok e_ek_InvalidSet, exkB_ok e_ek_InvalidText, exkB_ok e_ek_InvalidTurns, exkB_ok e_ek_LimitExceeded, exkB_ok e_ek_NoTurn, exkB_ok e_ek_UnknownItem, isxB_ok e_i0_Contradiction, isxB_ok e_ix_Contradiction_Contradiction, isxB_ok e_ix_InvalidCommand_Contradiction, isxB_ok e_ix_InvalidFact_Contradiction, isxB_ok e_ix_InvalidItem_Contradiction, isxB_ok e_ix_InvalidNumber_Contradiction, isxB_ok e_ix_InvalidRanking_Contradiction, isxB_ok e_ix_InvalidSet_Contradiction, isxB_ok e_ix_InvalidText_Contradiction, isxB_ok e_ix_InvalidTurns_Contradiction, isxB_ok e_ix_LimitExceeded_Contradiction, isxB_ok e_ix_NoTurn_Contradiction, isxB_ok e_ix_UnknownItem_Contradiction, isxB_ok e_i0_InvalidCommand, isxB_ok e_ix_Contradiction_InvalidCommand, isxB_ok e_ix_InvalidCommand_InvalidCommand, isxB_ok e_ix_InvalidFact_InvalidCommand, isxB_ok e_ix_InvalidItem_InvalidCommand, isxB_ok e_ix_InvalidNumber_InvalidCommand, isxB_ok e_ix_InvalidRanking_InvalidCommand, isxB_ok e_ix_InvalidSet_InvalidCommand, isxB_ok e_ix_InvalidText_InvalidCommand, isxB_ok e_ix_InvalidTurns_InvalidCommand, isxB_ok e_ix_LimitExceeded_InvalidCommand, isxB_ok e_ix_NoTurn_InvalidCommand, isxB_ok e_ix_UnknownItem_InvalidCommand, isxB_ok e_i0_InvalidFact, isxB_ok e_ix_Contradiction_InvalidFact, isxB_ok e_ix_InvalidCommand_InvalidFact, isxB_ok e_ix_InvalidFact_InvalidFact, isxB_ok e_ix_InvalidItem_InvalidFact, isxB_ok e_ix_InvalidNumber_InvalidFact, isxB_ok e_ix_InvalidRanking_InvalidFact, isxB_ok e_ix_InvalidSet_InvalidFact, isxB_ok e_ix_InvalidText_InvalidFact, isxB_ok e_ix_InvalidTurns_InvalidFact, isxB_ok e_ix_LimitExceeded_InvalidFact, isxB_ok e_ix_NoTurn_InvalidFact, isxB_ok e_ix_UnknownItem_InvalidFact, isxB_ok e_i0_InvalidItem, isxB_ok e_ix_Contradiction_InvalidItem, isxB_ok e_ix_InvalidCommand_InvalidItem, isxB_ok e_ix_InvalidFact_InvalidItem, isxB_ok e_ix_InvalidItem_InvalidItem, isxB_ok e_ix_InvalidNumber_InvalidItem, isxB_ok e_ix_InvalidRanking_InvalidItem, isxB_ok e_ix_InvalidSet_InvalidItem, isxB_ok e_ix_InvalidText_InvalidItem, isxB_ok e_ix_InvalidTurns_InvalidItem, isxB_ok e_ix_LimitExceeded_InvalidItem, isxB_ok e_ix_NoTurn_InvalidItem, isxB_ok e_ix_UnknownItem_InvalidItem, isxB_ok e_i0_InvalidNumber, isxB_ok e_ix_Contradiction_InvalidNumber, isxB_ok e_ix_InvalidCommand_InvalidNumber, isxB_ok e_ix_InvalidFact_InvalidNumber, isxB_ok e_ix_InvalidItem_InvalidNumber, isxB_ok e_ix_InvalidNumber_InvalidNumber, isxB_ok e_ix_InvalidRanking_InvalidNumber, isxB_ok e_ix_InvalidSet_InvalidNumber, isxB_ok e_ix_InvalidText_InvalidNumber, isxB_ok e_ix_InvalidTurns_InvalidNumber, isxB_ok e_ix_LimitExceeded_InvalidNumber, isxB_ok e_ix_NoTurn_InvalidNumber, isxB_ok e_ix_UnknownItem_InvalidNumber, isxB_ok e_i0_InvalidRanking, isxB_ok e_ix_Contradiction_InvalidRanking, isxB_ok e_ix_InvalidCommand_InvalidRanking, isxB_ok e_ix_InvalidFact_InvalidRanking, isxB_ok e_ix_InvalidItem_InvalidRanking, isxB_ok e_ix_InvalidNumber_InvalidRanking, isxB_ok e_ix_InvalidRanking_InvalidRanking, isxB_ok e_ix_InvalidSet_InvalidRanking, isxB_ok e_ix_InvalidText_InvalidRanking, isxB_ok e_ix_InvalidTurns_InvalidRanking, isxB_ok e_ix_LimitExceeded_InvalidRanking, isxB_ok e_ix_NoTurn_InvalidRanking, isxB_ok e_ix_UnknownItem_InvalidRanking, isxB_ok e_i0_InvalidSet, isxB_ok e_ix_Contradiction_InvalidSet, isxB_ok e_ix_InvalidCommand_InvalidSet, isxB_ok e_ix_InvalidFact_InvalidSet, isxB_ok e_ix_InvalidItem_InvalidSet, isxB_ok e_ix_InvalidNumber_InvalidSet, isxB_ok e_ix_InvalidRanking_InvalidSet, isxB_ok e_ix_InvalidSet_InvalidSet, isxB_ok e_ix_InvalidText_InvalidSet, isxB_ok e_ix_InvalidTurns_InvalidSet, isxB_ok e_ix_LimitExceeded_InvalidSet, isxB_ok e_ix_NoTurn_InvalidSet, isxB_ok e_ix_UnknownItem_InvalidSet, isxB_ok e_i0_InvalidText, isxB_ok e_ix_Contradiction_InvalidText, isxB_ok e_ix_InvalidCommand_InvalidText, isxB_ok e_ix_InvalidFact_InvalidText, isxB_ok e_ix_InvalidItem_InvalidText, isxB_ok e_ix_InvalidNumber_InvalidText, isxB_ok e_ix_InvalidRanking_InvalidText, isxB_ok e_ix_InvalidSet_InvalidText, isxB_ok e_ix_InvalidText_InvalidText, isxB_ok e_ix_InvalidTurns_InvalidText, isxB_ok e_ix_LimitExceeded_InvalidText, isxB_ok e_ix_NoTurn_InvalidText, isxB_ok e_ix_UnknownItem_InvalidText, isxB_ok e_i0_InvalidTurns, isxB_ok e_ix_Contradiction_InvalidTurns, isxB_ok e_ix_InvalidCommand_InvalidTurns, isxB_ok e_ix_InvalidFact_InvalidTurns, isxB_ok e_ix_InvalidItem_InvalidTurns, isxB_ok e_ix_InvalidNumber_InvalidTurns, isxB_ok e_ix_InvalidRanking_InvalidTurns, isxB_ok e_ix_InvalidSet_InvalidTurns, isxB_ok e_ix_InvalidText_InvalidTurns, isxB_ok e_ix_InvalidTurns_InvalidTurns, isxB_ok e_ix_LimitExceeded_InvalidTurns, isxB_ok e_ix_NoTurn_InvalidTurns, isxB_ok e_ix_UnknownItem_InvalidTurns, isxB_ok e_i0_LimitExceeded, isxB_ok e_ix_Contradiction_LimitExceeded, isxB_ok e_ix_InvalidCommand_LimitExceeded, isxB_ok e_ix_InvalidFact_LimitExceeded, isxB_ok e_ix_InvalidItem_LimitExceeded, isxB_ok e_ix_InvalidNumber_LimitExceeded, isxB_ok e_ix_InvalidRanking_LimitExceeded, isxB_ok e_ix_InvalidSet_LimitExceeded, isxB_ok e_ix_InvalidText_LimitExceeded, isxB_ok e_ix_InvalidTurns_LimitExceeded, isxB_ok e_ix_LimitExceeded_LimitExceeded, isxB_ok e_ix_NoTurn_LimitExceeded, isxB_ok e_ix_UnknownItem_LimitExceeded, isxB_ok e_i0_NoTurn, isxB_ok e_ix_Contradiction_NoTurn, isxB_ok e_ix_InvalidCommand_NoTurn, isxB_ok e_ix_InvalidFact_NoTurn, isxB_ok e_ix_InvalidItem_NoTurn, isxB_ok e_ix_InvalidNumber_NoTurn, isxB_ok e_ix_InvalidRanking_NoTurn, isxB_ok e_ix_InvalidSet_NoTurn, isxB_ok e_ix_InvalidText_NoTurn, isxB_ok e_ix_InvalidTurns_NoTurn, isxB_ok e_ix_LimitExceeded_NoTurn, isxB_ok e_ix_NoTurn_NoTurn, isxB_ok e_ix_UnknownItem_NoTurn, isxB_ok e_i0_PickingError, isxB_ok e_ix_Contradiction_PickingError, isxB_ok e_ix_InvalidCommand_PickingError, isxB_ok e_ix_InvalidFact_PickingError, isxB_ok e_ix_InvalidItem_PickingError, isxB_ok e_ix_InvalidNumber_PickingError, isxB_ok e_ix_InvalidRanking_PickingError, isxB_ok e_ix_InvalidSet_PickingError, isxB_ok e_ix_InvalidText_PickingError, isxB_ok e_ix_InvalidTurns_PickingError, isxB_ok e_ix_LimitExceeded_PickingError, isxB_ok e_ix_NoTurn_PickingError, isxB_ok e_ix_UnknownItem_PickingError, isxB_ok e_i0_UnknownItem, isxB_ok e_ix_Contradiction_UnknownItem, isxB_ok e_ix_InvalidCommand_UnknownItem, isxB_ok e_ix_InvalidFact_UnknownItem, isxB_ok e_ix_InvalidItem_UnknownItem, isxB_ok e_ix_InvalidNumber_UnknownItem, isxB_ok e_ix_InvalidRanking_UnknownItem, isxB_ok e_ix_InvalidSet_UnknownItem, isxB_ok e_ix_InvalidText_UnknownItem, isxB_ok e_ix_InvalidTurns_UnknownItem, isxB_ok e_ix_LimitExceeded_UnknownItem, isxB_ok e_ix_NoTurn_UnknownItem, isxB_ok e_ix_UnknownItem_UnknownItem, He.free_ok X G (cd.fact 30 (f := .free "ArithmeticError") rfl), He.free_ok X G (cd.fact 31 (f := .free "KeyError") rfl), He.free_ok X G (cd.fact 32 (f := .free "LookupError") rfl), He.free_ok X G (cd.fact 33 (f := .free "OverflowError") rfl), He.free_ok X G (cd.fact 34 (f := .free "ValueError") rfl), He.free_ok X G (cd.fact 35 (f := .free "abs") rfl), He.free_ok X G (cd.fact 36 (f := .free "enumerate") rfl), He.free_ok X G (cd.fact 37 (f := .free "int") rfl), He.free_ok X G (cd.fact 38 (f := .free "isinstance") rfl), He.free_ok X G (cd.fact 39 (f := .free "len") rfl), He.free_ok X G (cd.fact 40 (f := .free "max") rfl), He.free_ok X G (cd.fact 41 (f := .free "min") rfl), He.free_ok X G (cd.fact 42 (f := .free "range") rfl), He.free_ok X G (cd.fact 43 (f := .free "repr") rfl)⟩⟩

end K03

/-! LB: readings that the laws share. -/
namespace LB
open PySem L2 DL
open PySem.Spec PyProof.Rows
noncomputable def e1_is_item : M D := (eOp dIn (eVar 1) (eC (.str "abcdefghijklmnopqrstuvwxyz")))
noncomputable def m_is_item : M Fl := (sSeq (sIf (tOrM (tNotM (tOf (eCB (g2 dIsi) (aCons (eVar 0) (aCons (eC (.raw (.ty "str"))) aNil))))) (tNotM (tOf (eChain dLeI dLeI (eC (.int 1)) (eCB (g1 dLen) (aCons (eVar 0) aNil)) (eC (.int 8)))))) (sRet (eC (.bl false))) sNx) (sRet (eCB (g1 dAll) (aCons (eLc (eVar 0) itSeq (gVar 1) tYesM e1_is_item [1]) aNil))))
noncomputable def sem_is_item : Sem := run 2 m_is_item
noncomputable def m_as_set : M Fl := (sRet (eCB (g1 dTuple) (aCons (eCB dSrt (aCons (eVar 0) aNil)) aNil)))
noncomputable def sem_as_set : Sem := run 1 m_as_set
noncomputable def k1_places_of : M D := (eVar 2)
noncomputable def v2_places_of : M D := (eVar 1)
noncomputable def m_places_of : M Fl := (sRet (eDc (eVar 0) itEnum (gTupD (gMore (gVar 1) (gMore (gVar 2) gNone))) tYesM k1_places_of v2_places_of [1, 2]))
noncomputable def sem_places_of : Sem := run 3 m_places_of
noncomputable def m_is_exchange : M Fl := (sRet (eAnd (eOp dLtI (eOp dSub (eVar 0) (eVar 3)) (eOp dSub (eVar 0) (eVar 2))) (eOp dLtI (eOp dSub (eVar 1) (eVar 2)) (eOp dSub (eVar 1) (eVar 3)))))
noncomputable def sem_is_exchange : Sem := run 4 m_is_exchange
noncomputable def e1_are_items : M D := (eCall [false] sem_is_item (aCons (eVar 1) aNil))
noncomputable def m_are_items : M Fl := (sRet (eAnd (eCB (g2 dIsi) (aCons (eVar 0) (aCons (eC (.raw (.ty "tuple"))) aNil))) (eAnd (eCB (g1 dAll) (aCons (eLc (eVar 0) itSeq (gVar 1) tYesM e1_are_items [1]) aNil)) (eOp dEq (eUn dLenSet (eVar 0)) (eCB (g1 dLen) (aCons (eVar 0) aNil))))))
noncomputable def sem_are_items : Sem := run 2 m_are_items
noncomputable def m_is_ranking : M Fl := (sRet (eAnd (eCall [false] sem_are_items (aCons (eVar 0) aNil)) (eOp dLeI (eCB (g1 dLen) (aCons (eVar 0) aNil)) (eC (.int 40)))))
noncomputable def sem_is_ranking : Sem := run 1 m_is_ranking
noncomputable def e1_is_set_of : M D := (eOp dIn (eVar 2) (eVar 1))
noncomputable def m_is_set_of : M Fl := (sRet (eAnd (eCall [false] sem_are_items (aCons (eVar 0) aNil)) (eAnd (eOp dEq (eVar 0) (eCall [false] sem_as_set (aCons (eVar 0) aNil))) (eCB (g1 dAll) (aCons (eLc (eVar 0) itSeq (gVar 2) tYesM e1_is_set_of [2]) aNil)))))
noncomputable def sem_is_set_of : Sem := run 3 m_is_set_of
noncomputable def m_check_ranking : M Fl := (sIf (tNotM (tOf (eCall [false] sem_is_ranking (aCons (eVar 0) aNil)))) eFail sNx)
noncomputable def sem_check_ranking : Sem := run 1 m_check_ranking
noncomputable def m_check_set : M Fl := (sIf (tNotM (tOf (eCall [false, false] sem_is_set_of (aCons (eVar 0) (aCons (eVar 1) aNil))))) eFail sNx)
noncomputable def sem_check_set : Sem := run 2 m_check_set
noncomputable def b1_check_rankings : M Fl := (sIf (tOrM (tNotM (tOf (eCall [false] sem_is_ranking (aCons (eVar 2) aNil)))) (tOf (eOp dNe (eCall [false] sem_as_set (aCons (eVar 2) aNil)) (eCall [false] sem_as_set (aCons (eVar 0) aNil))))) eFail sNx)
noncomputable def m_check_rankings : M Fl := (sSeq (sExpr (eCall [false] sem_check_ranking (aCons (eVar 0) aNil))) (sFor (eVar 1) itSeq (gVar 2) b1_check_rankings sNx))
noncomputable def sem_check_rankings : Sem := runS 1 3 m_check_rankings
noncomputable def m_check_division : M Fl := (sSeq (sExpr (eCallV sem_check_rankings (aCons (eVar 0) (aCons (eVar 1) aNil)))) (sExpr (eCall [false, false] sem_check_set (aCons (eVar 2) (aCons (eVar 0) aNil)))))
noncomputable def sem_check_division : Sem := run 3 m_check_division
noncomputable def e1_exchange_for : M D := (eVar 8)
noncomputable def b2_exchange_for : M Fl := (sIf (tOf (eCall [false, false, false, false] sem_is_exchange (aCons (eVar 3) (aCons (eVar 4) (aCons (eVar 6) (aCons (eVar 7) aNil)))))) (sRet (eTup (aCons (eVar 6) (aCons (eVar 7) aNil)))) sNx)
noncomputable def b3_exchange_for : M Fl := (sFor (eVar 5) itSeq (gVar 7) b2_exchange_for sNx)
noncomputable def m_exchange_for : M Fl := (sSeq (sExpr (eCall [false, false, false] sem_check_division (aCons (eVar 0) (aCons (eVar 1) (aCons (eVar 2) aNil))))) (sSeq (sPar 3 4 (aCons (eCall [false] sem_places_of (aCons (eVar 0) aNil)) (aCons (eCall [false] sem_places_of (aCons (eVar 1) aNil)) aNil))) (sSeq (sSet 5 (eLc (eCB dSrt (aCons (eVar 0) aNil)) itSeq (gVar 8) (tOf (eOp dNotIn (eVar 8) (eVar 2))) e1_exchange_for [8])) (sSeq (sFor (eVar 2) itSeq (gVar 6) b3_exchange_for sNx) (sRet (eC .non))))))
noncomputable def sem_exchange_for : Sem := run 9 m_exchange_for
end LB

/-! LS: what the program's shared defs compute. -/
namespace LB
open PySem L2 DL
open PySem.Spec PyProof.Rows
/-! ### items -/
def okL (c : Nat) : Bool := decide (c ∈ ("abcdefghijklmnopqrstuvwxyz" : Str).cps.toList)
def okItem (z : Str) : Bool := decide (1 ≤ z.length) && decide (z.length ≤ 8) && z.cps.toList.all okL
def isItem : D → Bool
  | .str z => okItem z
  | _ => false
/-- what a def may be handed that asks for any value -/
def AnyD (d : D) : Prop := (∀ k, d ≠ .ptr k) ∧ (tyD d).isSome = true ∧ ∀ z, d = .str z → z.length ≤ 900000
theorem okL_lt {c : Nat} (h : okL c = true) : c < 0x110000 := by
  have h1 : ("abcdefghijklmnopqrstuvwxyz" : Str).cps.toList.all (fun c => decide (c < 0x110000)) = true := by decide +kernel
  exact of_decide_eq_true (List.all_eq_true.mp h1 c (of_decide_eq_true h))
theorem okItem_ok {z : Str} (h : okItem z = true) : PyData.strOk z = true := by
  unfold okItem at h
  simp only [Bool.and_eq_true] at h
  unfold PyData.strOk
  rw [← Array.all_toList, List.all_eq_true]
  intro c hc
  exact decide_eq_true (okL_lt (List.all_eq_true.mp h.2 c hc))
theorem okItem_len {z : Str} (h : okItem z = true) : z.length ≤ 8 := by
  unfold okItem at h
  simp only [Bool.and_eq_true, decide_eq_true_eq] at h
  exact h.1.2
/-! ### rankings -/
def strs? : List D → Option (List Str) := strsD
/-- are_items of any value -/
def areItems (d : D) : Bool := match tpD d with
  | some ds => (match strsD ds with
    | some zs => zs.all okItem && decide zs.Nodup
    | none => false)
  | none => false
/-- is_ranking of any value -/
def isRank (d : D) : Bool := areItems d && (match tpD d with
  | some xs => decide (xs.length ≤ 40)
  | none => false)
/-! ### typed -/
/-- a ranking -/
structure Rk (zs : List Str) : Prop where
  ok : ∀ z ∈ zs, okItem z = true
  nd : zs.Nodup
  le : zs.length ≤ 40
theorem strsD_T (zs : List Str) : strsD (zs.map D.str) = some zs := strsD_map zs
theorem areItems_T (zs : List Str) : areItems (T zs) = (zs.all okItem && decide zs.Nodup) := by
  unfold areItems
  simp only [tpD, strsD_T]
theorem isRank_T (zs : List Str) : isRank (T zs) = (zs.all okItem && decide zs.Nodup && decide (zs.length ≤ 40)) := by
  unfold isRank
  rw [areItems_T]
  simp only [tpD, List.length_map]
theorem Rk.isRank {zs : List Str} (h : Rk zs) : LB.isRank (T zs) = true := by
  rw [isRank_T, List.all_eq_true.mpr h.ok, decide_eq_true h.nd, decide_eq_true h.le]; rfl
theorem Rk.len {zs : List Str} (h : Rk zs) : ∀ z ∈ zs, z.length ≤ 900000 := fun z hz => by
  have := okItem_len (h.ok z hz); omega
theorem Rk.Ok {zs : List Str} (h : Rk zs) : DL.Ok zs := fun z hz => okItem_ok (h.ok z hz)
/-! ### sets, rankings together -/
/-- a set of some of these -/
structure St (zs rk : List Str) : Prop where
  ok : ∀ z ∈ zs, okItem z = true
  nd : zs.Nodup
  srt : sortS zs = zs
  sub : ∀ z ∈ zs, z ∈ rk
theorem St.Ok {zs rk : List Str} (h : St zs rk) : DL.Ok zs := fun z hz => okItem_ok (h.ok z hz)
/-- two rankings of the same items -/
structure Rk2 (a b : List Str) : Prop where
  ra : Rk a
  p : b.Perm a
theorem Rk2.b {a b : List Str} (h : Rk2 a b) : Rk b := ⟨fun z hz => h.ra.ok z (h.p.mem_iff.mp hz), h.p.nodup_iff.mpr h.ra.nd, by rw [h.p.length_eq]; exact h.ra.le⟩
theorem Rk2.swap {a b : List Str} (h : Rk2 a b) : Rk2 b a := ⟨h.b, h.p.symm⟩
theorem Rk2.refl {a : List Str} (h : Rk a) : Rk2 a a := ⟨h, List.Perm.refl _⟩
/-! ### places -/
/-- a dict from the items to their places -/
def Pl (zs : List Str) : D := .dct (zs.zipIdx.map fun p => (.inr p.1, .int (p.2 : Nat)))
end LB

/-! LF2S: what the laws' own helpers do. -/
namespace LF2
open PySem L2 DL LB
open PySem.Spec PyProof.Rows
/-- a pool -/
def Pool (c : C) : Prop := ∃ a b : Int, c = .lst [.int a, .int b] ∧ 0 ≤ a ∧ 0 ≤ b ∧ b < 2147483647
theorem take_spec {c : C} {n : Int} (hc : Pool c) (hn : 0 < n) (hn2 : n < 1000000) : ∃ c' r, Pool c' ∧ 0 ≤ r ∧ r < n ∧ sem__law_take [c] [.ptr 0, .int n] = .ok (.int r) ⟨[], [some c']⟩ := by
  obtain ⟨a, b, rfl, ha, hb, hb2⟩ := hc
  by_cases h : 0 < a
  · refine ⟨.lst [.int (a / n), .int b], a % n, ⟨_, _, rfl, Int.ediv_nonneg ha (by omega), hb, hb2⟩, Int.emod_nonneg _ (by omega), Int.emod_lt_of_pos _ hn, ?_⟩
    simp [sem__law_take, m__law_take, atI, ixN, h, hn, show n < 1073741824 by omega]
  · have e : (small64 b || small64 48271) = true := by rw [small64_of hb (by omega)]; rfl
    have hx : 0 ≤ (b * 48271 + 12345) % 2147483647 := Int.emod_nonneg _ (by decide)
    have hy : (b * 48271 + 12345) % 2147483647 < 2147483647 := Int.emod_lt_of_pos _ (by decide)
    have e2 : small64 ((b * 48271 + 12345) % 2147483647) = true := small64_of hx (by omega)
    refine ⟨.lst [.int a, .int ((b * 48271 + 12345) % 2147483647)], ((b * 48271 + 12345) % 2147483647) * ((b * 48271 + 12345) % 2147483647) % 2147483629 / 64 % n, ⟨_, _, rfl, ha, hx, hy⟩, Int.emod_nonneg _ (by omega), Int.emod_lt_of_pos _ hn, ?_⟩
    simp [sem__law_take, m__law_take, atI, ixN, h, hn, e, e2]
theorem pool_spec {ns : List Int} {k : Nat} (hk : k < 1000) : ∃ c, Pool c ∧ sem__law_pool [] [.slst (ns.map .int), .int k] = .ok (.ptr 0) ⟨[], [some c]⟩ := by
  obtain ⟨L, hp, hL⟩ : ∃ L : Int, dPowI (.int 10) (.int 18) = some (.int L) ∧ 0 < L := ⟨_, rfl, by decide⟩
  have s1 : small64 7919 = true := rfl
  have s2 : small64 31 = true := rfl
  have s3 : small64 48271 = true := rfl
  have sk : small64 (k : Int) = true := small64_of (by omega) (by omega)
  have key : ∀ c : Int, 0 ≤ c → ∃ x, 0 ≤ x ∧ x < 2147483647 ∧ (c % 2147483629 + 7919 * (k : Int) * (k : Int) + 31 * (k : Int) + 17) * 48271 % 2147483647 = x := fun c _ => ⟨_, Int.emod_nonneg _ (by decide), Int.emod_lt_of_pos _ (by decide), rfl⟩
  have fin : ∀ c : Int, 0 ≤ c → ∃ y : C, Pool y ∧ (.lst [.int (c * (if L ≤ c then 1 else 0)), .int ((c % 2147483629 + 7919 * (k : Int) * (k : Int) + 31 * (k : Int) + 17) * 48271 % 2147483647 * ((c % 2147483629 + 7919 * (k : Int) * (k : Int) + 31 * (k : Int) + 17) * 48271 % 2147483647) % 2147483629)]) = y := fun c hc => by
    refine ⟨_, ⟨_, _, rfl, ?_, Int.emod_nonneg _ (by decide), ?_⟩, rfl⟩
    · split
      · omega
      · omega
    · have := Int.emod_lt_of_pos ((c % 2147483629 + 7919 * (k : Int) * (k : Int) + 31 * (k : Int) + 17) * 48271 % 2147483647 * ((c % 2147483629 + 7919 * (k : Int) * (k : Int) + 31 * (k : Int) + 17) * 48271 % 2147483647)) (show (0 : Int) < 2147483629 by decide)
      omega
  have sm : ∀ c : Int, small64 ((c % 2147483629 + 7919 * (k : Int) * (k : Int) + 31 * (k : Int) + 17) * 48271 % 2147483647) = true := fun c => small64_of (Int.emod_nonneg _ (by decide)) (by have := Int.emod_lt_of_pos ((c % 2147483629 + 7919 * (k : Int) * (k : Int) + 31 * (k : Int) + 17) * 48271) (show (0 : Int) < 2147483647 by decide); omega)
  have si : ∀ c : Int, small64 (if L ≤ c then 1 else 0) = true := fun c => by split <;> rfl
  by_cases h : k < ns.length
  · have hat : atI (ns.map D.int) (k : Int) = some (.int ns[k]) := by rw [atI_nat (by simpa using h)]; simp [h]
    obtain ⟨y, hy, e⟩ := fin (if ns[k] < 0 then -ns[k] else ns[k]) (by split <;> omega)
    refine ⟨y, hy, ?_⟩
    subst e
    simp [sem__law_pool, m__law_pool, h, hat, hp, s1, s2, s3, sk, sm, si]
  · obtain ⟨y, hy, e⟩ := fin 0 (by omega)
    refine ⟨y, hy, ?_⟩
    subst e
    have sm0 := sm 0
    simp only [Int.zero_emod, Int.zero_add] at sm0
    have s0 : small64 0 = true := rfl
    simp [sem__law_pool, m__law_pool, h, hp, hL, show ¬ L ≤ 0 by omega, s0, s1, s2, s3, sk, sm0, si]

theorem perm_np {xs ys : List D} (h : ys.Perm xs) (hx : npL xs = true) : npL ys = true := npL_iff.mpr fun y hy => npL_iff.mp hx y (h.mem_iff.mp hy)
theorem erase_perm {α : Type} : ∀ {l : List α} {k : Nat} (h : k < l.length), (l[k] :: l.eraseIdx k).Perm l
  | x :: l, 0, _ => List.Perm.refl _
  | x :: l, k + 1, h => by
    have ih := erase_perm (l := l) (k := k) (by simpa using h)
    exact (List.Perm.swap _ _ _).trans (List.Perm.cons x ih)
theorem turning_spec {c : C} {d : D} {xs : List D} (hd1 : lstOf d = some xs) (hd2 : dLen d = some (.int xs.length)) (hd3 : ∀ M, view M d = d) (hc : Pool c) (hx : npL xs = true) (hl : xs.length < 1000000) : ∃ c' ys, Pool c' ∧ ys.Perm xs ∧ sem__law_turning [c] [.ptr 0, d] = .ok (.lst ys) ⟨[], [some c']⟩ := by
  obtain ⟨n, hn⟩ : ∃ n, n = xs.length := ⟨_, rfl⟩
  have rng : rngOk (xs.length : Int) = true := by simp [rngOk]; omega
  obtain ⟨s', ⟨c', left, found, o, hc', h1, h2, h3, rfl⟩, h⟩ := forL_inv (d := .tup [.int 0, .int xs.length]) (M0 := [some c, some (.lst xs), some (.lst [])]) (g := gVar 4) (body := b1__law_turning) (els := sNx) (ds := (List.range xs.length).map fun (i : Nat) => D.int i)
    (fun i s => ∃ (c' : C) (left found : List D) (o : Option D), Pool c' ∧ (found ++ left).Perm xs ∧ found.length = i ∧ left.length + i = xs.length ∧ s = ⟨[some (.ptr 0), some d, some (.ptr 1), some (.ptr 2), o], [some c', some (.lst left), some (.lst found)]⟩)
    (fun i x s e ⟨c1, left, found, o, hc1, h1, h2, h3, e1⟩ => by
      subst e1
      have hi : i < xs.length := by have := (List.getElem?_eq_some_iff.mp e).1; simpa using this
      obtain ⟨c2, r, hc2, r0, r1, ht⟩ := take_spec (n := (left.length : Int)) hc1 (by omega) (by omega)
      obtain ⟨k, rfl⟩ : ∃ k : Nat, r = (k : Int) := ⟨r.toNat, by omega⟩
      have hk : k < left.length := by omega
      obtain ⟨a, b, rfl, _⟩ := hc1
      obtain ⟨a2, b2, rfl, _⟩ := id hc2
      have hp : (found ++ [left[k]] ++ left.eraseIdx k).Perm xs := by
        refine List.Perm.trans ?_ h1
        rw [List.append_assoc]
        exact List.Perm.append_left _ (erase_perm hk)
      have nl : npL left = true := npL_iff.mpr fun y hy => npL_iff.mp (perm_np h1 hx) y (List.mem_append_right _ hy)
      refine ⟨⟨[some (.ptr 0), some d, some (.ptr 1), some (.ptr 2), some x], [some (.lst [.int a, .int b]), some (.lst left), some (.lst found)]⟩, _, by simp, .inl ?_, by simp, _, left.eraseIdx k, found ++ [left[k]], some x, hc2, hp, by simp [h2], ?_, rfl⟩
      · simp [b1__law_turning, callS, ht, cPopAt, ixN_nat hk, show left.length ≤ 1000000 by omega, hk, cAppend, show found.length < 1000000 by omega]
      · rw [List.length_eraseIdx, if_pos hk]; omega) (s := ⟨[some (.ptr 0), some d, some (.ptr 1), some (.ptr 2), none], [some c, some (.lst xs), some (.lst [])]⟩) ⟨c, xs, [], none, hc, by simp, rfl, by simp, rfl⟩
  have hz : left = [] := by
    refine List.eq_nil_of_length_eq_zero ?_
    rw [List.length_map, List.length_range] at h3
    omega
  subst hz
  rw [List.append_nil] at h1
  obtain ⟨a, b, rfl, _⟩ := hc
  obtain ⟨a2, b2, rfl, _⟩ := id hc'
  refine ⟨_, found, hc', h1, ?_⟩
  simp [sem__law_turning, m__law_turning, hd1, hd2, hd3, rng, h, outD, perm_np h1 hx]

theorem Pool.np {c : C} (h : Pool c) : c.np = true := by
  obtain ⟨_, _, rfl, _⟩ := h
  rfl
/-- a call that writes the first cell -/
theorem call_tf {sem : Sem} {c c' : C} {d r : D} (hs : sem [c] [.ptr 0, d] = .ok r ⟨[], [some c']⟩) (hc : c.np = true) (hd : DL.np d = true) (hr : DL.np r = true) (hc' : c'.np = true) (env : List (Option D)) (M : List (Option C)) :
    callS [true, false] sem [.ptr 0, d] ⟨env, some c :: M⟩ = .ok r ⟨env, some c' :: M⟩ := by
  have nd : ∀ k, d ≠ .ptr k := fun k e => by subst e; cases hd
  unfold callS
  rw [prep_t]
  dsimp only [List.getElem?_cons_zero]
  rw [if_pos hc, prep_fv nd, if_pos hd, prep_nil]
  dsimp only [Option.map_some]
  rw [if_pos ⟨by simp, by simp⟩, hs]
  simp [hr, hc', hc]
theorem call_tff {sem : Sem} {c c' : C} {d e r : D} (hs : sem [c] [.ptr 0, d, e] = .ok r ⟨[], [some c']⟩) (hc : c.np = true) (hd : DL.np d = true) (he : DL.np e = true) (hr : DL.np r = true) (hc' : c'.np = true) (env : List (Option D)) (M : List (Option C)) :
    callS [true, false, false] sem [.ptr 0, d, e] ⟨env, some c :: M⟩ = .ok r ⟨env, some c' :: M⟩ := by
  have nd : ∀ k, d ≠ .ptr k := fun k e => by subst e; cases hd
  have ne : ∀ k, e ≠ .ptr k := fun k q => by subst q; cases he
  unfold callS
  rw [prep_t]
  dsimp only [List.getElem?_cons_zero]
  rw [if_pos hc, prep_fv nd, if_pos hd, prep_fv ne, if_pos he, prep_nil]
  dsimp only [Option.map_some]
  rw [if_pos ⟨by simp, by simp⟩, hs]
  simp [hr, hc', hc]
/-- a call that writes the last cell -/
theorem call_last {sem : Sem} {c c' : C} {d r : D} (hs : sem [c] [.ptr 0, d] = .ok r ⟨[], [some c']⟩) (hc : c.np = true) (hd : DL.np d = true) (hr : DL.np r = true) (hc' : c'.np = true) (env : List (Option D)) (M : List (Option C)) :
    callS [true, false] sem [.ptr M.length, d] ⟨env, M ++ [some c]⟩ = .ok r ⟨env, M ++ [some c']⟩ := by
  have nd : ∀ k, d ≠ .ptr k := fun k e => by subst e; cases hd
  have e1 : (M ++ [some c])[M.length]? = some (some c) := List.getElem?_concat_length
  unfold callS
  rw [prep_t]
  dsimp only
  rw [e1]
  dsimp only
  rw [if_pos hc, prep_fv nd, if_pos hd, prep_nil]
  dsimp only [Option.map_some]
  rw [if_pos ⟨by simp, by simp⟩, hs]
  simp [hr, hc', hc]
theorem call_pool {sem : Sem} {c : C} {d e : D} (hs : sem [] [d, e] = .ok (.ptr 0) ⟨[], [some c]⟩) (hd : DL.np d = true) (he : DL.np e = true) (hc : c.np = true) (env : List (Option D)) (M : List (Option C)) :
    callSC [false, false] sem [d, e] ⟨env, M⟩ = .ok (.ptr M.length) ⟨env, M ++ [some c]⟩ := by
  have nd : ∀ k, d ≠ .ptr k := fun k e => by subst e; cases hd
  have ne : ∀ k, e ≠ .ptr k := fun k q => by subst q; cases he
  unfold callSC
  rw [prep_fv nd, if_pos hd, prep_fv ne, if_pos he, prep_nil]
  dsimp only [Option.map_some]
  rw [if_pos ⟨by simp, by simp⟩, hs]
  simp [hc]
theorem map_perm {α β : Type} {f : α → β} : ∀ {ys zs : List β}, ys.Perm zs → ∀ {l : List α}, ys = l.map f → ∃ l', zs = l'.map f ∧ l.Perm l' := by
  intro ys zs h
  induction h with
  | nil => intro l e; exact ⟨[], rfl, by rw [List.map_eq_nil_iff.mp e.symm]⟩
  | cons x _ ih =>
    intro l e
    cases l with
    | nil => cases e
    | cons a l =>
      injection e with e1 e2
      obtain ⟨l', e3, p⟩ := ih e2
      exact ⟨a :: l', by rw [e3, e1]; rfl, p.cons a⟩
  | swap x y r =>
    intro l e
    match l, e with
    | a :: b :: l, e =>
      injection e with e1 e2
      injection e2 with e2 e3
      exact ⟨b :: a :: l, by rw [e1, e2, e3]; rfl, List.Perm.swap _ _ _⟩
  | trans _ _ ih1 ih2 =>
    intro l e
    obtain ⟨l1, e1, p1⟩ := ih1 e
    obtain ⟨l2, e2, p2⟩ := ih2 e1
    exact ⟨l2, e2, p1.trans p2⟩
theorem turning_strs {c : C} {zs : List Str} (hc : Pool c) (hl : zs.length < 1000000) : ∃ (c' : C) (ys : List Str), Pool c' ∧ ys.Perm zs ∧ sem__law_turning [c] [.ptr 0, .lst (zs.map .str)] = .ok (.lst (ys.map .str)) ⟨[], [some c']⟩ := by
  obtain ⟨c', ys, h1, h2, h3⟩ := turning_spec (d := .lst (zs.map .str)) (xs := zs.map .str) rfl rfl (fun _ => rfl) hc (by simp) (by simpa using hl)
  obtain ⟨zs', rfl, p⟩ := map_perm h2.symm rfl
  exact ⟨c', zs', h1, p.symm, h3⟩
/-! ### slices -/
theorem cut_to (xs : List D) (k : Nat) : cutD xs none (some (k : Int)) = xs.take k := by
  unfold DL.cutD
  rw [HT.sIx_none, HT.sIx_nat]
  simp [List.take_eq_take_iff]
theorem dSl_lst_to (xs : List D) (k : Nat) : dSl (.lst xs) none (some (k : Int)) = some (.lst (xs.take k)) := by simp only [dSl, cut_to]
/-! ### names, rankings -/
def N14 : List Str := ["b", "a", "zz", "z", "abcdefgh", "m", "mm", "q", "c", "kk", "y", "x", "dd", "e"]
theorem N14_ok : ∀ z ∈ N14, okItem z = true := by
  have h : N14.all okItem = true := by decide +kernel
  exact List.all_eq_true.mp h
theorem N14_len : N14.length = 14 := rfl
theorem N14_nd : N14.Nodup := by decide +kernel
theorem names_specN {c : C} {n : Nat} (hc : Pool c) (hn : n ≤ 13) : ∃ (c' : C) (zs : List Str), Pool c' ∧ zs.length = n ∧ zs.Nodup ∧ (∀ z ∈ zs, okItem z = true ∧ z ∈ N14) ∧ sem__law_names [c] [.ptr 0, .int n] = .ok (.lst (zs.map .str)) ⟨[], [some c']⟩ := by
  obtain ⟨ts, hts⟩ : ∃ ts, ts = N14.take (n + 1) := ⟨_, rfl⟩
  have hl : ts.length = n + 1 := by rw [hts, List.length_take]; show min (n + 1) 14 = n + 1; omega
  obtain ⟨c', ys, hc', p, h⟩ := turning_strs (zs := ts) hc (by omega)
  have hyl : ys.length = n + 1 := by rw [p.length_eq, hl]
  have nd : ys.Nodup := p.nodup_iff.mpr (by rw [hts]; exact N14_nd.sublist (List.take_sublist _ _))
  have sub : ∀ z ∈ ys, z ∈ N14 := fun z hz => List.mem_of_mem_take (hts ▸ p.mem_iff.mp hz)
  obtain ⟨us, hus⟩ : ∃ us, us = ys.take n := ⟨_, rfl⟩
  refine ⟨c', us, hc', by rw [hus, List.length_take]; omega, by rw [hus]; exact nd.sublist (List.take_sublist _ _), fun z hz => ⟨N14_ok z (sub z (List.mem_of_mem_take (hus ▸ hz))), sub z (List.mem_of_mem_take (hus ▸ hz))⟩, ?_⟩
  have t1 := call_tf h hc.np (by simp) (by simp) hc'.np
  have e1 : dSl (.lst (N14.map D.str)) none (some ((n : Int) + 1)) = some (.lst (ts.map D.str)) := by
    have := dSl_lst_to (N14.map D.str) (n + 1)
    rw [← List.map_take, ← hts] at this
    rw [show (n : Int) + 1 = ((n + 1 : Nat) : Int) by omega]
    exact this
  have e2 : dSl (.lst (ys.map D.str)) none (some (n : Int)) = some (.lst (us.map D.str)) := by
    have := dSl_lst_to (ys.map D.str) n
    rwa [← List.map_take, ← hus] at this
  have e0 : ([D.str "b", D.str "a", D.str "zz", D.str "z", D.str "abcdefgh", D.str "m", D.str "mm", D.str "q", D.str "c", D.str "kk", D.str "y", D.str "x", D.str "dd", D.str "e"] : List D) = N14.map D.str := rfl
  simp only [sem__law_names, m__law_names]
  simp [e0, e1, t1, e2, hc'.np, N14_len]
theorem names_spec {c : C} {n : Nat} (hc : Pool c) (hn : n ≤ 13) : ∃ (c' : C) (zs : List Str), Pool c' ∧ zs.length = n ∧ zs.Nodup ∧ (∀ z ∈ zs, okItem z = true) ∧ sem__law_names [c] [.ptr 0, .int n] = .ok (.lst (zs.map .str)) ⟨[], [some c']⟩ := by
  obtain ⟨c', zs, h1, h2, h3, h4, h5⟩ := names_specN hc hn
  exact ⟨c', zs, h1, h2, h3, fun z hz => (h4 z hz).1, h5⟩
end LF2

set_option pp.maxSteps 1500
/-! K03a: each class's kinds and bases. -/
namespace K03
open PySem L2 DL
open PySem.Spec PyProof.Rows
def kd (i : Nat) : D := .lst ((List.range 12).map fun j => .bl (decide (j = i)))
def bs (l : List Bool) : D := .lst (l.map .bl)
theorem kinds_0 (m : List C) (fs : List (Str × D)) : sem__law_kinds m [.exn "InvalidItem" fs] = .ok (kd 0) ⟨[], m.map some⟩ := by
  kernel_rfl
theorem bases_0 (m : List C) (fs : List (Str × D)) : sem__law_bases m [.exn "InvalidItem" fs] = .ok (bs [true, true, false, false, false, false]) ⟨[], m.map some⟩ := by
  kernel_rfl
theorem due_0 : sem__law_due [] [.int 0] = .ok (bs [true, true, false, false, false, false]) ⟨[], []⟩ := by
  kernel_rfl
theorem kinds_1 (m : List C) (fs : List (Str × D)) : sem__law_kinds m [.exn "InvalidRanking" fs] = .ok (kd 1) ⟨[], m.map some⟩ := by
  kernel_rfl
theorem bases_1 (m : List C) (fs : List (Str × D)) : sem__law_bases m [.exn "InvalidRanking" fs] = .ok (bs [true, true, false, false, false, false]) ⟨[], m.map some⟩ := by
  kernel_rfl
theorem due_1 : sem__law_due [] [.int 1] = .ok (bs [true, true, false, false, false, false]) ⟨[], []⟩ := by
  kernel_rfl
theorem kinds_2 (m : List C) (fs : List (Str × D)) : sem__law_kinds m [.exn "InvalidTurns" fs] = .ok (kd 2) ⟨[], m.map some⟩ := by
  kernel_rfl
theorem bases_2 (m : List C) (fs : List (Str × D)) : sem__law_bases m [.exn "InvalidTurns" fs] = .ok (bs [true, true, false, false, false, false]) ⟨[], m.map some⟩ := by
  kernel_rfl
theorem due_2 : sem__law_due [] [.int 2] = .ok (bs [true, true, false, false, false, false]) ⟨[], []⟩ := by
  kernel_rfl
theorem kinds_3 (m : List C) (fs : List (Str × D)) : sem__law_kinds m [.exn "InvalidSet" fs] = .ok (kd 3) ⟨[], m.map some⟩ := by
  kernel_rfl
theorem bases_3 (m : List C) (fs : List (Str × D)) : sem__law_bases m [.exn "InvalidSet" fs] = .ok (bs [true, true, false, false, false, false]) ⟨[], m.map some⟩ := by
  kernel_rfl
theorem due_3 : sem__law_due [] [.int 3] = .ok (bs [true, true, false, false, false, false]) ⟨[], []⟩ := by
  kernel_rfl
theorem kinds_4 (m : List C) (fs : List (Str × D)) : sem__law_kinds m [.exn "InvalidFact" fs] = .ok (kd 4) ⟨[], m.map some⟩ := by
  kernel_rfl
theorem bases_4 (m : List C) (fs : List (Str × D)) : sem__law_bases m [.exn "InvalidFact" fs] = .ok (bs [true, true, false, false, false, false]) ⟨[], m.map some⟩ := by
  kernel_rfl
theorem due_4 : sem__law_due [] [.int 4] = .ok (bs [true, true, false, false, false, false]) ⟨[], []⟩ := by
  kernel_rfl
theorem kinds_5 (m : List C) (fs : List (Str × D)) : sem__law_kinds m [.exn "InvalidNumber" fs] = .ok (kd 5) ⟨[], m.map some⟩ := by
  kernel_rfl
theorem bases_5 (m : List C) (fs : List (Str × D)) : sem__law_bases m [.exn "InvalidNumber" fs] = .ok (bs [true, true, false, false, false, false]) ⟨[], m.map some⟩ := by
  kernel_rfl
theorem due_5 : sem__law_due [] [.int 5] = .ok (bs [true, true, false, false, false, false]) ⟨[], []⟩ := by
  kernel_rfl
theorem kinds_6 (m : List C) (fs : List (Str × D)) : sem__law_kinds m [.exn "InvalidText" fs] = .ok (kd 6) ⟨[], m.map some⟩ := by
  kernel_rfl
theorem bases_6 (m : List C) (fs : List (Str × D)) : sem__law_bases m [.exn "InvalidText" fs] = .ok (bs [true, true, false, false, false, false]) ⟨[], m.map some⟩ := by
  kernel_rfl
theorem due_6 : sem__law_due [] [.int 6] = .ok (bs [true, true, false, false, false, false]) ⟨[], []⟩ := by
  kernel_rfl
theorem kinds_7 (m : List C) (fs : List (Str × D)) : sem__law_kinds m [.exn "InvalidCommand" fs] = .ok (kd 7) ⟨[], m.map some⟩ := by
  kernel_rfl
theorem bases_7 (m : List C) (fs : List (Str × D)) : sem__law_bases m [.exn "InvalidCommand" fs] = .ok (bs [true, true, false, false, false, false]) ⟨[], m.map some⟩ := by
  kernel_rfl
theorem due_7 : sem__law_due [] [.int 7] = .ok (bs [true, true, false, false, false, false]) ⟨[], []⟩ := by
  kernel_rfl
theorem kinds_8 (m : List C) (fs : List (Str × D)) : sem__law_kinds m [.exn "UnknownItem" fs] = .ok (kd 8) ⟨[], m.map some⟩ := by
  kernel_rfl
theorem bases_8 (m : List C) (fs : List (Str × D)) : sem__law_bases m [.exn "UnknownItem" fs] = .ok (bs [false, false, true, true, false, false]) ⟨[], m.map some⟩ := by
  kernel_rfl
theorem due_8 : sem__law_due [] [.int 8] = .ok (bs [false, false, true, true, false, false]) ⟨[], []⟩ := by
  kernel_rfl
theorem kinds_9 (m : List C) (fs : List (Str × D)) : sem__law_kinds m [.exn "NoTurn" fs] = .ok (kd 9) ⟨[], m.map some⟩ := by
  kernel_rfl
theorem bases_9 (m : List C) (fs : List (Str × D)) : sem__law_bases m [.exn "NoTurn" fs] = .ok (bs [false, false, false, true, false, false]) ⟨[], m.map some⟩ := by
  kernel_rfl
theorem due_9 : sem__law_due [] [.int 9] = .ok (bs [false, false, false, true, false, false]) ⟨[], []⟩ := by
  kernel_rfl
theorem kinds_10 (m : List C) (fs : List (Str × D)) : sem__law_kinds m [.exn "LimitExceeded" fs] = .ok (kd 10) ⟨[], m.map some⟩ := by
  kernel_rfl
theorem bases_10 (m : List C) (fs : List (Str × D)) : sem__law_bases m [.exn "LimitExceeded" fs] = .ok (bs [false, false, false, false, true, true]) ⟨[], m.map some⟩ := by
  kernel_rfl
theorem due_10 : sem__law_due [] [.int 10] = .ok (bs [false, false, false, false, true, true]) ⟨[], []⟩ := by
  kernel_rfl
theorem kinds_11 (m : List C) (fs : List (Str × D)) : sem__law_kinds m [.exn "Contradiction" fs] = .ok (kd 11) ⟨[], m.map some⟩ := by
  kernel_rfl
theorem bases_11 (m : List C) (fs : List (Str × D)) : sem__law_bases m [.exn "Contradiction" fs] = .ok (bs [false, false, false, false, false, true]) ⟨[], m.map some⟩ := by
  kernel_rfl
theorem due_11 : sem__law_due [] [.int 11] = .ok (bs [false, false, false, false, false, true]) ⟨[], []⟩ := by
  kernel_rfl
end K03

/-! LB2: more readings of the program's defs. -/
namespace LB2
open PySem L2 DL
open PySem.Spec PyProof.Rows
noncomputable def e1_is_turns : M D := (eOp dIn (eVar 2) (eC (.tup [(.str "A"), (.str "B")])))
noncomputable def m_is_turns : M Fl := (sRet (eAnd (eCB (g2 dIsi) (aCons (eVar 0) (aCons (eC (.raw (.ty "str"))) aNil))) (eAnd (eOp dEq (eCB (g1 dLen) (aCons (eVar 0) aNil)) (eVar 1)) (eCB (g1 dAll) (aCons (eLc (eVar 0) itSeq (gVar 2) tYesM e1_is_turns [2]) aNil)))))
noncomputable def sem_is_turns : Sem := run 3 m_is_turns
end LB2

/-! LG: readings of games. -/
namespace LG
open PySem L2 DL LB LB2
open PySem.Spec PyProof.Rows
noncomputable def m_check_known : M Fl := (sIf (tOrM (tNotM (tOf (eCB (g2 dIsi) (aCons (eVar 0) (aCons (eC (.raw (.ty "str"))) aNil))))) (tOf (eOp dNotIn (eVar 0) (eVar 1)))) eFail sNx)
noncomputable def sem_check_known : Sem := run 2 m_check_known
noncomputable def m_Game__ranking_a : M Fl := (sRet (eOp dSub (eFld "Game" "rows" (eVar 0)) (eC (.int 0))))
noncomputable def sem_Game__ranking_a : Sem := run 1 m_Game__ranking_a
noncomputable def m_Game__ranking_b : M Fl := (sRet (eOp dSub (eFld "Game" "rows" (eVar 0)) (eC (.int 1))))
noncomputable def sem_Game__ranking_b : Sem := run 1 m_Game__ranking_b
noncomputable def m_Game__turns : M Fl := (sRet (eOp dSub (eFld "Game" "rows" (eVar 0)) (eC (.int 2))))
noncomputable def sem_Game__turns : Sem := run 1 m_Game__turns
noncomputable def m_Game__player : M Fl := (sSeq (sSet 1 (eOp dSub (eFld "Game" "rows" (eVar 0)) (eC (.int 2)))) (sRet (eIf (tOf (eOp dNe (eVar 1) (eC (.str "")))) (eOp dSub (eVar 1) (eC (.int 0))) (eC .non))))
noncomputable def sem_Game__player : Sem := run 2 m_Game__player
noncomputable def m_Game__ranking : M Fl := (sRet (eIf (tOf (eOp dEq (eVar 1) (eC (.str "A")))) (eOp dSub (eFld "Game" "rows" (eVar 0)) (eC (.int 0))) (eOp dSub (eFld "Game" "rows" (eVar 0)) (eC (.int 1)))))
noncomputable def sem_Game__ranking : Sem := run 2 m_Game__ranking
noncomputable def m_Game__require_turn : M Fl := (sIf (tOf (eOp dEq (eOp dSub (eFld "Game" "rows" (eVar 0)) (eC (.int 2))) (eC (.str "")))) eFail sNx)
noncomputable def sem_Game__require_turn : Sem := run 1 m_Game__require_turn
noncomputable def m_with_item : M Fl := (sSeq (sAsg (eVar 0) (hTup 2 (hMore (hVar 3) (hMore (hVar 4) hNone)))) (sSeq (sIf (tOf (eOp dEq (eVar 1) (eC (.str "A")))) (sRet (eTup (aCons (eCall [false] sem_as_set (aCons (eOp dAdd (eVar 3) (eTup (aCons (eVar 2) aNil))) aNil)) (aCons (eVar 4) aNil)))) sNx) (sRet (eTup (aCons (eVar 3) (aCons (eCall [false] sem_as_set (aCons (eOp dAdd (eVar 4) (eTup (aCons (eVar 2) aNil))) aNil)) aNil))))))
noncomputable def sem_with_item : Sem := run 5 m_with_item
noncomputable def m_Game____init__ : M Fl := (sSeq (sExpr (eCallV sem_check_rankings (aCons (eVar 1) (aCons (eVar 2) aNil)))) (sSeq (sIf (tNotM (tOf (eCall [false, false] sem_is_turns (aCons (eVar 3) (aCons (eCB (g1 dLen) (aCons (eVar 1) aNil)) aNil))))) eFail sNx) (sFldS "Game" "rows" (eVar 0) (eTup (aCons (eVar 1) (aCons (eVar 2) (aCons (eVar 3) aNil)))))))
noncomputable def sem_Game____init__ : Sem := run 4 m_Game____init__
noncomputable def e1_Game__without : M D := (eVar 5)
noncomputable def e2_Game__without : M D := (eVar 5)
noncomputable def m_Game__without : M Fl := (sSeq (sSet 3 (eCB (g1 dTuple) (aCons (eLc (eOp dSub (eFld "Game" "rows" (eVar 0)) (eC (.int 0))) itSeq (gVar 5) (tOf (eOp dNe (eVar 5) (eVar 1))) e1_Game__without [5]) aNil))) (sSeq (sSet 4 (eCB (g1 dTuple) (aCons (eLc (eOp dSub (eFld "Game" "rows" (eVar 0)) (eC (.int 1))) itSeq (gVar 5) (tOf (eOp dNe (eVar 5) (eVar 1))) e2_Game__without [5]) aNil))) (sRet (eMake "Game" [false, false, false] sem_Game____init__ (aCons (eVar 3) (aCons (eVar 4) (aCons (eVar 2) aNil)))))))
noncomputable def sem_Game__without : Sem := run 6 m_Game__without
noncomputable def m_Game__after : M Fl := (sSeq (sExpr (eMeth "Game" "require_turn" [false] sem_Game__require_turn (eVar 0) aNil)) (sSeq (sExpr (eCall [false, false] sem_check_known (aCons (eVar 1) (aCons (eOp dSub (eFld "Game" "rows" (eVar 0)) (eC (.int 0))) aNil)))) (sRet (eMeth "Game" "without" [false, false, false] sem_Game__without (eVar 0) (aCons (eVar 1) (aCons (eSl dSl (eOp dSub (eFld "Game" "rows" (eVar 0)) (eC (.int 2))) (oSome (eC (.int 1))) oNone) aNil))))))
noncomputable def sem_Game__after : Sem := run 2 m_Game__after
noncomputable def t1_sincere_division : M Bool := (tOf (eOp dNot (eProp "Game" sem_Game__player (eVar 0)) (eC .non)))
noncomputable def b2_sincere_division : M Fl := (sSeq (sSet 2 (eProp "Game" sem_Game__player (eVar 0))) (sSeq (sSet 3 (eOp dSub (eMeth "Game" "ranking" [false, false] sem_Game__ranking (eVar 0) (aCons (eVar 2) aNil)) (eC (.int 0)))) (sSeq (sSet 1 (eCall [false, false, false] sem_with_item (aCons (eVar 1) (aCons (eVar 2) (aCons (eVar 3) aNil))))) (sSet 0 (eMeth "Game" "after" [false, false] sem_Game__after (eVar 0) (aCons (eVar 3) aNil))))))
noncomputable def m_sincere_division : M Fl := (sSeq (sSet 1 (eTup (aCons (eTup aNil) (aCons (eTup aNil) aNil)))) (sSeq (whileL t1_sincere_division b2_sincere_division 100000) (sRet (eVar 1))))
noncomputable def sem_sincere_division : Sem := run 4 m_sincere_division
end LG

set_option pp.maxSteps 200
/-! LF1S: what the helpers of the first laws do. -/
namespace LF1
open PySem L2 DL LB
open LF2 (sem__law_take m__law_take Pool take_spec perm_np erase_perm call_tf call_tff map_perm)
open PySem.Spec PyProof.Rows
theorem pool_spec {ns : List Int} {k : Nat} (hk : k < 1000) : ∃ c, Pool c ∧ sem__law_pool [] [.slst (ns.map .int), .int k] = .ok (.ptr 0) ⟨[], [some c]⟩ := by
  obtain ⟨L, hp, hL⟩ : ∃ L : Int, dPowI (.int 10) (.int 18) = some (.int L) ∧ 0 < L := ⟨_, rfl, by decide⟩
  have s1 : small64 104729 = true := rfl
  have s3 : small64 48271 = true := rfl
  have sk : small64 ((k : Int) + 7) = true := small64_of (by omega) (by omega)
  have sm : ∀ c : Int, small64 (c % 2147483629) = true := fun c => small64_of (Int.emod_nonneg _ (by decide)) (by have := Int.emod_lt_of_pos c (show (0 : Int) < 2147483629 by decide); omega)
  have si : ∀ c : Int, small64 (if L ≤ c then 1 else 0) = true := fun c => by split <;> rfl
  have fin : ∀ (c x : Int), 0 ≤ c → ∃ y : C, Pool y ∧ (.lst [.int (c * (if L ≤ c then 1 else 0)), .int (x % 2147483647)]) = y := fun c x hc => by
    refine ⟨_, ⟨_, _, rfl, ?_, Int.emod_nonneg _ (by decide), Int.emod_lt_of_pos _ (by decide)⟩, rfl⟩
    split
    · omega
    · omega
  by_cases h : k < ns.length
  · have hat : atI (ns.map D.int) (k : Int) = some (.int ns[k]) := by rw [DL.atI_nat (by simpa using h)]; simp [h]
    obtain ⟨b, hb⟩ : ∃ b : Int, b = (ns[k] % 2147483629 + 104729 * ((k : Int) + 1)) * ((k : Int) + 7) % 2147483629 := ⟨_, rfl⟩
    have sb : small64 b = true := by rw [hb]; exact sm _
    obtain ⟨y, hy, e⟩ := fin (if ns[k] < 0 then -ns[k] else ns[k]) (b * b % 2147483629 * 48271) (by split <;> omega)
    refine ⟨y, hy, ?_⟩
    subst e
    simp [sem__law_pool, m__law_pool, h, hat, hp, s1, s3, sk, sm, si, ← hb, sb]
  · obtain ⟨b, hb⟩ : ∃ b : Int, b = (104729 * ((k : Int) + 1)) * ((k : Int) + 7) % 2147483629 := ⟨_, rfl⟩
    have sb : small64 b = true := by rw [hb]; exact sm _
    obtain ⟨y, hy, e⟩ := fin 0 (b * b % 2147483629 * 48271) (by omega)
    refine ⟨y, hy, ?_⟩
    subst e
    have s0 : small64 0 = true := rfl
    simp [sem__law_pool, m__law_pool, h, hp, hL, show ¬ L ≤ 0 by omega, s0, s1, s3, sk, sm, si, ← hb, sb]
/-! ### names -/
def chr (i : Nat) : Str := ⟨#[97 + i]⟩
def nm0 (i : Nat) : Str := Txt.mul (chr (i % 26)) ((1 + i / 26 : Nat) : Int)
def nmF (w i : Nat) : Str := if w = 0 then nm0 i else if w = 1 then ("q" : Str) ++ nm0 i else Txt.mul (chr (i % 26)) 6 ++ nm0 i
def nms (w n : Nat) : List Str := (List.range n).map (nmF w)
theorem ABC_at : ∀ i < 26, (("abcdefghijklmnopqrstuvwxyz" : Str).cps.toList[i]?) = some (97 + i) := by decide +kernel
theorem dSub_abc {i : Nat} (h : i < 26) : dSub (.str "abcdefghijklmnopqrstuvwxyz") (.int (i : Int)) = some (.str (chr i)) := by
  have e : dIxS (.str "abcdefghijklmnopqrstuvwxyz") (.int (i : Int)) = some (.str (chr i)) := by
    unfold dIxS
    dsimp only
    rw [if_pos (by decide +kernel), DL.atI_nat (show i < ("abcdefghijklmnopqrstuvwxyz" : Str).cps.toList.length from Nat.lt_of_lt_of_le h (by decide +kernel)), ABC_at i h]
    rfl
  have e1 : dIx (.str "abcdefghijklmnopqrstuvwxyz") (.int (i : Int)) = none := rfl
  unfold dSub dIxA orD
  rw [e1, e]
theorem len_nm0 {i : Nat} (h : i < 42) : (nm0 i).length ≤ 8 := by
  have h1 : ∀ i < 42, (nm0 i).length ≤ 8 := by decide +kernel
  exact h1 i h
theorem len_six {i : Nat} (h : i < 26) : (Txt.mul (chr i) 6).length ≤ 8 := by
  have h1 : ∀ i < 26, (Txt.mul (chr i) 6).length ≤ 8 := by decide +kernel
  exact h1 i h
theorem dAdd_str {a b : Str} (h : a.length + b.length ≤ 1000000) : dAdd (.str a) (.str b) = some (.str (a ++ b)) := by
  have e : dAddS (.str a) (.str b) = some (.str (a ++ b)) := by
    unfold dAddS
    dsimp only
    rw [if_pos h]
  show (match dAddS (.str a) (.str b) with | some z' => some z' | none => _) = _
  rw [e]
theorem names_spec {c : C} {n : Nat} (hc : Pool c) (hn : n ≤ 42) : ∃ (c' : C) (w : Nat), Pool c' ∧ w < 3 ∧ sem__law_names [c] [.ptr 0, .int n] = .ok (.lst ((nms w n).map .str)) ⟨[], [some c']⟩ := by
  obtain ⟨c1, r, hc1, r0, r1, h1⟩ := take_spec (n := 3) hc (by decide) (by decide)
  obtain ⟨w, rfl⟩ : ∃ k : Nat, r = (k : Int) := ⟨r.toNat, by omega⟩
  have hw : w < 3 := by omega
  have t1 := call_tf h1 hc.np rfl rfl hc1.np
  let st : Option D → Option D → List D → DL.S := fun o5 o6 f => ⟨[some (.ptr 0), some (.int n), some (.str "abcdefghijklmnopqrstuvwxyz"), some (.int w), some (.ptr 1), o5, o6], [some c1, some (.lst f)]⟩
  have rng : rngOk (n : Int) = true := by simp [rngOk]; omega
  obtain ⟨s', ⟨o5, o6, es⟩, h⟩ := forL_inv (d := .tup [.int 0, .int n]) (M0 := [some c1, some (.lst [])]) (g := gVar 5) (body := b1__law_names) (els := sNx) (ds := (List.range n).map fun (i : Nat) => D.int i)
    (fun i s => ∃ o5 o6, s = st o5 o6 ((nms w i).map .str))
    (fun i x s e ⟨o5, o6, es⟩ => by
      subst es
      have hi : i < n := by have := (List.getElem?_eq_some_iff.mp e).1; simpa using this
      have ex : x = .int i := by
        rw [List.getElem?_map, List.getElem?_range hi] at e
        exact (Option.some.inj e).symm
      subst ex
      have hm : i % 26 < 26 := Nat.mod_lt _ (by decide)
      have e1 := dSub_abc hm
      have e2 : dMul (.str (chr (i % 26))) (.int ((1 + i / 26 : Nat) : Int)) = some (.str (nm0 i)) := dMulX_str (by show 1 ≤ 16; decide) (by omega) (by omega)
      have e3 : dMul (.str (chr (i % 26))) (.int 6) = some (.str (Txt.mul (chr (i % 26)) 6)) := dMulX_str (by show 1 ≤ 16; decide) (by omega) (by omega)
      have ln := len_nm0 (show i < 42 by omega)
      have l6 := len_six hm
      have e4 : dAdd (.str "q") (.str (nm0 i)) = some (.str ("q" ++ nm0 i)) := dAdd_str (by show 1 + _ ≤ _; omega)
      have e5 : dAdd (.str (Txt.mul (chr (i % 26)) 6)) (.str (nm0 i)) = some (.str (Txt.mul (chr (i % 26)) 6 ++ nm0 i)) := dAdd_str (by omega)
      have q1 : (i : Int) % 26 = ((i % 26 : Nat) : Int) := by omega
      have q2 : (1 : Int) + (i : Int) / 26 = ((1 + i / 26 : Nat) : Int) := by omega
      have e6 : atI [D.str (nm0 i), D.str ("q" ++ nm0 i), D.str (Txt.mul (chr (i % 26)) 6 ++ nm0 i)] (w : Int) = some (.str (nmF w i)) := by
        rw [DL.atI_nat (by simpa using hw)]
        match w, hw with
        | 0, _ => rfl
        | 1, _ => rfl
        | 2, _ => rfl
      have ll : (nms w i).length < 1000000 := by unfold nms; simp; omega
      have nx : (nms w (i + 1)).map D.str = (nms w i).map D.str ++ [.str (nmF w i)] := by unfold nms; rw [List.range_succ]; simp
      refine ⟨st (some (.int i)) o6 ((nms w i).map .str), st (some (.int i)) (some (.str (nm0 i))) ((nms w (i + 1)).map .str), by simp [st], .inl ?_, by simp, _, _, rfl⟩
      rw [nx]
      rw [← q1] at e1
      rw [← q2] at e2
      obtain ⟨f, hf⟩ : ∃ f, f = (nms w i).map D.str := ⟨_, rfl⟩
      have lf : f.length < 1000000 := by rw [hf, List.length_map]; exact ll
      rw [← hf]
      simp [st, b1__law_names, e1, e2, e3, e4, e5, e6, cAppend, lf]) (s := st none none []) ⟨none, none, rfl⟩
  rw [List.length_map, List.length_range] at es
  subst es
  refine ⟨c1, w, hc1, hw, ?_⟩
  have h' : forL (.tup [.int 0, .int n]) [some c1, some (C.lst [])] (gVar 5) b1__law_names sNx ((List.range n).map fun (i : Nat) => D.int i) ⟨[some (.ptr 0), some (.int n), some (.str "abcdefghijklmnopqrstuvwxyz"), some (.int w), some (.ptr 1), none, none], [some c1, some (.lst [])]⟩ = _ := h
  simp [sem__law_names, m__law_names, t1, rng, h', st, outD, hc1.np]
end LF1

set_option pp.maxSteps 200
/-! LB2S: is_turns; texts sign by sign. -/
namespace DL
open PySem L2
open PySem.Spec PyProof.Rows
theorem Pdo.ok {z : Str} (h : Pdo (.str z)) : PyData.strOk z = true := by
  obtain ⟨p, h1, h2, _⟩ := h
  cases h1
  simpa [PyData.canLay0] using h2
end DL
namespace LB2
open PySem L2 DL LB
open PySem.Spec PyProof.Rows
def okP (c : Nat) : Bool := decide (c ∈ ("AB" : Str).cps.toList)
def isTurns (d : D) (n : Int) : Bool := match d with
  | .str z => decide ((z.length : Int) = n) && z.cps.toList.all okP
  | _ => false
end LB2

/-! LF3: more readings that the laws share. -/
namespace LF3
open PySem L2 DL LF2
open PySem.Spec PyProof.Rows
noncomputable def e1__law_letters : M D := (eOp dSub (eLst (aCons (eC (.str "A")) (aCons (eC (.str "B")) aNil))) (eCall [true, false] sem__law_take (aCons (eVar 0) (aCons (eC (.int 2)) aNil))))
noncomputable def m__law_letters : M Fl := (sRet (eBM "str" (g1m dJoin) (eC (.str "")) (aCons (eLc (eRng1 (aCons (eVar 1) aNil)) itRng (gVar 2) tYesM e1__law_letters [2]) aNil)))
noncomputable def sem__law_letters : Sem := run 3 m__law_letters
end LF3

set_option pp.maxSteps 300
/-! LGS: what the defs of games compute. -/
namespace DL
open PySem L2
open PySem.Spec PyProof.Rows
@[simp] theorem eFld_eq (x f : Str) (fe : M D) (s : S) : DL.eFld x f fe s = ((fe s).bind fun d s1 => match view s1.M d with
  | .obj y fs => if y = x then oOf (fs.lookup f) s1 else .fail
  | _ => .fail) := (rfl)
@[simp] theorem eProp_eq (x : Str) (sem : Sem) (fe : M D) (s : S) : DL.eProp x sem fe s = ((fe s).bind fun d s1 => match view s1.M d with
  | .obj y _ => if y = x then noX (callS [false] sem [d] s1) else .fail
  | _ => .fail) := (rfl)
@[simp] theorem eMeth_eq (x m : Str) (io : List Bool) (sem : Sem) (fo : M D) (fa : M (List D)) (s : S) : DL.eMeth x m io sem fo fa s = ((fo s).bind fun d s1 => match view s1.M d with
  | .obj y fs => if y = x ∧ fs.lookup m = none then (fa s1).bind fun ds s2 => callS io sem (d :: ds) s2 else .fail
  | _ => .fail) := (rfl)
@[simp] theorem eMake_eq (x : Str) (io : List Bool) (sem : Sem) (fa : M (List D)) (s : S) : DL.eMake x io sem fa s = ((fa s).bind fun ds s1 => makeS x io sem ds s1) := (rfl)
@[simp] theorem sFldS_eq (x f : Str) (fo fv : M D) (s : S) : DL.sFldS x f fo fv s = ((fv s).bind fun y s1 => (fo s1).bind fun o s2 => match o with
  | .ptr k => cFld x f k y s2
  | _ => .fail) := (rfl)
@[simp] theorem noX_ok {α : Type} (a : α) (s : S) : noX (.ok a s) = .ok a s := (rfl)
@[simp] theorem np_obj (c : Str) (fs : List (Str × D)) : np (.obj c fs) = npF fs := by simp [np]
@[simp] theorem npF_nil : npF [] = true := by simp [npF]
@[simp] theorem npF_cons (f : Str) (d : D) (fs : List (Str × D)) : npF ((f, d) :: fs) = (np d && npF fs) := by simp [npF]
@[simp] theorem fin_obj (n : Nat) (s : S) (c : Str) (xs : List (Str × D)) : fin n (.ok (.ret (.obj c xs)) s) = if npF xs = true then (if okM n s then .ok (.obj c xs) ⟨[], s.M.take n⟩ else .fail) else .fail := by
  have e : outD n s (.obj c xs) = if npF xs = true then some (.obj c xs) else none := by
    show (if np (.obj c xs) = true then some (D.obj c xs) else none) = _
    rw [np_obj]
  show (match outD n s (.obj c xs) with | some d => if okM n s then Out.ok d ⟨[], s.M.take n⟩ else .fail | none => .fail) = _
  rw [e]
  by_cases h : npF xs = true
  · rw [if_pos h, if_pos h]
  · rw [if_neg h, if_neg h]
/-! ### calls -/
theorem look1 (f : Str) (d : D) : List.lookup f [(f, d)] = some d := by simp [List.lookup]
/-- a letter -/
def lc (b : Bool) : Nat := if b then 65 else 66
def lt (b : Bool) : Str := ⟨#[lc b]⟩
def ltr (l : List Bool) : Str := ⟨(l.map lc).toArray⟩
end DL
namespace LG
open PySem L2 DL LB LB2
open PySem.Spec PyProof.Rows
abbrev gm (a b : List Str) (t : Str) : D := .obj "Game" [("rows", .tup [T a, T b, .str t])]
theorem lk (d : D) : List.lookup ("rows" : Str) [("rows", d)] = some d := look1 _ d
def plD : List Bool → D
  | [] => .non
  | b :: _ => .str (lt b)
end LG

/-! DqB: dicts whose keys are tuples: a key written as a tuple, d[k], k in d, d[k] = v, {}, {k: v}. -/
namespace DL
open PySem PySem.Spec PyProof.Rows L2
def keyL : List D → Option (List Key)
  | [] => some []
  | d :: ds => (keyD d).bind fun k => (keyL ds).map (k :: ·)
section
variable {K : PySem.W.Frag} {cl : Str → Addr} {H : Hp} {F : Addr → Prop} {α : List Addr}
theorem RepU.len : ∀ {a : List (List Key × D)} {b : List (List Key × V)}, RepU K cl H F α a b → a.length = b.length
  | _, _, .nil => rfl
  | _, _, .cons _ r => congrArg Nat.succ r.len
theorem RepU.valD : ∀ {ds : List (List Key × D)} {vs : List (List Key × V)} {k : List Key} {d : D}, RepU K cl H F α ds vs → DL.valD ds k = some d → ∃ v, valV vs k = some v ∧ Rep K cl H F α d v
  | _, _, k, d, .nil, h => by simp [DL.valD] at h
  | _, _, k, d, .cons (f := f) (d := d1) (v := v1) (ds := ds) (vs := vs) r t, h => by
    by_cases hf : f = k
    · have h' : d1 = d := by simpa [DL.valD, hf] using h
      subst h'
      exact ⟨v1, valV_pos (p := (f, v1)) hf, r⟩
    · obtain ⟨v, g1, g2⟩ := RepU.valD (k := k) (d := d) t (by simpa [DL.valD, hf] using h)
      exact ⟨v, by rw [valV_neg (p := (f, v1)) hf]; exact g1, g2⟩
theorem RepU.none : ∀ {ds : List (List Key × D)} {vs : List (List Key × V)} {k : List Key}, RepU K cl H F α ds vs → DL.valD ds k = Option.none → valV vs k = Option.none
  | _, _, k, .nil, h => valV_nil
  | _, _, k, .cons (f := f) (d := d1) (v := v1) (ds := ds) (vs := vs) r t, h => by
    by_cases hf : f = k
    · simp [DL.valD, hf] at h
    · rw [valV_neg (p := (f, v1)) hf]
      exact RepU.none t (by simpa [DL.valD, hf] using h)
theorem RepU.any : ∀ {ds : List (List Key × D)} {vs : List (List Key × V)} (k : List Key), RepU K cl H F α ds vs → (vs.any fun kv => decide (kv.1 = k)) = ds.any fun kv => decide (kv.1 = k)
  | _, _, _, .nil => rfl
  | _, _, k, .cons _ t => by rw [List.any_cons, List.any_cons, RepU.any k t]
theorem RepU.snoc {k : List Key} {d : D} {v : V} (r : Rep K cl H F α d v) : ∀ {ds : List (List Key × D)} {vs : List (List Key × V)}, RepU K cl H F α ds vs → RepU K cl H F α (ds ++ [(k, d)]) (vs ++ [(k, v)])
  | _, _, .nil => .cons r .nil
  | _, _, .cons h t => .cons h (RepU.snoc r t)
theorem RepU.mapP {k : List Key} {d : D} {v : V} (r : Rep K cl H F α d v) : ∀ {ds : List (List Key × D)} {vs : List (List Key × V)}, RepU K cl H F α ds vs → RepU K cl H F α (ds.map fun kv => if kv.1 = k then (kv.1, d) else kv) (vs.map fun kv => if kv.1 = k then (kv.1, v) else kv)
  | _, _, .nil => .nil
  | _, _, .cons (f := f) h t => by
    rw [List.map_cons, List.map_cons]
    by_cases hf : f = k
    · rw [if_pos hf, if_pos hf]; exact .cons r (RepU.mapP r t)
    · rw [if_neg hf, if_neg hf]; exact .cons h (RepU.mapP r t)
theorem RepU.put {k : List Key} {d : D} {v : V} {ds : List (List Key × D)} {vs : List (List Key × V)} (r : Rep K cl H F α d v) (h : RepU K cl H F α ds vs) : RepU K cl H F α (putD ds k d) (putK vs k v) := by
  unfold putD putK
  rw [h.any k]
  split
  · exact h.mapP r
  · exact h.snoc r
end
/-- a tuple display as the object that it is: a key -/
def eKt (f : M (List D)) : M D := fun s => (f s).bind fun ds s => if ds.length ≤ 1000000 then .ok (.kt ds) s else .fail
def dGetT : D → D → Option D
  | .dcu kvs, .kt ks => (keyL ks).bind fun k => valD kvs k
  | _, _ => none
def cPutT : C → D → D → Option C
  | .dcu kvs, .kt ks, d => (keyL ks).bind fun k => if kvs.length < 1000000 then some (.dcu (putD kvs k d)) else none
  | _, _, _ => none
def eDcuC : M D := fun s => .ok (.ptr s.M.length) { s with M := s.M ++ [some (.dcu [])] }
section
variable {X : Cx} {cl : Str → Addr} {W : WX} {k : Nat}
end
/-! ### {k: v} -/
section
variable {X : Cx}
def tDisp1 (tk tv : TE) : TE := fun σ H Q => ∀ p, H p = none → tk σ (upd H p (.dT [])) fun x H1 => tv σ H1 fun y H2 => H2 p = some (.dT []) ∧ ∃ (k : List Key) (b : Addr), x = .ref b ∧ H2 b = some (.tup (k.map kV)) ∧ Q (.ref p) (upd H2 p (.dT [(k, y)]))
end
/-- {(..): v}, a new cell -/
def dcu1 (kd d : D) (s2 : S) : Out D := match kd with
  | .kt ks => match keyL ks with
    | some k => .ok (.ptr s2.M.length) { s2 with M := s2.M ++ [some (.dcu [(k, d)])] }
    | none => .fail
  | _ => .fail
def eDcu1C (fk fv : M D) : M D := fun s => (fk s).bind fun kd s1 => (fv s1).bind fun d s2 => dcu1 kd d s2
section
variable {X : Cx} {cl : Str → Addr} {W : WX} {k : Nat}
end
end DL

set_option pp.maxSteps 400
/-! DnS: list(gen(..)): a generator def's promise to list. -/
namespace GV
open PySem PySem.Spec PyProof.Rows GenW L2
abbrev noX : XK := fun _ _ _ => False
/-- arguments, known objects, what is wanted of all that is handed out and of the known objects at the end -/
abbrev SpL := List V → Hp → (List V → Hp → Prop) → Prop
/-- a generator that has not begun, for list -/
structure Raw (P : Program) (w : World) (k : Nat) (outer : List Env) (H : Hp) (s : Shared) (sp : (List V → Hp → Prop) → Prop) (a : Addr) (g : Nat) (c : Code) (s' : Shared) : Prop where
  young : s.heap.objs.size ≤ a
  here : a < s'.heap.objs.size
  gen : s'.heap.IsGen a g
  at_ : s'.gens[g]? = some (.fresh c)
  os : s'.os = s.os
  bare : AllBare s'.gens
  lim : s'.heap.NoLimit
  keep : ∀ b o, s.heap.get? b = some o → s'.heap.get? b = some o
  seg : ∀ (Aw : Around) (Q : List V → Hp → Prop) (S : Addr) (s2 : Shared), Room (k + 1) Aw → Aw.guards = some [] → Aw.frames = some outer → s'.heap.objs.size ≤ S → (∀ b o, s'.heap.get? b = some o → s2.heap.get? b = some o) →
    (∃ n, s2.heap.get? S = some (lstObj #[] n)) → s2.os = s.os → AllBare s2.gens → sp Q → Seg (model P w) Aw (REnd P w outer H s [] S a g Q noX) (YItem s S a g) sizeLine s2 c ((model P w).den c) [] s2
structure GenL (P : Program) (w : World) (K : PySem.W.Frag) (mg : Str → Option Value) (base : Heap) (k : Nat) (f : Addr) (fd : FuncData) (ps : List Str) (sp : SpL) : Prop where
  run : ∀ (A : Around) (outer : List Env) (s : Shared) (H : Hp) (args : Args) (us : List Value) (vs : List V), Room (k + 1) A → Env0 P w K mg base A outer s H → BindsTo s fd args (ps.zip us) → Vals vs us → vs.length = ps.length →
    codeAny (model P w) A (.call (.ref f) args) (fun r s' => match r with
      | .ok (.ret u) => ∃ a g c, u = .ref a ∧ Raw P w k outer H s (sp vs H) a g c s'
      | _ => False) s
end GV

set_option pp.maxSteps 400
/-! DnV: list(gen(..)) as a reading. -/
namespace DL
open PySem L2 GV
open PySem.Spec PyProof.Rows
theorem zipL_mem {p : D × V} : ∀ (ds : List D) (vs : List V) (T : List (D × V)), p ∈ zipT ds vs T ↔ p ∈ ds.zip vs ∨ p ∈ T
  | [], vs, T => by simp [zipT]
  | d :: ds, [], T => by simp [zipT]
  | d :: ds, v :: vs, T => by
    show p ∈ zipT ds vs ((d, v) :: T) ↔ _
    rw [zipL_mem ds vs ((d, v) :: T), List.zip_cons_cons, List.mem_cons, List.mem_cons]
    constructor
    · rintro (h | h | h)
      · exact .inl (.inr h)
      · exact .inl (.inl h)
      · exact .inr h
    · rintro ((h | h) | h)
      · exact .inr (.inl h)
      · exact .inl h
      · exact .inr (.inr h)
def WantL (K : PySem.W.Frag) (cl : Str → Addr) (c : Cz) (T : List (D × V)) (acc : List D) (o : Out (Fl × List D)) (E : GEnds) : Prop := match o with
  | .fail => False
  | .exc _ _ _ => False
  | .ok (fl, new) s => (acc ++ new).length ≤ 1000000 ∧ match fl with
    | .nx => ∀ ys σ H, ys.length = (acc ++ new).length → SI K cl c H σ s (zipT (acc ++ new) ys T) → E.nx ys σ H
    | .brk => ∀ ys σ H, ys.length = (acc ++ new).length → SI K cl c H σ s (zipT (acc ++ new) ys T) → E.bk ys σ H
    | .ct => ∀ ys σ H, ys.length = (acc ++ new).length → SI K cl c H σ s (zipT (acc ++ new) ys T) → E.ct ys σ H
    | .ret d => ∀ ys v σ H, ys.length = (acc ++ new).length → SI K cl c H σ s ((d, v) :: zipT (acc ++ new) ys T) → E.rt ys v H
structure DHT (X : Cx) (cl : Str → Addr) (st : Stmt) (f : GM) : Prop where
  ex : ∃ t, GS X st t ∧ ∀ c σ s T H E ys acc, List.length ys = acc.length → SI X.K cl c H σ s (zipT acc ys T) → WantL X.K cl c T acc (f s) E → t E ys σ H
structure DHTs (X : Cx) (cl : Str → Addr) (sts : List Stmt) (f : GM) : Prop where
  ex : ∃ t, GSs X sts t ∧ ∀ c σ s T H E ys acc, List.length ys = acc.length → SI X.K cl c H σ s (zipT acc ys T) → WantL X.K cl c T acc (f s) E → t E ys σ H
section
variable {X : Cx} {cl : Str → Addr}
theorem WantL.deeper {K : PySem.W.Frag} {c : Cz} {T T' : List (D × V)} {acc : List D} {o : Out (Fl × List D)} {E : GEnds} (h : WantL K cl c T acc o E) (hs : ∀ p ∈ T, p ∈ T') : WantL K cl c T' acc o E := by
  have sub : ∀ (ds : List D) (vs : List V), ∀ p ∈ zipT ds vs T, p ∈ zipT ds vs T' := fun ds vs p hp => (zipL_mem ds vs T').mpr (((zipL_mem ds vs T).mp hp).imp id (hs p))
  cases o with
  | fail => exact h
  | exc _ _ _ => exact h
  | ok r s =>
    obtain ⟨fl, n⟩ := r
    refine ⟨h.1, ?_⟩
    have h := h.2
    cases fl with
    | nx => exact fun ys σ H hl i => h ys σ H hl (i.sub (sub _ _))
    | brk => exact fun ys σ H hl i => h ys σ H hl (i.sub (sub _ _))
    | ct => exact fun ys σ H hl i => h ys σ H hl (i.sub (sub _ _))
    | ret d => exact fun ys v σ H hl i => h ys v σ H hl (i.sub fun q hq => (List.mem_cons.mp hq).elim (fun e => e ▸ List.mem_cons_self ..) fun z => List.mem_cons_of_mem _ (sub _ _ q z))
end
/-- list(gen(..)), as a call -/
def semL (n : Nat) (g : GM) : Sem := fun m ds => match m with
  | [] => (match semG n g ds with
    | some outs => if outs.length ≤ 1000000 ∧ npL outs = true then .ok (.lst outs) ⟨[], []⟩ else .fail
    | none => .fail)
  | _ :: _ => .fail
def spL (K : PySem.W.Frag) (cl : Str → Addr) (n : Nat) (g : GM) : SpL := fun vs H cont => ∃ (Q : VK) (E : XK), dsp K cl (semL n g) vs H Q E ∧ ∀ out H2, (∀ p, H2 p = none → Q (.ref p) (upd H2 p (.lst out))) → cont out H2
section
variable {X : Cx} {cl : Str → Addr} {W : WX}
end
end DL

/-! DqD: list(gen(k = v, ..)). -/
namespace DL
open PySem PySem.Spec PyProof.Rows L2 GV
def eCallK0 (io : List Bool) (sem : Sem) (m : Nat) (ix : List Nat) (fk : M (List D)) : M D := fun s => (fk s).bind fun es s => if es.length = m then callS io sem (pick ix es) s else .fail
section
variable {X : Cx} {cl : Str → Addr} {W : WX}
end
end DL

/-! DqA: max(ints, default=n). -/
namespace DL
open PySem PySem.Spec PyProof.Rows L2
def maxI (d : Int) : List Int → Int
  | [] => d
  | x :: xs => xs.foldl max x
def rMaxDf (K : PySem.W.Frag) (d : Int) : V → Hp → VK → Prop := fun x H Q => ∃ (a : Addr) (ns : List Int), x = .ref a ∧ SqL K H a (ns.map V.int) ∧ Q (.int (maxI d ns)) H
section
variable {X : Cx}
end
def dMaxDf (i : Int) : D → Option D
  | .lst xs => (intsD xs).map fun ns => .int (maxI i ns)
  | .slst xs => (intsD xs).map fun ns => .int (maxI i ns)
  | _ => none
section
variable {X : Cx} {cl : Str → Addr} {W : WX}
end
end DL

/-! DqE: equations of the readings that hand over the whole memory, of tuple keys. -/
namespace DL
open PySem L2
open PySem.Spec PyProof.Rows
@[simp] theorem eCallW_eq (n : Nat) (sem : Sem) (f : M (List D)) (s : S) : DL.eCallW n sem f s = ((f s).bind fun ds s => if ds.length = n then callW sem ds s else .fail) := (rfl)
@[simp] theorem eMethW_eq (x m : Str) (n : Nat) (sem : Sem) (fo : M D) (fa : M (List D)) (s : S) : DL.eMethW x m n sem fo fa s = ((fo s).bind fun d s1 => match view s1.M d with
  | .obj y fs => if y = x ∧ fs.lookup m = none then (fa s1).bind fun ds s2 => if ds.length + 1 = n then callW sem (d :: ds) s2 else .fail else .fail
  | _ => .fail) := (rfl)
@[simp] theorem ePropW_eq (x : Str) (sem : Sem) (fe : M D) (s : S) : DL.ePropW x sem fe s = ((fe s).bind fun d s1 => match view s1.M d with
  | .obj y _ => if y = x then noX (callW sem [d] s1) else .fail
  | _ => .fail) := (rfl)
@[simp] theorem eMakeW_eq (x : Str) (n : Nat) (sem : Sem) (fa : M (List D)) (s : S) : DL.eMakeW x n sem fa s = ((fa s).bind fun ds s1 => if ds.length + 1 = n then makeW x sem ds s1 else .fail) := (rfl)
@[simp] theorem runW_eq' (N : Nat) (f : M Fl) (m : List C) (ds : List D) : DL.runW N f m ds = finW (f ⟨ds.map some ++ List.replicate (N - ds.length) none, m.map some⟩) := (rfl)
@[simp] theorem finW_nx (s : S) : finW (.ok .nx s) = .ok .non ⟨[], s.M⟩ := (rfl)
@[simp] theorem finW_ret (s : S) (d : D) : finW (.ok (.ret d) s) = .ok d ⟨[], s.M⟩ := (rfl)
@[simp] theorem finW_exc (n : Str) (fs : List (Str × D)) (s : S) : finW (.exc n fs s) = .exc n fs ⟨[], s.M⟩ := (rfl)
@[simp] theorem finW_fail : finW .fail = .fail := (rfl)
theorem callW_of {sem : Sem} {M : List (Option C)} {m m' : List C} {ds : List D} {d : D} (hM : M = m.map some) (h : sem m ds = .ok d ⟨[], m'.map some⟩) (env : List (Option D)) : callW sem ds ⟨env, M⟩ = .ok d ⟨env, m'.map some⟩ := by
  subst hM
  unfold callW
  rw [show allC (({ env := env, M := m.map some } : S)).M = some m from allC_map m]
  dsimp only
  rw [h]
@[simp] theorem eKt_eq (f : M (List D)) (s : S) : DL.eKt f s = ((f s).bind fun ds s => if ds.length ≤ 1000000 then .ok (.kt ds) s else .fail) := (rfl)
@[simp] theorem eDcu1C_eq (fk fv : M D) (s : S) : DL.eDcu1C fk fv s = ((fk s).bind fun kd s1 => (fv s1).bind fun d s2 => dcu1 kd d s2) := (rfl)
@[simp] theorem eDcuC_eq (s : S) : DL.eDcuC s = .ok (.ptr s.M.length) { s with M := s.M ++ [some (.dcu [])] } := (rfl)
@[simp] theorem eCallK0_eq (io : List Bool) (sem : Sem) (m : Nat) (ix : List Nat) (fk : M (List D)) (s : S) : DL.eCallK0 io sem m ix fk s = ((fk s).bind fun es s => if es.length = m then callS io sem (pick ix es) s else .fail) := (rfl)
@[simp] theorem dcu1_kt (ks : List D) (d : D) (s2 : S) : dcu1 (.kt ks) d s2 = match keyL ks with
    | some k => .ok (.ptr s2.M.length) { s2 with M := s2.M ++ [some (.dcu [(k, d)])] }
    | none => .fail := (rfl)
@[simp] theorem dGetT_kt (kvs : List (List Key × D)) (ks : List D) : dGetT (.dcu kvs) (.kt ks) = (keyL ks).bind fun k => valD kvs k := (rfl)
@[simp] theorem cPutT_kt (kvs : List (List Key × D)) (ks : List D) (d : D) : cPutT (.dcu kvs) (.kt ks) d = (keyL ks).bind fun k => if kvs.length < 1000000 then some (.dcu (putD kvs k d)) else none := (rfl)
@[simp] theorem keyL_nil : keyL [] = some [] := (rfl)
@[simp] theorem keyL_int (i : Int) (ds : List D) : keyL (.int i :: ds) = (keyL ds).map (.inl i :: ·) := (rfl)
@[simp] theorem keyL_str (z : Str) (ds : List D) : keyL (.str z :: ds) = (keyL ds).map (.inr z :: ·) := (rfl)
@[simp] theorem dat_dcu (kvs : List (List Key × D)) : (C.dcu kvs).dat = .dcu kvs := (rfl)
@[simp] theorem dat_obj (c : Str) (fs : List (Str × D)) : (C.obj c fs).dat = .obj c fs := (rfl)
@[simp] theorem dMaxDf_lst (i : Int) (xs : List D) : dMaxDf i (.lst xs) = (intsD xs).map fun ns => .int (maxI i ns) := (rfl)
section
variable {κ α : Type} [DecidableEq κ]
end
end DL

set_option pp.maxSteps 1500
/-! K03b: a turn of the loop over the exceptions. -/
namespace K03
open PySem L2 DL
open LF2 (Pool take_spec call_tf call_last call_pool)
open PySem.Spec PyProof.Rows
noncomputable def p1 : M Fl := (sIf (tOf (eOp dNe (eLc (eCallW 1 sem__law_kinds (aCons (eVar 6) aNil)) itEnum (gTupD (gMore (gVar 8) (gMore (gVar 9) gNone))) (tOf (eVar 9)) e1_law [8, 9]) (eLst (aCons (eVar 5) aNil)))) (sRet (eC (.bl false))) sNx)
noncomputable def p2 : M Fl := (sIf (tOf (eOp dNe (eCallW 1 sem__law_bases (aCons (eVar 6) aNil)) (eCall [false] sem__law_due (aCons (eVar 5) aNil)))) (sRet (eC (.bl false))) sNx)
theorem p_eq : b2_law = (sSeq p1 p2) := rfl
theorem sSeq_nx {a b : M Fl} {s s' : S} (h : a s = .ok .nx s') : sSeq a b s = b s' := by
  rw [sSeq_eq, h]; rfl
theorem turn_0 (fs : List (Str × D)) (m : List C) (o0 o1 o2 o3 o4 o7 : Option D) :
    b2_law ⟨[o0, o1, o2, o3, o4, some (.int 0), some (.exn "InvalidItem" fs), o7, none, none], m.map some⟩ = .ok .nx ⟨[o0, o1, o2, o3, o4, some (.int 0), some (.exn "InvalidItem" fs), o7, none, none], m.map some⟩ := by
  obtain ⟨M, hM⟩ : ∃ M : List (Option C), M = m.map some := ⟨_, rfl⟩
  have w := callW_of hM (kinds_0 m fs)
  have w2 := callW_of hM (bases_0 m fs)
  have w3 := call_1 due_0 rfl rfl
  rw [← hM] at w w2 ⊢
  obtain ⟨K, hK⟩ : ∃ K, K = kd 0 := ⟨_, rfl⟩
  rw [← hK] at w
  obtain ⟨B, hB⟩ : ∃ K, K = bs [true, true, false, false, false, false] := ⟨_, rfl⟩
  rw [← hB] at w2 w3
  have s1 : p1 ⟨[o0, o1, o2, o3, o4, some (.int 0), some (.exn "InvalidItem" fs), o7, none, none], M⟩ = .ok .nx ⟨[o0, o1, o2, o3, o4, some (.int 0), some (.exn "InvalidItem" fs), o7, none, none], M⟩ := by
    simp [p1, w]
    subst hK
    kernel_rfl
  have e2 : dNe B B = some (.bl false) := by subst hB; kernel_rfl
  have vB : view M B = B := by subst hB; rfl
  have s2 : p2 ⟨[o0, o1, o2, o3, o4, some (.int 0), some (.exn "InvalidItem" fs), o7, none, none], M⟩ = .ok .nx ⟨[o0, o1, o2, o3, o4, some (.int 0), some (.exn "InvalidItem" fs), o7, none, none], M⟩ := by
    simp [p2, w2, w3, e2, vB]
  exact (congrFun p_eq _).trans ((sSeq_nx s1).trans s2)
theorem turn_1 (fs : List (Str × D)) (m : List C) (o0 o1 o2 o3 o4 o7 : Option D) :
    b2_law ⟨[o0, o1, o2, o3, o4, some (.int 1), some (.exn "InvalidRanking" fs), o7, none, none], m.map some⟩ = .ok .nx ⟨[o0, o1, o2, o3, o4, some (.int 1), some (.exn "InvalidRanking" fs), o7, none, none], m.map some⟩ := by
  obtain ⟨M, hM⟩ : ∃ M : List (Option C), M = m.map some := ⟨_, rfl⟩
  have w := callW_of hM (kinds_1 m fs)
  have w2 := callW_of hM (bases_1 m fs)
  have w3 := call_1 due_1 rfl rfl
  rw [← hM] at w w2 ⊢
  obtain ⟨K, hK⟩ : ∃ K, K = kd 1 := ⟨_, rfl⟩
  rw [← hK] at w
  obtain ⟨B, hB⟩ : ∃ K, K = bs [true, true, false, false, false, false] := ⟨_, rfl⟩
  rw [← hB] at w2 w3
  have s1 : p1 ⟨[o0, o1, o2, o3, o4, some (.int 1), some (.exn "InvalidRanking" fs), o7, none, none], M⟩ = .ok .nx ⟨[o0, o1, o2, o3, o4, some (.int 1), some (.exn "InvalidRanking" fs), o7, none, none], M⟩ := by
    simp [p1, w]
    subst hK
    kernel_rfl
  have e2 : dNe B B = some (.bl false) := by subst hB; kernel_rfl
  have vB : view M B = B := by subst hB; rfl
  have s2 : p2 ⟨[o0, o1, o2, o3, o4, some (.int 1), some (.exn "InvalidRanking" fs), o7, none, none], M⟩ = .ok .nx ⟨[o0, o1, o2, o3, o4, some (.int 1), some (.exn "InvalidRanking" fs), o7, none, none], M⟩ := by
    simp [p2, w2, w3, e2, vB]
  exact (congrFun p_eq _).trans ((sSeq_nx s1).trans s2)
theorem turn_2 (fs : List (Str × D)) (m : List C) (o0 o1 o2 o3 o4 o7 : Option D) :
    b2_law ⟨[o0, o1, o2, o3, o4, some (.int 2), some (.exn "InvalidTurns" fs), o7, none, none], m.map some⟩ = .ok .nx ⟨[o0, o1, o2, o3, o4, some (.int 2), some (.exn "InvalidTurns" fs), o7, none, none], m.map some⟩ := by
  obtain ⟨M, hM⟩ : ∃ M : List (Option C), M = m.map some := ⟨_, rfl⟩
  have w := callW_of hM (kinds_2 m fs)
  have w2 := callW_of hM (bases_2 m fs)
  have w3 := call_1 due_2 rfl rfl
  rw [← hM] at w w2 ⊢
  obtain ⟨K, hK⟩ : ∃ K, K = kd 2 := ⟨_, rfl⟩
  rw [← hK] at w
  obtain ⟨B, hB⟩ : ∃ K, K = bs [true, true, false, false, false, false] := ⟨_, rfl⟩
  rw [← hB] at w2 w3
  have s1 : p1 ⟨[o0, o1, o2, o3, o4, some (.int 2), some (.exn "InvalidTurns" fs), o7, none, none], M⟩ = .ok .nx ⟨[o0, o1, o2, o3, o4, some (.int 2), some (.exn "InvalidTurns" fs), o7, none, none], M⟩ := by
    simp [p1, w]
    subst hK
    kernel_rfl
  have e2 : dNe B B = some (.bl false) := by subst hB; kernel_rfl
  have vB : view M B = B := by subst hB; rfl
  have s2 : p2 ⟨[o0, o1, o2, o3, o4, some (.int 2), some (.exn "InvalidTurns" fs), o7, none, none], M⟩ = .ok .nx ⟨[o0, o1, o2, o3, o4, some (.int 2), some (.exn "InvalidTurns" fs), o7, none, none], M⟩ := by
    simp [p2, w2, w3, e2, vB]
  exact (congrFun p_eq _).trans ((sSeq_nx s1).trans s2)
theorem turn_3 (fs : List (Str × D)) (m : List C) (o0 o1 o2 o3 o4 o7 : Option D) :
    b2_law ⟨[o0, o1, o2, o3, o4, some (.int 3), some (.exn "InvalidSet" fs), o7, none, none], m.map some⟩ = .ok .nx ⟨[o0, o1, o2, o3, o4, some (.int 3), some (.exn "InvalidSet" fs), o7, none, none], m.map some⟩ := by
  obtain ⟨M, hM⟩ : ∃ M : List (Option C), M = m.map some := ⟨_, rfl⟩
  have w := callW_of hM (kinds_3 m fs)
  have w2 := callW_of hM (bases_3 m fs)
  have w3 := call_1 due_3 rfl rfl
  rw [← hM] at w w2 ⊢
  obtain ⟨K, hK⟩ : ∃ K, K = kd 3 := ⟨_, rfl⟩
  rw [← hK] at w
  obtain ⟨B, hB⟩ : ∃ K, K = bs [true, true, false, false, false, false] := ⟨_, rfl⟩
  rw [← hB] at w2 w3
  have s1 : p1 ⟨[o0, o1, o2, o3, o4, some (.int 3), some (.exn "InvalidSet" fs), o7, none, none], M⟩ = .ok .nx ⟨[o0, o1, o2, o3, o4, some (.int 3), some (.exn "InvalidSet" fs), o7, none, none], M⟩ := by
    simp [p1, w]
    subst hK
    kernel_rfl
  have e2 : dNe B B = some (.bl false) := by subst hB; kernel_rfl
  have vB : view M B = B := by subst hB; rfl
  have s2 : p2 ⟨[o0, o1, o2, o3, o4, some (.int 3), some (.exn "InvalidSet" fs), o7, none, none], M⟩ = .ok .nx ⟨[o0, o1, o2, o3, o4, some (.int 3), some (.exn "InvalidSet" fs), o7, none, none], M⟩ := by
    simp [p2, w2, w3, e2, vB]
  exact (congrFun p_eq _).trans ((sSeq_nx s1).trans s2)
theorem turn_4 (fs : List (Str × D)) (m : List C) (o0 o1 o2 o3 o4 o7 : Option D) :
    b2_law ⟨[o0, o1, o2, o3, o4, some (.int 4), some (.exn "InvalidFact" fs), o7, none, none], m.map some⟩ = .ok .nx ⟨[o0, o1, o2, o3, o4, some (.int 4), some (.exn "InvalidFact" fs), o7, none, none], m.map some⟩ := by
  obtain ⟨M, hM⟩ : ∃ M : List (Option C), M = m.map some := ⟨_, rfl⟩
  have w := callW_of hM (kinds_4 m fs)
  have w2 := callW_of hM (bases_4 m fs)
  have w3 := call_1 due_4 rfl rfl
  rw [← hM] at w w2 ⊢
  obtain ⟨K, hK⟩ : ∃ K, K = kd 4 := ⟨_, rfl⟩
  rw [← hK] at w
  obtain ⟨B, hB⟩ : ∃ K, K = bs [true, true, false, false, false, false] := ⟨_, rfl⟩
  rw [← hB] at w2 w3
  have s1 : p1 ⟨[o0, o1, o2, o3, o4, some (.int 4), some (.exn "InvalidFact" fs), o7, none, none], M⟩ = .ok .nx ⟨[o0, o1, o2, o3, o4, some (.int 4), some (.exn "InvalidFact" fs), o7, none, none], M⟩ := by
    simp [p1, w]
    subst hK
    kernel_rfl
  have e2 : dNe B B = some (.bl false) := by subst hB; kernel_rfl
  have vB : view M B = B := by subst hB; rfl
  have s2 : p2 ⟨[o0, o1, o2, o3, o4, some (.int 4), some (.exn "InvalidFact" fs), o7, none, none], M⟩ = .ok .nx ⟨[o0, o1, o2, o3, o4, some (.int 4), some (.exn "InvalidFact" fs), o7, none, none], M⟩ := by
    simp [p2, w2, w3, e2, vB]
  exact (congrFun p_eq _).trans ((sSeq_nx s1).trans s2)
theorem turn_5 (fs : List (Str × D)) (m : List C) (o0 o1 o2 o3 o4 o7 : Option D) :
    b2_law ⟨[o0, o1, o2, o3, o4, some (.int 5), some (.exn "InvalidNumber" fs), o7, none, none], m.map some⟩ = .ok .nx ⟨[o0, o1, o2, o3, o4, some (.int 5), some (.exn "InvalidNumber" fs), o7, none, none], m.map some⟩ := by
  obtain ⟨M, hM⟩ : ∃ M : List (Option C), M = m.map some := ⟨_, rfl⟩
  have w := callW_of hM (kinds_5 m fs)
  have w2 := callW_of hM (bases_5 m fs)
  have w3 := call_1 due_5 rfl rfl
  rw [← hM] at w w2 ⊢
  obtain ⟨K, hK⟩ : ∃ K, K = kd 5 := ⟨_, rfl⟩
  rw [← hK] at w
  obtain ⟨B, hB⟩ : ∃ K, K = bs [true, true, false, false, false, false] := ⟨_, rfl⟩
  rw [← hB] at w2 w3
  have s1 : p1 ⟨[o0, o1, o2, o3, o4, some (.int 5), some (.exn "InvalidNumber" fs), o7, none, none], M⟩ = .ok .nx ⟨[o0, o1, o2, o3, o4, some (.int 5), some (.exn "InvalidNumber" fs), o7, none, none], M⟩ := by
    simp [p1, w]
    subst hK
    kernel_rfl
  have e2 : dNe B B = some (.bl false) := by subst hB; kernel_rfl
  have vB : view M B = B := by subst hB; rfl
  have s2 : p2 ⟨[o0, o1, o2, o3, o4, some (.int 5), some (.exn "InvalidNumber" fs), o7, none, none], M⟩ = .ok .nx ⟨[o0, o1, o2, o3, o4, some (.int 5), some (.exn "InvalidNumber" fs), o7, none, none], M⟩ := by
    simp [p2, w2, w3, e2, vB]
  exact (congrFun p_eq _).trans ((sSeq_nx s1).trans s2)
theorem turn_6 (fs : List (Str × D)) (m : List C) (o0 o1 o2 o3 o4 o7 : Option D) :
    b2_law ⟨[o0, o1, o2, o3, o4, some (.int 6), some (.exn "InvalidText" fs), o7, none, none], m.map some⟩ = .ok .nx ⟨[o0, o1, o2, o3, o4, some (.int 6), some (.exn "InvalidText" fs), o7, none, none], m.map some⟩ := by
  obtain ⟨M, hM⟩ : ∃ M : List (Option C), M = m.map some := ⟨_, rfl⟩
  have w := callW_of hM (kinds_6 m fs)
  have w2 := callW_of hM (bases_6 m fs)
  have w3 := call_1 due_6 rfl rfl
  rw [← hM] at w w2 ⊢
  obtain ⟨K, hK⟩ : ∃ K, K = kd 6 := ⟨_, rfl⟩
  rw [← hK] at w
  obtain ⟨B, hB⟩ : ∃ K, K = bs [true, true, false, false, false, false] := ⟨_, rfl⟩
  rw [← hB] at w2 w3
  have s1 : p1 ⟨[o0, o1, o2, o3, o4, some (.int 6), some (.exn "InvalidText" fs), o7, none, none], M⟩ = .ok .nx ⟨[o0, o1, o2, o3, o4, some (.int 6), some (.exn "InvalidText" fs), o7, none, none], M⟩ := by
    simp [p1, w]
    subst hK
    kernel_rfl
  have e2 : dNe B B = some (.bl false) := by subst hB; kernel_rfl
  have vB : view M B = B := by subst hB; rfl
  have s2 : p2 ⟨[o0, o1, o2, o3, o4, some (.int 6), some (.exn "InvalidText" fs), o7, none, none], M⟩ = .ok .nx ⟨[o0, o1, o2, o3, o4, some (.int 6), some (.exn "InvalidText" fs), o7, none, none], M⟩ := by
    simp [p2, w2, w3, e2, vB]
  exact (congrFun p_eq _).trans ((sSeq_nx s1).trans s2)
theorem turn_7 (fs : List (Str × D)) (m : List C) (o0 o1 o2 o3 o4 o7 : Option D) :
    b2_law ⟨[o0, o1, o2, o3, o4, some (.int 7), some (.exn "InvalidCommand" fs), o7, none, none], m.map some⟩ = .ok .nx ⟨[o0, o1, o2, o3, o4, some (.int 7), some (.exn "InvalidCommand" fs), o7, none, none], m.map some⟩ := by
  obtain ⟨M, hM⟩ : ∃ M : List (Option C), M = m.map some := ⟨_, rfl⟩
  have w := callW_of hM (kinds_7 m fs)
  have w2 := callW_of hM (bases_7 m fs)
  have w3 := call_1 due_7 rfl rfl
  rw [← hM] at w w2 ⊢
  obtain ⟨K, hK⟩ : ∃ K, K = kd 7 := ⟨_, rfl⟩
  rw [← hK] at w
  obtain ⟨B, hB⟩ : ∃ K, K = bs [true, true, false, false, false, false] := ⟨_, rfl⟩
  rw [← hB] at w2 w3
  have s1 : p1 ⟨[o0, o1, o2, o3, o4, some (.int 7), some (.exn "InvalidCommand" fs), o7, none, none], M⟩ = .ok .nx ⟨[o0, o1, o2, o3, o4, some (.int 7), some (.exn "InvalidCommand" fs), o7, none, none], M⟩ := by
    simp [p1, w]
    subst hK
    kernel_rfl
  have e2 : dNe B B = some (.bl false) := by subst hB; kernel_rfl
  have vB : view M B = B := by subst hB; rfl
  have s2 : p2 ⟨[o0, o1, o2, o3, o4, some (.int 7), some (.exn "InvalidCommand" fs), o7, none, none], M⟩ = .ok .nx ⟨[o0, o1, o2, o3, o4, some (.int 7), some (.exn "InvalidCommand" fs), o7, none, none], M⟩ := by
    simp [p2, w2, w3, e2, vB]
  exact (congrFun p_eq _).trans ((sSeq_nx s1).trans s2)
theorem turn_8 (fs : List (Str × D)) (m : List C) (o0 o1 o2 o3 o4 o7 : Option D) :
    b2_law ⟨[o0, o1, o2, o3, o4, some (.int 8), some (.exn "UnknownItem" fs), o7, none, none], m.map some⟩ = .ok .nx ⟨[o0, o1, o2, o3, o4, some (.int 8), some (.exn "UnknownItem" fs), o7, none, none], m.map some⟩ := by
  obtain ⟨M, hM⟩ : ∃ M : List (Option C), M = m.map some := ⟨_, rfl⟩
  have w := callW_of hM (kinds_8 m fs)
  have w2 := callW_of hM (bases_8 m fs)
  have w3 := call_1 due_8 rfl rfl
  rw [← hM] at w w2 ⊢
  obtain ⟨K, hK⟩ : ∃ K, K = kd 8 := ⟨_, rfl⟩
  rw [← hK] at w
  obtain ⟨B, hB⟩ : ∃ K, K = bs [false, false, true, true, false, false] := ⟨_, rfl⟩
  rw [← hB] at w2 w3
  have s1 : p1 ⟨[o0, o1, o2, o3, o4, some (.int 8), some (.exn "UnknownItem" fs), o7, none, none], M⟩ = .ok .nx ⟨[o0, o1, o2, o3, o4, some (.int 8), some (.exn "UnknownItem" fs), o7, none, none], M⟩ := by
    simp [p1, w]
    subst hK
    kernel_rfl
  have e2 : dNe B B = some (.bl false) := by subst hB; kernel_rfl
  have vB : view M B = B := by subst hB; rfl
  have s2 : p2 ⟨[o0, o1, o2, o3, o4, some (.int 8), some (.exn "UnknownItem" fs), o7, none, none], M⟩ = .ok .nx ⟨[o0, o1, o2, o3, o4, some (.int 8), some (.exn "UnknownItem" fs), o7, none, none], M⟩ := by
    simp [p2, w2, w3, e2, vB]
  exact (congrFun p_eq _).trans ((sSeq_nx s1).trans s2)
theorem turn_9 (fs : List (Str × D)) (m : List C) (o0 o1 o2 o3 o4 o7 : Option D) :
    b2_law ⟨[o0, o1, o2, o3, o4, some (.int 9), some (.exn "NoTurn" fs), o7, none, none], m.map some⟩ = .ok .nx ⟨[o0, o1, o2, o3, o4, some (.int 9), some (.exn "NoTurn" fs), o7, none, none], m.map some⟩ := by
  obtain ⟨M, hM⟩ : ∃ M : List (Option C), M = m.map some := ⟨_, rfl⟩
  have w := callW_of hM (kinds_9 m fs)
  have w2 := callW_of hM (bases_9 m fs)
  have w3 := call_1 due_9 rfl rfl
  rw [← hM] at w w2 ⊢
  obtain ⟨K, hK⟩ : ∃ K, K = kd 9 := ⟨_, rfl⟩
  rw [← hK] at w
  obtain ⟨B, hB⟩ : ∃ K, K = bs [false, false, false, true, false, false] := ⟨_, rfl⟩
  rw [← hB] at w2 w3
  have s1 : p1 ⟨[o0, o1, o2, o3, o4, some (.int 9), some (.exn "NoTurn" fs), o7, none, none], M⟩ = .ok .nx ⟨[o0, o1, o2, o3, o4, some (.int 9), some (.exn "NoTurn" fs), o7, none, none], M⟩ := by
    simp [p1, w]
    subst hK
    kernel_rfl
  have e2 : dNe B B = some (.bl false) := by subst hB; kernel_rfl
  have vB : view M B = B := by subst hB; rfl
  have s2 : p2 ⟨[o0, o1, o2, o3, o4, some (.int 9), some (.exn "NoTurn" fs), o7, none, none], M⟩ = .ok .nx ⟨[o0, o1, o2, o3, o4, some (.int 9), some (.exn "NoTurn" fs), o7, none, none], M⟩ := by
    simp [p2, w2, w3, e2, vB]
  exact (congrFun p_eq _).trans ((sSeq_nx s1).trans s2)
theorem turn_10 (fs : List (Str × D)) (m : List C) (o0 o1 o2 o3 o4 o7 : Option D) :
    b2_law ⟨[o0, o1, o2, o3, o4, some (.int 10), some (.exn "LimitExceeded" fs), o7, none, none], m.map some⟩ = .ok .nx ⟨[o0, o1, o2, o3, o4, some (.int 10), some (.exn "LimitExceeded" fs), o7, none, none], m.map some⟩ := by
  obtain ⟨M, hM⟩ : ∃ M : List (Option C), M = m.map some := ⟨_, rfl⟩
  have w := callW_of hM (kinds_10 m fs)
  have w2 := callW_of hM (bases_10 m fs)
  have w3 := call_1 due_10 rfl rfl
  rw [← hM] at w w2 ⊢
  obtain ⟨K, hK⟩ : ∃ K, K = kd 10 := ⟨_, rfl⟩
  rw [← hK] at w
  obtain ⟨B, hB⟩ : ∃ K, K = bs [false, false, false, false, true, true] := ⟨_, rfl⟩
  rw [← hB] at w2 w3
  have s1 : p1 ⟨[o0, o1, o2, o3, o4, some (.int 10), some (.exn "LimitExceeded" fs), o7, none, none], M⟩ = .ok .nx ⟨[o0, o1, o2, o3, o4, some (.int 10), some (.exn "LimitExceeded" fs), o7, none, none], M⟩ := by
    simp [p1, w]
    subst hK
    kernel_rfl
  have e2 : dNe B B = some (.bl false) := by subst hB; kernel_rfl
  have vB : view M B = B := by subst hB; rfl
  have s2 : p2 ⟨[o0, o1, o2, o3, o4, some (.int 10), some (.exn "LimitExceeded" fs), o7, none, none], M⟩ = .ok .nx ⟨[o0, o1, o2, o3, o4, some (.int 10), some (.exn "LimitExceeded" fs), o7, none, none], M⟩ := by
    simp [p2, w2, w3, e2, vB]
  exact (congrFun p_eq _).trans ((sSeq_nx s1).trans s2)
theorem turn_11 (fs : List (Str × D)) (m : List C) (o0 o1 o2 o3 o4 o7 : Option D) :
    b2_law ⟨[o0, o1, o2, o3, o4, some (.int 11), some (.exn "Contradiction" fs), o7, none, none], m.map some⟩ = .ok .nx ⟨[o0, o1, o2, o3, o4, some (.int 11), some (.exn "Contradiction" fs), o7, none, none], m.map some⟩ := by
  obtain ⟨M, hM⟩ : ∃ M : List (Option C), M = m.map some := ⟨_, rfl⟩
  have w := callW_of hM (kinds_11 m fs)
  have w2 := callW_of hM (bases_11 m fs)
  have w3 := call_1 due_11 rfl rfl
  rw [← hM] at w w2 ⊢
  obtain ⟨K, hK⟩ : ∃ K, K = kd 11 := ⟨_, rfl⟩
  rw [← hK] at w
  obtain ⟨B, hB⟩ : ∃ K, K = bs [false, false, false, false, false, true] := ⟨_, rfl⟩
  rw [← hB] at w2 w3
  have s1 : p1 ⟨[o0, o1, o2, o3, o4, some (.int 11), some (.exn "Contradiction" fs), o7, none, none], M⟩ = .ok .nx ⟨[o0, o1, o2, o3, o4, some (.int 11), some (.exn "Contradiction" fs), o7, none, none], M⟩ := by
    simp [p1, w]
    subst hK
    kernel_rfl
  have e2 : dNe B B = some (.bl false) := by subst hB; kernel_rfl
  have vB : view M B = B := by subst hB; rfl
  have s2 : p2 ⟨[o0, o1, o2, o3, o4, some (.int 11), some (.exn "Contradiction" fs), o7, none, none], M⟩ = .ok .nx ⟨[o0, o1, o2, o3, o4, some (.int 11), some (.exn "Contradiction" fs), o7, none, none], M⟩ := by
    simp [p2, w2, w3, e2, vB]
  exact (congrFun p_eq _).trans ((sSeq_nx s1).trans s2)
end K03

set_option pp.maxSteps 1500
/-! K03c: a cell. -/
namespace K03
open PySem L2 DL
open LF2 (Pool take_spec call_tf call_last call_pool sem__law_take)
open LF1 (sem__law_pool)
open PySem.Spec PyProof.Rows
noncomputable def q1 : M Fl := (sSet 2 (eCallC [false, false] sem__law_pool (aCons (eVar 0) (aCons (eVar 1) aNil))))
noncomputable def q2 : M Fl := (sSet 3 (eOp dSub (eLst (aCons (eC .non) (aCons (eC (.int 5)) (aCons (eNeg (eC (.int 1))) (aCons (eC (.str "a")) (aCons (eTup aNil) (aCons (eTup (aCons (eC (.str "a")) (aCons (eC (.int 1)) aNil))) (aCons (eC (.bl true)) (aCons (eC (.str "")) (aCons (eOp dPowI (eC (.int 10)) (eC (.int 30))) (aCons (eLst (aCons (eC (.str "a")) aNil)) aNil))))))))))) (eCall [true, false] sem__law_take (aCons (eVar 2) (aCons (eC (.int 10)) aNil)))))
noncomputable def q3 : M Fl := (sSet 4 (eLst (aCons (eNewX "InvalidItem" "value" (eVar 3)) (aCons (eNewX "InvalidRanking" "value" (eVar 3)) (aCons (eNewX "InvalidTurns" "value" (eVar 3)) (aCons (eNewX "InvalidSet" "value" (eVar 3)) (aCons (eNewX "InvalidFact" "index" (eVar 3)) aNil)))))))
noncomputable def q4 : M Fl := (sSet 4 (eOp dAdd (eVar 4) (eLst (aCons (eNewX "InvalidNumber" "value" (eVar 3)) (aCons (eNewX "InvalidText" "line" (eVar 3)) (aCons (eNewX "InvalidCommand" "word" (eVar 3)) (aCons (eNewX "UnknownItem" "item" (eVar 3)) (aCons (eNewX0 "NoTurn") aNil))))))))
noncomputable def q5 : M Fl := (sSet 4 (eOp dAdd (eVar 4) (eLst (aCons (eNewX "LimitExceeded" "limit" (eVar 3)) (aCons (eNewX "Contradiction" "index" (eVar 3)) aNil)))))
noncomputable def q6 : M Fl := (sFor (eVar 4) itEnum (gTupD (gMore (gVar 5) (gMore (gVar 6) gNone))) b2_law sNx)
noncomputable def q7 : M Fl := (sSet 7 (eLst (aCons (eKf ["InvalidItem", "InvalidNumber", "InvalidRanking", "InvalidSet", "InvalidTurns"] "value" (eOp dSub (eVar 4) (eC (.int 0)))) (aCons (eKf ["InvalidItem", "InvalidNumber", "InvalidRanking", "InvalidSet", "InvalidTurns"] "value" (eOp dSub (eVar 4) (eC (.int 1)))) (aCons (eKf ["InvalidItem", "InvalidNumber", "InvalidRanking", "InvalidSet", "InvalidTurns"] "value" (eOp dSub (eVar 4) (eC (.int 2)))) (aCons (eKf ["InvalidItem", "InvalidNumber", "InvalidRanking", "InvalidSet", "InvalidTurns"] "value" (eOp dSub (eVar 4) (eC (.int 3)))) (aCons (eKf ["Contradiction", "InvalidFact"] "index" (eOp dSub (eVar 4) (eC (.int 4)))) (aCons (eKf ["InvalidItem", "InvalidNumber", "InvalidRanking", "InvalidSet", "InvalidTurns"] "value" (eOp dSub (eVar 4) (eC (.int 5)))) (aCons (eKf ["InvalidText"] "line" (eOp dSub (eVar 4) (eC (.int 6)))) aNil)))))))))
noncomputable def q8 : M Fl := (sSet 7 (eOp dAdd (eVar 7) (eLst (aCons (eKf ["InvalidCommand"] "word" (eOp dSub (eVar 4) (eC (.int 7)))) (aCons (eKf ["UnknownItem"] "item" (eOp dSub (eVar 4) (eC (.int 8)))) (aCons (eKf ["LimitExceeded"] "limit" (eOp dSub (eVar 4) (eC (.int 10)))) (aCons (eKf ["Contradiction", "InvalidFact"] "index" (eOp dSub (eVar 4) (eC (.int 11)))) aNil)))))))
noncomputable def q9 : M Fl := (sSet 7 (eOp dAdd (eVar 7) (eLst (aCons (eKf ["InvalidItem", "InvalidNumber", "InvalidRanking", "InvalidSet", "InvalidTurns"] "value" (eNewXK "InvalidItem" "value" (aCons (eVar 3) aNil))) (aCons (eKf ["InvalidItem", "InvalidNumber", "InvalidRanking", "InvalidSet", "InvalidTurns"] "value" (eNewXK "InvalidRanking" "value" (aCons (eVar 3) aNil))) aNil)))))
noncomputable def q10 : M Fl := (sSet 7 (eOp dAdd (eVar 7) (eLst (aCons (eKf ["InvalidItem", "InvalidNumber", "InvalidRanking", "InvalidSet", "InvalidTurns"] "value" (eNewXK "InvalidTurns" "value" (aCons (eVar 3) aNil))) aNil))))
noncomputable def q11 : M Fl := (sSet 7 (eOp dAdd (eVar 7) (eLst (aCons (eKf ["InvalidItem", "InvalidNumber", "InvalidRanking", "InvalidSet", "InvalidTurns"] "value" (eNewXK "InvalidSet" "value" (aCons (eVar 3) aNil))) (aCons (eKf ["Contradiction", "InvalidFact"] "index" (eNewXK "InvalidFact" "index" (aCons (eVar 3) aNil))) (aCons (eKf ["InvalidItem", "InvalidNumber", "InvalidRanking", "InvalidSet", "InvalidTurns"] "value" (eNewXK "InvalidNumber" "value" (aCons (eVar 3) aNil))) aNil))))))
noncomputable def q12 : M Fl := (sSet 7 (eOp dAdd (eVar 7) (eLst (aCons (eKf ["InvalidText"] "line" (eNewXK "InvalidText" "line" (aCons (eVar 3) aNil))) (aCons (eKf ["InvalidCommand"] "word" (eNewXK "InvalidCommand" "word" (aCons (eVar 3) aNil))) (aCons (eKf ["UnknownItem"] "item" (eNewXK "UnknownItem" "item" (aCons (eVar 3) aNil))) aNil))))))
noncomputable def q13 : M Fl := (sSet 7 (eOp dAdd (eVar 7) (eLst (aCons (eKf ["LimitExceeded"] "limit" (eNewXK "LimitExceeded" "limit" (aCons (eVar 3) aNil))) (aCons (eKf ["Contradiction", "InvalidFact"] "index" (eNewXK "Contradiction" "index" (aCons (eVar 3) aNil))) aNil)))))
noncomputable def q14 : M Fl := (sIf (tOf (eOp dNe (eCB dReprZ (aCons (eVar 7) aNil)) (eCB dReprZ (aCons (eOp dMul (eLst (aCons (eVar 3) aNil)) (eC (.int 22))) aNil)))) (sRet (eC (.bl false))) sNx)
theorem q_eq : b3_law = (sSeq q1 (sSeq q2 (sSeq q3 (sSeq q4 (sSeq q5 (sSeq q6 (sSeq q7 (sSeq q8 (sSeq q9 (sSeq q10 (sSeq q11 (sSeq q12 (sSeq q13 q14))))))))))))) := rfl
def isStr : Option D → Bool
  | some (.str _) => true
  | _ => false
theorem of_isStr {o : Option D} (h : isStr o = true) : ∃ r, o = some (.str r) := by
  unfold isStr at h
  split at h
  · exact ⟨_, rfl⟩
  · cases h
def things : List D := [.non, .int 5, .int (-1), .str "a", .tup [], .tup [.str "a", .int 1], .bl true, .str "", .int 1000000000000000000000000000000, .lst [.str "a"]]
def x22 (v : D) : D := .lst (List.replicate 22 v)
theorem shown : ∀ v ∈ things, ∃ r, dReprZ [x22 v] = some (.str r) := by
  intro v hv
  simp only [things, List.mem_cons, List.not_mem_nil, or_false] at hv
  rcases hv with rfl | rfl | rfl | rfl | rfl | rfl | rfl | rfl | rfl | rfl <;> exact of_isStr (by decide +kernel)
def xs5 (v : D) : D := .lst [.exn "InvalidItem" [("value", v)], .exn "InvalidRanking" [("value", v)], .exn "InvalidTurns" [("value", v)], .exn "InvalidSet" [("value", v)], .exn "InvalidFact" [("index", v)]]
def xs10 (v : D) : D := .lst [.exn "InvalidItem" [("value", v)], .exn "InvalidRanking" [("value", v)], .exn "InvalidTurns" [("value", v)], .exn "InvalidSet" [("value", v)], .exn "InvalidFact" [("index", v)], .exn "InvalidNumber" [("value", v)], .exn "InvalidText" [("line", v)], .exn "InvalidCommand" [("word", v)], .exn "UnknownItem" [("item", v)], .exn "NoTurn" []]
def xsL (v : D) : List D := [.exn "InvalidItem" [("value", v)], .exn "InvalidRanking" [("value", v)], .exn "InvalidTurns" [("value", v)], .exn "InvalidSet" [("value", v)], .exn "InvalidFact" [("index", v)], .exn "InvalidNumber" [("value", v)], .exn "InvalidText" [("line", v)], .exn "InvalidCommand" [("word", v)], .exn "UnknownItem" [("item", v)], .exn "NoTurn" [], .exn "LimitExceeded" [("limit", v)], .exn "Contradiction" [("index", v)]]
section
variable (v : D) (M : List (Option C)) (o0 o1 o2 o4 o5 o6 o7 : Option D)
theorem s3 : q3 ⟨[o0, o1, o2, some v, o4, o5, o6, o7, none, none], M⟩ = .ok .nx ⟨[o0, o1, o2, some v, some (xs5 v), o5, o6, o7, none, none], M⟩ := by
  kernel_rfl
theorem s4 : q4 ⟨[o0, o1, o2, some v, some (xs5 v), o5, o6, o7, none, none], M⟩ = .ok .nx ⟨[o0, o1, o2, some v, some (xs10 v), o5, o6, o7, none, none], M⟩ := by
  kernel_rfl
theorem s5 : q5 ⟨[o0, o1, o2, some v, some (xs10 v), o5, o6, o7, none, none], M⟩ = .ok .nx ⟨[o0, o1, o2, some v, some (.lst (xsL v)), o5, o6, o7, none, none], M⟩ := by
  kernel_rfl
theorem s7 : q7 ⟨[o0, o1, o2, some v, some (.lst (xsL v)), o5, o6, o7, none, none], M⟩ = .ok .nx ⟨[o0, o1, o2, some v, some (.lst (xsL v)), o5, o6, some (.lst (List.replicate 7 v)), none, none], M⟩ := by
  kernel_rfl
theorem s8 : q8 ⟨[o0, o1, o2, some v, some (.lst (xsL v)), o5, o6, some (.lst (List.replicate 7 v)), none, none], M⟩ = .ok .nx ⟨[o0, o1, o2, some v, some (.lst (xsL v)), o5, o6, some (.lst (List.replicate 11 v)), none, none], M⟩ := by
  kernel_rfl
theorem s9 : q9 ⟨[o0, o1, o2, some v, some (.lst (xsL v)), o5, o6, some (.lst (List.replicate 11 v)), none, none], M⟩ = .ok .nx ⟨[o0, o1, o2, some v, some (.lst (xsL v)), o5, o6, some (.lst (List.replicate 13 v)), none, none], M⟩ := by
  kernel_rfl
theorem s10 : q10 ⟨[o0, o1, o2, some v, some (.lst (xsL v)), o5, o6, some (.lst (List.replicate 13 v)), none, none], M⟩ = .ok .nx ⟨[o0, o1, o2, some v, some (.lst (xsL v)), o5, o6, some (.lst (List.replicate 14 v)), none, none], M⟩ := by
  kernel_rfl
theorem s11 : q11 ⟨[o0, o1, o2, some v, some (.lst (xsL v)), o5, o6, some (.lst (List.replicate 14 v)), none, none], M⟩ = .ok .nx ⟨[o0, o1, o2, some v, some (.lst (xsL v)), o5, o6, some (.lst (List.replicate 17 v)), none, none], M⟩ := by
  kernel_rfl
theorem s12 : q12 ⟨[o0, o1, o2, some v, some (.lst (xsL v)), o5, o6, some (.lst (List.replicate 17 v)), none, none], M⟩ = .ok .nx ⟨[o0, o1, o2, some v, some (.lst (xsL v)), o5, o6, some (.lst (List.replicate 20 v)), none, none], M⟩ := by
  kernel_rfl
theorem s13 : q13 ⟨[o0, o1, o2, some v, some (.lst (xsL v)), o5, o6, some (.lst (List.replicate 20 v)), none, none], M⟩ = .ok .nx ⟨[o0, o1, o2, some v, some (.lst (xsL v)), o5, o6, some (.lst (List.replicate 22 v)), none, none], M⟩ := by
  kernel_rfl
theorem s14 (hv : v ∈ things) : q14 ⟨[o0, o1, o2, some v, some (.lst (xsL v)), o5, o6, some (.lst (List.replicate 22 v)), none, none], M⟩ = .ok .nx ⟨[o0, o1, o2, some v, some (.lst (xsL v)), o5, o6, some (.lst (List.replicate 22 v)), none, none], M⟩ := by
  obtain ⟨r, hr⟩ := shown v hv
  have em : dMul (.lst [v]) (.int 22) = some (x22 v) := by kernel_rfl
  obtain ⟨X, hX⟩ : ∃ X, X = x22 v := ⟨_, rfl⟩
  have hX' : D.lst (List.replicate 22 v) = X := hX.symm
  rw [hX']
  rw [← hX] at hr em
  have vX : view M X = X := by rw [hX]; rfl
  simp [q14, vX, em, hr]
end
end K03

set_option pp.maxSteps 1500
/-! K03d: the law. -/
namespace K03
open PySem L2 DL
open LF2 (Pool take_spec call_tf call_last call_pool sem__law_take)
open LF1 (sem__law_pool)
open PySem.Spec PyProof.Rows
theorem forL_nx {d : D} {M0 : List (Option C)} {g : D → S → Option S} {body els : M Fl} {x : D} {r : List D} {s s1 s2 : S} (h1 : g x s = some s1) (h2 : body s1 = .ok .nx s2) (h3 : chkP d M0 s2.M = true) : forL d M0 g body els (x :: r) s = forL d M0 g body els r s2 := by
  conv => lhs; unfold forL
  rw [h1]
  dsimp only
  rw [h2]
  dsimp only
  rw [if_pos h3]
def G6 : D → S → Option S := gTupD (gMore (gVar 5) (gMore (gVar 6) gNone))
theorem g6 (i : Int) (x : D) (M : List (Option C)) (o0 o1 o2 o3 o4 o5 o6 o7 : Option D) : G6 (.kt [.int i, x]) ⟨[o0, o1, o2, o3, o4, o5, o6, o7, none, none], M⟩ = some ⟨[o0, o1, o2, o3, o4, some (.int i), some x, o7, none, none], M⟩ := by
  kernel_rfl
def enL (v : D) : List D := [.kt [.int 0, .exn "InvalidItem" [("value", v)]], .kt [.int 1, .exn "InvalidRanking" [("value", v)]], .kt [.int 2, .exn "InvalidTurns" [("value", v)]], .kt [.int 3, .exn "InvalidSet" [("value", v)]], .kt [.int 4, .exn "InvalidFact" [("index", v)]], .kt [.int 5, .exn "InvalidNumber" [("value", v)]], .kt [.int 6, .exn "InvalidText" [("line", v)]], .kt [.int 7, .exn "InvalidCommand" [("word", v)]], .kt [.int 8, .exn "UnknownItem" [("item", v)]], .kt [.int 9, .exn "NoTurn" []], .kt [.int 10, .exn "LimitExceeded" [("limit", v)]], .kt [.int 11, .exn "Contradiction" [("index", v)]]]
theorem en_eq (v : D) : itEnum (.lst (xsL v)) = some (enL v) := by kernel_rfl
theorem s6 (v : D) (m : List C) (o0 o1 o2 o5 o6 o7 : Option D) : ∃ o5' o6' : Option D, q6 ⟨[o0, o1, o2, some v, some (.lst (xsL v)), o5, o6, o7, none, none], m.map some⟩ = .ok .nx ⟨[o0, o1, o2, some v, some (.lst (xsL v)), o5', o6', o7, none, none], m.map some⟩ := by
  have hl : forL (.lst (xsL v)) (m.map some) G6 b2_law sNx (enL v) ⟨[o0, o1, o2, some v, some (.lst (xsL v)), o5, o6, o7, none, none], m.map some⟩ = .ok .nx ⟨[o0, o1, o2, some v, some (.lst (xsL v)), some (.int 11), some (.exn "Contradiction" [("index", v)]), o7, none, none], m.map some⟩ := by
    unfold enL
    refine (forL_nx (g6 0 _ _ _ _ _ _ _ _ _ _) (turn_0 [("value", v)] m _ _ _ _ _ _) rfl).trans ?_
    refine (forL_nx (g6 1 _ _ _ _ _ _ _ _ _ _) (turn_1 [("value", v)] m _ _ _ _ _ _) rfl).trans ?_
    refine (forL_nx (g6 2 _ _ _ _ _ _ _ _ _ _) (turn_2 [("value", v)] m _ _ _ _ _ _) rfl).trans ?_
    refine (forL_nx (g6 3 _ _ _ _ _ _ _ _ _ _) (turn_3 [("value", v)] m _ _ _ _ _ _) rfl).trans ?_
    refine (forL_nx (g6 4 _ _ _ _ _ _ _ _ _ _) (turn_4 [("index", v)] m _ _ _ _ _ _) rfl).trans ?_
    refine (forL_nx (g6 5 _ _ _ _ _ _ _ _ _ _) (turn_5 [("value", v)] m _ _ _ _ _ _) rfl).trans ?_
    refine (forL_nx (g6 6 _ _ _ _ _ _ _ _ _ _) (turn_6 [("line", v)] m _ _ _ _ _ _) rfl).trans ?_
    refine (forL_nx (g6 7 _ _ _ _ _ _ _ _ _ _) (turn_7 [("word", v)] m _ _ _ _ _ _) rfl).trans ?_
    refine (forL_nx (g6 8 _ _ _ _ _ _ _ _ _ _) (turn_8 [("item", v)] m _ _ _ _ _ _) rfl).trans ?_
    refine (forL_nx (g6 9 _ _ _ _ _ _ _ _ _ _) (turn_9 [] m _ _ _ _ _ _) rfl).trans ?_
    refine (forL_nx (g6 10 _ _ _ _ _ _ _ _ _ _) (turn_10 [("limit", v)] m _ _ _ _ _ _) rfl).trans ?_
    refine (forL_nx (g6 11 _ _ _ _ _ _ _ _ _ _) (turn_11 [("index", v)] m _ _ _ _ _ _) rfl).trans ?_
    rfl
  refine ⟨some (.int 11), some (.exn "Contradiction" [("index", v)]), ?_⟩
  have en := en_eq v
  obtain ⟨X, hX⟩ : ∃ X, X = D.lst (xsL v) := ⟨_, rfl⟩
  rw [← hX] at hl en ⊢
  obtain ⟨M, hM⟩ : ∃ M : List (Option C), M = m.map some := ⟨_, rfl⟩
  rw [← hM] at hl ⊢
  have vX : view M X = X := by rw [hX]; rfl
  unfold G6 at hl
  simp [q6, vX, en, hl]
theorem cell {ns : List Int} {k : Nat} (hk : k < 100) (rl : List C) (o2 o3 o4 o5 o6 o7 : Option D) :
    ∃ (p2 p3 p4 p5 p6 p7 : Option D) (rl' : List C), b3_law ⟨[some (.slst (ns.map .int)), some (.int (k : Nat)), o2, o3, o4, o5, o6, o7, none, none], rl.map some⟩ = .ok .nx ⟨[some (.slst (ns.map .int)), some (.int (k : Nat)), p2, p3, p4, p5, p6, p7, none, none], rl'.map some⟩ := by
  obtain ⟨c, hc, h0⟩ := LF1.pool_spec (ns := ns) (k := k) (by omega)
  obtain ⟨c1, r, hc1, r0, r9, ht⟩ := take_spec (n := 10) hc (by decide) (by decide)
  have t0 := call_pool h0 (by simp) rfl hc.np
  have t1 := call_last ht hc.np rfl rfl hc1.np
  obtain ⟨SN, hSN⟩ : ∃ S, S = D.slst (ns.map .int) := ⟨_, rfl⟩
  rw [← hSN] at t0 ⊢
  obtain ⟨v, hv, at_⟩ : ∃ v ∈ things, atI things r = some v := by
    obtain ⟨n, rfl⟩ : ∃ n : Nat, r = (n : Int) := ⟨r.toNat, by omega⟩
    have : n < 10 := by omega
    have : n = 0 ∨ n = 1 ∨ n = 2 ∨ n = 3 ∨ n = 4 ∨ n = 5 ∨ n = 6 ∨ n = 7 ∨ n = 8 ∨ n = 9 := by omega
    rcases this with rfl | rfl | rfl | rfl | rfl | rfl | rfl | rfl | rfl | rfl <;> exact ⟨_, by simp [things], rfl⟩
  have pw : dPowI (.int 10) (.int 30) = some (.int 1000000000000000000000000000000) := by kernel_rfl
  have at_ : dSub (.lst things) (.int r) = some v := by rw [dSub_lst]; exact at_
  unfold things at at_
  obtain ⟨MM, hMM⟩ : ∃ M : List (Option C), M = rl.map some := ⟨_, rfl⟩
  have eM : ∀ c : C, MM ++ [some c] = (rl ++ [c]).map some := fun c => by rw [hMM, List.map_append]; rfl
  rw [← hMM]
  have s1 : q1 ⟨[some SN, some (.int (k : Nat)), o2, o3, o4, o5, o6, o7, none, none], MM⟩ = .ok .nx ⟨[some SN, some (.int (k : Nat)), some (.ptr MM.length), o3, o4, o5, o6, o7, none, none], MM ++ [some c]⟩ := by
    simp [q1, t0]
  have s2 : q2 ⟨[some SN, some (.int (k : Nat)), some (.ptr MM.length), o3, o4, o5, o6, o7, none, none], MM ++ [some c]⟩ = .ok .nx ⟨[some SN, some (.int (k : Nat)), some (.ptr MM.length), some v, o4, o5, o6, o7, none, none], MM ++ [some c1]⟩ := by
    simp [-dSub_lst, q2, t1, pw, at_]
  have e3 := s3 v (MM ++ [some c1]) (some SN) (some (.int (k : Nat))) (some (.ptr MM.length)) o4 o5 o6 o7
  have e4 := s4 v (MM ++ [some c1]) (some SN) (some (.int (k : Nat))) (some (.ptr MM.length)) o5 o6 o7
  have e5 := s5 v (MM ++ [some c1]) (some SN) (some (.int (k : Nat))) (some (.ptr MM.length)) o5 o6 o7
  obtain ⟨p5, p6, e6⟩ := s6 v (rl ++ [c1]) (some SN) (some (.int (k : Nat))) (some (.ptr MM.length)) o5 o6 o7
  rw [← eM] at e6
  have e7 := s7 v (MM ++ [some c1]) (some SN) (some (.int (k : Nat))) (some (.ptr MM.length)) p5 p6 o7
  have e8 := s8 v (MM ++ [some c1]) (some SN) (some (.int (k : Nat))) (some (.ptr MM.length)) p5 p6
  have e9 := s9 v (MM ++ [some c1]) (some SN) (some (.int (k : Nat))) (some (.ptr MM.length)) p5 p6
  have e10 := s10 v (MM ++ [some c1]) (some SN) (some (.int (k : Nat))) (some (.ptr MM.length)) p5 p6
  have e11 := s11 v (MM ++ [some c1]) (some SN) (some (.int (k : Nat))) (some (.ptr MM.length)) p5 p6
  have e12 := s12 v (MM ++ [some c1]) (some SN) (some (.int (k : Nat))) (some (.ptr MM.length)) p5 p6
  have e13 := s13 v (MM ++ [some c1]) (some SN) (some (.int (k : Nat))) (some (.ptr MM.length)) p5 p6
  have e14 := s14 v (MM ++ [some c1]) (some SN) (some (.int (k : Nat))) (some (.ptr MM.length)) p5 p6 hv
  have fin := (congrFun q_eq _).trans ((sSeq_nx s1).trans ((sSeq_nx s2).trans ((sSeq_nx e3).trans ((sSeq_nx e4).trans ((sSeq_nx e5).trans ((sSeq_nx e6).trans ((sSeq_nx e7).trans ((sSeq_nx e8).trans ((sSeq_nx e9).trans ((sSeq_nx e10).trans ((sSeq_nx e11).trans ((sSeq_nx e12).trans ((sSeq_nx e13).trans e14)))))))))))))
  rw [eM] at fin
  exact ⟨_, _, _, _, _, _, _, fin⟩
theorem law_spec (ns : List Int) : ∃ s', sem_law [] [.slst (ns.map .int)] = .ok (.bl true) s' := by
  obtain ⟨n, hn, hn2⟩ : ∃ n : Nat, (if (if (10 : Int) < (ns.length : Int) then (10 : Int) else (ns.length : Int)) > 1 then (if (10 : Int) < (ns.length : Int) then (10 : Int) else (ns.length : Int)) else 1) = (n : Int) ∧ n ≤ 10 := by
    refine ⟨(if (if (10 : Int) < (ns.length : Int) then (10 : Int) else (ns.length : Int)) > 1 then (if (10 : Int) < (ns.length : Int) then (10 : Int) else (ns.length : Int)) else 1).toNat, ?_, ?_⟩ <;> split <;> split <;> omega
  obtain ⟨s', ⟨o1, o2, o3, o4, o5, o6, o7, rl', rfl⟩, hf⟩ := forL_each (d := .tup [.int 0, .int n]) (M0 := ([] : List C).map some) (g := gVar 1) (body := b3_law) (els := sNx) (fun i : Nat => D.int i) (List.range n)
    (fun q s => ∃ o1 o2 o3 o4 o5 o6 o7 rl, s = (⟨[some (.slst (ns.map .int)), o1, o2, o3, o4, o5, o6, o7, none, none], rl.map some⟩ : DL.S))
    (fun q i r s e ⟨o1, o2, o3, o4, o5, o6, o7, rl, es⟩ => by
      subst es
      have hi : i < n := by
        have : i ∈ List.range n := by rw [e]; exact List.mem_append_right _ (List.mem_cons_self ..)
        exact List.mem_range.mp this
      obtain ⟨p2, p3, p4, p5, p6, p7, rl2, hb⟩ := cell (ns := ns) (k := i) (by omega) rl o2 o3 o4 o5 o6 o7
      exact ⟨⟨[some (.slst (ns.map .int)), some (.int (i : Nat)), o2, o3, o4, o5, o6, o7, none, none], _⟩, _, by simp, .inl hb, rfl, _, p2, p3, p4, p5, p6, p7, rl2, rfl⟩)
    (s := ⟨[some (.slst (ns.map .int)), none, none, none, none, none, none, none, none, none], ([] : List C).map some⟩) ⟨none, none, none, none, none, none, none, [], rfl⟩
  have ir : itRng (.tup [.int 0, .int n]) = some ((List.range n).map fun i : Nat => D.int (i : Nat)) := by
    rw [itRng_tup, show ((n : Int) - 0).toNat = n from by omega]
    exact congrArg some (List.map_congr_left fun i _ => by rw [Int.zero_add])
  have rg : rngOk (n : Int) = true := by simp [rngOk]; omega
  obtain ⟨RN, hRN⟩ : ∃ RN : List D, RN = (List.range n).map fun i : Nat => D.int (i : Nat) := ⟨_, rfl⟩
  rw [← hRN] at hf ir
  simp only [gt_iff_lt] at hn
  rw [List.map_nil] at hf
  unfold sem_law
  exact ⟨_, by simp [-itRng_tup, m_law, hn, rg, ir, hf]; rfl⟩
end K03

open PySem PySem.W PySem.Calls PyProof.Rows
theorem PySem.Challenge.cw_lastchoicefirst_k03_error_classes_holds : PySem.Challenge.rw_lastchoicefirst_k03_error_classes.Holds := by
  w_on; o_law
  refine HandSHeadRun.head_any (r := OpenLaw.row PySem.Challenge.rw_lastchoicefirst_k03_error_classes) (q := view (OpenLaw.row PySem.Challenge.rw_lastchoicefirst_k03_error_classes).prog [20]) (H := K03.hook) (ob := K03.ob) (M := 4000) (loose := [("PickingError" : PySem.Str), ("InvalidItem" : PySem.Str), ("InvalidRanking" : PySem.Str), ("InvalidTurns" : PySem.Str), ("InvalidSet" : PySem.Str), ("InvalidFact" : PySem.Str), ("InvalidNumber" : PySem.Str), ("InvalidText" : PySem.Str), ("InvalidCommand" : PySem.Str), ("UnknownItem" : PySem.Str), ("NoTurn" : PySem.Str), ("LimitExceeded" : PySem.Str), ("Contradiction" : PySem.Str), ("_law_pool" : PySem.Str), ("_law_take" : PySem.Str), ("_law_kinds" : PySem.Str), ("_law_bases" : PySem.Str), ("_law_due" : PySem.Str)]) (d := HandSHeadRun.topDef (OpenLaw.row PySem.Challenge.rw_lastchoicefirst_k03_error_classes).prog 20) (kwd := []) K03.ob_eq
    (by kernel_rfl) (fun s => by kernel_rfl) K03.runs (by kernel_rfl) (by kernel_rfl) (by kernel_rfl) (by rfl) (by first | assumption | decide +kernel) (by decide +kernel) ⟨rfl, rfl, rfl, rfl, rfl, by decide +kernel⟩ ?hw ?hc
  case hw => w_witness2
  case hc =>
    refine DL.walk_GS (l := PySem.Challenge.rw_lastchoicefirst_k03_error_classes) (n := 63) (k := 3) (x := "_law_script") rfl (by decide) (by kernel_rfl) ⟨rfl, by decide, by decide⟩ ?F
    intro w mg fa h Y G hmg0
    obtain ⟨sm, K, KX, c⟩ := Y
    have hmg : mg ("law" : PySem.Str) = some (.ref fa) := by
      have e : (HandSHeadRun.topDef (OpenLaw.row PySem.Challenge.rw_lastchoicefirst_k03_error_classes).prog 20).name = ("law" : PySem.Str) := by kernel_rfl
      rw [← e]
      exact hmg0
    obtain ⟨L⟩ := K03.lw_of KX G c
    have ef := hmg.symm.trans L.g_law
    cases ef
    refine ⟨sm, ?_⟩
    exact ⟨K, He.ga K, L.fd_law, K03.sem_law, KX, fun s u => L.F_law.bindsA (ps := ["_law_script"]) (fun _ _ _ _ _ _ us hl => match us, hl with | [_], _ => rfl) s [u] rfl, fun ns _ => K03.law_spec ns, fun base _ _ hb => K03.fg_law hb L⟩
