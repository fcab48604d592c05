import PyProof.Rows.All
import Wide.All
import OpenK.AllK
import Wide.FinOn
import HandS.ForMost
import HandS.ForExc
import HandS.CallSlots
import HandS.Defaults
import HandS.TupAny
import HandS.TupMul
import HandS.Wide
import HandS.Style
import HandS.Deep
import HandS.Flow
import HandS.IsInst
import HandS.Text
import HandS.Replace
import HandS.SetFor
import HandS.StrMore
import HandS.SortInts
import PyProof.Rows.SortShellAny
import PyProof.CollectStr
import PyProof.ReprRoads
import HandS.Zip
import KE.KRevSl
import HandS.HeadEnd
import HandS.Head0
import HandS.Head1
import HandS.Head2
import HandS.HeadHook1
import HandS.HeadHook2
import HandS.HeadHook3
import HandS.HeadHook4
import PyProof.WalksMore
import PyProof.StrWalks
import PyProof.Walks
import KE.GoesEnumKw
import PyProof.ListStr
import PySem.Challenge.RW_lastchoicefirst_k48_dominates
import HandS.Codes
set_option Elab.async false
set_option linter.all false
set_option maxRecDepth 100000
set_option maxHeartbeats 4000000
set_option autoImplicit false
/-! DlA: data without addresses, what stands for them in the abstract heap, the state's invariant and its steps. -/
namespace DL
open PySem L2

/-- data. ptr k: the k-th cell of the run (a thing that changes) -/
inductive D where
  | non | bl (b : Bool) | int (i : Int) | str (s : Str)
  | tup (xs : List D) | lst (xs : List D) | slst (xs : List D)
  | dct (kvs : List (Key × D)) | dcu (kvs : List (List Key × D))
  | obj (c : Str) (fs : List (Str × D)) | xd (fs : List (Str × D))
  | ptr (k : Nat) | raw (v : V)
/-- what a cell holds -/
inductive C where
  | lst (xs : List D) | dct (kvs : List (Key × D)) | dcu (kvs : List (List Key × D)) | obj (c : Str) (fs : List (Str × D))
structure S where
  env : List (Option D)
  M : List (Option C)
inductive Out (α : Type) where
  | fail
  | ok (a : α) (s : S)
  | exc (c : Str) (fs : List (Str × D)) (s : S)
abbrev M (α : Type) := S → Out α
def Out.bind {α β : Type} (o : Out α) (f : α → S → Out β) : Out β := match o with
  | .fail => .fail
  | .ok a s => f a s
  | .exc c fs s => .exc c fs s
def C.dat : C → D
  | .lst xs => .lst xs | .dct kvs => .dct kvs | .dcu kvs => .dcu kvs | .obj c fs => .obj c fs
/-- a pointer's cell as data; other data as they are -/
def view (m : List (Option C)) : D → D
  | .ptr k => match m[k]? with
    | some (some c) => c.dat
    | _ => .ptr k
  | d => d

section
variable (K : PySem.W.Frag) (cl : Str → Addr) (H : Hp) (F : Addr → Prop) (α : List Addr)
mutual
inductive Rep : D → V → Prop
  | non : Rep .non .non
  | bl {b} : Rep (.bl b) (.bl b)
  | int {i} : Rep (.int i) (.int i)
  | str {s} : Rep (.str s) (.str s)
  | tup {a vs ds} : SqT K H a vs → RepL ds vs → Rep (.tup ds) (.ref a)
  | lst {a vs ds} : H a = some (.lst vs) → F a → RepL ds vs → Rep (.lst ds) (.ref a)
  | slst {a vs ds} : Rd H a (.lst vs) → F a → RepL ds vs → Rep (.slst ds) (.ref a)
  | slstK {a vs ds} : (∀ H', SqL K H' a vs) → RepL ds vs → Rep (.slst ds) (.ref a)
  | dct {a kvs vs} : H a = some (.dK vs) → F a → RepK kvs vs → Rep (.dct kvs) (.ref a)
  | dcu {a kvs vs} : H a = some (.dT vs) → F a → RepU kvs vs → Rep (.dcu kvs) (.ref a)
  | obj {a dx c fs vs} : H a = some (.ins (cl c) dx vs) → F a → RepF fs vs → Rep (.obj c fs) (.ref a)
  | xd {a fs vs} : H a = some (.xd vs) → F a → RepF fs vs → Rep (.xd fs) (.ref a)
  | ptr {k a} : α[k]? = some a → Rep (.ptr k) (.ref a)
  | raw {v} : Rep (.raw v) v
inductive RepL : List D → List V → Prop
  | nil : RepL [] []
  | cons {d v ds vs} : Rep d v → RepL ds vs → RepL (d :: ds) (v :: vs)
inductive RepF : List (Str × D) → List (Str × V) → Prop
  | nil : RepF [] []
  | cons {f d v ds vs} : Rep d v → RepF ds vs → RepF ((f, d) :: ds) ((f, v) :: vs)
inductive RepK : List (Key × D) → List (Key × V) → Prop
  | nil : RepK [] []
  | cons {f d v ds vs} : Rep d v → RepK ds vs → RepK ((f, d) :: ds) ((f, v) :: vs)
inductive RepU : List (List Key × D) → List (List Key × V) → Prop
  | nil : RepU [] []
  | cons {f d v ds vs} : Rep d v → RepU ds vs → RepU ((f, d) :: ds) ((f, v) :: vs)
end
end

/-- from (H, F, α) to (H', F', α') all that is frozen stands -/
structure Ext (H : Hp) (F : Addr → Prop) (α : List Addr) (H' : Hp) (F' : Addr → Prop) (α' : List Addr) : Prop where
  keep : ∀ b, F b → H' b = H b
  fr : ∀ b, F b → F' b
  tups : ∀ b xs, H b = some (.tup xs) → H' b = some (.tup xs)
  frzs : ∀ b o u, H b = some (.frz o u) → H' b = some (.frz o u)
  al : ∀ (k : Nat) (a : Addr), α[k]? = some a → α'[k]? = some a
theorem Ext.refl {H : Hp} {F : Addr → Prop} {α : List Addr} : Ext H F α H F α := ⟨fun _ _ => rfl, fun _ h => h, fun _ _ h => h, fun _ _ _ h => h, fun _ _ h => h⟩
theorem Ext.trans {H H1 H2 : Hp} {F F1 F2 : Addr → Prop} {α α1 α2 : List Addr} (a : Ext H F α H1 F1 α1) (b : Ext H1 F1 α1 H2 F2 α2) : Ext H F α H2 F2 α2 :=
  ⟨fun x h => (b.keep x (a.fr x h)).trans (a.keep x h), fun x h => b.fr x (a.fr x h), fun x xs h => b.tups x xs (a.tups x xs h), fun x o u h => b.frzs x o u (a.frzs x o u h), fun k x h => b.al k x (a.al k x h)⟩

section
variable {K : PySem.W.Frag} {cl : Str → Addr} {H H' : Hp} {F F' : Addr → Prop} {α α' : List Addr}
theorem Ext.rd (e : Ext H F α H' F' α') {a : Addr} {u : HO} (h : Rd H a u) (hf : F a) : Rd H' a u := by
  rcases h with h | ⟨o, h⟩
  · exact .inl ((e.keep a hf).trans h)
  · exact .inr ⟨o, e.frzs a o u h⟩
theorem Ext.sqT (e : Ext H F α H' F' α') {a : Addr} {xs : List V} (h : SqT K H a xs) : SqT K H' a xs := by
  rcases h with (h | ⟨o, h⟩) | h
  · exact .inl (.inl (e.tups a xs h))
  · exact .inl (.inr ⟨o, e.frzs a o _ h⟩)
  · exact .inr h
mutual
theorem Rep.ext (e : Ext H F α H' F' α') {d : D} {v : V} : Rep K cl H F α d v → Rep K cl H' F' α' d v
  | .non => .non
  | .bl => .bl
  | .int => .int
  | .str => .str
  | .tup h r => .tup (e.sqT h) (RepL.ext e r)
  | .lst h f r => .lst ((e.keep _ f).trans h) (e.fr _ f) (RepL.ext e r)
  | .slst h f r => .slst (e.rd h f) (e.fr _ f) (RepL.ext e r)
  | .slstK h r => .slstK h (RepL.ext e r)
  | .dct h f r => .dct ((e.keep _ f).trans h) (e.fr _ f) (RepK.ext e r)
  | .dcu h f r => .dcu ((e.keep _ f).trans h) (e.fr _ f) (RepU.ext e r)
  | .obj h f r => .obj ((e.keep _ f).trans h) (e.fr _ f) (RepF.ext e r)
  | .xd h f r => .xd ((e.keep _ f).trans h) (e.fr _ f) (RepF.ext e r)
  | .ptr h => .ptr (e.al _ _ h)
  | .raw => .raw
theorem RepL.ext (e : Ext H F α H' F' α') {d : List D} {v : List V} : RepL K cl H F α d v → RepL K cl H' F' α' d v
  | .nil => .nil
  | .cons h r => .cons (Rep.ext e h) (RepL.ext e r)
theorem RepF.ext (e : Ext H F α H' F' α') {d : List (Str × D)} {v : List (Str × V)} : RepF K cl H F α d v → RepF K cl H' F' α' d v
  | .nil => .nil
  | .cons h r => .cons (Rep.ext e h) (RepF.ext e r)
theorem RepK.ext (e : Ext H F α H' F' α') {d : List (Key × D)} {v : List (Key × V)} : RepK K cl H F α d v → RepK K cl H' F' α' d v
  | .nil => .nil
  | .cons h r => .cons (Rep.ext e h) (RepK.ext e r)
theorem RepU.ext (e : Ext H F α H' F' α') {d : List (List Key × D)} {v : List (List Key × V)} : RepU K cl H F α d v → RepU K cl H' F' α' d v
  | .nil => .nil
  | .cons h r => .cons (Rep.ext e h) (RepU.ext e r)
end
theorem RepL.length : ∀ {ds : List D} {vs : List V}, RepL K cl H F α ds vs → ds.length = vs.length
  | _, _, .nil => rfl
  | _, _, .cons _ r => congrArg Nat.succ r.length
theorem RepL.get : ∀ {ds : List D} {vs : List V} {i : Nat} {d : D}, RepL K cl H F α ds vs → ds[i]? = some d → ∃ v, vs[i]? = some v ∧ Rep K cl H F α d v
  | _, _, _, _, .nil, e => by simp at e
  | _, _, 0, _, .cons r _, e => by simp at e; subst e; exact ⟨_, rfl, r⟩
  | _, _, i + 1, d, .cons _ t, e => by
    obtain ⟨v, h1, h2⟩ := RepL.get (i := i) (d := d) t (by simpa using e)
    exact ⟨v, by simpa using h1, h2⟩
theorem RepL.getV : ∀ {ds : List D} {vs : List V} {i : Nat} {v : V}, RepL K cl H F α ds vs → vs[i]? = some v → ∃ d, ds[i]? = some d ∧ Rep K cl H F α d v
  | _, _, _, _, .nil, e => by simp at e
  | _, _, 0, _, .cons r _, e => by simp at e; subst e; exact ⟨_, rfl, r⟩
  | _, _, i + 1, d, .cons _ t, e => by
    obtain ⟨v, h1, h2⟩ := RepL.getV (i := i) (v := d) t (by simpa using e)
    exact ⟨v, by simpa using h1, h2⟩
theorem RepL.append : ∀ {ds es : List D} {vs ws : List V}, RepL K cl H F α ds vs → RepL K cl H F α es ws → RepL K cl H F α (ds ++ es) (vs ++ ws)
  | _, _, _, _, .nil, s => s
  | _, _, _, _, .cons r t, s => .cons r (RepL.append t s)
theorem RepL.set {d : D} {v : V} (r : Rep K cl H F α d v) : ∀ {ds : List D} {vs : List V} (i : Nat), RepL K cl H F α ds vs → RepL K cl H F α (ds.set i d) (vs.set i v)
  | _, _, _, .nil => .nil
  | _, _, 0, .cons _ t => .cons r t
  | _, _, i + 1, .cons q t => .cons q (RepL.set r i t)
theorem RepL.take : ∀ {ds : List D} {vs : List V} (n : Nat), RepL K cl H F α ds vs → RepL K cl H F α (ds.take n) (vs.take n)
  | _, _, 0, _ => .nil
  | _, _, _ + 1, .nil => .nil
  | _, _, n + 1, .cons r t => .cons r (RepL.take n t)
theorem RepL.drop : ∀ {ds : List D} {vs : List V} (n : Nat), RepL K cl H F α ds vs → RepL K cl H F α (ds.drop n) (vs.drop n)
  | _, _, 0, r => r
  | _, _, _ + 1, .nil => .nil
  | _, _, n + 1, .cons _ t => RepL.drop n t
theorem RepL.reverse {ds : List D} {vs : List V} (h : RepL K cl H F α ds vs) : RepL K cl H F α ds.reverse vs.reverse := by
  induction ds generalizing vs with
  | nil => cases h; exact .nil
  | cons d ds ih =>
    cases h with
    | cons r t =>
      rw [List.reverse_cons, List.reverse_cons]
      exact (ih t).append (.cons r .nil)
theorem RepL.eraseIdx : ∀ {ds : List D} {vs : List V} (i : Nat), RepL K cl H F α ds vs → RepL K cl H F α (ds.eraseIdx i) (vs.eraseIdx i)
  | _, _, _, .nil => .nil
  | _, _, 0, .cons _ t => t
  | _, _, i + 1, .cons r t => .cons r (RepL.eraseIdx i t)
theorem RepL.dropLast {ds : List D} {vs : List V} (h : RepL K cl H F α ds vs) : RepL K cl H F α ds.dropLast vs.dropLast := by
  rw [List.dropLast_eq_take, List.dropLast_eq_take, h.length]
  exact h.take _
theorem RepF.lookup : ∀ {fs : List (Str × D)} {vs : List (Str × V)} {f : Str}, RepF K cl H F α fs vs → (fs.lookup f = none ∧ vs.lookup f = none) ∨ ∃ d v, fs.lookup f = some d ∧ vs.lookup f = some v ∧ Rep K cl H F α d v
  | _, _, _, .nil => .inl ⟨rfl, rfl⟩
  | _, _, f, .cons (f := g) r t => by
    rw [List.lookup_cons, List.lookup_cons]
    cases h : f == g with
    | true => exact .inr ⟨_, _, rfl, rfl, r⟩
    | false => exact RepF.lookup t
theorem RepF.length : ∀ {ds : List (Str × D)} {vs : List (Str × V)}, RepF K cl H F α ds vs → ds.length = vs.length
  | _, _, .nil => rfl
  | _, _, .cons _ r => congrArg Nat.succ r.length
end

/-- what holds of a cell -/
def RepC (K : PySem.W.Frag) (cl : Str → Addr) (H : Hp) (F : Addr → Prop) (α : List Addr) (a : Addr) : C → Prop
  | .lst ds => ∃ vs, H a = some (.lst vs) ∧ RepL K cl H F α ds vs
  | .dct kvs => ∃ vs, H a = some (.dK vs) ∧ RepK K cl H F α kvs vs
  | .dcu kvs => ∃ vs, H a = some (.dT vs) ∧ RepU K cl H F α kvs vs
  | .obj c fs => ∃ dx vs, H a = some (.ins (cl c) dx vs) ∧ RepF K cl H F α fs vs

/-- where a run began: the heap, the cells that it was given, what was frozen then -/
structure Cz where
  H0 : Hp
  β : List Addr
  F0 : Addr → Prop

structure SIx (K : PySem.W.Frag) (cl : Str → Addr) (c : Cz) (H : Hp) (σ : L2.St) (s : S) (T : List (D × V)) (F : Addr → Prop) (α : List Addr) : Prop where
  env : ∀ (i : Nat) (d : D), s.env[i]? = some (some d) → ∃ v, σ[i]? = some (some v) ∧ Rep K cl H F α d v
  el : s.env.length = σ.length
  tmp : ∀ p ∈ T, Rep K cl H F α p.1 p.2
  len : α.length = s.M.length
  cel : ∀ (k : Nat) (x : C) (a : Addr), s.M[k]? = some (some x) → α[k]? = some a → RepC K cl H F α a x ∧ ¬ F a
  nd : α.Nodup
  dom : ∀ a ∈ α, ∃ o, H a = some o
  inα : ∀ a ∈ α, a ∈ c.β ∨ c.H0 a = none
  domF : ∀ b, F b → ∃ o, H b = some o
  inF : ∀ b, F b → b ∈ c.β ∨ c.F0 b ∨ c.H0 b = none
  pre : ∀ (k : Nat) (a : Addr), c.β[k]? = some a → α[k]? = some a
  keep : ∀ b o, c.H0 b = some o → b ∉ c.β → H b = some o
  tups : ∀ b xs, c.H0 b = some (.tup xs) → H b = some (.tup xs)
  frzs : ∀ b o u, c.H0 b = some (.frz o u) → H b = some (.frz o u)
def SI (K : PySem.W.Frag) (cl : Str → Addr) (c : Cz) (H : Hp) (σ : L2.St) (s : S) (T : List (D × V)) : Prop := ∃ F α, SIx K cl c H σ s T F α

section
variable {K : PySem.W.Frag} {cl : Str → Addr} {c : Cz} {H H' : Hp} {σ σ' : L2.St} {s : S} {T T' : List (D × V)} {F F' : Addr → Prop} {α α' : List Addr}
theorem SI.sub (h : SI K cl c H σ s T) (hs : ∀ p ∈ T', p ∈ T) : SI K cl c H σ s T' := by
  obtain ⟨F, α, h⟩ := h
  exact ⟨F, α, { h with tmp := fun p hp => h.tmp p (hs p hp) }⟩
theorem SI.pop {p : D × V} (h : SI K cl c H σ s (p :: T)) : SI K cl c H σ s T := h.sub fun _ hp => List.mem_cons_of_mem _ hp
theorem SI.pop2 {p q : D × V} (h : SI K cl c H σ s (p :: q :: T)) : SI K cl c H σ s T := h.pop.pop
theorem SIx.si (h : SIx K cl c H σ s T F α) : SI K cl c H σ s T := ⟨F, α, h⟩
theorem SIx.push {d : D} {v : V} (h : SIx K cl c H σ s T F α) (r : Rep K cl H F α d v) : SIx K cl c H σ s ((d, v) :: T) F α :=
  { h with tmp := fun p hp => (List.mem_cons.mp hp).elim (fun e => by subst e; exact r) (fun hp => h.tmp p hp) }
theorem SI.var {i : Nat} {d : D} (h : SI K cl c H σ s T) (e : s.env[i]? = some (some d)) : ∃ v, σ[i]? = some (some v) ∧ SI K cl c H σ s ((d, v) :: T) := by
  obtain ⟨F, α, h⟩ := h
  obtain ⟨v, h1, h2⟩ := h.env i d e
  exact ⟨v, h1, F, α, h.push h2⟩
/-- the frozen things, the tuples of what was there -/
theorem Ext.repC (e : Ext H F α H' F' α') {a : Addr} {x : C} (h : RepC K cl H F α a x) (ha : H' a = H a) : RepC K cl H' F' α' a x := by
  cases x with
  | lst ds => obtain ⟨vs, h1, h2⟩ := h; exact ⟨vs, ha.trans h1, RepL.ext e h2⟩
  | dct ds => obtain ⟨vs, h1, h2⟩ := h; exact ⟨vs, ha.trans h1, RepK.ext e h2⟩
  | dcu ds => obtain ⟨vs, h1, h2⟩ := h; exact ⟨vs, ha.trans h1, RepU.ext e h2⟩
  | obj c fs => obtain ⟨dx, vs, h1, h2⟩ := h; exact ⟨dx, vs, ha.trans h1, RepF.ext e h2⟩
/-- a new object at p, tracked, frozen if fz -/
theorem ext_new {p : Addr} {o : HO} (h : SIx K cl c H σ s T F α) (hp : H p = none) : Ext H F α (upd H p o) (fun b => F b ∨ b = p) α :=
  ⟨fun b hb => upd_ne (fun e => by
      obtain ⟨o', q⟩ := h.domF b hb
      rw [e, hp] at q; cases q), fun _ hb => .inl hb, fun b xs q => by rw [upd_ne (ne_of_none q hp)]; exact q, fun b u xs q => by rw [upd_ne (ne_of_none q hp)]; exact q, fun _ _ q => q⟩
theorem SIx.newF {p : Addr} {o : HO} (h : SIx K cl c H σ s T F α) (hp : H p = none) : SIx K cl c (upd H p o) σ s T (fun b => F b ∨ b = p) α := by
  have e := ext_new (o := o) h hp
  have hnew : ∀ b o', H b = some o' → upd H p o b = some o' := fun b o' q => by rw [upd_ne (ne_of_none q hp)]; exact q
  have npα : ∀ a ∈ α, a ≠ p := fun a ha q => by
    obtain ⟨o', z⟩ := h.dom a ha
    rw [q, hp] at z; cases z
  have c0 : c.H0 p = none ∨ p ∈ c.β := by
    cases q : c.H0 p with
    | none => exact .inl rfl
    | some u =>
      by_cases hb : p ∈ c.β
      · exact .inr hb
      · have := h.keep p u q hb
        rw [hp] at this; cases this
  refine ⟨fun i d q => ?_, ?_, fun q hq => (h.tmp q hq).ext e, h.len, fun k x a q1 q2 => ?_, h.nd, fun a ha => ?_, h.inα, fun b hb => ?_, fun b hb => ?_, h.pre, fun b u q1 q2 => hnew _ _ (h.keep b u q1 q2), fun b xs q => hnew _ _ (h.tups b xs q), fun b u xs q => hnew _ _ (h.frzs b u xs q)⟩
  · obtain ⟨v, h1, h2⟩ := h.env i d q
    exact ⟨v, h1, h2.ext e⟩
  · exact h.el
  · obtain ⟨h1, h2⟩ := h.cel k x a q1 q2
    have na := npα a (List.mem_of_getElem? q2)
    exact ⟨e.repC h1 (upd_ne na), fun z => z.elim h2 na⟩
  · obtain ⟨o', z⟩ := h.dom a ha
    exact ⟨o', hnew _ _ z⟩
  · rcases hb with hb | rfl
    · obtain ⟨o', z⟩ := h.domF b hb
      exact ⟨o', hnew _ _ z⟩
    · exact ⟨o, upd_same⟩
  · rcases hb with hb | rfl
    · exact h.inF b hb
    · rcases c0 with z | z
      · exact .inr (.inr z)
      · exact .inl z
/-- a new list of the temps' values, frozen -/
theorem SI.newLst {p : Addr} {ds : List D} {vs : List V} (h : SI K cl c H σ s T) (hp : H p = none) (hr : ∀ F α, SIx K cl c H σ s T F α → RepL K cl H F α ds vs) : SI K cl c (upd H p (.lst vs)) σ s ((.lst ds, .ref p) :: T) := by
  obtain ⟨F, α, h⟩ := h
  exact ⟨_, α, (h.newF hp).push (.lst upd_same (.inr rfl) ((hr F α h).ext (ext_new h hp)))⟩
theorem SI.newTup {p : Addr} {ds : List D} {vs : List V} (h : SI K cl c H σ s T) (hp : H p = none) (hr : ∀ F α, SIx K cl c H σ s T F α → RepL K cl H F α ds vs) : SI K cl c (upd H p (.tup vs)) σ s ((.tup ds, .ref p) :: T) := by
  obtain ⟨F, α, h⟩ := h
  exact ⟨_, α, (h.newF hp).push (.tup (SqT.of upd_same) ((hr F α h).ext (ext_new h hp)))⟩
/-- a cell's object is changed -/
theorem ext_set {k : Nat} {a : Addr} {x : C} {o : HO} (h : SIx K cl c H σ s T F α) (hk : s.M[k]? = some (some x)) (ha : α[k]? = some a) : Ext H F α (upd H a o) F α := by
  obtain ⟨h1, h2⟩ := h.cel k x a hk ha
  have hx : ∀ u, H a = some u → (∀ xs, u ≠ .tup xs) ∧ ∀ o v, u ≠ .frz o v := by
    intro u q
    cases x with
    | lst ds => obtain ⟨vs, e, _⟩ := h1; rw [e] at q; cases q; exact ⟨fun _ z => (by cases z), fun _ _ z => (by cases z)⟩
    | dct ds => obtain ⟨vs, e, _⟩ := h1; rw [e] at q; cases q; exact ⟨fun _ z => (by cases z), fun _ _ z => (by cases z)⟩
    | dcu ds => obtain ⟨vs, e, _⟩ := h1; rw [e] at q; cases q; exact ⟨fun _ z => (by cases z), fun _ _ z => (by cases z)⟩
    | obj c fs => obtain ⟨dx, vs, e, _⟩ := h1; rw [e] at q; cases q; exact ⟨fun _ z => (by cases z), fun _ _ z => (by cases z)⟩
  refine ⟨fun b hb => upd_ne fun e => h2 (e ▸ hb), fun _ hb => hb, fun b xs q => ?_, fun b u xs q => ?_, fun _ _ q => q⟩
  · rw [upd_ne]; exact q
    intro e; subst e
    exact (hx _ q).1 _ rfl
  · rw [upd_ne]; exact q
    intro e; subst e
    exact (hx _ q).2 _ _ rfl
theorem SIx.setCell {k : Nat} {a : Addr} {x y : C} {o : HO} (h : SIx K cl c H σ s T F α) (hk : s.M[k]? = some (some x)) (ha : α[k]? = some a)
    (hy : Ext H F α (upd H a o) F α → RepC K cl (upd H a o) F α a y) : SIx K cl c (upd H a o) σ { s with M := s.M.set k (some y) } T F α := by
  have e := ext_set (o := o) h hk ha
  have hkl : k < s.M.length := (List.getElem?_eq_some_iff.mp hk).1
  obtain ⟨h1, h2⟩ := h.cel k x a hk ha
  have hx : ∀ u, H a = some u → (∀ xs, u ≠ .tup xs) ∧ ∀ o v, u ≠ .frz o v := by
    intro u q
    refine ⟨fun xs z => ?_, fun o' v z => ?_⟩
    · subst z
      cases x with
      | lst ds => obtain ⟨vs, e, _⟩ := h1; rw [e] at q; cases q
      | dct ds => obtain ⟨vs, e, _⟩ := h1; rw [e] at q; cases q
      | dcu ds => obtain ⟨vs, e, _⟩ := h1; rw [e] at q; cases q
      | obj c fs => obtain ⟨dx, vs, e, _⟩ := h1; rw [e] at q; cases q
    · subst z
      cases x with
      | lst ds => obtain ⟨vs, e, _⟩ := h1; rw [e] at q; cases q
      | dct ds => obtain ⟨vs, e, _⟩ := h1; rw [e] at q; cases q
      | dcu ds => obtain ⟨vs, e, _⟩ := h1; rw [e] at q; cases q
      | obj c fs => obtain ⟨dx, vs, e, _⟩ := h1; rw [e] at q; cases q
  have ain : a ∈ c.β ∨ c.H0 a = none := h.inα a (List.mem_of_getElem? ha)
  refine ⟨fun i d q => ?_, h.el, fun q hq => (h.tmp q hq).ext e, by show α.length = (s.M.set k (some y)).length; rw [List.length_set]; exact h.len, fun j z b q1 q2 => ?_, h.nd, fun b hb => ?_, h.inα, fun b hb => ?_, h.inF, h.pre, fun b u q1 q2 => ?_, fun b xs q => e.tups b xs (h.tups b xs q), fun b u xs q => e.frzs b u xs (h.frzs b u xs q)⟩
  · obtain ⟨v, h3, h4⟩ := h.env i d q
    exact ⟨v, h3, h4.ext e⟩
  · have q1' : (s.M.set k (some y))[j]? = some (some z) := q1
    by_cases hj : k = j
    · subst hj
      rw [List.getElem?_set_self hkl] at q1'
      cases q1'
      rw [ha] at q2; cases q2
      exact ⟨hy e, h2⟩
    · rw [List.getElem?_set_ne hj] at q1'
      obtain ⟨h3, h4⟩ := h.cel j z b q1' q2
      have nb : b ≠ a := fun w => by
        subst w
        exact hj ((List.getElem?_inj (by rw [h.len]; exact hkl) h.nd).mp (ha.trans q2.symm))
      exact ⟨e.repC h3 (upd_ne nb), h4⟩
  · by_cases hb' : b = a
    · subst hb'; exact ⟨o, upd_same⟩
    · rw [upd_ne hb']; exact h.dom b hb
  · by_cases hb' : b = a
    · subst hb'; exact ⟨o, upd_same⟩
    · rw [upd_ne hb']; exact h.domF b hb
  · have nb : b ≠ a := fun w => by
      subst w
      rcases ain with z | z
      · exact q2 z
      · rw [q1] at z; cases z
    rw [upd_ne nb]; exact h.keep b u q1 q2
/-- a new cell at p -/
theorem SIx.newCell {p : Addr} {x : C} {o : HO} (h : SIx K cl c H σ s T F α) (hp : H p = none)
    (hy : Ext H F α (upd H p o) F (α ++ [p]) → RepC K cl (upd H p o) F (α ++ [p]) p x) : SIx K cl c (upd H p o) σ { s with M := s.M ++ [some x] } ((.ptr s.M.length, .ref p) :: T) F (α ++ [p]) := by
  have hnew : ∀ b o', H b = some o' → upd H p o b = some o' := fun b o' q => by rw [upd_ne (ne_of_none q hp)]; exact q
  have npα : ∀ a ∈ α, a ≠ p := fun a ha q => by
    obtain ⟨o', z⟩ := h.dom a ha
    rw [q, hp] at z; cases z
  have nF : ¬ F p := fun z => by
    obtain ⟨o', q⟩ := h.domF p z
    rw [hp] at q; cases q
  have al : ∀ (k : Nat) (a : Addr), α[k]? = some a → (α ++ [p])[k]? = some a := fun k a q => by
    rw [List.getElem?_append_left (List.getElem?_eq_some_iff.mp q).1]; exact q
  have e : Ext H F α (upd H p o) F (α ++ [p]) := ⟨fun b hb => upd_ne fun w => nF (w ▸ hb), fun _ hb => hb, fun b xs q => hnew _ _ q, fun b u xs q => hnew _ _ q, al⟩
  have c0 : p ∈ c.β ∨ c.H0 p = none := by
    cases q : c.H0 p with
    | none => exact .inr rfl
    | some u =>
      by_cases hb : p ∈ c.β
      · exact .inl hb
      · have := h.keep p u q hb
        rw [hp] at this; cases this
  refine ⟨fun i d q => ?_, h.el, fun q hq => ?_, ?_, fun j z b q1 q2 => ?_, ?_, fun b hb => ?_, fun b hb => ?_, fun b hb => ?_, h.inF, fun k a q => al k a (h.pre k a q), fun b u q1 q2 => hnew _ _ (h.keep b u q1 q2), fun b xs q => hnew _ _ (h.tups b xs q), fun b u xs q => hnew _ _ (h.frzs b u xs q)⟩
  · obtain ⟨v, h3, h4⟩ := h.env i d q
    exact ⟨v, h3, h4.ext e⟩
  · rcases List.mem_cons.mp hq with z | hq
    · subst z
      refine .ptr ?_
      rw [← h.len]
      exact List.getElem?_concat_length
    · exact (h.tmp q hq).ext e
  · show (α ++ [p]).length = (s.M ++ [some x]).length
    rw [List.length_append, List.length_append, h.len]; rfl
  · have q1' : (s.M ++ [some x])[j]? = some (some z) := q1
    by_cases hj : j < s.M.length
    · rw [List.getElem?_append_left hj] at q1'
      rw [List.getElem?_append_left (by rw [h.len]; exact hj)] at q2
      obtain ⟨h3, h4⟩ := h.cel j z b q1' q2
      exact ⟨e.repC h3 (upd_ne (npα b (List.mem_of_getElem? q2))), h4⟩
    · have hj' : j = s.M.length := by
        have := (List.getElem?_eq_some_iff.mp q1').1
        rw [List.length_append] at this
        simp at this; omega
      subst hj'
      rw [List.getElem?_concat_length] at q1'
      cases q1'
      rw [← h.len, List.getElem?_concat_length] at q2
      cases q2
      exact ⟨hy e, nF⟩
  · rw [List.nodup_append]
    exact ⟨h.nd, by simp, fun a ha b hb => by rw [List.mem_singleton.mp hb]; exact npα a ha⟩
  · rcases List.mem_append.mp hb with hb | hb
    · obtain ⟨o', z⟩ := h.dom b hb
      exact ⟨o', hnew _ _ z⟩
    · rw [List.mem_singleton.mp hb]; exact ⟨o, upd_same⟩
  · rcases List.mem_append.mp hb with hb | hb
    · exact h.inα b hb
    · rw [List.mem_singleton.mp hb]; exact c0
  · obtain ⟨o', z⟩ := h.domF b hb
    exact ⟨o', hnew _ _ z⟩

/-- what a datum is as it is read: itself, or its cell -/
theorem SIx.view {d : D} {v : V} (h : SIx K cl c H σ s T F α) (r : Rep K cl H F α d v) : Rep K cl H F α (view s.M d) v ∨ ∃ k x a, d = .ptr k ∧ v = .ref a ∧ s.M[k]? = some (some x) ∧ α[k]? = some a ∧ view s.M d = x.dat ∧ RepC K cl H F α a x := by
  cases d with
  | ptr k =>
    cases r with
    | ptr e =>
      rename_i a
      cases q2 : s.M[k]? with
      | none =>
        have e2 : DL.view s.M (.ptr k) = .ptr k := by simp only [DL.view, q2]
        rw [e2]; exact .inl (.ptr e)
      | some o =>
        cases o with
        | none =>
          have e2 : DL.view s.M (.ptr k) = .ptr k := by simp only [DL.view, q2]
          rw [e2]; exact .inl (.ptr e)
        | some x =>
          have e2 : DL.view s.M (.ptr k) = x.dat := by simp only [DL.view, q2]
          exact .inr ⟨k, x, a, rfl, rfl, q2, e, e2, (h.cel k x a q2 e).1⟩
  | _ => exact .inl r
theorem SI.bind {i : Nat} {d : D} {v : V} (h : SI K cl c H σ s ((d, v) :: T)) (hi : i < s.env.length) : SI K cl c H (σ.set i (some v)) { s with env := s.env.set i (some d) } T := by
  obtain ⟨F, α, h⟩ := h
  have hi : i < σ.length := by rw [← h.el]; exact hi
  refine ⟨F, α, { h with el := by show (s.env.set i (some d)).length = (σ.set i (some v)).length; rw [List.length_set, List.length_set]; exact h.el, env := fun j e q => ?_, tmp := fun p hp => h.tmp p (List.mem_cons_of_mem _ hp) }⟩
  have q' : (s.env.set i (some d))[j]? = some (some e) := q
  by_cases hj : i = j
  · subst hj
    have hl : i < s.env.length := by
      have := (List.getElem?_eq_some_iff.mp q').1
      rwa [List.length_set] at this
    rw [List.getElem?_set_self hl] at q'
    cases q'
    exact ⟨v, List.getElem?_set_self hi, h.tmp (d, v) (List.mem_cons_self ..)⟩
  · rw [List.getElem?_set_ne hj] at q'
    rw [List.getElem?_set_ne hj]
    exact h.env j e q'
end
end DL

/-! DlB: expressions, tests, argument lists as functions of the state. -/
namespace DL
open PySem L2

/-- an exception's own dict, among the temps -/
def xt (fs : List (Str × D)) : Option Addr → List (D × V)
  | none => []
  | some a => [(.xd fs, .ref a)]
/-- what is wanted behind a run -/
def Want (K : PySem.W.Frag) (cl : Str → Addr) (W : WX) (c : Cz) (σ : L2.St) (T : List (D × V)) (o : Out D) (Q : VK) : Prop := match o with
  | .fail => False
  | .ok d s => ∀ v H, SI K cl c H σ s ((d, v) :: T) → Q v H
  | .exc n fs s => ∀ dx H, (dx = none → fs = []) → SI K cl c H σ s (xt fs dx ++ T) → W (.ref (cl n)) dx σ H
/-- of a test -/
def WantB (K : PySem.W.Frag) (cl : Str → Addr) (W : WX) (c : Cz) (σ : L2.St) (T : List (D × V)) (o : Out Bool) (Q : Bool → Hp → Prop) : Prop := match o with
  | .fail => False
  | .ok b s => ∀ H, SI K cl c H σ s T → Q b H
  | .exc n fs s => ∀ dx H, (dx = none → fs = []) → SI K cl c H σ s (xt fs dx ++ T) → W (.ref (cl n)) dx σ H
/-- the values of an argument list lie over T, the last one on top -/
def zipT : List D → List V → List (D × V) → List (D × V)
  | d :: ds, v :: vs, T => zipT ds vs ((d, v) :: T)
  | _, _, T => T
def WantA (K : PySem.W.Frag) (cl : Str → Addr) (W : WX) (c : Cz) (σ : L2.St) (T : List (D × V)) (o : Out (List D)) (Q : List V → Hp → Prop) : Prop := match o with
  | .fail => False
  | .ok ds s => ∀ vs H, ds.length = vs.length → SI K cl c H σ s (zipT ds vs T) → Q vs H
  | .exc n fs s => ∀ dx H, (dx = none → fs = []) → SI K cl c H σ s (xt fs dx ++ T) → W (.ref (cl n)) dx σ H

structure DE (X : Cx) (cl : Str → Addr) (W : WX) (e : Expr) (f : M D) : Prop where
  ex : ∃ te, PE X e te ∧ ∀ c σ s T H Q, SI X.K cl c H σ s T → Want X.K cl W c σ T (f s) Q → te σ H Q
structure DT (X : Cx) (cl : Str → Addr) (W : WX) (e : Expr) (f : M Bool) : Prop where
  ex : ∃ te, PT X e te ∧ ∀ c σ s T H Q, SI X.K cl c H σ s T → WantB X.K cl W c σ T (f s) Q → te σ H Q
structure DW (X : Cx) (cl : Str → Addr) (W : WX) (e : Expr) (f : M Bool) : Prop where
  ex : ∃ te, PW X e te ∧ ∀ c σ s T H Q, SI X.K cl c H σ s T → WantB X.K cl W c σ T (f s) Q → te σ H Q
structure DA (X : Cx) (cl : Str → Addr) (W : WX) (es : List Expr) (f : M (List D)) : Prop where
  ex : ∃ te, PA X es te ∧ ∀ c σ s T H Q, SI X.K cl c H σ s T → WantA X.K cl W c σ T (f s) Q → te σ H Q

section
variable {K : PySem.W.Frag} {cl : Str → Addr} {W : WX} {c : Cz} {σ : L2.St} {T : List (D × V)} {H : Hp}
theorem SI.app {s : S} {p : List (D × V)} (h : SI K cl c H σ s (p ++ T)) : SI K cl c H σ s T := h.sub fun q hq => List.mem_append_right _ hq
theorem SI.xt {s : S} {fs : List (Str × D)} {dx : Option Addr} {T' : List (D × V)} (h : SI K cl c H σ s (DL.xt fs dx ++ T)) (hs : ∀ p ∈ T', p ∈ T) : SI K cl c H σ s (DL.xt fs dx ++ T') :=
  h.sub fun q hq => by
    rcases List.mem_append.mp hq with z | z
    · exact List.mem_append_left _ z
    · exact List.mem_append_right _ (hs q z)
/-- one run, then another -/
theorem Want.bind {o : Out D} {k : D → S → Out D} {Q Q1 : VK} (h : Want K cl W c σ T (o.bind k) Q)
    (hk : ∀ d s, o = .ok d s → Want K cl W c σ T (k d s) Q → ∀ v H, SI K cl c H σ s ((d, v) :: T) → Q1 v H) : Want K cl W c σ T o Q1 := by
  cases o with
  | fail => exact h
  | ok d s => exact hk d s rfl h
  | exc n fs s => exact h
theorem Want.bindB {o : Out Bool} {k : Bool → S → Out D} {Q : VK} {Q1 : Bool → Hp → Prop} (h : Want K cl W c σ T (o.bind k) Q)
    (hk : ∀ d s, o = .ok d s → Want K cl W c σ T (k d s) Q → ∀ H, SI K cl c H σ s T → Q1 d H) : WantB K cl W c σ T o Q1 := by
  cases o with
  | fail => exact h
  | ok d s => exact hk d s rfl h
  | exc n fs s => exact h
theorem WantB.bind {o : Out Bool} {k : Bool → S → Out Bool} {Q Q1 : Bool → Hp → Prop} (h : WantB K cl W c σ T (o.bind k) Q)
    (hk : ∀ d s, o = .ok d s → WantB K cl W c σ T (k d s) Q → ∀ H, SI K cl c H σ s T → Q1 d H) : WantB K cl W c σ T o Q1 := by
  cases o with
  | fail => exact h
  | ok d s => exact hk d s rfl h
  | exc n fs s => exact h
theorem WantB.bindD {o : Out D} {k : D → S → Out Bool} {Q : Bool → Hp → Prop} {Q1 : VK} (h : WantB K cl W c σ T (o.bind k) Q)
    (hk : ∀ d s, o = .ok d s → WantB K cl W c σ T (k d s) Q → ∀ v H, SI K cl c H σ s ((d, v) :: T) → Q1 v H) : Want K cl W c σ T o Q1 := by
  cases o with
  | fail => exact h
  | ok d s => exact hk d s rfl h
  | exc n fs s => exact h
theorem Want.bindA {o : Out (List D)} {k : List D → S → Out D} {Q : VK} {Q1 : List V → Hp → Prop} (h : Want K cl W c σ T (o.bind k) Q)
    (hk : ∀ ds s, o = .ok ds s → Want K cl W c σ T (k ds s) Q → ∀ vs H, ds.length = vs.length → SI K cl c H σ s (zipT ds vs T) → Q1 vs H) : WantA K cl W c σ T o Q1 := by
  cases o with
  | fail => exact h
  | ok d s => exact hk d s rfl h
  | exc n fs s => exact h
/-- temps that lie below do no harm: a want over a deeper stack -/
theorem Want.deeper {o : Out D} {Q : VK} {T' : List (D × V)} (h : Want K cl W c σ T o Q) (hs : ∀ p ∈ T, p ∈ T') : Want K cl W c σ T' o Q := by
  cases o with
  | fail => exact h
  | ok d s => exact fun v H i => h v H (i.sub fun q hq => by
      rcases List.mem_cons.mp hq with z | z
      · exact z ▸ List.mem_cons_self ..
      · exact List.mem_cons_of_mem _ (hs q z))
  | exc n fs s => exact fun dx H e i => h dx H e (i.xt hs)
theorem WantB.deeper {o : Out Bool} {Q : Bool → Hp → Prop} {T' : List (D × V)} (h : WantB K cl W c σ T o Q) (hs : ∀ p ∈ T, p ∈ T') : WantB K cl W c σ T' o Q := by
  cases o with
  | fail => exact h
  | ok d s => exact fun H i => h H (i.sub hs)
  | exc n fs s => exact fun dx H e i => h dx H e (i.xt hs)
theorem zipT_sub : ∀ (ds : List D) (vs : List V) (T : List (D × V)), ∀ p ∈ T, p ∈ zipT ds vs T
  | [], _, T, p, h => h
  | _ :: _, [], T, p, h => h
  | d :: ds, v :: vs, T, p, h => zipT_sub ds vs _ p (List.mem_cons_of_mem _ h)
theorem zipT_mem : ∀ {ds : List D} {vs : List V} {T : List (D × V)} {i : Nat} {d : D} {v : V}, ds[i]? = some d → vs[i]? = some v → (d, v) ∈ zipT ds vs T
  | [], _, T, i, d, v, h, _ => by simp at h
  | _ :: _, [], T, i, d, v, _, h => by simp at h
  | d :: ds, v :: vs, T, 0, e, u, h1, h2 => by
    simp at h1 h2; subst h1 h2
    exact zipT_sub ds vs _ _ (List.mem_cons_self ..)
  | d :: ds, v :: vs, T, i + 1, e, u, h1, h2 => zipT_mem (ds := ds) (vs := vs) (i := i) (by simpa using h1) (by simpa using h2)
theorem WantA.deeper {o : Out (List D)} {Q : List V → Hp → Prop} {T' : List (D × V)} (h : WantA K cl W c σ T o Q) (hs : ∀ p ∈ T, p ∈ T') : WantA K cl W c σ T' o Q := by
  cases o with
  | fail => exact h
  | ok ds s =>
    refine fun vs H e i => h vs H e (i.sub fun q hq => ?_)
    have key : ∀ (ds : List D) (vs : List V) (T T' : List (D × V)), (∀ p ∈ T, p ∈ T') → ∀ q ∈ zipT ds vs T, q ∈ zipT ds vs T' := by
      intro ds
      induction ds with
      | nil => intro vs T T' hs q hq; exact hs q hq
      | cons d ds ih =>
        intro vs T T' hs q hq
        cases vs with
        | nil => exact hs q hq
        | cons v vs =>
          refine ih vs _ _ (fun p hp => ?_) q hq
          rcases List.mem_cons.mp hp with z | z
          · exact z ▸ List.mem_cons_self ..
          · exact List.mem_cons_of_mem _ (hs p z)
    exact key ds vs T T' hs q hq
  | exc n fs s => exact fun dx H e i => h dx H e (i.xt hs)
theorem SIx.repL {s : S} {F : Addr → Prop} {α : List Addr} : ∀ {ds : List D} {vs : List V}, ds.length = vs.length → (∀ (i : Nat) (d : D) (v : V), ds[i]? = some d → vs[i]? = some v → Rep K cl H F α d v) → RepL K cl H F α ds vs
  | [], [], _, _ => .nil
  | d :: ds, v :: vs, hl, h => .cons (h 0 d v rfl rfl) (SIx.repL (s := s) (by simpa using hl) fun i d v h1 h2 => h (i + 1) d v (by simpa using h1) (by simpa using h2))
  | [], _ :: _, hl, _ => by simp at hl
  | _ :: _, [], hl, _ => by simp at hl
theorem SIx.args {s : S} {F : Addr → Prop} {α : List Addr} {ds : List D} {vs : List V} (h : SIx K cl c H σ s (zipT ds vs T) F α) (hl : ds.length = vs.length) : RepL K cl H F α ds vs :=
  SIx.repL (s := s) hl fun _ _ _ h1 h2 => h.tmp (_, _) (zipT_mem h1 h2)
end

/-! ### names, constants -/
def eVar (i : Nat) : M D := fun s => match s.env[i]? with
  | some (some d) => .ok d s
  | _ => .fail
def eC (d : D) : M D := fun s => .ok d s
section
variable {X : Cx} {cl : Str → Addr} {W : WX}
theorem de_var {i : Nat} {x : Str} {pos : Pos} (hN : X.N[i]? = some x) (hv : Vis X.env.scope x) (hd : (x == ("__debug__" : Str)) = false := by decide) (hcd : (x == ("__classdict__" : Str)) = false := by decide) : DE X cl W (.Name x pos) (eVar i) := by
  refine ⟨_, pe_var hN hv hd hcd, fun c σ s T H Q I w => ?_⟩
  unfold eVar at w
  split at w
  · rename_i d e
    obtain ⟨v, h1, h2⟩ := I.var e
    exact ⟨v, h1, w v H h2⟩
  · exact w.elim
/-- a datum without objects, its value -/
def flatD : D → Option V
  | .non => some .non | .bl b => some (.bl b) | .int i => some (.int i) | .str s => some (.str s) | .raw v => some v
  | _ => none
theorem flat_rep {K : PySem.W.Frag} {H : Hp} {F : Addr → Prop} {α : List Addr} {d : D} {v : V} (h : flatD d = some v) : Rep K cl H F α d v := by
  cases d <;> simp [flatD] at h <;> subst h
  · exact .non
  · exact .bl
  · exact .int
  · exact .str
  · exact .raw
theorem SI.flat {K : PySem.W.Frag} {c : Cz} {H : Hp} {σ : L2.St} {s : S} {T : List (D × V)} {d : D} {v : V} (h : flatD d = some v) (I : SI K cl c H σ s T) : SI K cl c H σ s ((d, v) :: T) := by
  obtain ⟨F, α, I⟩ := I
  exact ⟨F, α, I.push (flat_rep h)⟩
theorem de_of {e : Expr} {d : D} {v : V} (h : PE X e (tC v)) (hd : flatD d = some v) : DE X cl W e (eC d) := ⟨_, h, fun _ _ _ _ H _ I w => w v H (I.flat hd)⟩
theorem de_int {i j pos} : DE X cl W (.Constant (.int i) j pos) (eC (.int i)) := de_of pe_int rfl
theorem de_bl {b j pos} : DE X cl W (.Constant (.bool b) j pos) (eC (.bl b)) := de_of pe_bl rfl
theorem de_non {j pos} : DE X cl W (.Constant .none j pos) (eC .non) := de_of pe_non rfl
theorem de_str {x j pos} : DE X cl W (.Constant (.str x) j pos) (eC (.str x)) := de_of pe_str rfl
/-- a module's constant -/
theorem de_glob {x : Str} {d : D} {v : V} {u : Value} {pos : Pos} (hg : Gl X x) (hm : X.mg x = some u) (r : RelV v u) (hd : ∀ H F α, Rep X.K cl H F α d v) (hdb : (x == ("__debug__" : Str)) = false := by decide) : DE X cl W (.Name x pos) (eC d) :=
  ⟨_, pe_glob hg hm r hdb, fun _ _ _ _ H _ ⟨F, α, I⟩ w => w v H ⟨F, α, I.push (hd H F α)⟩⟩

/-! ### operators on two values that make no object -/
/-- g d e = a flat datum; the rule gives its value -/
structure OpF (X : Cx) (cl : Str → Addr) (op : Value → Value → Sem Value) (g : D → D → Option D) : Prop where
  ex : ∃ r : R2, OpR X op r ∧ ∀ H F α d e x y z Q, Rep X.K cl H F α d x → Rep X.K cl H F α e y → g d e = some z → (∀ v, flatD z = some v → Q v H) → r x y H Q
def oOf (o : Option D) (s : S) : Out D := match o with
  | some d => .ok d s
  | none => .fail
def eOp (g : D → D → Option D) (fa fb : M D) : M D := fun s => (fa s).bind fun x s => (fb s).bind fun y s => oOf (g (view s.M x) (view s.M y)) s
theorem isFlat_of {d : D} {v : V} (h : flatD d = some v) : True := trivial
end
end DL

/-! DlC: reading what data stand for; operators. -/
namespace DL
open PySem L2

mutual
/-- plain data, as the library has them -/
def pd : D → Option PyData
  | .non => some .none
  | .bl b => some (.bool b)
  | .int i => some (.int i)
  | .str s => some (.str s)
  | .tup xs => (pdL xs).map .tuple
  | .lst xs => (pdL xs).map .list
  | _ => none
def pdL : List D → Option (List PyData)
  | [] => some []
  | x :: xs => match pd x with
    | none => none
    | some p => (pdL xs).map (p :: ·)
end
/-- a sequence's items -/
def seqD : D → Option (List D)
  | .tup xs => some xs
  | .lst xs => some xs
  | .slst xs => some xs
  | _ => none

section
variable {K : PySem.W.Frag} {cl : Str → Addr} {c : Cz} {H H' : Hp} {σ σ' : L2.St} {s : S} {T T' : List (D × V)} {F F' : Addr → Prop} {α α' : List Addr}
mutual
theorem Rep.dp : ∀ {d : D} {v : V} {p : PyData}, Rep K cl H F α d v → pd d = some p → Dp K H v p
  | _, _, _, .non, e => by simp [pd] at e; subst e; exact .non
  | _, _, _, .bl, e => by simp [pd] at e; subst e; exact .bl _
  | _, _, _, .int, e => by simp [pd] at e; subst e; exact .int _
  | _, _, _, .str, e => by simp [pd] at e; subst e; exact .str _
  | _, _, _, .tup h r, e => by
    simp only [pd, Option.map_eq_some_iff] at e
    obtain ⟨ps, e1, rfl⟩ := e
    exact .tup h (RepL.dp r e1)
  | _, _, _, .lst h _ r, e => by
    simp only [pd, Option.map_eq_some_iff] at e
    obtain ⟨ps, e1, rfl⟩ := e
    exact .lst (SqL.of h) (RepL.dp r e1)
  | _, _, _, .slst _ _ _, e => by simp [pd] at e
  | _, _, _, .slstK _ _, e => by simp [pd] at e
  | _, _, _, .dct _ _ _, e => by simp [pd] at e
  | _, _, _, .dcu _ _ _, e => by simp [pd] at e
  | _, _, _, .obj _ _ _, e => by simp [pd] at e
  | _, _, _, .xd _ _ _, e => by simp [pd] at e
  | _, _, _, .ptr _, e => by simp [pd] at e
  | _, _, _, .raw, e => by simp [pd] at e
theorem RepL.dp : ∀ {d : List D} {v : List V} {p : List PyData}, RepL K cl H F α d v → pdL d = some p → DpAll K H v p
  | _, _, _, .nil, e => by simp [pdL] at e; subst e; exact .nil
  | _, _, _, .cons (d := d) h r, e => by
    simp only [pdL] at e
    cases q : pd d with
    | none => rw [q] at e; simp at e
    | some p =>
      rw [q] at e
      simp only [Option.map_eq_some_iff] at e
      obtain ⟨ps, e1, rfl⟩ := e
      exact .cons (Rep.dp h q) (RepL.dp r e1)
end
theorem Rep.seq : ∀ {d : D} {v : V} {ds : List D}, Rep K cl H F α d v → seqD d = some ds → ∃ a vs, v = .ref a ∧ (SqL K H a vs ∨ SqT K H a vs) ∧ RepL K cl H F α ds vs
  | _, _, _, .non, e => by simp [seqD] at e
  | _, _, _, .bl, e => by simp [seqD] at e
  | _, _, _, .int, e => by simp [seqD] at e
  | _, _, _, .str, e => by simp [seqD] at e
  | _, _, _, .tup h r, e => by simp [seqD] at e; subst e; exact ⟨_, _, rfl, .inr h, r⟩
  | _, _, _, .lst h _ r, e => by simp [seqD] at e; subst e; exact ⟨_, _, rfl, .inl (SqL.of h), r⟩
  | _, _, _, .slst h _ r, e => by simp [seqD] at e; subst e; exact ⟨_, _, rfl, .inl (.inl h), r⟩
  | _, _, _, .slstK h r, e => by simp [seqD] at e; subst e; exact ⟨_, _, rfl, .inl (h H), r⟩
  | _, _, _, .dct _ _ _, e => by simp [seqD] at e
  | _, _, _, .dcu _ _ _, e => by simp [seqD] at e
  | _, _, _, .obj _ _ _, e => by simp [seqD] at e
  | _, _, _, .xd _ _ _, e => by simp [seqD] at e
  | _, _, _, .ptr _, e => by simp [seqD] at e
  | _, _, _, .raw, e => by simp [seqD] at e
/-- the kinds of a view -/
theorem SIx.vInt {d : D} {v : V} {i : Int} (h : SIx K cl c H σ s T F α) (r : Rep K cl H F α d v) (e : DL.view s.M d = .int i) : v = .int i := by
  rcases h.view r with r | ⟨k, x, a, _, _, _, _, e2, _⟩
  · rw [e] at r; cases r; rfl
  · rw [e] at e2; cases x <;> cases e2
theorem SIx.vBl {d : D} {v : V} {i : Bool} (h : SIx K cl c H σ s T F α) (r : Rep K cl H F α d v) (e : DL.view s.M d = .bl i) : v = .bl i := by
  rcases h.view r with r | ⟨k, x, a, _, _, _, _, e2, _⟩
  · rw [e] at r; cases r; rfl
  · rw [e] at e2; cases x <;> cases e2
theorem SIx.vStr {d : D} {v : V} {i : Str} (h : SIx K cl c H σ s T F α) (r : Rep K cl H F α d v) (e : DL.view s.M d = .str i) : v = .str i := by
  rcases h.view r with r | ⟨k, x, a, _, _, _, _, e2, _⟩
  · rw [e] at r; cases r; rfl
  · rw [e] at e2; cases x <;> cases e2
theorem SIx.vNon {d : D} {v : V} (h : SIx K cl c H σ s T F α) (r : Rep K cl H F α d v) (e : DL.view s.M d = .non) : v = .non := by
  rcases h.view r with r | ⟨k, x, a, _, _, _, _, e2, _⟩
  · rw [e] at r; cases r; rfl
  · rw [e] at e2; cases x <;> cases e2
theorem SIx.vLst {d : D} {v : V} {ds : List D} (h : SIx K cl c H σ s T F α) (r : Rep K cl H F α d v) (e : DL.view s.M d = .lst ds) : ∃ a vs, v = .ref a ∧ H a = some (.lst vs) ∧ RepL K cl H F α ds vs := by
  rcases h.view r with r | ⟨k, x, a, _, rfl, _, _, e2, rc⟩
  · rw [e] at r; cases r; rename_i h1 h2 h3; exact ⟨_, _, rfl, h1, h3⟩
  · rw [e] at e2
    cases x <;> cases e2
    obtain ⟨vs, h1, h2⟩ := rc
    exact ⟨a, vs, rfl, h1, h2⟩
theorem SIx.vTup {d : D} {v : V} {ds : List D} (h : SIx K cl c H σ s T F α) (r : Rep K cl H F α d v) (e : DL.view s.M d = .tup ds) : ∃ a vs, v = .ref a ∧ SqT K H a vs ∧ RepL K cl H F α ds vs := by
  rcases h.view r with r | ⟨k, x, a, _, rfl, _, _, e2, rc⟩
  · rw [e] at r; cases r; rename_i h1 h2; exact ⟨_, _, rfl, h1, h2⟩
  · rw [e] at e2
    cases x <;> cases e2
theorem SIx.vSeq {d : D} {v : V} {ds : List D} (h : SIx K cl c H σ s T F α) (r : Rep K cl H F α d v) (e : seqD (DL.view s.M d) = some ds) : ∃ a vs, v = .ref a ∧ (SqL K H a vs ∨ SqT K H a vs) ∧ RepL K cl H F α ds vs := by
  rcases h.view r with r | ⟨k, x, a, _, rfl, _, _, e2, rc⟩
  · exact Rep.seq r e
  · rw [e2] at e
    cases x <;> simp [C.dat, seqD] at e <;> subst e
    obtain ⟨vs, h1, h2⟩ := rc
    exact ⟨a, vs, rfl, .inl (SqL.of h1), h2⟩
theorem SIx.vDp {d : D} {v : V} {p : PyData} (h : SIx K cl c H σ s T F α) (r : Rep K cl H F α d v) (e : pd (DL.view s.M d) = some p) : Dp K H v p := by
  rcases h.view r with r | ⟨k, x, a, _, rfl, _, _, e2, rc⟩
  · exact r.dp e
  · rw [e2] at e
    cases x with
    | lst ds =>
      simp only [C.dat, pd, Option.map_eq_some_iff] at e
      obtain ⟨ps, e1, rfl⟩ := e
      obtain ⟨vs, h1, h2⟩ := rc
      exact .lst (SqL.of h1) (RepL.dp h2 e1)
    | dct _ => simp [C.dat, pd] at e
    | dcu _ => simp [C.dat, pd] at e
    | obj _ _ => simp [C.dat, pd] at e
end

theorem SI.drop2 {K : PySem.W.Frag} {cl : Str → Addr} {c : Cz} {H : Hp} {σ : L2.St} {s : S} {T : List (D × V)} {p q : D × V} (h : SI K cl c H σ s (p :: q :: T)) : SI K cl c H σ s (p :: T) := h.sub fun _ hq => (List.mem_cons.mp hq).elim (fun z => z ▸ List.mem_cons_self ..) fun z => List.mem_cons_of_mem _ (List.mem_cons_of_mem _ z)
/-! ### operators -/
structure OpD (X : Cx) (cl : Str → Addr) (op : Value → Value → Sem Value) (g : D → D → Option D) : Prop where
  ex : ∃ r : R2, OpR X op r ∧ ∀ c σ s T H d x e y z Q, SI X.K cl c H σ s ((e, y) :: (d, x) :: T) → g (DL.view s.M d) (DL.view s.M e) = some z → (∀ v H', SI X.K cl c H' σ s ((z, v) :: (e, y) :: (d, x) :: T) → Q v H') → r x y H Q
def orD (g h : D → D → Option D) : D → D → Option D := fun a b => match g a b with
  | some z => some z
  | none => h a b
section
variable {X : Cx} {cl : Str → Addr} {W : WX} {op : Value → Value → Sem Value} {g h : D → D → Option D}
theorem OpD.or (a : OpD X cl op g) (b : OpD X cl op h) : OpD X cl op (orD g h) := by
  obtain ⟨r, hr, q⟩ := a
  obtain ⟨r', hr', q'⟩ := b
  refine ⟨_, hr.or hr', fun c σ s T H d x e y z Q I hz k => ?_⟩
  unfold orD at hz
  split at hz
  · rename_i z' e1
    cases hz
    exact .inl (q c σ s T H d x e y z Q I e1 k)
  · exact .inr (q' c σ s T H d x e y z Q I hz k)
/-- of two flat data a flat one -/
theorem OpD.flat {r : R2} (hr : OpR X op r) (hq : ∀ H F α d e x y z Q, Rep X.K cl H F α d x → Rep X.K cl H F α e y → g d e = some z → (∀ v, flatD z = some v → Q v H) → r x y H Q)
    (hd : ∀ d e z, g d e = some z → (∀ y : DL.C, d ≠ y.dat) ∧ ∀ y : DL.C, e ≠ y.dat) (hf : ∀ d e z, g d e = some z → ∃ v, flatD z = some v) : OpD X cl op g := by
  refine ⟨r, hr, fun c σ s T H d x e y z Q ⟨F, α, I⟩ hz k => ?_⟩
  obtain ⟨n1, n2⟩ := hd _ _ _ hz
  have r1 : Rep X.K cl H F α (DL.view s.M d) x := (I.view (I.tmp (d, x) (List.mem_cons_of_mem _ (List.mem_cons_self ..)))).elim id fun ⟨_, C, _, _, _, _, _, e2, _⟩ => (n1 C e2).elim
  have r2 : Rep X.K cl H F α (DL.view s.M e) y := (I.view (I.tmp (e, y) (List.mem_cons_self ..))).elim id fun ⟨_, C, _, _, _, _, _, e2, _⟩ => (n2 C e2).elim
  exact hq H F α _ _ x y z Q r1 r2 hz fun v hv => k v H (SI.flat hv ⟨F, α, I⟩)
/-- two ints -/
def gI (f : Int → Int → Option D) : D → D → Option D
  | .int i, .int j => f i j
  | _, _ => none
theorem gI_some {f : Int → Int → Option D} {d e z : D} (h : gI f d e = some z) : ∃ i j, d = .int i ∧ e = .int j ∧ f i j = some z := by
  cases d <;> first | (cases e <;> first | exact ⟨_, _, rfl, rfl, h⟩ | (simp [gI] at h)) | (simp [gI] at h)
theorem OpD.int {r : R2} {f : Int → Int → Option D} (hr : OpR X op r) (hq : ∀ i j z v H Q, f i j = some z → flatD z = some v → Q v H → r (.int i) (.int j) H Q) (hf : ∀ i j z, f i j = some z → ∃ v, flatD z = some v) : OpD X cl op (gI f) := by
  refine OpD.flat hr (fun H F α d e x y z Q r1 r2 hz k => ?_) (fun d e z hz => ?_) (fun d e z hz => ?_)
  · obtain ⟨i, j, rfl, rfl, hz⟩ := gI_some hz
    cases r1; cases r2
    obtain ⟨v, hv⟩ := hf i j z hz
    exact hq i j z v H Q hz hv (k v hv)
  · obtain ⟨i, j, rfl, rfl, hz⟩ := gI_some hz
    exact ⟨fun y q => (by cases y <;> cases q), fun y q => (by cases y <;> cases q)⟩
  · obtain ⟨i, j, rfl, rfl, hz⟩ := gI_some hz
    exact hf i j z hz
def gIf (c : Int → Int → Bool) (g : Int → Int → Int) (i j : Int) : Option D := match c i j with
  | true => some (.int (g i j))
  | false => none
theorem gIf_some {c : Int → Int → Bool} {g : Int → Int → Int} {i j : Int} {z : D} (h : gIf c g i j = some z) : c i j = true ∧ z = .int (g i j) := by
  unfold gIf at h
  cases q : c i j with
  | true => rw [q] at h; cases h; exact ⟨rfl, rfl⟩
  | false => rw [q] at h; cases h
theorem OpD.intIf {P : Int → Int → Prop} {c : Int → Int → Bool} {f : Int → Int → Int} (hr : OpR X op (rI P fun i j => .int (f i j))) (hc : ∀ i j, c i j = true → P i j) : OpD X cl op (gI (gIf c f)) :=
  OpD.int hr (fun i j z v H Q e q k => by
    obtain ⟨h1, rfl⟩ := gIf_some e
    cases q
    exact ⟨i, j, rfl, rfl, hc i j h1, k⟩) fun i j z e => by
    obtain ⟨h1, rfl⟩ := gIf_some e
    exact ⟨_, rfl⟩
def dAddI : D → D → Option D := gI fun i j => some (.int (i + j))
def dSubI : D → D → Option D := gI fun i j => some (.int (i - j))
def small64 (i : Int) : Bool := decide (-(2 ^ 64) < i) && decide (i < 2 ^ 64)
def dMulI : D → D → Option D := gI (gIf (fun i j => small64 i || small64 j) fun i j => i * j)
def dDivI : D → D → Option D := gI (gIf (fun _ j => decide (0 < j) && decide (j < 1073741824)) fun i j => i / j)
def dModI : D → D → Option D := gI (gIf (fun _ j => decide (0 < j)) fun i j => i % j)
def dPowI : D → D → Option D := gI (gIf (fun i j => decide (0 ≤ j) && decide (j ≤ 1000000) && decide (i.natAbs < 2 ^ 64)) fun i j => i ^ j.toNat)
theorem od_addI : OpD X cl (binaryOp .Add) dAddI := OpD.int op_add (fun i j z v H Q e f q => by cases e; cases f; exact ⟨i, j, rfl, rfl, q⟩) (fun i j z e => by cases e; exact ⟨_, rfl⟩)
theorem od_subI : OpD X cl (binaryOp .Sub) dSubI := OpD.int op_sub (fun i j z v H Q e f q => by cases e; cases f; exact ⟨i, j, rfl, rfl, q⟩) (fun i j z e => by cases e; exact ⟨_, rfl⟩)
theorem od_mulI : OpD X cl (binaryOp .Mult) dMulI := OpD.intIf op_mul fun i j h => by
  simpa [small64, Bool.or_eq_true, Bool.and_eq_true, CMul] using h
theorem od_divI : OpD X cl (binaryOp .FloorDiv) dDivI := OpD.intIf op_fdiv fun i j h => by simpa [CDiv, Bool.and_eq_true] using h
theorem od_modI : OpD X cl (binaryOp .Mod) dModI := OpD.intIf op_mod fun i j h => by simpa using h
theorem od_powI : OpD X cl (binaryOp .Pow) dPowI := OpD.intIf op_pow fun i j h => by simpa [CPow, Bool.and_eq_true, and_assoc] using h
def gCmp (p : Int → Int → Bool) : D → D → Option D := gI fun i j => some (.bl (p i j))
def dLtI := gCmp fun i j => decide (i < j)
def dLeI := gCmp fun i j => decide (i ≤ j)
def dGtI := gCmp fun i j => decide (j < i)
def dGeI := gCmp fun i j => decide (j ≤ i)
theorem od_ltI : OpD X cl (compareOp .Lt) dLtI := OpD.int op_lt (fun i j z v H Q e f q => by cases e; cases f; exact ⟨i, j, rfl, rfl, q⟩) (fun i j z e => by cases e; exact ⟨_, rfl⟩)
theorem od_leI : OpD X cl (compareOp .LtE) dLeI := OpD.int op_le (fun i j z v H Q e f q => by cases e; cases f; exact ⟨i, j, rfl, rfl, q⟩) (fun i j z e => by cases e; exact ⟨_, rfl⟩)
theorem od_gtI : OpD X cl (compareOp .Gt) dGtI := OpD.int op_gt (fun i j z v H Q e f q => by cases e; cases f; exact ⟨i, j, rfl, rfl, q⟩) (fun i j z e => by cases e; exact ⟨_, rfl⟩)
theorem od_geI : OpD X cl (compareOp .GtE) dGeI := OpD.int op_ge (fun i j z v H Q e f q => by cases e; cases f; exact ⟨i, j, rfl, rfl, q⟩) (fun i j z e => by cases e; exact ⟨_, rfl⟩)
/-- two texts -/
def dAddS : D → D → Option D
  | .str a, .str b => if a.length + b.length ≤ 1000000 then some (.str (a ++ b)) else none
  | _, _ => none
theorem line1m {n : Nat} (h : n ≤ 1000000) : n ≤ sizeLine := by rw [sizeLine_eq]; omega
theorem od_addS : OpD X cl (binaryOp .Add) dAddS := by
  have key : ∀ d e z, dAddS d e = some z → ∃ a b, d = .str a ∧ e = .str b ∧ a.length + b.length ≤ 1000000 ∧ z = .str (a ++ b) := fun d e z h => by
    cases d <;> first | (cases e <;> first | (simp only [dAddS] at h; split at h; (· rename_i hc; cases h; exact ⟨_, _, rfl, rfl, hc, rfl⟩); (· cases h)) | (simp [dAddS] at h)) | (simp [dAddS] at h)
  refine OpD.flat op_add_str (fun H F α d e x y z Q r1 r2 hz k => ?_) (fun d e z hz => ?_) (fun d e z hz => ?_)
  · obtain ⟨a, b, rfl, rfl, hl, rfl⟩ := key _ _ _ hz
    cases r1; cases r2
    exact ⟨a, b, rfl, rfl, line1m hl, k _ rfl⟩
  · obtain ⟨a, b, rfl, rfl, hl, rfl⟩ := key _ _ _ hz
    exact ⟨fun y q => (by cases y <;> cases q), fun y q => (by cases y <;> cases q)⟩
  · obtain ⟨a, b, rfl, rfl, hl, rfl⟩ := key _ _ _ hz
    exact ⟨_, rfl⟩
theorem RepL.nil_iff {K : PySem.W.Frag} {H : Hp} {F : Addr → Prop} {α : List Addr} {ds : List D} {vs : List V} (r : RepL K cl H F α ds vs) : vs = [] ↔ ds = [] := by
  cases r <;> simp
/-- two tuples -/
def dAddT : D → D → Option D
  | .tup a, .tup b => if a.length + b.length ≤ 1000000 then some (.tup (a ++ b)) else none
  | _, _ => none
theorem od_addT : OpD X cl (binaryOp .Add) dAddT := by
  refine ⟨_, op_catA, fun c σ s T H d x e y z Q ⟨F, α, I⟩ hz k => ?_⟩
  have r1 := I.tmp (d, x) (List.mem_cons_of_mem _ (List.mem_cons_self ..))
  have r2 := I.tmp (e, y) (List.mem_cons_self ..)
  unfold dAddT at hz
  split at hz
  · rename_i a b e1 e2
    split at hz
    · rename_i hl
      cases hz
      obtain ⟨p, vs, e3, h1, q1⟩ := I.vTup r1 e1
      obtain ⟨p', ws, e4, h2, q2⟩ := I.vTup r2 e2
      have e3 : x = .ref p := e3
      have e4 : y = .ref p' := e4
      subst e3 e4
      refine ⟨p, p', vs, ws, rfl, rfl, h1, h2, by rw [← q1.length, ← q2.length]; exact line1m hl, fun hx => ?_, fun hx hy => ?_, fun hx hy q hq => ?_⟩
      · have := q1.nil_iff.mp hx; subst this
        exact k _ _ ((I.push (d := .tup ([] ++ b)) (.tup h2 (by rw [List.nil_append]; exact q2))).si)
      · have := q2.nil_iff.mp hy; subst this
        exact k _ _ ((I.push (d := .tup (a ++ [])) (.tup h1 (by rw [List.append_nil]; exact q1))).si)
      · have e := ext_new (o := .tup (vs ++ ws)) I hq
        exact k _ _ (((I.newF hq).push (.tup (SqT.of upd_same) ((q1.append q2).ext e))).si)
    · cases hz
  · cases hz
/-- two lists -/
def dAddL : D → D → Option D
  | .lst a, .lst b => if a.length + b.length ≤ 1000000 then some (.lst (a ++ b)) else none
  | _, _ => none
theorem od_addL : OpD X cl (binaryOp .Add) dAddL := by
  refine ⟨_, op_cat, fun c σ s T H d x e y z Q ⟨F, α, I⟩ hz k => ?_⟩
  have r1 := I.tmp (d, x) (List.mem_cons_of_mem _ (List.mem_cons_self ..))
  have r2 := I.tmp (e, y) (List.mem_cons_self ..)
  unfold dAddL at hz
  split at hz
  · rename_i a b e1 e2
    split at hz
    · rename_i hl
      cases hz
      obtain ⟨p, vs, e3, h1, q1⟩ := I.vLst r1 e1
      obtain ⟨p', ws, e4, h2, q2⟩ := I.vLst r2 e2
      have e3 : x = .ref p := e3
      have e4 : y = .ref p' := e4
      subst e3 e4
      refine ⟨p, p', vs, ws, rfl, rfl, h1, h2, by rw [← q1.length, ← q2.length]; exact line1m hl, fun q hq => ?_⟩
      have e := ext_new (o := .lst (vs ++ ws)) I hq
      exact k _ _ (((I.newF hq).push (.lst upd_same (.inr rfl) ((q1.append q2).ext e))).si)
    · cases hz
  · cases hz
def dAdd : D → D → Option D := orD dAddI (orD dAddS (orD dAddT dAddL))
theorem od_add : OpD X cl (binaryOp .Add) dAdd := od_addI.or (od_addS.or (od_addT.or od_addL))
theorem de_op {o : Operator} {a b : Expr} {fa fb : M D} {pos : Pos} (ho : OpD X cl (binaryOp o) g) (ha : DE X cl W a fa) (hb : DE X cl W b fb) : DE X cl W (.BinOp a o b pos) (eOp g fa fb) := by
  obtain ⟨ta, pa, qa⟩ := ha
  obtain ⟨tb, pb, qb⟩ := hb
  obtain ⟨r, hr, q⟩ := ho
  refine ⟨_, pe_op hr pa pb, fun c σ s T H Q I w => ?_⟩
  refine qa c σ s T H _ I (w.bind fun d s1 _ w1 v H1 I1 => ?_)
  refine qb c σ s1 _ H1 _ I1 ((w1.deeper fun p hp => List.mem_cons_of_mem _ hp).bind fun e s2 _ w2 u H2 I2 => ?_)
  unfold oOf at w2
  split at w2
  · rename_i z hz
    exact q c σ s2 T H2 d v e u z Q I2 hz fun v' H' I' => w2 v' H' I'.drop2
  · exact w2.elim
theorem de_cmp {o : CmpOp} {a b : Expr} {fa fb : M D} {pos : Pos} (ho : OpD X cl (compareOp o) g) (ha : DE X cl W a fa) (hb : DE X cl W b fb) (hm : behindInMarks o b = false) : DE X cl W (.Compare a [o] [b] pos) (eOp g fa fb) := by
  obtain ⟨ta, pa, qa⟩ := ha
  obtain ⟨tb, pb, qb⟩ := hb
  obtain ⟨r, hr, q⟩ := ho
  refine ⟨_, pe_cmpR hr pa pb hm, fun c σ s T H Q I w => ?_⟩
  refine qa c σ s T H _ I (w.bind fun d s1 _ w1 v H1 I1 => ?_)
  refine qb c σ s1 _ H1 _ I1 ((w1.deeper fun p hp => List.mem_cons_of_mem _ hp).bind fun e s2 _ w2 u H2 I2 => ?_)
  unfold oOf at w2
  split at w2
  · rename_i z hz
    exact q c σ s2 T H2 d v e u z Q I2 hz fun v' H' I' => w2 v' H' I'.drop2
  · exact w2.elim
end
end DL

/-! DlD: comparisons, tests, displays, argument lists. -/
namespace DL
open PySem L2

section
variable {X : Cx} {cl : Str → Addr} {W : WX}
/-! ### == and its kin -/
def eqF : D → D → Option Bool
  | .int i, .int j => some (decide (i = j))
  | .str i, .str j => some (decide (i = j))
  | .bl i, .bl j => some (decide (i = j))
  | .non, .non => some true
  | .non, .int _ => some false | .int _, .non => some false
  | .non, .str _ => some false | .str _, .non => some false
  | .non, .bl _ => some false | .bl _, .non => some false
  | .int _, .str _ => some false | .str _, .int _ => some false
  | .bl _, .str _ => some false | .str _, .bl _ => some false
  | _, _ => none
def dEqF (d e : D) : Option D := (eqF d e).map .bl
def dNeF (d e : D) : Option D := (eqF d e).map fun b => .bl (!b)
theorem eqF_some {d e : D} {b : Bool} (h : eqF d e = some b) : ∃ x y, flatD d = some x ∧ flatD e = some y ∧ scal x y = true ∧ b = decide (x = y) := by
  cases d <;> first | (cases e <;> first | (simp only [eqF] at h; cases h; exact ⟨_, _, rfl, rfl, rfl, by simp⟩) | (simp [eqF] at h)) | (simp [eqF] at h)
theorem flat_view {s : S} {K : PySem.W.Frag} {c : Cz} {H : Hp} {σ : L2.St} {T : List (D × V)} {F : Addr → Prop} {α : List Addr} {d : D} {v x : V} (I : SIx K cl c H σ s T F α) (r : Rep K cl H F α d v) (hx : flatD (view s.M d) = some x) (hr : ∀ u, view s.M d ≠ .raw u) : v = x := by
  rcases I.view r with r | ⟨k, y, a, _, _, _, _, e2, _⟩
  · revert r hx hr
    generalize view s.M d = z
    intro hx hr r
    cases z <;> simp [flatD] at hx <;> subst hx
    · cases r; rfl
    · cases r; rfl
    · cases r; rfl
    · cases r; rfl
    · exact absurd rfl (hr _)
  · rw [e2] at hx
    cases y <;> cases hx
theorem eqF_raw {d e : D} {b : Bool} (h : eqF d e = some b) : (∀ u, d ≠ .raw u) ∧ ∀ u, e ≠ .raw u := by
  refine ⟨fun u q => ?_, fun u q => ?_⟩
  · subst q; cases e <;> simp [eqF] at h
  · subst q; cases d <;> simp [eqF] at h
theorem od_eqF : OpD X cl (compareOp .Eq) dEqF := by
  refine ⟨_, op_eq, fun c σ s T H d x e y z Q ⟨F, α, I⟩ hz k => ?_⟩
  unfold dEqF at hz
  cases q : eqF (view s.M d) (view s.M e) with
  | none => rw [q] at hz; cases hz
  | some b =>
    rw [q] at hz; cases hz
    obtain ⟨u, w, h1, h2, h3, rfl⟩ := eqF_some q
    obtain ⟨n1, n2⟩ := eqF_raw q
    have e1 := flat_view I (I.tmp (d, x) (List.mem_cons_of_mem _ (List.mem_cons_self ..))) h1 n1
    have e2 := flat_view I (I.tmp (e, y) (List.mem_cons_self ..)) h2 n2
    have e1 : x = u := e1
    have e2 : y = w := e2
    subst e1 e2
    exact ⟨h3, k _ H (SI.flat rfl ⟨F, α, I⟩)⟩
theorem od_neF : OpD X cl (compareOp .NotEq) dNeF := by
  refine ⟨_, op_ne, fun c σ s T H d x e y z Q ⟨F, α, I⟩ hz k => ?_⟩
  unfold dNeF at hz
  cases q : eqF (view s.M d) (view s.M e) with
  | none => rw [q] at hz; cases hz
  | some b =>
    rw [q] at hz; cases hz
    obtain ⟨u, w, h1, h2, h3, rfl⟩ := eqF_some q
    obtain ⟨n1, n2⟩ := eqF_raw q
    have e1 := flat_view I (I.tmp (d, x) (List.mem_cons_of_mem _ (List.mem_cons_self ..))) h1 n1
    have e2 := flat_view I (I.tmp (e, y) (List.mem_cons_self ..)) h2 n2
    have e1 : x = u := e1
    have e2 : y = w := e2
    subst e1 e2
    exact ⟨h3, k _ H (SI.flat rfl ⟨F, α, I⟩)⟩
def eqP (d e : D) : Option Bool := match pd d, pd e with
  | some p, some q => if SeqAt.shaped p && SeqAt.shaped q then some (PyData.eqv p q) else none
  | _, _ => none
theorem eqP_some {d e : D} {b : Bool} (h : eqP d e = some b) : ∃ p q, pd d = some p ∧ pd e = some q ∧ SeqAt.shaped p = true ∧ SeqAt.shaped q = true ∧ b = PyData.eqv p q := by
  unfold eqP at h
  split at h
  · rename_i p q e1 e2
    cases hc : (SeqAt.shaped p && SeqAt.shaped q) with
    | true =>
      rw [hc] at h; cases h
      obtain ⟨h1, h2⟩ := Bool.and_eq_true_iff.mp hc
      exact ⟨p, q, e1, e2, h1, h2, rfl⟩
    | false => rw [hc] at h; cases h
  · cases h
def dEqP (d e : D) : Option D := (eqP d e).map .bl
def dNeP (d e : D) : Option D := (eqP d e).map fun b => .bl (!b)
theorem od_eqP (hu : X.A.units + 64 < cLine) : OpD X cl (compareOp .Eq) dEqP := by
  refine ⟨_, op_eqD hu, fun c σ s T H d x e y z Q ⟨F, α, I⟩ hz k => ?_⟩
  unfold dEqP at hz
  cases q : eqP (view s.M d) (view s.M e) with
  | none => rw [q] at hz; cases hz
  | some b =>
    rw [q] at hz; cases hz
    obtain ⟨p, r, h1, h2, h3, h4, rfl⟩ := eqP_some q
    exact ⟨p, r, I.vDp (I.tmp (d, x) (List.mem_cons_of_mem _ (List.mem_cons_self ..))) h1, I.vDp (I.tmp (e, y) (List.mem_cons_self ..)) h2, h3, h4, k _ H (SI.flat rfl ⟨F, α, I⟩)⟩
theorem od_neP (hu : X.A.units + 64 < cLine) : OpD X cl (compareOp .NotEq) dNeP := by
  refine ⟨_, op_neD hu, fun c σ s T H d x e y z Q ⟨F, α, I⟩ hz k => ?_⟩
  unfold dNeP at hz
  cases q : eqP (view s.M d) (view s.M e) with
  | none => rw [q] at hz; cases hz
  | some b =>
    rw [q] at hz; cases hz
    obtain ⟨p, r, h1, h2, h3, h4, rfl⟩ := eqP_some q
    exact ⟨p, r, I.vDp (I.tmp (d, x) (List.mem_cons_of_mem _ (List.mem_cons_self ..))) h1, I.vDp (I.tmp (e, y) (List.mem_cons_self ..)) h2, h3, h4, k _ H (SI.flat rfl ⟨F, α, I⟩)⟩
def dEq : D → D → Option D := orD dEqF dEqP
def dNe : D → D → Option D := orD dNeF dNeP
theorem od_eq (hu : X.A.units + 64 < cLine) : OpD X cl (compareOp .Eq) dEq := od_eqF.or (od_eqP hu)
theorem od_ne (hu : X.A.units + 64 < cLine) : OpD X cl (compareOp .NotEq) dNe := od_neF.or (od_neP hu)
/-! ### is -/
def isNon : D → Option Bool
  | .non => some true
  | .raw _ => none
  | _ => some false
theorem isNon_rep {K : PySem.W.Frag} {H : Hp} {F : Addr → Prop} {α : List Addr} {d : D} {v : V} {b : Bool} (r : Rep K cl H F α d v) (h : isNon d = some b) : b = decide (v = .non) := by
  cases r <;> simp [isNon] at h <;> subst h <;> simp
def dIsN (d e : D) : Option D := match e with
  | .non => (isNon d).map .bl
  | _ => none
def dNotN (d e : D) : Option D := match e with
  | .non => (isNon d).map fun b => .bl (!b)
  | _ => none
theorem isNon_view {s : S} {K : PySem.W.Frag} {c : Cz} {H : Hp} {σ : L2.St} {T : List (D × V)} {F : Addr → Prop} {α : List Addr} {d : D} {v : V} {b : Bool} (I : SIx K cl c H σ s T F α) (r : Rep K cl H F α d v) (h : isNon (view s.M d) = some b) : b = decide (v = .non) := by
  rcases I.view r with r | ⟨k, y, a, _, rfl, _, _, e2, _⟩
  · exact isNon_rep r h
  · rw [e2] at h
    cases y <;> cases h <;> simp
theorem od_isN : OpD X cl (compareOp .Is) dIsN := by
  refine ⟨_, op_isN, fun c σ s T H d x e y z Q ⟨F, α, I⟩ hz k => ?_⟩
  unfold dIsN at hz
  split at hz
  · rename_i e1
    have e2 := I.vNon (I.tmp (e, y) (List.mem_cons_self ..)) e1
    have e2 : y = .non := e2
    subst e2
    cases q : isNon (view s.M d) with
    | none => rw [q] at hz; cases hz
    | some b =>
      rw [q] at hz; cases hz
      have e3 := isNon_view I (I.tmp (d, x) (List.mem_cons_of_mem _ (List.mem_cons_self ..))) q
      exact ⟨rfl, by rw [← e3]; exact k _ H (SI.flat rfl ⟨F, α, I⟩)⟩
  · cases hz
theorem od_notN : OpD X cl (compareOp .IsNot) dNotN := by
  refine ⟨_, op_notN, fun c σ s T H d x e y z Q ⟨F, α, I⟩ hz k => ?_⟩
  unfold dNotN at hz
  split at hz
  · rename_i e1
    have e2 := I.vNon (I.tmp (e, y) (List.mem_cons_self ..)) e1
    have e2 : y = .non := e2
    subst e2
    cases q : isNon (view s.M d) with
    | none => rw [q] at hz; cases hz
    | some b =>
      rw [q] at hz; cases hz
      have e3 := isNon_view I (I.tmp (d, x) (List.mem_cons_of_mem _ (List.mem_cons_self ..))) q
      exact ⟨rfl, by rw [← e3]; exact k _ H (SI.flat rfl ⟨F, α, I⟩)⟩
  · cases hz
def dIsB (d e : D) : Option D := match d, e with
  | .bl a, .bl b => some (.bl (decide (a = b)))
  | _, _ => none
def dNotB (d e : D) : Option D := match d, e with
  | .bl a, .bl b => some (.bl (!decide (a = b)))
  | _, _ => none
theorem od_isB : OpD X cl (compareOp .Is) dIsB := by
  refine ⟨_, op_isBl, fun c σ s T H d x e y z Q ⟨F, α, I⟩ hz k => ?_⟩
  unfold dIsB at hz
  split at hz
  · rename_i a b e1 e2
    cases hz
    exact ⟨a, b, I.vBl (I.tmp (d, x) (List.mem_cons_of_mem _ (List.mem_cons_self ..))) e1, I.vBl (I.tmp (e, y) (List.mem_cons_self ..)) e2, k _ H (SI.flat rfl ⟨F, α, I⟩)⟩
  · cases hz
theorem od_notB : OpD X cl (compareOp .IsNot) dNotB := by
  refine ⟨_, op_notBl, fun c σ s T H d x e y z Q ⟨F, α, I⟩ hz k => ?_⟩
  unfold dNotB at hz
  split at hz
  · rename_i a b e1 e2
    cases hz
    exact ⟨a, b, I.vBl (I.tmp (d, x) (List.mem_cons_of_mem _ (List.mem_cons_self ..))) e1, I.vBl (I.tmp (e, y) (List.mem_cons_self ..)) e2, k _ H (SI.flat rfl ⟨F, α, I⟩)⟩
  · cases hz
def dIs : D → D → Option D := orD dIsN dIsB
def dNot : D → D → Option D := orD dNotN dNotB
theorem od_is : OpD X cl (compareOp .Is) dIs := od_isN.or od_isB
theorem od_not : OpD X cl (compareOp .IsNot) dNot := od_notN.or od_notB
/-! ### in -/
def flatO : D → Option V
  | .non => some .non | .bl b => some (.bl b) | .int i => some (.int i) | .str s => some (.str s)
  | _ => none
def flatsO : List D → Option (List V)
  | [] => some []
  | d :: ds => match flatO d, flatsO ds with
    | some v, some vs => some (v :: vs)
    | _, _ => none
theorem flatO_rep {K : PySem.W.Frag} {H : Hp} {F : Addr → Prop} {α : List Addr} {d : D} {v w : V} (r : Rep K cl H F α d v) (h : flatO d = some w) : v = w ∧ flatV w = true := by
  cases r <;> simp [flatO] at h <;> subst h <;> exact ⟨rfl, rfl⟩
theorem flatsO_rep {K : PySem.W.Frag} {H : Hp} {F : Addr → Prop} {α : List Addr} : ∀ {ds : List D} {vs ws : List V}, RepL K cl H F α ds vs → flatsO ds = some ws → vs = ws ∧ ws.all flatV = true
  | _, _, _, .nil, h => by simp [flatsO] at h; subst h; exact ⟨rfl, rfl⟩
  | _, _, _, .cons (d := d) (ds := ds) r t, h => by
    simp only [flatsO] at h
    cases q1 : flatO d with
    | none => rw [q1] at h; simp at h
    | some v =>
      cases q2 : flatsO ds with
      | none => rw [q1, q2] at h; simp at h
      | some vs =>
        rw [q1, q2] at h
        simp at h; subst h
        obtain ⟨h1, h2⟩ := flatO_rep r q1
        obtain ⟨h3, h4⟩ := flatsO_rep t q2
        exact ⟨by rw [h1, h3], by rw [List.all_cons, h2, h4]; rfl⟩
theorem flatO_view {s : S} {K : PySem.W.Frag} {c : Cz} {H : Hp} {σ : L2.St} {T : List (D × V)} {F : Addr → Prop} {α : List Addr} {d : D} {v w : V} (I : SIx K cl c H σ s T F α) (r : Rep K cl H F α d v) (h : flatO (view s.M d) = some w) : v = w ∧ flatV w = true := by
  rcases I.view r with r | ⟨k, y, a, _, _, _, _, e2, _⟩
  · exact flatO_rep r h
  · rw [e2] at h
    cases y <;> cases h
def inSeq (d e : D) : Option Bool := match flatO d, seqD e with
  | some v, some ds => (flatsO ds).map (inV v)
  | _, _ => none
theorem inSeq_some {d e : D} {b : Bool} (h : inSeq d e = some b) : ∃ v ds vs, flatO d = some v ∧ seqD e = some ds ∧ flatsO ds = some vs ∧ b = inV v vs := by
  unfold inSeq at h
  split at h
  · rename_i v ds e1 e2
    cases q : flatsO ds with
    | none => rw [q] at h; cases h
    | some vs => rw [q] at h; cases h; exact ⟨v, ds, vs, e1, e2, q, rfl⟩
  · cases h
def dInQ (d e : D) : Option D := (inSeq d e).map .bl
def dNotInQ (d e : D) : Option D := (inSeq d e).map fun b => .bl (!b)
theorem od_inQ : OpD X cl (compareOp .In) dInQ := by
  refine ⟨_, op_in_seq, fun c σ s T H d x e y z Q ⟨F, α, I⟩ hz k => ?_⟩
  unfold dInQ at hz
  cases q : inSeq (view s.M d) (view s.M e) with
  | none => rw [q] at hz; cases hz
  | some b =>
    rw [q] at hz; cases hz
    obtain ⟨v, ds, vs, h1, h2, h3, rfl⟩ := inSeq_some q
    obtain ⟨e1, f1⟩ := flatO_view I (I.tmp (d, x) (List.mem_cons_of_mem _ (List.mem_cons_self ..))) h1
    obtain ⟨p, ws, e2, h4, rl⟩ := I.vSeq (I.tmp (e, y) (List.mem_cons_self ..)) h2
    obtain ⟨e3, f2⟩ := flatsO_rep rl h3
    have e1 : x = v := e1
    have e2 : y = .ref p := e2
    subst e1 e2 e3
    exact ⟨p, ws, rfl, h4, f1, f2, k _ H (SI.flat rfl ⟨F, α, I⟩)⟩
theorem od_notInQ : OpD X cl (compareOp .NotIn) dNotInQ := by
  refine ⟨_, op_notIn_seq, fun c σ s T H d x e y z Q ⟨F, α, I⟩ hz k => ?_⟩
  unfold dNotInQ at hz
  cases q : inSeq (view s.M d) (view s.M e) with
  | none => rw [q] at hz; cases hz
  | some b =>
    rw [q] at hz; cases hz
    obtain ⟨v, ds, vs, h1, h2, h3, rfl⟩ := inSeq_some q
    obtain ⟨e1, f1⟩ := flatO_view I (I.tmp (d, x) (List.mem_cons_of_mem _ (List.mem_cons_self ..))) h1
    obtain ⟨p, ws, e2, h4, rl⟩ := I.vSeq (I.tmp (e, y) (List.mem_cons_self ..)) h2
    obtain ⟨e3, f2⟩ := flatsO_rep rl h3
    have e1 : x = v := e1
    have e2 : y = .ref p := e2
    subst e1 e2 e3
    exact ⟨p, ws, rfl, h4, f1, f2, k _ H (SI.flat rfl ⟨F, α, I⟩)⟩
def found (i j : Str) : Bool := !(Builtin.Str.occurrences j i 0 j.length 1).isEmpty
def dInS (d e : D) : Option D := match d, e with
  | .str i, .str j => some (.bl (found i j))
  | _, _ => none
def dNotInS (d e : D) : Option D := match d, e with
  | .str i, .str j => some (.bl (!found i j))
  | _, _ => none
theorem od_inS : OpD X cl (compareOp .In) dInS := by
  refine ⟨_, op_in_str, fun c σ s T H d x e y z Q ⟨F, α, I⟩ hz k => ?_⟩
  unfold dInS at hz
  split at hz
  · rename_i a b e1 e2
    cases hz
    exact ⟨a, b, I.vStr (I.tmp (d, x) (List.mem_cons_of_mem _ (List.mem_cons_self ..))) e1, I.vStr (I.tmp (e, y) (List.mem_cons_self ..)) e2, k _ H (SI.flat rfl ⟨F, α, I⟩)⟩
  · cases hz
theorem od_notInS : OpD X cl (compareOp .NotIn) dNotInS := by
  refine ⟨_, L2.op_notin_str, fun c σ s T H d x e y z Q ⟨F, α, I⟩ hz k => ?_⟩
  unfold dNotInS at hz
  split at hz
  · rename_i a b e1 e2
    cases hz
    exact ⟨a, b, I.vStr (I.tmp (d, x) (List.mem_cons_of_mem _ (List.mem_cons_self ..))) e1, I.vStr (I.tmp (e, y) (List.mem_cons_self ..)) e2, k _ H (SI.flat rfl ⟨F, α, I⟩)⟩
  · cases hz
def dIn : D → D → Option D := orD dInS dInQ
def dNotIn : D → D → Option D := orD dNotInS dNotInQ
theorem od_in : OpD X cl (compareOp .In) dIn := od_inS.or od_inQ
theorem od_notIn : OpD X cl (compareOp .NotIn) dNotIn := od_notInS.or od_notInQ

/-! ### tests -/
def bOf (d : D) (s : S) : Out Bool := match d with
  | .bl b => .ok b s
  | _ => .fail
def tOf (f : M D) : M Bool := fun s => (f s).bind bOf
theorem bOf_ok {d : D} {s : S} {K : PySem.W.Frag} {c : Cz} {σ : L2.St} {T : List (D × V)} {Q : Bool → Hp → Prop} (h : WantB K cl W c σ T (bOf d s) Q) : ∃ b, d = .bl b ∧ ∀ H, SI K cl c H σ s T → Q b H := by
  cases d <;> first | exact h.elim | exact ⟨_, rfl, h⟩
theorem dt_val {e : Expr} {f : M D} (h : DE X cl W e f) (he : ∀ whole, isTrue e X.env whole = (do let v ← whole; standAt e.pos; holding [v] (truthy v)) := by intro _; rfl) : DT X cl W e (tOf f) := by
  obtain ⟨te, pe, q⟩ := h
  refine ⟨_, pt_val pe he, fun c σ s T H Q I w => ?_⟩
  refine q c σ s T H _ I (w.bindD fun d s1 _ w1 v H1 I1 => ?_)
  obtain ⟨b, rfl, k⟩ := bOf_ok w1
  obtain ⟨F, α, J⟩ := id I1
  have r : v = .bl b := by
    have := J.tmp (.bl b, v) (List.mem_cons_self ..)
    cases this; rfl
  exact ⟨b, r, k H1 I1.pop⟩
theorem dt_cmp {o : CmpOp} {a b : Expr} {fa fb : M D} {pos : Pos} {g : D → D → Option D} (ho : OpD X cl (compareOp o) g) (ha : DE X cl W a fa) (hb : DE X cl W b fb) (hm : behindInMarks o b = false) : DT X cl W (.Compare a [o] [b] pos) (tOf (eOp g fa fb)) := by
  obtain ⟨ta, pa, qa⟩ := ha
  obtain ⟨tb, pb, qb⟩ := hb
  obtain ⟨r, hr, q⟩ := ho
  refine ⟨_, pt_cmpR hr pa pb hm, fun c σ s T H Q I w => ?_⟩
  have key : Want X.K cl W c σ T (eOp g fa fb s) (fun x H' => ∃ k, x = .bl k ∧ Q k H') := w.bindD fun d s1 _ w1 v H1 I1 => by
    obtain ⟨b, rfl, k⟩ := bOf_ok w1
    obtain ⟨F, α, J⟩ := id I1
    have r : v = .bl b := by
      have := J.tmp (.bl b, v) (List.mem_cons_self ..)
      cases this; rfl
    exact ⟨b, r, k H1 I1.pop⟩
  refine qa c σ s T H _ I (key.bind fun d s1 _ w1 v H1 I1 => ?_)
  refine qb c σ s1 _ H1 _ I1 ((w1.deeper fun p hp => List.mem_cons_of_mem _ hp).bind fun e s2 _ w2 u H2 I2 => ?_)
  unfold oOf at w2
  split at w2
  · rename_i z hz
    exact q c σ s2 T H2 d v e u z _ I2 hz fun v' H' I' => w2 v' H' I'.drop2
  · exact w2.elim
def tAndM (f g : M Bool) : M Bool := fun s => (f s).bind fun b s => if b = true then g s else .ok false s
def tOrM (f g : M Bool) : M Bool := fun s => (f s).bind fun b s => if b = true then .ok true s else g s
def tNotM (f : M Bool) : M Bool := fun s => (f s).bind fun b s => .ok (!b) s
theorem dw_and1 {a : Expr} {f : M Bool} {pos : Pos} (h : DT X cl W a f) : DW X cl W (.BoolOp .And [a] pos) f := by
  obtain ⟨te, pe, q⟩ := h
  exact ⟨_, pw_and1 pe, q⟩
theorem dw_or1 {a : Expr} {f : M Bool} {pos : Pos} (h : DT X cl W a f) : DW X cl W (.BoolOp .Or [a] pos) f := by
  obtain ⟨te, pe, q⟩ := h
  exact ⟨_, pw_or1 pe, q⟩
theorem dw_and {a b : Expr} {rest : List Expr} {f g : M Bool} {pos : Pos} (h : DT X cl W a f) (h2 : DW X cl W (.BoolOp .And (b :: rest) pos) g) : DW X cl W (.BoolOp .And (a :: b :: rest) pos) (tAndM f g) := by
  obtain ⟨te, pe, q⟩ := h
  obtain ⟨te2, pe2, q2⟩ := h2
  refine ⟨_, pw_and pe pe2, fun c σ s T H Q I w => ?_⟩
  refine q c σ s T H _ I (w.bind fun d s1 _ w1 H1 I1 => ?_)
  cases d with
  | true => exact iteT (q2 c σ s1 T H1 Q I1 w1)
  | false => exact iteF (w1 H1 I1)
theorem dw_or {a b : Expr} {rest : List Expr} {f g : M Bool} {pos : Pos} (h : DT X cl W a f) (h2 : DW X cl W (.BoolOp .Or (b :: rest) pos) g) : DW X cl W (.BoolOp .Or (a :: b :: rest) pos) (tOrM f g) := by
  obtain ⟨te, pe, q⟩ := h
  obtain ⟨te2, pe2, q2⟩ := h2
  refine ⟨_, pw_or pe pe2, fun c σ s T H Q I w => ?_⟩
  refine q c σ s T H _ I (w.bind fun d s1 _ w1 H1 I1 => ?_)
  cases d with
  | false => exact iteF (q2 c σ s1 T H1 Q I1 w1)
  | true => exact iteT (w1 H1 I1)
theorem DW.dt {e : Expr} {f : M Bool} (h : DW X cl W e f) : DT X cl W e f := by
  obtain ⟨te, pe, q⟩ := h
  exact ⟨_, pe.pt, q⟩
theorem dt_not {a : Expr} {f : M Bool} {pos : Pos} (h : DT X cl W a f) : DT X cl W (.UnaryOp .Not a pos) (tNotM f) := by
  obtain ⟨te, pe, q⟩ := h
  refine ⟨_, pt_not pe, fun c σ s T H Q I w => ?_⟩
  exact q c σ s T H _ I (w.bind fun d s1 _ w1 H1 I1 => w1 H1 I1)
/-! ### as values -/
def eAnd (f g : M D) : M D := fun s => (f s).bind fun d s => match d with
  | .bl true => g s
  | .bl false => .ok (.bl false) s
  | _ => .fail
def eOr (f g : M D) : M D := fun s => (f s).bind fun d s => match d with
  | .bl true => .ok (.bl true) s
  | .bl false => g s
  | _ => .fail
def eNot (f : M D) : M D := fun s => (f s).bind fun d s => match d with
  | .bl b => .ok (.bl (!b)) s
  | _ => .fail
def eIf (t : M Bool) (f g : M D) : M D := fun s => (t s).bind fun b s => if b = true then f s else g s
theorem rep_bl {K : PySem.W.Frag} {c : Cz} {H : Hp} {σ : L2.St} {s : S} {T : List (D × V)} {b : Bool} {v : V} (I : SI K cl c H σ s ((.bl b, v) :: T)) : v = .bl b := by
  obtain ⟨F, α, J⟩ := I
  have := J.tmp (.bl b, v) (List.mem_cons_self ..)
  cases this; rfl
theorem de_one {o : BoolOp} {a : Expr} {f : M D} {pos : Pos} (h : DE X cl W a f) : DE X cl W (.BoolOp o [a] pos) f := by
  obtain ⟨te, pe, q⟩ := h
  exact ⟨_, pe_one pe, q⟩
theorem de_and {a b : Expr} {rest : List Expr} {f g : M D} {pos : Pos} (h : DE X cl W a f) (h2 : DE X cl W (.BoolOp .And (b :: rest) pos) g) : DE X cl W (.BoolOp .And (a :: b :: rest) pos) (eAnd f g) := by
  obtain ⟨te, pe, q⟩ := h
  obtain ⟨te2, pe2, q2⟩ := h2
  refine ⟨_, pe_and pe pe2, fun c σ s T H Q I w => ?_⟩
  refine q c σ s T H _ I (w.bind fun d s1 _ w1 v H1 I1 => ?_)
  split at w1
  · exact ⟨true, rep_bl I1, iteT (q2 c σ s1 T H1 Q I1.pop w1)⟩
  · exact ⟨false, rep_bl I1, iteF (w1 _ H1 (SI.flat rfl I1.pop))⟩
  · exact w1.elim
theorem de_or {a b : Expr} {rest : List Expr} {f g : M D} {pos : Pos} (h : DE X cl W a f) (h2 : DE X cl W (.BoolOp .Or (b :: rest) pos) g) : DE X cl W (.BoolOp .Or (a :: b :: rest) pos) (eOr f g) := by
  obtain ⟨te, pe, q⟩ := h
  obtain ⟨te2, pe2, q2⟩ := h2
  refine ⟨_, pe_or pe pe2, fun c σ s T H Q I w => ?_⟩
  refine q c σ s T H _ I (w.bind fun d s1 _ w1 v H1 I1 => ?_)
  split at w1
  · exact ⟨true, rep_bl I1, iteT (w1 _ H1 (SI.flat rfl I1.pop))⟩
  · exact ⟨false, rep_bl I1, iteF (q2 c σ s1 T H1 Q I1.pop w1)⟩
  · exact w1.elim
theorem de_not {a : Expr} {f : M D} {pos : Pos} (h : DE X cl W a f) : DE X cl W (.UnaryOp .Not a pos) (eNot f) := by
  obtain ⟨te, pe, q⟩ := h
  refine ⟨_, pe_not pe, fun c σ s T H Q I w => ?_⟩
  refine q c σ s T H _ I (w.bind fun d s1 _ w1 v H1 I1 => ?_)
  split at w1
  · exact ⟨_, rep_bl I1, w1 _ H1 (SI.flat rfl I1.pop)⟩
  · exact w1.elim
theorem de_if {t a b : Expr} {ft : M Bool} {fa fb : M D} {pos : Pos} (ht : DT X cl W t ft) (ha : DE X cl W a fa) (hb : DE X cl W b fb) : DE X cl W (.IfExp t a b pos) (eIf ft fa fb) := by
  obtain ⟨tt, pt, qt⟩ := ht
  obtain ⟨ta, pa, qa⟩ := ha
  obtain ⟨tb, pb, qb⟩ := hb
  refine ⟨_, pe_ifExp pt pa pb, fun c σ s T H Q I w => ?_⟩
  refine qt c σ s T H _ I (w.bindB fun d s1 _ w1 H1 I1 => ?_)
  cases d with
  | true => exact iteT (qa c σ s1 T H1 Q I1 w1)
  | false => exact iteF (qb c σ s1 T H1 Q I1 w1)
def eNeg (f : M D) : M D := fun s => (f s).bind fun d s => match d with
  | .int i => .ok (.int (-i)) s
  | _ => .fail
theorem rep_int {K : PySem.W.Frag} {c : Cz} {H : Hp} {σ : L2.St} {s : S} {T : List (D × V)} {b : Int} {v : V} (I : SI K cl c H σ s ((.int b, v) :: T)) : v = .int b := by
  obtain ⟨F, α, J⟩ := I
  have := J.tmp (.int b, v) (List.mem_cons_self ..)
  cases this; rfl
theorem rep_str {K : PySem.W.Frag} {c : Cz} {H : Hp} {σ : L2.St} {s : S} {T : List (D × V)} {b : Str} {v : V} (I : SI K cl c H σ s ((.str b, v) :: T)) : v = .str b := by
  obtain ⟨F, α, J⟩ := I
  have := J.tmp (.str b, v) (List.mem_cons_self ..)
  cases this; rfl
theorem de_neg {a : Expr} {f : M D} {pos : Pos} (h : DE X cl W a f) : DE X cl W (.UnaryOp .USub a pos) (eNeg f) := by
  obtain ⟨te, pe, q⟩ := h
  refine ⟨_, pe_un un_neg pe, fun c σ s T H Q I w => ?_⟩
  refine q c σ s T H _ I (w.bind fun d s1 _ w1 v H1 I1 => ?_)
  split at w1
  · exact ⟨_, rep_int I1, w1 _ H1 (SI.flat rfl I1.pop)⟩
  · exact w1.elim
/-! ### argument lists, displays -/
def aNil : M (List D) := fun s => .ok [] s
def aCons (f : M D) (g : M (List D)) : M (List D) := fun s => (f s).bind fun d s => (g s).bind fun ds s => .ok (d :: ds) s
theorem da_nil : DA X cl W [] aNil := ⟨_, pa_nil, fun c σ s T H Q I w => w [] H rfl I⟩
theorem WantA.bind {K : PySem.W.Frag} {c : Cz} {σ : L2.St} {T : List (D × V)} {o : Out D} {k : D → S → Out (List D)} {Q : List V → Hp → Prop} {Q1 : VK} (h : WantA K cl W c σ T (o.bind k) Q)
    (hk : ∀ d s, o = .ok d s → WantA K cl W c σ T (k d s) Q → ∀ v H, SI K cl c H σ s ((d, v) :: T) → Q1 v H) : Want K cl W c σ T o Q1 := by
  cases o with
  | fail => exact h
  | ok d s => exact hk d s rfl h
  | exc n fs s => exact h
theorem WantA.bindA {K : PySem.W.Frag} {c : Cz} {σ : L2.St} {T : List (D × V)} {o : Out (List D)} {k : List D → S → Out (List D)} {Q : List V → Hp → Prop} {Q1 : List V → Hp → Prop} (h : WantA K cl W c σ T (o.bind k) Q)
    (hk : ∀ d s, o = .ok d s → WantA K cl W c σ T (k d s) Q → ∀ vs H, d.length = vs.length → SI K cl c H σ s (zipT d vs T) → Q1 vs H) : WantA K cl W c σ T o Q1 := by
  cases o with
  | fail => exact h
  | ok d s => exact hk d s rfl h
  | exc n fs s => exact h
theorem WantA.same {K : PySem.W.Frag} {c : Cz} {σ : L2.St} {T : List (D × V)} {o : Out (List D)} {Q Q1 : List V → Hp → Prop} (h : WantA K cl W c σ T o Q) (hk : ∀ vs H, Q vs H → Q1 vs H) : WantA K cl W c σ T o Q1 := by
  cases o with
  | fail => exact h
  | ok d s => exact fun vs H e I => hk vs H (h vs H e I)
  | exc n fs s => exact h
theorem da_cons {e : Expr} {es : List Expr} {f : M D} {g : M (List D)} (h : DE X cl W e f) (hr : DA X cl W es g) (hs : starEach (e :: es) X.env = (false, eval e X.env) :: starEach es X.env := by rfl) : DA X cl W (e :: es) (aCons f g) := by
  obtain ⟨te, pe, q⟩ := h
  obtain ⟨ta, pa, qa⟩ := hr
  refine ⟨_, pa_cons pe pa hs, fun c σ s T H Q I w => ?_⟩
  refine q c σ s T H _ I (w.bind fun d s1 _ w1 v H1 I1 => ?_)
  refine qa c σ s1 _ H1 _ I1 (WantA.bindA (k := fun ds s => .ok ds s) (Q := fun vs H' => Q (v :: vs) H') ?_ fun ds s2 _ w2 vs H2 hl I2 => w2 vs H2 hl I2)
  -- the want of the rest over (d, v) :: T
  cases hg : g s1 with
  | fail => rw [hg] at w1; exact w1
  | exc n fs s2 => rw [hg] at w1; exact fun dx H e i => w1 dx H e (i.xt fun p hp => List.mem_cons_of_mem _ hp)
  | ok ds s2 =>
    rw [hg] at w1
    exact fun vs H2 hl I2 => w1 (v :: vs) H2 (by rw [List.length_cons, List.length_cons, hl]) I2
def eTup (f : M (List D)) : M D := fun s => (f s).bind fun ds s => if ds.length ≤ 1000000 then .ok (.tup ds) s else .fail
def eLst (f : M (List D)) : M D := fun s => (f s).bind fun ds s => if ds.length ≤ 1000000 then .ok (.lst ds) s else .fail
theorem SI.unzip {K : PySem.W.Frag} {c : Cz} {H : Hp} {σ : L2.St} {s : S} {T : List (D × V)} {ds : List D} {vs : List V} {p : D × V} (I : SI K cl c H σ s (p :: zipT ds vs T)) : SI K cl c H σ s (p :: T) := I.sub fun q hq => (List.mem_cons.mp hq).elim (fun z => z ▸ List.mem_cons_self ..) fun z => List.mem_cons_of_mem _ (zipT_sub ds vs T q z)
theorem de_tup {es : List Expr} {f : M (List D)} {k : Nat} {pos : Pos} (h : DA X cl W es f) : DE X cl W (.Tuple es k pos) (eTup f) := by
  obtain ⟨te, pe, q⟩ := h
  refine ⟨_, pe_tup pe, fun c σ s T H Q I w => ?_⟩
  refine q c σ s T H _ I (w.bindA fun ds s1 _ w1 vs H1 hl I1 => ?_)
  split at w1
  · rename_i hz
    exact ⟨by rw [← hl]; exact line1m hz, fun p hp => w1 _ _ (SI.unzip (I1.newTup hp fun F α J => J.args hl))⟩
  · exact w1.elim
theorem de_lst {es : List Expr} {f : M (List D)} {pos : Pos} (h : DA X cl W es f) : DE X cl W (.List es pos) (eLst f) := by
  obtain ⟨te, pe, q⟩ := h
  refine ⟨_, pe_lst pe, fun c σ s T H Q I w => ?_⟩
  refine q c σ s T H _ I (w.bindA fun ds s1 _ w1 vs H1 hl I1 => ?_)
  split at w1
  · rename_i hz
    exact ⟨by rw [← hl]; exact line1m hz, fun p hp => w1 _ _ (SI.unzip (I1.newLst hp fun F α J => J.args hl))⟩
  · exact w1.elim
/-- a list display that is to change: a new cell -/
def eLstC (f : M (List D)) : M D := fun s => (f s).bind fun ds s => if ds.length ≤ 1000000 then .ok (.ptr s.M.length) { s with M := s.M ++ [some (.lst ds)] } else .fail
theorem SI.newCellL {K : PySem.W.Frag} {c : Cz} {H : Hp} {σ : L2.St} {s : S} {T : List (D × V)} {p : Addr} {ds : List D} {vs : List V} (h : SI K cl c H σ s T) (hp : H p = none) (hr : ∀ F α, SIx K cl c H σ s T F α → RepL K cl H F α ds vs) :
    SI K cl c (upd H p (.lst vs)) σ { s with M := s.M ++ [some (.lst ds)] } ((.ptr s.M.length, .ref p) :: T) := by
  obtain ⟨F, α, h⟩ := h
  exact ⟨F, _, h.newCell hp fun e => ⟨vs, upd_same, (hr F α h).ext e⟩⟩
theorem de_lstC {es : List Expr} {f : M (List D)} {pos : Pos} (h : DA X cl W es f) : DE X cl W (.List es pos) (eLstC f) := by
  obtain ⟨te, pe, q⟩ := h
  refine ⟨_, pe_lst pe, fun c σ s T H Q I w => ?_⟩
  refine q c σ s T H _ I (w.bindA fun ds s1 _ w1 vs H1 hl I1 => ?_)
  split at w1
  · rename_i hz
    exact ⟨by rw [← hl]; exact line1m hz, fun p hp => w1 _ _ (SI.unzip (I1.newCellL hp fun F α J => J.args hl))⟩
  · exact w1.elim
end
end DL

/-! DlE: what a def promises over data; its call. -/
namespace DL
open PySem L2

mutual
/-- no pointer within -/
def np : D → Bool
  | .tup xs => npL xs | .lst xs => npL xs | .slst xs => npL xs
  | .dct kvs => npK kvs | .dcu kvs => npU kvs
  | .obj _ fs => npF fs | .xd fs => npF fs
  | .ptr _ => false
  | _ => true
def npL : List D → Bool
  | [] => true
  | d :: ds => np d && npL ds
def npF : List (Str × D) → Bool
  | [] => true
  | (_, d) :: ds => np d && npF ds
def npK : List (Key × D) → Bool
  | [] => true
  | (_, d) :: ds => np d && npK ds
def npU : List (List Key × D) → Bool
  | [] => true
  | (_, d) :: ds => np d && npU ds
end
mutual
/-- nothing within that could change -/
def nm : D → Bool
  | .tup xs => nmL xs
  | .non => true | .bl _ => true | .int _ => true | .str _ => true | .raw _ => true
  | _ => false
def nmL : List D → Bool
  | [] => true
  | d :: ds => nm d && nmL ds
end
def nmF : List (Str × D) → Bool
  | [] => true
  | (_, d) :: ds => nm d && nmF ds
def C.np : C → Bool
  | .lst xs => npL xs | .dct kvs => npK kvs | .dcu kvs => npU kvs | .obj _ fs => npF fs
def C.nm : C → Bool
  | .lst xs => nmL xs
  | .dct kvs => nmL (kvs.map (·.2)) | .dcu kvs => nmL (kvs.map (·.2)) | .obj _ fs => nmL (fs.map (·.2))

section
variable {K : PySem.W.Frag} {cl : Str → Addr} {H H' : Hp} {F F' : Addr → Prop} {α α' : List Addr}
mutual
theorem Rep.np (hF : ∀ b, F b → F' b) : ∀ {d : D} {v : V}, Rep K cl H F α d v → DL.np d = true → Rep K cl H F' α' d v
  | _, _, .non, _ => .non
  | _, _, .bl, _ => .bl
  | _, _, .int, _ => .int
  | _, _, .str, _ => .str
  | _, _, .tup h r, e => .tup h (RepL.np hF r (by simpa [DL.np] using e))
  | _, _, .lst h f r, e => .lst h (hF _ f) (RepL.np hF r (by simpa [DL.np] using e))
  | _, _, .slst h f r, e => .slst h (hF _ f) (RepL.np hF r (by simpa [DL.np] using e))
  | _, _, .slstK h r, e => .slstK h (RepL.np hF r (by simpa [DL.np] using e))
  | _, _, .dct h f r, e => .dct h (hF _ f) (RepK.np hF r (by simpa [DL.np] using e))
  | _, _, .dcu h f r, e => .dcu h (hF _ f) (RepU.np hF r (by simpa [DL.np] using e))
  | _, _, .obj h f r, e => .obj h (hF _ f) (RepF.np hF r (by simpa [DL.np] using e))
  | _, _, .xd h f r, e => .xd h (hF _ f) (RepF.np hF r (by simpa [DL.np] using e))
  | _, _, .ptr _, e => by simp [DL.np] at e
  | _, _, .raw, _ => .raw
theorem RepL.np (hF : ∀ b, F b → F' b) : ∀ {d : List D} {v : List V}, RepL K cl H F α d v → npL d = true → RepL K cl H F' α' d v
  | _, _, .nil, _ => .nil
  | _, _, .cons h r, e => .cons (Rep.np hF h (by simp [npL] at e; exact e.1)) (RepL.np hF r (by simp [npL] at e; exact e.2))
theorem RepF.np (hF : ∀ b, F b → F' b) : ∀ {d : List (Str × D)} {v : List (Str × V)}, RepF K cl H F α d v → npF d = true → RepF K cl H F' α' d v
  | _, _, .nil, _ => .nil
  | _, _, .cons h r, e => .cons (Rep.np hF h (by simp [npF] at e; exact e.1)) (RepF.np hF r (by simp [npF] at e; exact e.2))
theorem RepK.np (hF : ∀ b, F b → F' b) : ∀ {d : List (Key × D)} {v : List (Key × V)}, RepK K cl H F α d v → npK d = true → RepK K cl H F' α' d v
  | _, _, .nil, _ => .nil
  | _, _, .cons h r, e => .cons (Rep.np hF h (by simp [npK] at e; exact e.1)) (RepK.np hF r (by simp [npK] at e; exact e.2))
theorem RepU.np (hF : ∀ b, F b → F' b) : ∀ {d : List (List Key × D)} {v : List (List Key × V)}, RepU K cl H F α d v → npU d = true → RepU K cl H F' α' d v
  | _, _, .nil, _ => .nil
  | _, _, .cons h r, e => .cons (Rep.np hF h (by simp [npU] at e; exact e.1)) (RepU.np hF r (by simp [npU] at e; exact e.2))
end
mutual
theorem Rep.nm : ∀ {d : D} {v : V}, Rep K cl H F α d v → DL.nm d = true → Rep K cl H F' α' d v
  | _, _, .non, _ => .non
  | _, _, .bl, _ => .bl
  | _, _, .int, _ => .int
  | _, _, .str, _ => .str
  | _, _, .tup h r, e => .tup h (RepL.nm r (by simpa [DL.nm] using e))
  | _, _, .lst h f r, e => by simp [DL.nm] at e
  | _, _, .slst h f r, e => by simp [DL.nm] at e
  | _, _, .slstK h r, e => by simp [DL.nm] at e
  | _, _, .dct h f r, e => by simp [DL.nm] at e
  | _, _, .dcu h f r, e => by simp [DL.nm] at e
  | _, _, .obj h f r, e => by simp [DL.nm] at e
  | _, _, .xd h f r, e => by simp [DL.nm] at e
  | _, _, .ptr _, e => by simp [DL.nm] at e
  | _, _, .raw, _ => .raw
theorem RepL.nm : ∀ {d : List D} {v : List V}, RepL K cl H F α d v → nmL d = true → RepL K cl H F' α' d v
  | _, _, .nil, _ => .nil
  | _, _, .cons h r, e => .cons (Rep.nm h (by simp [nmL] at e; exact e.1)) (RepL.nm r (by simp [nmL] at e; exact e.2))
end
theorem RepF.nm : ∀ {d : List (Str × D)} {v : List (Str × V)}, RepF K cl H F α d v → nmL (d.map (·.2)) = true → RepF K cl H F' α' d v
  | _, _, .nil, _ => .nil
  | _, _, .cons h r, e => .cons (Rep.nm h (by simp [nmL] at e; exact e.1)) (RepF.nm r (by simp [nmL] at e ⊢; exact e.2))
theorem RepK.nm : ∀ {d : List (Key × D)} {v : List (Key × V)}, RepK K cl H F α d v → nmL (d.map (·.2)) = true → RepK K cl H F' α' d v
  | _, _, .nil, _ => .nil
  | _, _, .cons h r, e => .cons (Rep.nm h (by simp [nmL] at e; exact e.1)) (RepK.nm r (by simp [nmL] at e ⊢; exact e.2))
theorem RepU.nm : ∀ {d : List (List Key × D)} {v : List (List Key × V)}, RepU K cl H F α d v → nmL (d.map (·.2)) = true → RepU K cl H F' α' d v
  | _, _, .nil, _ => .nil
  | _, _, .cons h r, e => .cons (Rep.nm h (by simp [nmL] at e; exact e.1)) (RepU.nm r (by simp [nmL] at e ⊢; exact e.2))
theorem RepC.np (hF : ∀ b, F b → F' b) {a : Addr} {x : C} (h : RepC K cl H F α a x) (e : x.np = true) : RepC K cl H F' α' a x := by
  cases x with
  | lst ds => obtain ⟨vs, h1, h2⟩ := h; exact ⟨vs, h1, h2.np hF e⟩
  | dct ds => obtain ⟨vs, h1, h2⟩ := h; exact ⟨vs, h1, h2.np hF e⟩
  | dcu ds => obtain ⟨vs, h1, h2⟩ := h; exact ⟨vs, h1, h2.np hF e⟩
  | obj c fs => obtain ⟨dx, vs, h1, h2⟩ := h; exact ⟨dx, vs, h1, h2.np hF e⟩
theorem RepC.nm {a : Addr} {x : C} (h : RepC K cl H F α a x) (e : x.nm = true) : RepC K cl H F' α' a x := by
  cases x with
  | lst ds => obtain ⟨vs, h1, h2⟩ := h; exact ⟨vs, h1, h2.nm e⟩
  | dct ds => obtain ⟨vs, h1, h2⟩ := h; exact ⟨vs, h1, h2.nm e⟩
  | dcu ds => obtain ⟨vs, h1, h2⟩ := h; exact ⟨vs, h1, h2.nm e⟩
  | obj c fs => obtain ⟨dx, vs, h1, h2⟩ := h; exact ⟨dx, vs, h1, h2.nm e⟩
/-- a cell that is frozen is plain data -/
theorem RepC.rep {a : Addr} {x : C} (h : RepC K cl H F α a x) (f : F a) : Rep K cl H F α x.dat (.ref a) := by
  cases x with
  | lst ds => obtain ⟨vs, h1, h2⟩ := h; exact .lst h1 f h2
  | dct ds => obtain ⟨vs, h1, h2⟩ := h; exact .dct h1 f h2
  | dcu ds => obtain ⟨vs, h1, h2⟩ := h; exact .dcu h1 f h2
  | obj c fs => obtain ⟨dx, vs, h1, h2⟩ := h; exact .obj h1 f h2
end

/-- a def's meaning: the cells that it is given (by its inout parameters, in their order), its arguments -/
abbrev Sem := List C → List D → Out D
/-- what a def promises -/
def dsp (K : PySem.W.Frag) (cl : Str → Addr) (sem : Sem) : Sp := fun vs H Q E => ∃ (F : Addr → Prop) (β : List Addr) (m : List C) (ds : List D), ds.length = vs.length ∧
  SIx K cl ⟨H, β, F⟩ H [] ⟨[], m.map some⟩ (zipT ds vs []) F β ∧ Want K cl (fun cls dx _ H' => E cls dx H') ⟨H, β, F⟩ [] [] (match sem m ds with
    | .fail => .fail
    | .ok d s => .ok d ⟨[], s.M⟩
    | .exc n fs s => .exc n fs ⟨[], s.M⟩) Q
structure FnG (P : Program) (w : World) (K : PySem.W.Frag) (mg : Str → Option Value) (base : Heap) (cl : Str → Addr) (k : Nat) (f : Addr) (fd : FuncData) (ps : List Str) (sem : Sem) : Prop where
  run : ∀ (A : Around) (outer : List Env) (s : Shared) (H : Hp) (args : Args) (us : List Value) (vs : List V) (Q : VK) (E : XK), Room k A → A.guards = some [] → Env0 P w K mg base A outer s H → BindsTo s fd args (ps.zip us) → Vals vs us →
    vs.length = ps.length → dsp K cl sem vs H Q E → codeAny (model P w) A (.call (.ref f) args) (CR (L2.CX P w) outer P w H s Q E) s
theorem FnG.mono {P : Program} {w : World} {K : PySem.W.Frag} {mg : Str → Option Value} {base : Heap} {cl : Str → Addr} {j k : Nat} {f : Addr} {fd : FuncData} {ps : List Str} {sem : Sem} (F : FnG P w K mg base cl j f fd ps sem) (h : j ≤ k) :
    FnG P w K mg base cl k f fd ps sem := ⟨fun A outer s H args us vs Q E hr => F.run A outer s H args us vs Q E (hr.mono h)⟩

/-! ### a call: what the callee is given, what comes back -/
/-- per argument: the inout ones' cells (their places, contents), the arguments as the callee has them, whether one is lent -/
structure Prep where
  ks : List Nat
  m : List C
  ds : List D
  ls : List Nat
def prep (M : List (Option C)) : List Bool → List D → Nat → Option Prep
  | [], [], _ => some ⟨[], [], [], []⟩
  | true :: io, .ptr k :: ds, j => match M[k]? with
    | some (some x) => if x.np then (prep M io ds (j + 1)).map fun p => ⟨k :: p.ks, x :: p.m, .ptr j :: p.ds, p.ls⟩ else none
    | _ => none
  | false :: io, .ptr k :: ds, j => match M[k]? with
    | some (some x) => if x.np then (prep M io ds j).map fun p => ⟨p.ks, p.m, x.dat :: p.ds, k :: p.ls⟩ else none
    | _ => none
  | false :: io, d :: ds, j => if np d then (prep M io ds j).map fun p => ⟨p.ks, p.m, d :: p.ds, p.ls⟩ else none
  | _, _, _ => none
/-- the callee's cells put back -/
def putC (M : List (Option C)) : List Nat → List (Option C) → List (Option C)
  | k :: ks, c :: cs => putC (M.set k c) ks cs
  | _, _ => M
def cNm : List (Option C) → Bool
  | [] => true
  | some c :: cs => c.nm && cNm cs
  | none :: cs => cNm cs
def cNp : List (Option C) → Bool
  | [] => true
  | some c :: cs => c.np && cNp cs
  | none :: cs => cNp cs
def callS (io : List Bool) (sem : Sem) (ds : List D) (s : S) : Out D := match prep s.M io ds 0 with
  | none => .fail
  | some p => if p.ks.Nodup ∧ (∀ k ∈ p.ls, k ∉ p.ks) then
      match sem p.m p.ds with
      | .fail => .fail
      | .ok d s' => if np d && cNp (s'.M.take p.ks.length) && (p.ls.isEmpty || (nm d && cNm (s'.M.take p.ks.length))) then .ok d { s with M := putC s.M p.ks s'.M } else .fail
      | .exc n fs s' => if npF fs && cNp (s'.M.take p.ks.length) && p.ls.isEmpty then .exc n fs { s with M := putC s.M p.ks s'.M } else .fail
    else .fail
end DL

/-! DlF: a call keeps the state's invariant. -/
namespace DL
open PySem L2
section
variable {K : PySem.W.Frag} {cl : Str → Addr} {c : Cz} {H : Hp} {σ : L2.St} {s : S} {T : List (D × V)} {F F' : Addr → Prop} {α : List Addr}

theorem prep_true {M : List (Option C)} {io : List Bool} {k : Nat} {ds : List D} {j : Nat} {p : Prep} (h : prep M (true :: io) (.ptr k :: ds) j = some p) :
    ∃ x q, M[k]? = some (some x) ∧ x.np = true ∧ prep M io ds (j + 1) = some q ∧ p = ⟨k :: q.ks, x :: q.m, .ptr j :: q.ds, q.ls⟩ := by
  simp only [prep] at h
  cases e : M[k]? with
  | none => rw [e] at h; cases h
  | some o =>
    cases o with
    | none => rw [e] at h; cases h
    | some x =>
      rw [e] at h
      dsimp only at h
      cases hx : x.np with
      | false => rw [hx] at h; cases h
      | true =>
        rw [hx] at h
        obtain ⟨q, h1, h2⟩ := Option.map_eq_some_iff.mp h
        exact ⟨x, q, rfl, hx, h1, h2.symm⟩
theorem prep_ptr {M : List (Option C)} {io : List Bool} {k : Nat} {ds : List D} {j : Nat} {p : Prep} (h : prep M (false :: io) (.ptr k :: ds) j = some p) :
    ∃ x q, M[k]? = some (some x) ∧ x.np = true ∧ prep M io ds j = some q ∧ p = ⟨q.ks, q.m, x.dat :: q.ds, k :: q.ls⟩ := by
  simp only [prep] at h
  cases e : M[k]? with
  | none => rw [e] at h; cases h
  | some o =>
    cases o with
    | none => rw [e] at h; cases h
    | some x =>
      rw [e] at h
      dsimp only at h
      cases hx : x.np with
      | false => rw [hx] at h; cases h
      | true =>
        rw [hx] at h
        obtain ⟨q, h1, h2⟩ := Option.map_eq_some_iff.mp h
        exact ⟨x, q, rfl, hx, h1, h2.symm⟩
theorem prep_val {M : List (Option C)} {io : List Bool} {d : D} {ds : List D} {j : Nat} {p : Prep} (hd : ∀ k, d ≠ .ptr k) (h : prep M (false :: io) (d :: ds) j = some p) :
    ∃ q, np d = true ∧ prep M io ds j = some q ∧ p = ⟨q.ks, q.m, d :: q.ds, q.ls⟩ := by
  have h' : (if np d then (prep M io ds j).map fun p => (⟨p.ks, p.m, d :: p.ds, p.ls⟩ : Prep) else none) = some p := by
    cases d <;> first | exact h | exact absurd rfl (hd _)
  cases hx : np d with
  | false => rw [hx] at h'; cases h'
  | true =>
    rw [hx] at h'
    obtain ⟨q, h1, h2⟩ := Option.map_eq_some_iff.mp h'
    exact ⟨q, rfl, h1, h2.symm⟩
theorem prep_bad {M : List (Option C)} {io : List Bool} {d : D} {ds : List D} {j : Nat} {p : Prep} (hd : ∀ k, d ≠ .ptr k) (h : prep M (true :: io) (d :: ds) j = some p) : False := by
  cases d <;> first | exact absurd rfl (hd _) | (simp [prep] at h)
theorem ptr_or (d : D) : (∃ k, d = .ptr k) ∨ ∀ k, d ≠ .ptr k := by
  cases d <;> first | exact .inl ⟨_, rfl⟩ | exact .inr fun k q => (by cases q)
theorem prep_rep (I : SIx K cl c H σ s T F α) : ∀ {io : List Bool} {ds : List D} {vs : List V} {j : Nat} {p : Prep}, prep s.M io ds j = some p → RepL K cl H F α ds vs → ∀ {β : List Addr} {F' : Addr → Prop}, (∀ b, F b → F' b) →
    (∀ (i k : Nat) (a : Addr), p.ks[i]? = some k → α[k]? = some a → β[j + i]? = some a) → (∀ (k : Nat) (a : Addr), k ∈ p.ls → α[k]? = some a → F' a) → RepL K cl H F' β p.ds vs := by
  intro io
  induction io with
  | nil =>
    intro ds vs j p h r β F' hF hβ hl
    cases ds with
    | nil => simp [prep] at h; subst h; cases r; exact .nil
    | cons d ds => simp [prep] at h
  | cons b io ih =>
    intro ds vs j p h r β F' hF hβ hl
    cases ds with
    | nil => cases b <;> simp [prep] at h
    | cons d ds =>
      cases r with
      | cons r t =>
        rename_i v vs
        rcases ptr_or d with ⟨k, rfl⟩ | hd
        · cases r with
          | ptr ha =>
            rename_i a
            cases b with
            | true =>
              obtain ⟨x, q, h1, h2, h3, rfl⟩ := prep_true h
              refine .cons (.ptr ?_) (ih h3 t hF (fun i k' a' e1 e2 => ?_) fun k' a' e1 e2 => hl k' a' e1 e2)
              · have := hβ 0 k a rfl ha
                simpa using this
              · have := hβ (i + 1) k' a' (by simpa using e1) e2
                rw [show j + 1 + i = j + (i + 1) by omega]; exact this
            | false =>
              obtain ⟨x, q, h1, h2, h3, rfl⟩ := prep_ptr h
              obtain ⟨rc, _⟩ := I.cel k x a h1 ha
              refine .cons ?_ (ih h3 t hF (fun i k' a' e1 e2 => hβ i k' a' e1 e2) fun k' a' e1 e2 => hl k' a' (List.mem_cons_of_mem _ e1) e2)
              exact (rc.np hF h2).rep (hl k a (List.mem_cons_self ..) ha)
        · cases b with
          | true => exact (prep_bad hd h).elim
          | false =>
            obtain ⟨q, h2, h3, rfl⟩ := prep_val hd h
            exact .cons (r.np hF h2) (ih h3 t hF (fun i k' a' e1 e2 => hβ i k' a' e1 e2) fun k' a' e1 e2 => hl k' a' e1 e2)
theorem prep_cells : ∀ {M : List (Option C)} {io : List Bool} {ds : List D} {j : Nat} {p : Prep}, prep M io ds j = some p →
    p.m.length = p.ks.length ∧ (∀ (i : Nat) (x : C), p.m[i]? = some x → ∃ k, p.ks[i]? = some k ∧ M[k]? = some (some x) ∧ x.np = true) ∧ ∀ k ∈ p.ls, ∃ x, M[k]? = some (some x) := by
  intro M io
  induction io with
  | nil =>
    intro ds j p h
    cases ds with
    | nil => simp [prep] at h; subst h; exact ⟨rfl, fun i x e => by simp at e, fun k hk => by simp at hk⟩
    | cons d ds => simp [prep] at h
  | cons b io ih =>
    intro ds j p h
    cases ds with
    | nil => cases b <;> simp [prep] at h
    | cons d ds =>
      rcases ptr_or d with ⟨k, rfl⟩ | hd
      · cases b with
        | true =>
          obtain ⟨x, q, h1, h2, h3, rfl⟩ := prep_true h
          obtain ⟨a1, a2, a3⟩ := ih h3
          refine ⟨by simp [a1], fun i y e => ?_, a3⟩
          cases i with
          | zero => simp at e; subst e; exact ⟨k, rfl, h1, h2⟩
          | succ i => exact a2 i y (by simpa using e)
        | false =>
          obtain ⟨x, q, h1, h2, h3, rfl⟩ := prep_ptr h
          obtain ⟨a1, a2, a3⟩ := ih h3
          refine ⟨a1, a2, fun k' hk => ?_⟩
          rcases List.mem_cons.mp hk with rfl | hk
          · exact ⟨x, h1⟩
          · exact a3 k' hk
      · cases b with
        | true => exact (prep_bad hd h).elim
        | false =>
          obtain ⟨q, h2, h3, rfl⟩ := prep_val hd h
          obtain ⟨a1, a2, a3⟩ := ih h3
          exact ⟨a1, a2, a3⟩
/-- the addresses of the cells at ks -/
def adrs (α : List Addr) (ks : List Nat) : List Addr := ks.map fun k => (α[k]?).getD 0
theorem adrs_get {ks : List Nat} {i k : Nat} {a : Addr} (h : ks[i]? = some k) (ha : α[k]? = some a) : (adrs α ks)[i]? = some a := by
  unfold adrs
  rw [List.getElem?_map, h]
  simp [ha]
theorem adrs_of {ks : List Nat} (hk : ∀ k ∈ ks, k < α.length) {a : Addr} (h : a ∈ adrs α ks) : ∃ k, k ∈ ks ∧ α[k]? = some a := by
  unfold adrs at h
  obtain ⟨k, h1, h2⟩ := List.mem_map.mp h
  refine ⟨k, h1, ?_⟩
  obtain ⟨b, hb⟩ : ∃ b, α[k]? = some b := ⟨α[k]'(hk k h1), List.getElem?_eq_getElem _⟩
  rw [hb] at h2
  simp at h2
  rw [hb, h2]
theorem adrs_nodup (hn : α.Nodup) : ∀ {ks : List Nat}, ks.Nodup → (∀ k ∈ ks, k < α.length) → (adrs α ks).Nodup
  | [], _, _ => List.nodup_nil
  | k :: ks, h, hk => by
    have h1 := List.nodup_cons.mp h
    unfold adrs
    rw [List.map_cons, List.nodup_cons]
    refine ⟨fun hm => ?_, adrs_nodup hn h1.2 fun k hk' => hk k (List.mem_cons_of_mem _ hk')⟩
    obtain ⟨k', h2, h3⟩ := adrs_of (fun k hk' => hk k (List.mem_cons_of_mem _ hk')) hm
    have hkl := hk k (List.mem_cons_self ..)
    have e : α[k]? = some ((α[k]?).getD 0) := by rw [List.getElem?_eq_getElem hkl]; rfl
    exact h1.1 (((List.getElem?_inj hkl hn).mp (e.trans h3.symm)) ▸ h2)
/-- what putC leaves -/
theorem putC_len : ∀ (ks : List Nat) (cs M : List (Option C)), (putC M ks cs).length = M.length
  | [], cs, M => by cases cs <;> rfl
  | k :: ks, [], M => rfl
  | k :: ks, x :: cs, M => by
    show (putC (M.set k x) ks cs).length = _
    rw [putC_len ks cs, List.length_set]
theorem putC_out : ∀ {ks : List Nat} {cs M : List (Option C)} {j : Nat}, j ∉ ks → (putC M ks cs)[j]? = M[j]?
  | [], cs, M, j, _ => by cases cs <;> rfl
  | k :: ks, [], M, j, _ => rfl
  | k :: ks, x :: cs, M, j, h => by
    show (putC (M.set k x) ks cs)[j]? = _
    rw [putC_out (ks := ks) fun q => h (List.mem_cons_of_mem _ q), List.getElem?_set_ne]
    intro e; exact h (e ▸ List.mem_cons_self ..)
theorem putC_in : ∀ {ks : List Nat} {cs M : List (Option C)} {j : Nat} {x : C}, ks.Nodup → j ∈ ks → (putC M ks cs)[j]? = some (some x) → (∃ i : Nat, ks[i]? = some j ∧ cs[i]? = some (some x)) ∨ (M[j]? = some (some x) ∧ ∃ i : Nat, ks[i]? = some j ∧ cs.length ≤ i)
  | [], cs, M, j, x, _, h, _ => by simp at h
  | k :: ks, [], M, j, x, hn, h, e => by
    obtain ⟨i, hi⟩ := List.getElem?_of_mem h
    exact .inr ⟨e, i, hi, Nat.zero_le _⟩
  | k :: ks, y :: cs, M, j, x, hn, h, e => by
    have hn' := List.nodup_cons.mp hn
    have e' : (putC (M.set k y) ks cs)[j]? = some (some x) := e
    by_cases hj : j = k
    · subst hj
      rw [putC_out hn'.1] at e'
      by_cases hl : j < M.length
      · rw [List.getElem?_set_self hl] at e'
        exact .inl ⟨0, rfl, by simpa using e'⟩
      · rw [List.getElem?_eq_none (by rw [List.length_set]; omega)] at e'
        cases e'
    · have hj' : j ∈ ks := (List.mem_cons.mp h).resolve_left hj
      rcases putC_in hn'.2 hj' e' with ⟨i, h1, h2⟩ | ⟨h1, i, h2, h3⟩
      · exact .inl ⟨i + 1, by simpa using h1, by simpa using h2⟩
      · rw [List.getElem?_set_ne (fun q => hj q.symm)] at h1
        exact .inr ⟨h1, i + 1, by simpa using h2, by simpa using h3⟩
theorem cNp_get : ∀ {cs : List (Option C)} {i : Nat} {x : C}, cNp cs = true → cs[i]? = some (some x) → x.np = true
  | [], i, x, _, e => by simp at e
  | y :: cs, 0, x, h, e => by
    simp at e; subst e
    simp only [cNp, Bool.and_eq_true] at h; exact h.1
  | none :: cs, i + 1, x, h, e => cNp_get (cs := cs) (by simpa [cNp] using h) (by simpa using e)
  | some y :: cs, i + 1, x, h, e => cNp_get (cs := cs) (by simp only [cNp, Bool.and_eq_true] at h; exact h.2) (by simpa using e)
theorem cNm_get : ∀ {cs : List (Option C)} {i : Nat} {x : C}, cNm cs = true → cs[i]? = some (some x) → x.nm = true
  | [], i, x, _, e => by simp at e
  | y :: cs, 0, x, h, e => by
    simp at e; subst e
    simp only [cNm, Bool.and_eq_true] at h; exact h.1
  | none :: cs, i + 1, x, h, e => cNm_get (cs := cs) (by simpa [cNm] using h) (by simpa using e)
  | some y :: cs, i + 1, x, h, e => cNm_get (cs := cs) (by simp only [cNm, Bool.and_eq_true] at h; exact h.2) (by simpa using e)

/-- behind the callee's run: the caller's state again (no one lent: what the callee froze is frozen; else nothing more is) -/
theorem backX {p : Prep} {H' : Hp} {s' : S} {T' : List (D × V)} {Fp G : Addr → Prop} {γ : List Addr} (I : SIx K cl c H σ s T F α) (hks : p.ks.Nodup) (hkl : ∀ k ∈ p.ks, k < α.length) (hlive : ∀ k ∈ p.ks, ∃ x, s.M[k]? = some (some x))
    (hFp : ∀ b, Fp b ↔ F b ∨ ∃ k, k ∈ p.ls ∧ α[k]? = some b) (J : SIx K cl ⟨H, adrs α p.ks, Fp⟩ H' [] ⟨[], s'.M⟩ T' G γ) (hlen : p.ks.length ≤ s'.M.length) (hnp : cNp (s'.M.take p.ks.length) = true)
    (hb : p.ls = [] ∨ (cNm (s'.M.take p.ks.length) = true ∧ ∀ q ∈ T', nm q.1 = true)) (hT : ∀ q ∈ T', np q.1 = true) :
    ∃ F2 : Addr → Prop, (∀ b, F b → F2 b) ∧ (p.ls = [] → ∀ b, G b → F2 b) ∧ (∀ b, F2 b → F b ∨ (p.ls = [] ∧ G b)) ∧ SIx K cl c H' σ { s with M := putC s.M p.ks s'.M } (T' ++ T) F2 α := by
  have hβ : ∀ a ∈ adrs α p.ks, a ∈ α := fun a ha => by
    obtain ⟨k, _, e⟩ := adrs_of hkl ha
    exact List.mem_of_getElem? e
  -- what is frozen behind the call
  obtain ⟨F2, hF2, hG, hF2G⟩ : ∃ F2 : Addr → Prop, (∀ b, F b → F2 b) ∧ (p.ls = [] → ∀ b, G b → F2 b) ∧ ∀ b, F2 b → F b ∨ (p.ls = [] ∧ G b) :=
    ⟨fun b => F b ∨ (p.ls = [] ∧ G b), fun b h => .inl h, fun e b h => .inr ⟨e, h⟩, fun b h => h⟩
  have nfα : ∀ b, F b → b ∉ adrs α p.ks := fun b hb hm => by
    obtain ⟨k, h1, h2⟩ := adrs_of hkl hm
    obtain ⟨x, hx⟩ := hlive k h1
    exact (I.cel k x b hx h2).2 hb
  have keep : ∀ b o, H b = some o → b ∉ adrs α p.ks → H' b = some o := J.keep
  have E : Ext H F α H' F2 α := ⟨fun b hb => by
      obtain ⟨o, e⟩ := I.domF b hb
      rw [e]; exact keep b o e (nfα b hb), hF2, J.tups, J.frzs, fun _ _ e => e⟩
  have c0 : ∀ b, H b = none → b ∈ c.β ∨ c.H0 b = none := fun b hb => by
    cases q : c.H0 b with
    | none => exact .inr rfl
    | some u =>
      by_cases hm : b ∈ c.β
      · exact .inl hm
      · have := I.keep b u q hm
        rw [hb] at this; cases this
  refine ⟨F2, hF2, hG, hF2G, fun i d e => ?_, I.el, fun q hq => ?_, by show α.length = (putC s.M p.ks s'.M).length; rw [putC_len]; exact I.len, fun j x a e1 e2 => ?_, I.nd, fun a ha => ?_, I.inα, fun b hb => ?_, fun b hb => ?_, I.pre, fun b o e1 e2 => ?_, fun b xs e => J.tups b xs (I.tups b xs e), fun b o u e => J.frzs b o u (I.frzs b o u e)⟩
  · obtain ⟨v, h1, h2⟩ := I.env i d e
    exact ⟨v, h1, h2.ext E⟩
  · rcases List.mem_append.mp hq with hq | hq
    · have r := J.tmp q hq
      rcases hb with e | ⟨_, e⟩
      · exact r.np (hG e) (hT q hq)
      · exact r.nm (e q hq)
    · exact (I.tmp q hq).ext E
  · have e1 : (putC s.M p.ks s'.M)[j]? = some (some x) := e1
    by_cases hj : j ∈ p.ks
    · rcases putC_in hks hj e1 with ⟨i, h1, h2⟩ | ⟨_, i, h1, h2⟩
      · have hi : i < p.ks.length := (List.getElem?_eq_some_iff.mp h1).1
        have hβi : (adrs α p.ks)[i]? = some a := adrs_get h1 e2
        obtain ⟨rc, nG⟩ := J.cel i x a h2 (J.pre i a hβi)
        have e3 : (s'.M.take p.ks.length)[i]? = some (some x) := by rw [List.getElem?_take_of_lt hi]; exact h2
        have hx : x.np = true := cNp_get hnp e3
        have nF : ¬ F a := fun hf => nfα a hf (List.mem_of_getElem? hβi)
        refine ⟨?_, fun hf => (hF2G a hf).elim nF fun q => nG q.2⟩
        rcases hb with e | ⟨e, _⟩
        · exact rc.np (hG e) hx
        · exact rc.nm (cNm_get e e3)
      · have hi : i < p.ks.length := (List.getElem?_eq_some_iff.mp h1).1
        omega
    · rw [putC_out hj] at e1
      obtain ⟨rc, nF⟩ := I.cel j x a e1 e2
      have na : a ∉ adrs α p.ks := fun hm => by
        obtain ⟨k, h1, h2⟩ := adrs_of hkl hm
        have := (List.getElem?_inj (hkl k h1) I.nd).mp (h2.trans e2.symm)
        exact hj (this ▸ h1)
      obtain ⟨o, ho⟩ := I.dom a (List.mem_of_getElem? e2)
      refine ⟨E.repC rc ((keep a o ho na).trans ho.symm), fun hf => (hF2G a hf).elim nF fun q => ?_⟩
      rcases J.inF a q.2 with z | z | z
      · exact na z
      · rcases (hFp a).mp z with z | ⟨k, h1, _⟩
        · exact nF z
        · rw [q.1] at h1; simp at h1
      · have z : H a = none := z
        rw [ho] at z; cases z
  · by_cases hm : a ∈ adrs α p.ks
    · obtain ⟨i, hi⟩ := List.getElem?_of_mem hm
      exact J.dom a (List.mem_of_getElem? (J.pre i a hi))
    · obtain ⟨o, ho⟩ := I.dom a ha
      exact ⟨o, keep a o ho hm⟩
  · rcases hF2G b hb with hb | ⟨_, hb⟩
    · obtain ⟨o, ho⟩ := I.domF b hb
      exact ⟨o, keep b o ho (nfα b hb)⟩
    · exact J.domF b hb
  · rcases hF2G b hb with hb | ⟨e, hb⟩
    · exact I.inF b hb
    · rcases J.inF b hb with z | z | z
      · rcases I.inα b (hβ b z) with w | w
        · exact .inl w
        · exact .inr (.inr w)
      · rcases (hFp b).mp z with z | ⟨k, h1, _⟩
        · exact I.inF b z
        · rw [e] at h1; simp at h1
      · rcases c0 b z with w | w
        · exact .inl w
        · exact .inr (.inr w)
  · have h1 := I.keep b o e1 e2
    refine keep b o h1 fun hm => ?_
    rcases I.inα b (hβ b hm) with w | w
    · exact e2 w
    · rw [w] at e1; cases e1
theorem back {p : Prep} {H' : Hp} {s' : S} {T' : List (D × V)} {Fp : Addr → Prop} (I : SIx K cl c H σ s T F α) (hks : p.ks.Nodup) (hkl : ∀ k ∈ p.ks, k < α.length) (hlive : ∀ k ∈ p.ks, ∃ x, s.M[k]? = some (some x))
    (hFp : ∀ b, Fp b ↔ F b ∨ ∃ k, k ∈ p.ls ∧ α[k]? = some b) (J : SI K cl ⟨H, adrs α p.ks, Fp⟩ H' [] ⟨[], s'.M⟩ T') (hlen : p.ks.length ≤ s'.M.length) (hnp : cNp (s'.M.take p.ks.length) = true)
    (hb : p.ls = [] ∨ (cNm (s'.M.take p.ks.length) = true ∧ ∀ q ∈ T', nm q.1 = true)) (hT : ∀ q ∈ T', np q.1 = true) :
    SI K cl c H' σ { s with M := putC s.M p.ks s'.M } (T' ++ T) := by
  obtain ⟨G, γ, J⟩ := J
  obtain ⟨F2, _, _, _, J2⟩ := backX I hks hkl hlive hFp J hlen hnp hb hT
  exact ⟨F2, α, J2⟩
/-- what is known at a call -/
theorem call_pre {p : Prep} {io : List Bool} {ds : List D} {vs : List V} (I : SIx K cl c H σ s (zipT ds vs T) F α) (hl : ds.length = vs.length) (hp : prep s.M io ds 0 = some p) (hks : p.ks.Nodup) (hls : ∀ k ∈ p.ls, k ∉ p.ks) :
    ∃ Fp : Addr → Prop, (∀ b, Fp b ↔ F b ∨ ∃ k, k ∈ p.ls ∧ α[k]? = some b) ∧ (∀ k ∈ p.ks, k < α.length) ∧ (∀ k ∈ p.ks, ∃ x, s.M[k]? = some (some x)) ∧ p.m.length = p.ks.length ∧ p.ds.length = vs.length ∧
      SIx K cl ⟨H, adrs α p.ks, Fp⟩ H [] ⟨[], p.m.map some⟩ (zipT p.ds vs []) Fp (adrs α p.ks) ∧ SIx K cl c H σ s T F α := by
  obtain ⟨pl, pc, pb⟩ := prep_cells hp
  have hlive : ∀ k ∈ p.ks, ∃ x, s.M[k]? = some (some x) := fun k hk => by
    obtain ⟨i, hi⟩ := List.getElem?_of_mem hk
    have hi' : i < p.m.length := by rw [pl]; exact (List.getElem?_eq_some_iff.mp hi).1
    obtain ⟨k', h1, h2, _⟩ := pc i p.m[i] (List.getElem?_eq_getElem hi')
    rw [hi] at h1; cases h1
    exact ⟨_, h2⟩
  have hkl : ∀ k ∈ p.ks, k < α.length := fun k hk => by
    obtain ⟨x, hx⟩ := hlive k hk
    rw [I.len]; exact (List.getElem?_eq_some_iff.mp hx).1
  obtain ⟨Fp, hFp⟩ : ∃ Fp : Addr → Prop, ∀ b, Fp b ↔ F b ∨ ∃ k, k ∈ p.ls ∧ α[k]? = some b := ⟨fun b => F b ∨ ∃ k, k ∈ p.ls ∧ α[k]? = some b, fun b => Iff.rfl⟩
  have hF : ∀ b, F b → Fp b := fun b h => (hFp b).mpr (.inl h)
  have hβin : ∀ a ∈ adrs α p.ks, ∃ k, k ∈ p.ks ∧ α[k]? = some a := fun a ha => adrs_of hkl ha
  have nFp : ∀ a ∈ adrs α p.ks, ¬ Fp a := fun a ha hf => by
    obtain ⟨k, h1, h2⟩ := hβin a ha
    rcases (hFp a).mp hf with hf | ⟨k', h3, h4⟩
    · obtain ⟨x, hx⟩ := hlive k h1
      exact (I.cel k x a hx h2).2 hf
    · have := (List.getElem?_inj (hkl k h1) I.nd).mp (h2.trans h4.symm)
      exact hls k' h3 (this ▸ h1)
  have domFp : ∀ b, Fp b → ∃ o, H b = some o := fun b hb => by
    rcases (hFp b).mp hb with hb | ⟨k, h1, h2⟩
    · exact I.domF b hb
    · exact I.dom b (List.mem_of_getElem? h2)
  have rl : RepL K cl H Fp (adrs α p.ks) p.ds vs := prep_rep I hp (I.args hl) hF (fun i k a e1 e2 => by rw [Nat.zero_add]; exact adrs_get e1 e2) fun k a h1 h2 => (hFp a).mpr (.inr ⟨k, h1, h2⟩)
  have tm : ∀ (ds : List D) (vs : List V), RepL K cl H Fp (adrs α p.ks) ds vs → ∀ T0 : List (D × V), (∀ q ∈ T0, Rep K cl H Fp (adrs α p.ks) q.1 q.2) → ∀ q ∈ zipT ds vs T0, Rep K cl H Fp (adrs α p.ks) q.1 q.2 := by
    intro ds
    induction ds with
    | nil => intro vs r T0 h0 q hq; cases r; exact h0 q hq
    | cons d ds ih =>
      intro vs r T0 h0 q hq
      cases r with
      | cons r t => exact ih _ t _ (fun q hq => (List.mem_cons.mp hq).elim (fun e => by subst e; exact r) (h0 q)) q hq
  have J0 : SIx K cl ⟨H, adrs α p.ks, Fp⟩ H [] ⟨[], p.m.map some⟩ (zipT p.ds vs []) Fp (adrs α p.ks) := by
    refine ⟨fun i d e => by simp at e, rfl, tm p.ds vs rl [] fun q hq => by simp at hq, by show (adrs α p.ks).length = (p.m.map some).length; unfold adrs; rw [List.length_map, List.length_map, pl], fun j x a e1 e2 => ?_, adrs_nodup I.nd hks hkl, fun a ha => ?_, fun a ha => .inl ha, domFp, fun b hb => .inr (.inl hb), fun _ _ e => e, fun b o e _ => e, fun _ _ e => e, fun _ _ _ e => e⟩
    · have e1 : (p.m.map some)[j]? = some (some x) := e1
      rw [List.getElem?_map] at e1
      obtain ⟨y, h1, h2⟩ := Option.map_eq_some_iff.mp e1
      cases h2
      obtain ⟨k, h3, h4, h5⟩ := pc j x h1
      obtain ⟨a', ha'⟩ : ∃ a', α[k]? = some a' := ⟨_, List.getElem?_eq_getElem (hkl k (List.mem_of_getElem? h3))⟩
      have e3 := adrs_get h3 ha'
      rw [e2] at e3; cases e3
      exact ⟨(I.cel k x a h4 ha').1.np hF h5, nFp a (List.mem_of_getElem? e2)⟩
    · obtain ⟨k, _, h2⟩ := hβin a ha
      exact I.dom a (List.mem_of_getElem? h2)
  have hdl : p.ds.length = vs.length := rl.length
  have IT : SIx K cl c H σ s T F α := { I with tmp := fun q hq => I.tmp q (zipT_sub ds vs T q hq) }
  exact ⟨Fp, hFp, hkl, hlive, pl, hdl, J0, IT⟩
/-- the callee's promise, asked at the caller's arguments -/
theorem call_dsp {W : WX} {io : List Bool} {sem : Sem} {ds : List D} {vs : List V} {Q : VK} (I : SIx K cl c H σ s (zipT ds vs T) F α) (hl : ds.length = vs.length) (w : Want K cl W c σ T (callS io sem ds s) Q)
    (hM : ∀ m ds' d s', sem m ds' = .ok d s' → s'.M.length = m.length) (hM2 : ∀ m ds' n fs s', sem m ds' = .exc n fs s' → s'.M.length = m.length) :
    dsp K cl sem vs H Q (fun cls dx H' => W cls dx σ H') := by
  unfold callS at w
  cases hp : prep s.M io ds 0 with
  | none => rw [hp] at w; exact w.elim
  | some p =>
    rw [hp] at w
    dsimp only at w
    by_cases hc : p.ks.Nodup ∧ ∀ k ∈ p.ls, k ∉ p.ks
    · rw [if_pos hc] at w
      obtain ⟨hks, hls⟩ := hc
      obtain ⟨Fp, hFp, hkl, hlive, pl, hdl, J0, IT⟩ := call_pre I hl hp hks hls
      refine ⟨Fp, adrs α p.ks, p.m, p.ds, hdl, J0, ?_⟩
      cases hs : sem p.m p.ds with
      | fail => rw [hs] at w; exact w.elim
      | ok d s' =>
        rw [hs] at w
        dsimp only at w ⊢
        have hlen : p.ks.length ≤ s'.M.length := by rw [hM _ _ _ _ hs, pl]; exact Nat.le_refl _
        cases hcond : (np d && cNp (s'.M.take p.ks.length) && (p.ls.isEmpty || (nm d && cNm (s'.M.take p.ks.length)))) with
        | false => rw [hcond] at w; exact w.elim
        | true =>
          rw [hcond] at w
          simp only [Bool.and_eq_true, Bool.or_eq_true] at hcond
          obtain ⟨⟨h1, h2⟩, h3⟩ := hcond
          intro v H' J
          refine w v H' (back (T' := [(d, v)]) IT hks hkl hlive hFp J hlen h2 ?_ fun q hq => ?_)
          · rcases h3 with h3 | ⟨h3, h4⟩
            · exact .inl (List.isEmpty_iff.mp h3)
            · refine .inr ⟨h4, fun q hq => ?_⟩
              rw [List.mem_singleton.mp hq]; exact h3
          · rw [List.mem_singleton.mp hq]; exact h1
      | exc n fs s' =>
        rw [hs] at w
        dsimp only at w ⊢
        have hlen : p.ks.length ≤ s'.M.length := by rw [hM2 _ _ _ _ _ hs, pl]; exact Nat.le_refl _
        cases hcond : (npF fs && cNp (s'.M.take p.ks.length) && p.ls.isEmpty) with
        | false => rw [hcond] at w; exact w.elim
        | true =>
          rw [hcond] at w
          simp only [Bool.and_eq_true] at hcond
          obtain ⟨⟨h1, h2⟩, h3⟩ := hcond
          intro dx H' hdx J
          refine w dx H' hdx (back (T' := xt fs dx) IT hks hkl hlive hFp (by rw [List.append_nil] at J; exact J) hlen h2 (.inl (List.isEmpty_iff.mp h3)) fun q hq => ?_)
          cases dx with
          | none => simp [xt] at hq
          | some a =>
            rw [List.mem_singleton.mp hq]
            show np (.xd fs) = true
            simp only [np]; exact h1
    · rw [if_neg hc] at w; exact w.elim
end
end DL

/-! DlG: calls of the program's own defs; the statements; a def by its body. -/
namespace DL
open PySem L2
open PySem.Spec PyProof.Rows

/-- what a body's rules lean on -/
structure Cok (X : Cx) (W : WX) (k : Nat) : Prop where
  tk : Takes X W
  po : PassesOwn (model X.prog X.w) X.A X.env X.xe
  nd : X.N.Nodup
  calm : X.calm = true
  room : Room k X.A
  gd : X.A.guards = some []
theorem Cok.u64 {X : Cx} {W : WX} {k : Nat} (c : Cok X W k) : X.A.units + 64 < cLine := c.room.units
theorem Cok.blk {X : Cx} {W : WX} {k : Nat} (c : Cok X W k) (s : Shared) (H : Hp) (scope : Scope) (cenv : Env) (fp : List Addr) : Cok (X.blk s H scope cenv fp) (fun _ _ _ _ => False) k :=
  ⟨takes0, PassesOwn.never, c.nd, c.calm, c.room, c.gd⟩

/-- the cells given come back, as many -/
def LenOk (sem : Sem) : Prop := (∀ m ds d s, sem m ds = .ok d s → s.M.length = m.length) ∧ ∀ m ds n fs s, sem m ds = .exc n fs s → s.M.length = m.length
theorem prep_len : ∀ {M : List (Option C)} {io : List Bool} {ds : List D} {j : Nat} {p : Prep}, prep M io ds j = some p → ds.length = io.length := by
  intro M io
  induction io with
  | nil =>
    intro ds j p h
    cases ds with
    | nil => rfl
    | cons d ds => simp [prep] at h
  | cons b io ih =>
    intro ds j p h
    cases ds with
    | nil => cases b <;> simp [prep] at h
    | cons d ds =>
      rcases ptr_or d with ⟨k, rfl⟩ | hd
      · cases b with
        | true => obtain ⟨x, q, _, _, h3, _⟩ := prep_true h; simp [ih h3]
        | false => obtain ⟨x, q, _, _, h3, _⟩ := prep_ptr h; simp [ih h3]
      · cases b with
        | true => exact (prep_bad hd h).elim
        | false => obtain ⟨q, _, h3, _⟩ := prep_val hd h; simp [ih h3]
theorem callS_len {K : PySem.W.Frag} {cl : Str → Addr} {W : WX} {c : Cz} {σ : L2.St} {T : List (D × V)} {io : List Bool} {sem : Sem} {ds : List D} {s : S} {Q : VK} (w : Want K cl W c σ T (callS io sem ds s) Q) : ds.length = io.length := by
  unfold callS at w
  cases hp : prep s.M io ds 0 with
  | none => rw [hp] at w; exact w.elim
  | some p => exact prep_len hp
def eCall (io : List Bool) (sem : Sem) (f : M (List D)) : M D := fun s => (f s).bind fun ds s => callS io sem ds s

section
variable {X : Cx} {cl : Str → Addr} {W : WX} {k : Nat}
/-- the callee runs -/
theorem run_G {fa : Addr} {fd : FuncData} {ps : List Str} {sem : Sem} {dvs : List Value} {pins : List (Addr × Obj)} {σ : L2.St} {H : Hp} {s : Shared} {Q : VK} {us : List Value} {vs : List V} (F : FnG X.prog X.w X.K X.mg X.base cl k fa fd ps sem) (hc : Cok X W k) (hb : Binds X.K fd ps []) (I : Inv X pins σ H s) (r : Vals vs us) (hl : vs.length = ps.length)
    (h : dsp X.K cl sem vs H Q (fun cls dx H' => W cls dx σ H')) : wpAny (model X.prog X.w) X.A (call (.ref fa) us) (EP X pins σ Q) X.xe s := by
  have b := hb s us I.kIn (by rw [List.append_nil, ← r.length]; exact hl)
  rw [List.append_nil] at b
  refine wpAny_call (codeAny_mono (F.run X.A X.stack s H ⟨us, []⟩ us vs Q _ hc.room hc.gd I.env0 b r hl h) fun res s' hq => ?_)
  cases res with
  | error e => exact passAt hc.tk σ pins H s e s' I hq
  | ok fl =>
    cases fl with
    | ret u => exact I.after hq
    | next => exact False.elim hq
    | brk => exact False.elim hq
    | cont => exact False.elim hq
/-- f(e, ..) -/
theorem de_call {x : Str} {fa : Addr} {fd : FuncData} {ps : List Str} {sem : Sem} {io : List Bool} {e : Expr} {es : List Expr} {f : M (List D)} {p pos : Pos} (F : FnG X.prog X.w X.K X.mg X.base cl k fa fd ps sem) (hn : LenOk sem) (hio : io.length = ps.length) (hc : Cok X W k)
    (hm : X.mg x = some (.ref fa)) (hk : PySem.W.keepIn X.K (.ref fa) = true) (hb : Binds X.K fd ps []) (ha : DA X cl W (e :: es) f) (hg : Gl X x := by rfl)
    (hdb : (x == ("__debug__" : Str)) = false := by decide) (he : starEach (e :: es) X.env = (false, eval e X.env) :: starEach es X.env := by rfl) (hpl : (backTo pos (starEach es X.env)).any (·.1) = false := by rfl) :
    DE X cl W (.Call (.Name x p) (e :: es) [] pos) (eCall io sem f) := by
  obtain ⟨ta, pa, qa⟩ := ha
  refine ⟨fun σ H Q => ta σ H fun vs H1 => vs.length = ps.length ∧ dsp X.K cl sem vs H1 Q (fun cls dx H' => W cls dx σ H'), ⟨fun pins s σ H Q I h => ?_⟩, fun c σ s T H Q I w => ?_⟩
  · refine wpAny_Call_Name_kw (ld_glob I hg hm ?_ hdb)
    refine PySem.W.callWith_K (h₀ := X.base) I.ok.mod.kin hk (thn (pa.run pos pins s σ H _ I h) fun us s1 ⟨vs, H1, I1, r, hl, q⟩ => ⟨I1.kIn, ?_⟩) he hpl
    exact run_G (dvs := []) F hc hb I1 r hl q
  · refine qa c σ s T H _ I (w.bindA fun ds s1 _ w1 vs H1 hl I1 => ?_)
    obtain ⟨G, α, J⟩ := I1
    exact ⟨by rw [← hl, callS_len w1, hio], call_dsp J hl w1 hn.1 hn.2⟩
/-- f() -/
theorem de_call0 {x : Str} {fa : Addr} {fd : FuncData} {sem : Sem} {p pos : Pos} (F : FnG X.prog X.w X.K X.mg X.base cl k fa fd [] sem) (hn : LenOk sem) (hc : Cok X W k)
    (hm : X.mg x = some (.ref fa)) (hk : PySem.W.keepIn X.K (.ref fa) = true) (hb : Binds X.K fd [] []) (hg : Gl X x := by rfl) (hdb : (x == ("__debug__" : Str)) = false := by decide) :
    DE X cl W (.Call (.Name x p) [] [] pos) (eCall [] sem aNil) := by
  refine ⟨fun σ H Q => dsp X.K cl sem [] H Q (fun cls dx H' => W cls dx σ H'), ⟨fun pins s σ H Q I h => ?_⟩, fun c σ s T H Q I w => ?_⟩
  · refine wpAny_Call_Name_kw (ld_glob I hg hm ?_ hdb)
    exact PySem.W.callWith_K0 I.kIn hk (run_G (dvs := []) (us := []) F hc hb I .nil rfl h)
  · obtain ⟨G, α, J⟩ := I
    exact call_dsp (io := []) (ds := []) (vs := []) J rfl (show Want X.K cl W c σ T (callS [] sem [] s) Q from w) hn.1 hn.2

/-! ### statements -/
inductive Fl where
  | nx | ret (d : D) | brk | ct
def WantS (K : PySem.W.Frag) (cl : Str → Addr) (W : WX) (c : Cz) (T : List (D × V)) (o : Out Fl) (E : Ends) : Prop := match o with
  | .fail => False
  | .ok .nx s => ∀ σ H, SI K cl c H σ s T → E.nx σ H
  | .ok .brk s => ∀ σ H, SI K cl c H σ s T → E.bk σ H
  | .ok .ct s => ∀ σ H, SI K cl c H σ s T → E.ct σ H
  | .ok (.ret d) s => ∀ v σ H, SI K cl c H σ s ((d, v) :: T) → E.rt v H
  | .exc n fs s => ∀ dx σ H, (dx = none → fs = []) → SI K cl c H σ s (xt fs dx ++ T) → W (.ref (cl n)) dx σ H
structure DS (X : Cx) (cl : Str → Addr) (W : WX) (st : Stmt) (f : M Fl) : Prop where
  ex : ∃ ts, PS X st ts ∧ ∀ c σ s T H E, SI X.K cl c H σ s T → WantS X.K cl W c T (f s) E → ts E σ H
structure DSs (X : Cx) (cl : Str → Addr) (W : WX) (st : List Stmt) (f : M Fl) : Prop where
  ex : ∃ ts, PSs X st ts ∧ ∀ c σ s T H E, SI X.K cl c H σ s T → WantS X.K cl W c T (f s) E → ts E σ H
theorem WantS.bind {K : PySem.W.Frag} {c : Cz} {σ : L2.St} {T : List (D × V)} {o : Out D} {k : D → S → Out Fl} {E : Ends} {Q1 : VK} (h : WantS K cl W c T (o.bind k) E)
    (hk : ∀ d s, o = .ok d s → WantS K cl W c T (k d s) E → ∀ v H, SI K cl c H σ s ((d, v) :: T) → Q1 v H) : Want K cl W c σ T o Q1 := by
  cases o with
  | fail => exact h
  | ok d s => exact hk d s rfl h
  | exc n fs s => exact fun dx H e I => h dx σ H e I
theorem WantS.bindB {K : PySem.W.Frag} {c : Cz} {σ : L2.St} {T : List (D × V)} {o : Out Bool} {k : Bool → S → Out Fl} {E : Ends} {Q1 : Bool → Hp → Prop} (h : WantS K cl W c T (o.bind k) E)
    (hk : ∀ d s, o = .ok d s → WantS K cl W c T (k d s) E → ∀ H, SI K cl c H σ s T → Q1 d H) : WantB K cl W c σ T o Q1 := by
  cases o with
  | fail => exact h
  | ok d s => exact hk d s rfl h
  | exc n fs s => exact fun dx H e I => h dx σ H e I
theorem WantS.bindA {K : PySem.W.Frag} {c : Cz} {σ : L2.St} {T : List (D × V)} {o : Out (List D)} {k : List D → S → Out Fl} {E : Ends} {Q1 : List V → Hp → Prop} (h : WantS K cl W c T (o.bind k) E)
    (hk : ∀ d s, o = .ok d s → WantS K cl W c T (k d s) E → ∀ vs H, d.length = vs.length → SI K cl c H σ s (zipT d vs T) → Q1 vs H) : WantA K cl W c σ T o Q1 := by
  cases o with
  | fail => exact h
  | ok d s => exact hk d s rfl h
  | exc n fs s => exact fun dx H e I => h dx σ H e I
def sNx : M Fl := fun s => .ok .nx s
def sSeq (f g : M Fl) : M Fl := fun s => (f s).bind fun r s => match r with
  | .nx => g s
  | r => .ok r s
theorem dss_nil : DSs X cl W [] sNx := ⟨_, pss_nil, fun c σ s T H E I w => w σ H I⟩
theorem dss_one {st : Stmt} {f : M Fl} (h : DS X cl W st f) : DSs X cl W [st] f := by
  obtain ⟨t, p, q⟩ := h
  exact ⟨_, pss_one p, q⟩
theorem dss_cons {st : Stmt} {rest : List Stmt} {f g : M Fl} (h : DS X cl W st f) (h2 : DSs X cl W rest g) : DSs X cl W (st :: rest) (sSeq f g) := by
  obtain ⟨t, p, q⟩ := h
  obtain ⟨t2, p2, q2⟩ := h2
  refine ⟨_, pss_cons p p2, fun c σ s T H E I w => ?_⟩
  refine q c σ s T H _ I ?_
  unfold sSeq at w
  cases hf : f s with
  | fail => rw [hf] at w; exact w
  | exc n fs s1 => rw [hf] at w; exact w
  | ok r s1 =>
    rw [hf] at w
    cases r with
    | nx => exact fun σ1 H1 I1 => q2 c σ1 s1 T H1 E I1 w
    | ret d => exact w
    | brk => exact w
    | ct => exact w
theorem ds_pass {pos : Pos} : DS X cl W (.Pass pos) sNx := ⟨_, ps_pass, fun c σ s T H E I w => w σ H I⟩
def sBrk : M Fl := fun s => .ok .brk s
def sCt : M Fl := fun s => .ok .ct s
theorem ds_break {pos : Pos} : DS X cl W (.Break pos) sBrk := ⟨_, ps_break, fun c σ s T H E I w => w σ H I⟩
theorem ds_cont {pos : Pos} : DS X cl W (.Continue pos) sCt := ⟨_, ps_continue, fun c σ s T H E I w => w σ H I⟩
def sExpr (f : M D) : M Fl := fun s => (f s).bind fun _ s => .ok .nx s
theorem ds_expr {e : Expr} {f : M D} {pos : Pos} (h : DE X cl W e f) (hs : swapsWith e none pos.line X.env = pure false := by rfl) : DS X cl W (.Expr e pos) (sExpr f) := by
  obtain ⟨t, p, q⟩ := h
  refine ⟨_, ps_expr p hs, fun c σ s T H E I w => ?_⟩
  exact q c σ s T H _ I (w.bind fun d s1 _ w1 v H1 I1 => w1 σ H1 I1.pop)
def sRet (f : M D) : M Fl := fun s => (f s).bind fun d s => .ok (.ret d) s
theorem ds_ret {e : Expr} {f : M D} {pos : Pos} (h : DE X cl W e f) : DS X cl W (.Return (some e) pos) (sRet f) := by
  obtain ⟨t, p, q⟩ := h
  refine ⟨_, ps_ret p, fun c σ s T H E I w => ?_⟩
  exact q c σ s T H _ I (w.bind fun d s1 _ w1 v H1 I1 => w1 v σ H1 I1)
def sIf (t : M Bool) (f g : M Fl) : M Fl := fun s => (t s).bind fun b s => if b = true then f s else g s
theorem ds_if {t : Expr} {a b : List Stmt} {ft : M Bool} {f g : M Fl} {pos : Pos} (ht : DT X cl W t ft) (ha : DSs X cl W a f) (hb : DSs X cl W b g) : DS X cl W (.If t a b pos) (sIf ft f g) := by
  obtain ⟨tt, pt, qt⟩ := ht
  obtain ⟨ta, pa, qa⟩ := ha
  obtain ⟨tb, pb, qb⟩ := hb
  refine ⟨_, ps_if pt pa pb, fun c σ s T H E I w => ?_⟩
  refine qt c σ s T H _ I (w.bindB fun d s1 _ w1 H1 I1 => ?_)
  cases d with
  | true => exact iteT (qa c σ s1 T H1 E I1 w1)
  | false => exact iteF (qb c σ s1 T H1 E I1 w1)
/-- a name is bound -/
def setV (i : Nat) (d : D) (s : S) : Out Fl := if i < s.env.length then .ok .nx { s with env := s.env.set i (some d) } else .fail
def sSet (i : Nat) (f : M D) : M Fl := fun s => (f s).bind fun d s => setV i d s
theorem setV_ok {K : PySem.W.Frag} {c : Cz} {σ : L2.St} {T : List (D × V)} {i : Nat} {d : D} {v : V} {s : S} {H : Hp} {E : Ends} (w : WantS K cl W c T (setV i d s) E) (I : SI K cl c H σ s ((d, v) :: T)) : E.nx (σ.set i (some v)) H := by
  unfold setV at w
  by_cases hi : i < s.env.length
  · rw [if_pos hi] at w; exact w _ _ (I.bind hi)
  · rw [if_neg hi] at w; exact w.elim
theorem ds_set {i : Nat} {x : Str} {e : Expr} {f : M D} {pos pos' : Pos} (hN : X.N.Nodup) (hi : X.N[i]? = some x) (hx : Loc X.env.scope x) (h : DE X cl W e f) (hs : swapsWith e (some (.Name x pos')) pos.line X.env = pure false := by rfl)
    (hf : X.fn x = true ∨ X.env.scope.names.lookup x = some .local := by first | exact .inl rfl | exact .inr rfl | assumption) : DS X cl W (.Assign [.Name x pos'] e pos) (sSet i f) := by
  obtain ⟨t, p, q⟩ := h
  refine ⟨_, ps_set hN hi hx p hs hf, fun c σ s T H E I w => ?_⟩
  exact q c σ s T H _ I (w.bind fun d s1 _ w1 v H1 I1 => setV_ok w1 I1)

/-! ### a def by its body -/
/-- how a body's run ends: the cells given, what is handed back (a pointer to a cell of the body's own: its content, from now on frozen) -/
def outD (n : Nat) (s : S) (d : D) : Option D := match d with
  | .ptr k => if n ≤ k then (match s.M[k]? with
    | some (some x) => if x.np then some x.dat else none
    | _ => none) else none
  | d => if np d then some d else none
def okM (n : Nat) (s : S) : Bool := decide (n ≤ s.M.length) && cNp (s.M.take n)
theorem okM_len {n : Nat} {s : S} (h : okM n s = true) : (s.M.take n).length = n := by
  simp only [okM, Bool.and_eq_true, decide_eq_true_eq] at h
  rw [List.length_take]; omega
def fin (n : Nat) (o : Out Fl) : Out D := match o with
  | .fail => .fail
  | .ok .nx s => if okM n s then .ok .non ⟨[], s.M.take n⟩ else .fail
  | .ok (.ret d) s => match outD n s d with
    | some d => if okM n s then .ok d ⟨[], s.M.take n⟩ else .fail
    | none => .fail
  | .ok _ _ => .fail
  | .exc c fs s => if npF fs && okM n s then .exc c fs ⟨[], s.M.take n⟩ else .fail
def run (N : Nat) (f : M Fl) : Sem := fun m ds => fin m.length (f ⟨ds.map some ++ List.replicate (N - ds.length) none, m.map some⟩)
theorem run_len (N : Nat) (f : M Fl) : LenOk (run N f) := by
  have key : ∀ (n : Nat) (o : Out Fl), (∀ d s, fin n o = .ok d s → s.M.length = n) ∧ ∀ c fs s, fin n o = .exc c fs s → s.M.length = n := by
    intro n o
    cases o with
    | fail => exact ⟨fun d s h => (by cases h), fun c fs s h => (by cases h)⟩
    | exc c fs s =>
      refine ⟨fun d s h => ?_, fun c' fs' s' h => ?_⟩
      · simp only [fin] at h; split at h <;> cases h
      · simp only [fin] at h
        split at h
        · rename_i hc
          cases h
          exact okM_len (Bool.and_eq_true_iff.mp hc).2
        · cases h
    | ok r s =>
      refine ⟨fun d s' h => ?_, fun c fs s' h => ?_⟩
      · cases r with
        | nx =>
          simp only [fin] at h
          split at h
          · rename_i hc
            cases h
            exact okM_len hc
          · cases h
        | brk => cases h
        | ct => cases h
        | ret d =>
          simp only [fin] at h
          split at h
          · split at h
            · rename_i hc
              cases h
              exact okM_len hc
            · cases h
          · cases h
      · cases r with
        | nx => simp only [fin] at h; split at h <;> cases h
        | brk => cases h
        | ct => cases h
        | ret d =>
          simp only [fin] at h
          split at h
          · split at h <;> cases h
          · cases h
  exact ⟨fun m ds d s h => (key _ _).1 d s h, fun m ds n fs s h => (key _ _).2 n fs s h⟩
end
section
variable {K : PySem.W.Frag} {cl : Str → Addr} {c : Cz} {H : Hp} {σ : L2.St} {s : S} {T T' : List (D × V)} {F : Addr → Prop} {α : List Addr}
/-- the cells behind the first n are frozen, the frame is left -/
theorem SIx.leave (I : SIx K cl c H σ s T F α) {n : Nat} (hn : n ≤ s.M.length) (hβ : c.β.length ≤ n) (hT : ∀ F', (∀ b, F b → F' b) → (∀ (k : Nat) (x : C) (a : Addr), n ≤ k → s.M[k]? = some (some x) → α[k]? = some a → F' a) → ∀ q ∈ T', Rep K cl H F' α q.1 q.2 ∧ np q.1 = true) (hc : cNp (s.M.take n) = true) :
    SI K cl c H [] ⟨[], s.M.take n⟩ T' := by
  obtain ⟨F', hF'⟩ : ∃ F' : Addr → Prop, ∀ b, F' b ↔ F b ∨ ∃ (k : Nat) (x : C), n ≤ k ∧ s.M[k]? = some (some x) ∧ α[k]? = some b := ⟨fun b => F b ∨ ∃ (k : Nat) (x : C), n ≤ k ∧ s.M[k]? = some (some x) ∧ α[k]? = some b, fun b => Iff.rfl⟩
  have hF : ∀ b, F b → F' b := fun b h => (hF' b).mpr (.inl h)
  have ht := hT F' hF fun k x a h1 h2 h3 => (hF' a).mpr (.inr ⟨k, x, h1, h2, h3⟩)
  have hl : n ≤ α.length := by rw [I.len]; exact hn
  have tk : ∀ (j : Nat) (a : Addr), (α.take n)[j]? = some a → α[j]? = some a ∧ j < n := fun j a e => by
    have hj : j < (α.take n).length := (List.getElem?_eq_some_iff.mp e).1
    rw [List.length_take] at hj
    have hj' : j < n := by omega
    rw [List.getElem?_take_of_lt hj'] at e
    exact ⟨e, hj'⟩
  refine ⟨F', α.take n, fun i d e => by simp at e, rfl, fun q hq => (ht q hq).1.np (fun b h => h) (ht q hq).2, by show (α.take n).length = (s.M.take n).length; rw [List.length_take, List.length_take, I.len], fun j x a e1 e2 => ?_, I.nd.sublist (List.take_sublist _ _), fun a ha => I.dom a (List.mem_of_mem_take ha), fun a ha => I.inα a (List.mem_of_mem_take ha), fun b hb => ?_, fun b hb => ?_, fun j a e => ?_, I.keep, I.tups, I.frzs⟩
  · have e1 : (s.M.take n)[j]? = some (some x) := e1
    obtain ⟨e3, hj⟩ := tk j a e2
    have hx := cNp_get hc e1
    rw [List.getElem?_take_of_lt hj] at e1
    obtain ⟨rc, nF⟩ := I.cel j x a e1 e3
    refine ⟨rc.np hF hx, fun hf => ?_⟩
    rcases (hF' a).mp hf with hf | ⟨k, y, h1, h2, h3⟩
    · exact nF hf
    · have := (List.getElem?_inj (by omega) I.nd).mp (e3.trans h3.symm)
      omega
  · rcases (hF' b).mp hb with hb | ⟨k, y, h1, h2, h3⟩
    · exact I.domF b hb
    · exact I.dom b (List.mem_of_getElem? h3)
  · rcases (hF' b).mp hb with hb | ⟨k, y, h1, h2, h3⟩
    · exact I.inF b hb
    · rcases I.inα b (List.mem_of_getElem? h3) with z | z
      · exact .inl z
      · exact .inr (.inr z)
  · have hj : j < n := Nat.lt_of_lt_of_le (List.getElem?_eq_some_iff.mp e).1 hβ
    rw [List.getElem?_take_of_lt hj]
    exact I.pre j a e
end
end DL

/-! DlH: a def keeps its promise, by its body. -/
namespace DL
open PySem L2
open PySem.Spec PyProof.Rows

section
variable {K : PySem.W.Frag} {cl : Str → Addr} {H : Hp}
theorem zipT_rev {F : Addr → Prop} {α : List Addr} : ∀ {ds : List D} {vs : List V} {T : List (D × V)}, ds.length = vs.length → (∀ q ∈ zipT ds vs T, Rep K cl H F α q.1 q.2) → RepL K cl H F α ds vs
  | ds, vs, T, hl, h => SIx.repL (s := ⟨[], []⟩) hl fun i d v h1 h2 => h (d, v) (zipT_mem h1 h2)
/-- the state at a def's entry -/
theorem start_SI {F : Addr → Prop} {β : List Addr} {m : List C} {ds : List D} {vs : List V} {N : List Str} (hl : ds.length = vs.length) (J : SIx K cl ⟨H, β, F⟩ H [] ⟨[], m.map some⟩ (zipT ds vs []) F β) :
    SI K cl ⟨H, β, F⟩ H (start N vs) ⟨ds.map some ++ List.replicate (N.length - ds.length) none, m.map some⟩ [] := by
  have rl := zipT_rev hl J.tmp
  refine ⟨F, β, { J with env := fun i d e => ?_, el := ?_, tmp := fun q hq => by simp at hq }⟩
  · have e : (ds.map some ++ List.replicate (N.length - ds.length) none)[i]? = some (some d) := e
    have hi : i < ds.length := by
      by_cases hi : i < ds.length
      · exact hi
      · rw [List.getElem?_append_right (by simpa using hi), List.getElem?_replicate] at e
        split at e <;> cases e
    rw [List.getElem?_append_left (by simpa using hi), List.getElem?_map] at e
    obtain ⟨d', h1, h2⟩ := Option.map_eq_some_iff.mp e
    cases h2
    obtain ⟨v, h3, h4⟩ := rl.get h1
    refine ⟨v, ?_, h4⟩
    unfold L2.start
    rw [List.getElem?_append_left (by rw [List.length_map, ← hl]; exact hi), List.getElem?_map, h3]
    rfl
  · show (ds.map some ++ List.replicate (N.length - ds.length) none).length = (start N vs).length
    unfold L2.start
    rw [List.length_append, List.length_append, List.length_map, List.length_map, List.length_replicate, List.length_replicate, hl]
theorem okM_iff {n : Nat} {s : S} (h : okM n s = true) : n ≤ s.M.length ∧ cNp (s.M.take n) = true := by
  simpa only [okM, Bool.and_eq_true, decide_eq_true_eq] using h
/-- what the caller wants, as the body's end wants it -/
theorem body_want {W : XK} {F : Addr → Prop} {β : List Addr} {n : Nat} {o : Out Fl} {Q : VK} (hβ : β.length = n) (w : Want K cl (fun cls dx _ H' => W cls dx H') ⟨H, β, F⟩ [] [] (match fin n o with
    | .fail => .fail
    | .ok d s => .ok d ⟨[], s.M⟩
    | .exc n fs s => .exc n fs ⟨[], s.M⟩) Q) : WantS K cl (fun cls dx _ H' => W cls dx H') ⟨H, β, F⟩ [] o { nx := fun _ H' => Q .non H', rt := Q } := by
  cases o with
  | fail => exact w
  | exc c fs s =>
    simp only [fin] at w
    cases hc : (npF fs && okM n s) with
    | false => rw [hc] at w; exact w.elim
    | true =>
      rw [hc] at w
      obtain ⟨h1, h2⟩ := Bool.and_eq_true_iff.mp hc
      obtain ⟨h3, h4⟩ := okM_iff h2
      intro dx σ H' hdx I
      obtain ⟨G, α, J⟩ := I
      refine w dx H' hdx (SIx.leave J h3 (by rw [hβ]; exact Nat.le_refl _) (fun F' hF _ q hq => ?_) h4)
      rw [List.append_nil] at hq
      have hq' := J.tmp q (List.mem_append_left _ hq)
      cases dx with
      | none => simp [xt] at hq
      | some a =>
        have e : q = (.xd fs, .ref a) := List.mem_singleton.mp hq
        subst e
        have hn : np (.xd fs) = true := by simp only [np]; exact h1
        exact ⟨hq'.np hF hn, hn⟩
  | ok r s =>
    cases r with
    | brk => exact w.elim
    | ct => exact w.elim
    | nx =>
      simp only [fin] at w
      cases hc : okM n s with
      | false => rw [hc] at w; exact w.elim
      | true =>
        rw [hc] at w
        obtain ⟨h3, h4⟩ := okM_iff hc
        intro σ H' I
        obtain ⟨G, α, J⟩ := I
        refine w .non H' (SIx.leave J h3 (by rw [hβ]; exact Nat.le_refl _) (fun F' hF _ q hq => ?_) h4)
        rw [List.mem_singleton.mp hq]
        exact ⟨.non, rfl⟩
    | ret d =>
      simp only [fin] at w
      cases ho : outD n s d with
      | none => rw [ho] at w; exact w.elim
      | some d' =>
        rw [ho] at w
        dsimp only at w
        cases hc : okM n s with
        | false => rw [hc] at w; exact w.elim
        | true =>
          rw [hc] at w
          obtain ⟨h3, h4⟩ := okM_iff hc
          intro v σ H' I
          obtain ⟨G, α, J⟩ := I
          refine w v H' (SIx.leave J h3 (by rw [hβ]; exact Nat.le_refl _) (fun F' hF hcell q hq => ?_) h4)
          rw [List.mem_singleton.mp hq]
          have r := J.tmp (d, v) (List.mem_cons_self ..)
          rcases ptr_or d with ⟨k, rfl⟩ | hd
          · cases r with
            | ptr ha =>
              rename_i a
              simp only [outD] at ho
              by_cases hk : n ≤ k
              · rw [if_pos hk] at ho
                cases e : s.M[k]? with
                | none => rw [e] at ho; cases ho
                | some z =>
                  cases z with
                  | none => rw [e] at ho; cases ho
                  | some x =>
                    rw [e] at ho
                    dsimp only at ho
                    cases hx : x.np with
                    | false => rw [hx] at ho; cases ho
                    | true =>
                      rw [hx] at ho
                      cases ho
                      obtain ⟨rc, _⟩ := J.cel k x a e ha
                      refine ⟨(rc.np hF hx).rep (hcell k x a hk e ha), ?_⟩
                      cases x <;> exact hx
              · rw [if_neg hk] at ho; cases ho
          · have ho' : (if np d then some d else none) = some d' := by
              cases d <;> first | exact ho | exact absurd rfl (hd _)
            cases hn : np d with
            | false => rw [hn] at ho'; cases ho'
            | true =>
              rw [hn] at ho'
              cases ho'
              exact ⟨r.np hF hn, hn⟩
end
section
variable {P : Program} {w : World} {K : PySem.W.Frag} {mg : Str → Option Value} {base : Heap} {cl : Str → Addr}
theorem guards_deeper {A : Around} {env : Env} (h : A.guards = some []) : (A.deeper env).guards = some [] := h
/-- THE RULE -/
theorem fn_G {k : Nat} {f : Addr} {x qual : Str} {params : Arguments} {body : List Stmt} {scope : Scope} {dvs : List V} {kws : List (Str × V)} {fd : FuncData} {N ps : List Str} {g : M Fl} (F : FunD K x qual params body scope dvs kws f fd) (S : FnScope N ps scope)
    (hbody : ∀ (cdv : Value) (A : Around) (outer : List Env) (s : Shared) (H : Hp) (E : XK), Cok (cxOf (L2.CX P w) P w K mg base N qual scope f cdv A outer s H E) (fun cls dx _ H' => E cls dx H') k →
      DSs (cxOf (L2.CX P w) P w K mg base N qual scope f cdv A outer s H E) cl (fun cls dx _ H' => E cls dx H') body g) : FnG P w K mg base cl (k + 1) f fd ps (run N.length g) := by
  obtain ⟨oc, od, dV, kV, doc, pm, an, cdv, ct, osl, rfl, lk, hcd, _, _⟩ := F.ex
  refine ⟨fun A outer s H args us vs Q E hr hgd e0 hb r hl hsp => ?_⟩
  have KX : K.In s.heap := e0.mod.kin.keeps fun b o e => (e0.bs b o e).1
  have lim : s.heap.NoLimit := e0.mod.nolimit.keeps fun b o e => (e0.bs b o e).1
  have hkind : ∀ y ∈ ps.zip us, scope.names.lookup y.1 = some .local ∨ (scope.names.lookup y.1 = some .cell ∧ ((cellsFrom (s.heap.objs.size + 1) scope.names []).lookup y.1).isSome = true) := fun ⟨n, v⟩ hy =>
    (S.par n (List.of_mem_zip hy).1).elim .inl fun q => .inr ⟨q, PySem.W.cellsFrom_some _ _ _ (.inl q)⟩
  refine codeAny_call_function hr.depth (KX _ _ lk) rfl S.co S.gen rfl (PySem.W.codeRec_of KX hcd) (hb _ _ _ _ ?_)
  refine wpAny_newFunctionEnv_cells S.kind hkind fun env he s1 z => ?_
  subst he
  refine ⟨lim.keeps z.toInCall.keep, codeAny_func ?_⟩
  have cok : Cok (cxOf (L2.CX P w) P w K mg base N qual scope f cdv A outer s H E) (fun cls dx _ H' => E cls dx H') k :=
    ⟨takes_of rfl rfl rfl rfl, passes_of (X := cxOf (L2.CX P w) P w K mg base N qual scope f cdv A outer s H E) (K := fun e s'' => L2.CX P w outer H s E e s'') rfl, S.nd, rfl, hr.deeper _, guards_deeper hgd⟩
  obtain ⟨ts, pt, hq⟩ := hbody cdv A outer s H E cok
  have I : Inv (cxOf (L2.CX P w) P w K mg base N qual scope f cdv A outer s H E) [] (start N vs) H s1 := inv_start S hr.hd e0 hl r z
  obtain ⟨G, β, m, ds, hdl, J, wn⟩ := hsp
  have hβ : β.length = m.length := by
    have := J.len
    rw [this]; show (m.map some).length = m.length
    rw [List.length_map]
  have start_want := body_want hβ wn
  have main := hq ⟨H, β, G⟩ (start N vs) _ [] H { nx := fun _ H' => Q .non H', rt := Q } (start_SI hdl J) start_want
  refine wpAny_mono (pt.run [] s1 (start N vs) H _ I main) (fun fl s' hs => ?_) fun e s' hs => hs
  have ends : ∀ {σ' : L2.St} {H' : Hp} {v : V} {u : Value}, Inv (cxOf (L2.CX P w) P w K mg base N qual scope f cdv A outer s H E) [] σ' H' s' → RelV v u → Q v H' → CE outer P w H s Q u s' :=
    fun {σ' H' v u} J rv q => ⟨v, H', J.os, J.bare, J.base, J.hok, rv, q⟩
  cases fl with
  | ret u =>
    obtain ⟨v, σ', H', J, rv, q⟩ := hs
    exact ends J rv q
  | next =>
    obtain ⟨σ', H', J, q⟩ := hs
    exact ends (v := V.non) (u := Value.none) J rfl q
  | brk => exact hs.elim fun _ h => h.elim fun _ h => h.2.elim
  | cont => exact hs.elim fun _ h => h.elim fun _ h => h.2.elim
end
end DL

/-! DlI: what is walked; for, while, comprehensions. -/
namespace DL
open PySem L2
open PySem.Spec PyProof.Rows

section
variable {K : PySem.W.Frag} {cl : Str → Addr} {c : Cz} {H H' : Hp} {σ σ' : L2.St} {s s' : S} {T T' : List (D × V)} {F : Addr → Prop} {α : List Addr}
/-- a run within the run -/
theorem SIx.nest (I : SIx K cl c H σ s T F α) : SIx K cl ⟨H, α, F⟩ H σ s T F α :=
  { I with inα := fun a ha => .inl ha, inF := fun b hb => .inr (.inl hb), pre := fun _ _ e => e, keep := fun b o e _ => e, tups := fun _ _ e => e, frzs := fun _ _ _ e => e }
theorem SIx.unnest {F' : Addr → Prop} {α' : List Addr} (I : SIx K cl c H σ s T F α) (J : SIx K cl ⟨H, α, F⟩ H' σ' s' T' F' α') : SIx K cl c H' σ' s' T' F' α' := by
  have c0 : ∀ b, H b = none → b ∈ c.β ∨ c.H0 b = none := fun b hb => by
    cases q : c.H0 b with
    | none => exact .inr rfl
    | some u =>
      by_cases hm : b ∈ c.β
      · exact .inl hm
      · have := I.keep b u q hm
        rw [hb] at this; cases this
  refine { J with inα := fun a ha => ?_, inF := fun b hb => ?_, pre := fun k a e => J.pre k a (I.pre k a e), keep := fun b o e hb => J.keep b o (I.keep b o e hb) fun hm => ?_, tups := fun b xs e => J.tups b xs (I.tups b xs e), frzs := fun b o u e => J.frzs b o u (I.frzs b o u e) }
  · rcases J.inα a ha with z | z
    · exact I.inα a z
    · exact c0 a z
  · rcases J.inF b hb with z | z | z
    · rcases I.inα b z with w | w
      · exact .inl w
      · exact .inr (.inr w)
    · exact I.inF b z
    · rcases c0 b z with w | w
      · exact .inl w
      · exact .inr (.inr w)
  · rcases I.inα b hm with z | z
    · exact hb z
    · rw [z] at e; cases e
/-- the frame's names, kept aside -/
def pairs : List (Option D) → List (Option V) → List (D × V)
  | some d :: ds, some v :: vs => (d, v) :: pairs ds vs
  | _ :: ds, _ :: vs => pairs ds vs
  | _, _ => []
theorem pairs_mem : ∀ {ds : List (Option D)} {vs : List (Option V)} {i : Nat} {d : D} {v : V}, ds[i]? = some (some d) → vs[i]? = some (some v) → (d, v) ∈ pairs ds vs
  | [], _, i, d, v, h, _ => by simp at h
  | _ :: _, [], i, d, v, _, h => by simp at h
  | e :: ds, u :: vs, 0, d, v, h1, h2 => by
    simp at h1 h2; subst h1 h2
    exact List.mem_cons_self ..
  | none :: ds, u :: vs, i + 1, d, v, h1, h2 => by cases u <;> exact pairs_mem (ds := ds) (vs := vs) (by simpa using h1) (by simpa using h2)
  | some e :: ds, none :: vs, i + 1, d, v, h1, h2 => pairs_mem (ds := ds) (vs := vs) (by simpa using h1) (by simpa using h2)
  | some e :: ds, some u :: vs, i + 1, d, v, h1, h2 => List.mem_cons_of_mem _ (pairs_mem (ds := ds) (vs := vs) (by simpa using h1) (by simpa using h2))
theorem pairs_of : ∀ {ds : List (Option D)} {vs : List (Option V)} {q : D × V}, q ∈ pairs ds vs → ∃ i : Nat, ds[i]? = some (some q.1) ∧ vs[i]? = some (some q.2)
  | [], vs, q, h => by cases vs <;> simp [pairs] at h
  | e :: ds, [], q, h => by cases e <;> simp [pairs] at h
  | none :: ds, u :: vs, q, h => by
    have h' : q ∈ pairs ds vs := by cases u <;> exact h
    obtain ⟨i, h1, h2⟩ := pairs_of h'
    exact ⟨i + 1, by simpa using h1, by simpa using h2⟩
  | some e :: ds, none :: vs, q, h => by
    obtain ⟨i, h1, h2⟩ := pairs_of (ds := ds) (vs := vs) h
    exact ⟨i + 1, by simpa using h1, by simpa using h2⟩
  | some e :: ds, some u :: vs, q, h => by
    rcases List.mem_cons.mp h with rfl | h
    · exact ⟨0, rfl, rfl⟩
    · obtain ⟨i, h1, h2⟩ := pairs_of (ds := ds) (vs := vs) h
      exact ⟨i + 1, by simpa using h1, by simpa using h2⟩
theorem SIx.temps (I : SIx K cl c H σ s T F α) (h : ∀ q ∈ T', Rep K cl H F α q.1 q.2) : SIx K cl c H σ s T' F α := { I with tmp := h }
theorem SIx.save (I : SIx K cl c H σ s T F α) : SIx K cl c H σ s (pairs s.env σ ++ T) F α := by
  refine I.temps fun q hq => ?_
  rcases List.mem_append.mp hq with hq | hq
  · obtain ⟨i, h1, h2⟩ := pairs_of hq
    obtain ⟨v, h3, h4⟩ := I.env i q.1 h1
    rw [h2] at h3; cases h3
    exact h4
  · exact I.tmp q hq
/-- .. and taken up again: any frame whose names stand among the temps -/
theorem SIx.load {σ0 : L2.St} {env : List (Option D)} (I : SIx K cl c H σ s T F α) (hl : env.length = σ0.length) (h : ∀ (i : Nat) (d : D), env[i]? = some (some d) → ∃ v, σ0[i]? = some (some v) ∧ (d, v) ∈ T) : SIx K cl c H σ0 { s with env := env } T F α := by
  have he : ∀ (i : Nat) (d : D), env[i]? = some (some d) → ∃ v, σ0[i]? = some (some v) ∧ Rep K cl H F α d v := fun i d e => by
    obtain ⟨v, h1, h2⟩ := h i d e
    exact ⟨v, h1, I.tmp (d, v) h2⟩
  exact { I with env := he, el := hl }
end

/-! ### what is walked -/
/-- the iterator J hands out the items of the datum d, read through the cells; P: what it leans on -/
def Drv (K : PySem.W.Frag) (cl : Str → Addr) (J : It) (P : List (D × V)) (its : D → Option (List D)) (d : D) : Prop :=
  ∀ c H σ s T i ds, SI K cl c H σ s (P ++ T) → its (view s.M d) = some ds →
    (∀ e, ds[i]? = some e → J.go i H ∧ ∀ x H', J.yld i H x H' → SI K cl c H' σ s ((e, x) :: (P ++ T))) ∧ (ds.length ≤ i → J.stop i H)
def WantI (K : PySem.W.Frag) (cl : Str → Addr) (W : WX) (its : D → Option (List D)) (c : Cz) (σ : L2.St) (T : List (D × V)) (o : Out D) (R : It → Hp → Prop) : Prop := match o with
  | .fail => False
  | .ok d s => ∀ H J P, SI K cl c H σ s (P ++ T) → Drv K cl J P its d → R J H
  | .exc n fs s => ∀ dx H, (dx = none → fs = []) → SI K cl c H σ s (xt fs dx ++ T) → W (.ref (cl n)) dx σ H
/-- the iterable: f evaluates it; ok says that what came is walked by this rule -/
structure DI (X : Cx) (cl : Str → Addr) (W : WX) (tg iter : Expr) (f : M D) (its : D → Option (List D)) : Prop where
  ex : ∃ wi, PI X tg iter wi ∧ ∀ c σ s T H R, SI X.K cl c H σ s T → WantI X.K cl W its c σ T (f s) R → (∀ d s', f s = .ok d s' → (its (view s'.M d)).isSome = true) → wi σ H R
theorem PI.or {X : Cx} {tg iter : Expr} {w1 w2 : TI} (h1 : PI X tg iter w1) (h2 : PI X tg iter w2) : PI X tg iter (fun σ H R => w1 σ H R ∨ w2 σ H R) :=
  ⟨fun pins s σ H R I h => h.elim (h1.run pins s σ H R I) (h2.run pins s σ H R I)⟩
/-- a sequence's items, a text's signs -/
def itSeq : D → Option (List D)
  | .str z => some (z.cps.toList.map fun c => .str ⟨#[c]⟩)
  | d => seqD d
section
variable {X : Cx} {cl : Str → Addr} {W : WX} {tg : Expr}
theorem WantI.of {K : PySem.W.Frag} {its : D → Option (List D)} {c : Cz} {σ : L2.St} {T : List (D × V)} {o : Out D} {R : It → Hp → Prop} {Q : VK} (w : WantI K cl W its c σ T o R) (hk : ∀ d s, o = .ok d s → (∀ H J P, SI K cl c H σ s (P ++ T) → Drv K cl J P its d → R J H) → ∀ v H, SI K cl c H σ s ((d, v) :: T) → Q v H) : Want K cl W c σ T o Q := by
  cases o with
  | fail => exact w
  | ok d s => exact hk d s rfl w
  | exc n fs s => exact w
theorem view_tup {M : List (Option C)} {d : D} {xs : List D} (h : view M d = .tup xs) : d = .tup xs := by
  cases d with
  | ptr k =>
    exfalso
    cases e : M[k]? with
    | none => simp only [view, e] at h; cases h
    | some o =>
      cases o with
      | none => simp only [view, e] at h; cases h
      | some x => simp only [view, e] at h; cases x <;> cases h
  | _ => exact h
theorem view_str {M : List (Option C)} {d : D} {z : Str} (h : view M d = .str z) : d = .str z := by
  cases d with
  | ptr k =>
    exfalso
    cases e : M[k]? with
    | none => simp only [view, e] at h; cases h
    | some o =>
      cases o with
      | none => simp only [view, e] at h; cases h
      | some x => simp only [view, e] at h; cases x <;> cases h
  | _ => exact h
theorem Rep.seqL {K : PySem.W.Frag} {H : Hp} {F : Addr → Prop} {α : List Addr} {d : D} {v : V} {ds : List D} (r : Rep K cl H F α d v) (hd : ∀ xs, d ≠ .tup xs) (e : seqD d = some ds) : ∃ a vs, v = .ref a ∧ SqL K H a vs ∧ RepL K cl H F α ds vs := by
  obtain ⟨a, vs, h1, h2, h3⟩ := r.seq e
  rcases h2 with h2 | h2
  · exact ⟨a, vs, h1, h2, h3⟩
  · cases r with
    | tup _ _ => exact absurd rfl (hd _)
    | lst h _ r => simp [seqD] at e; subst e; exact ⟨_, _, rfl, SqL.of h, r⟩
    | slst h _ r => simp [seqD] at e; subst e; exact ⟨_, _, rfl, .inl h, r⟩
    | slstK h r => simp [seqD] at e; subst e; exact ⟨_, _, rfl, h H, r⟩
    | _ => simp [seqD] at e
theorem SIx.vSeqL {K : PySem.W.Frag} {c : Cz} {H : Hp} {σ : L2.St} {s : S} {T : List (D × V)} {F : Addr → Prop} {α : List Addr} {d : D} {v : V} {ds : List D} (h : SIx K cl c H σ s T F α) (r : Rep K cl H F α d v) (hd : ∀ xs, d ≠ .tup xs) (e : seqD (DL.view s.M d) = some ds) : ∃ a vs, v = .ref a ∧ SqL K H a vs ∧ RepL K cl H F α ds vs := by
  rcases h.view r with r | ⟨k, x, a, _, rfl, _, _, e2, rc⟩
  · exact r.seqL (fun xs q => hd xs (view_tup q)) e
  · rw [e2] at e
    cases x <;> simp [C.dat, seqD] at e <;> subst e
    obtain ⟨vs, h1, h2⟩ := rc
    exact ⟨a, vs, rfl, SqL.of h1, h2⟩
theorem itSeq_seq {d : D} {ds : List D} (hs : ∀ z, d ≠ .str z) (h : itSeq d = some ds) : seqD d = some ds := by
  cases d <;> first | exact h | exact absurd rfl (hs _)
theorem drv_list {K : PySem.W.Frag} {a : Addr} {d : D} (h1 : ∀ xs, d ≠ .tup xs) (h2 : ∀ z, d ≠ .str z) : Drv K cl (Itl K a) [(d, .ref a)] itSeq d := by
  intro c H σ s T i ds I e
  obtain ⟨F, α, J⟩ := id I
  have e' := itSeq_seq (fun z q => h2 z (view_str q)) e
  obtain ⟨b, vs, ev, hl, r⟩ := J.vSeqL (J.tmp (d, .ref a) (List.mem_append_left _ (List.mem_cons_self ..))) h1 e'
  cases ev
  refine ⟨fun g hg => ?_, fun hl' => ⟨vs, hl, by rw [← r.length]; exact hl'⟩⟩
  obtain ⟨x, h3, r3⟩ := r.get hg
  refine ⟨⟨vs, x, hl, h3⟩, fun y H'' hy => ?_⟩
  obtain ⟨rfl, hy⟩ := hy
  have := hy vs hl
  rw [h3] at this; cases this
  exact ⟨F, α, J.push r3⟩
theorem drv_tup {K : PySem.W.Frag} {a : Addr} {xs : List D} : Drv K cl (Itt K a) [(.tup xs, .ref a)] itSeq (.tup xs) := by
  intro c H σ s T i ds I e
  obtain ⟨F, α, J⟩ := id I
  have e' : ds = xs := (Option.some.inj (show some xs = some ds from e)).symm
  subst e'
  obtain ⟨b, vs, ev, hl, r⟩ := J.vTup (J.tmp (.tup ds, .ref a) (List.mem_append_left _ (List.mem_cons_self ..))) rfl
  cases ev
  refine ⟨fun g hg => ?_, fun hl' => ⟨vs, hl, by rw [← r.length]; exact hl'⟩⟩
  obtain ⟨x, h3, r3⟩ := r.get hg
  refine ⟨⟨vs, x, hl, h3⟩, fun y H'' hy => ?_⟩
  obtain ⟨rfl, hy⟩ := hy
  have := hy vs hl
  rw [h3] at this; cases this
  exact ⟨F, α, J.push r3⟩
theorem drv_str {K : PySem.W.Frag} {z : Str} {P : List (D × V)} : Drv K cl (Its z) P itSeq (.str z) := by
  intro c H σ s T i ds I e
  have e' : ds = z.cps.toList.map fun c => D.str ⟨#[c]⟩ := (Option.some.inj (show some _ = some ds from e)).symm
  subst e'
  refine ⟨fun g hg => ?_, fun hl => by rw [List.length_map, Array.length_toList] at hl; exact hl⟩
  rw [List.getElem?_map] at hg
  obtain ⟨cp, h1, rfl⟩ := Option.map_eq_some_iff.mp hg
  have h1' : z.cps[i]? = some cp := by rw [← Array.getElem?_toList]; exact h1
  refine ⟨(Array.getElem?_eq_some_iff.mp h1').1, fun x H'' hy => ?_⟩
  obtain ⟨rfl, cp', h2, rfl⟩ := hy
  rw [h1'] at h2; cases h2
  exact SI.flat rfl I
/-- over a list, a tuple, a text -/
theorem di_seq {iter : Expr} {f : M D} (h : DE X cl W iter f) : DI X cl W tg iter f itSeq := by
  obtain ⟨te, pe, q⟩ := h
  refine ⟨_, PI.or (pi_list pe) (PI.or (pi_tup pe) (pi_str pe)), fun c σ s T H R I w hs => ?_⟩
  cases hf : f s with
  | fail => rw [hf] at w; exact w.elim
  | exc n fs s1 => exact .inl (q c σ s T H _ I (by rw [hf] at w ⊢; exact w))
  | ok d s1 =>
    obtain ⟨ds, hds⟩ := Option.isSome_iff_exists.mp (hs d s1 hf)
    rw [hf] at w
    have w : ∀ H J P, SI X.K cl c H σ s1 (P ++ T) → Drv X.K cl J P itSeq d → R J H := w
    by_cases h2 : ∃ z, d = .str z
    · obtain ⟨z, rfl⟩ := h2
      refine .inr (.inr (q c σ s T H _ I ?_))
      rw [hf]
      intro v H1 I1
      have ev := rep_str I1
      subst ev
      exact ⟨z, rfl, w H1 _ [(.str z, .str z)] I1 drv_str⟩
    · by_cases h1 : ∃ xs, d = .tup xs
      · obtain ⟨xs, rfl⟩ := h1
        refine .inr (.inl (q c σ s T H _ I ?_))
        rw [hf]
        intro v H1 I1
        obtain ⟨F, α, J1⟩ := id I1
        obtain ⟨a, vs, ev, h1, rl⟩ := J1.vTup (J1.tmp (.tup xs, v) (List.mem_cons_self ..)) rfl
        have ev : v = .ref a := ev
        subst ev
        exact ⟨a, rfl, ⟨vs, h1⟩, w H1 _ [(.tup xs, .ref a)] I1 drv_tup⟩
      · have h2' : ∀ z, d ≠ .str z := fun z e => h2 ⟨z, e⟩
        have h1' : ∀ xs, d ≠ .tup xs := fun xs e => h1 ⟨xs, e⟩
        refine .inl (q c σ s T H _ I ?_)
        rw [hf]
        intro v H1 I1
        obtain ⟨F, α, J1⟩ := id I1
        obtain ⟨a, vs, ev, h1, rl⟩ := J1.vSeqL (J1.tmp (d, v) (List.mem_cons_self ..)) h1' (itSeq_seq (fun z e => h2' z (view_str e)) hds)
        have ev : v = .ref a := ev
        subst ev
        exact ⟨a, rfl, ⟨vs, h1⟩, w H1 _ [(d, .ref a)] I1 (drv_list h1' h2')⟩
/-- over range(n), range(a, b) -/
def itRng : D → Option (List D)
  | .tup [.int a, .int b] => some ((List.range (b - a).toNat).map fun i => .int (a + (i : Nat)))
  | _ => none
def rngOk (i : Int) : Bool := decide (-(2 ^ 62) ≤ i) && decide (i < 2 ^ 62)
def eRng1 (f : M (List D)) : M D := fun s => (f s).bind fun ds s => match ds with
  | [.int n] => if rngOk n then .ok (.tup [.int 0, .int n]) s else .fail
  | _ => .fail
def eRng2 (f : M (List D)) : M D := fun s => (f s).bind fun ds s => match ds with
  | [.int a, .int b] => if rngOk a && rngOk b then .ok (.tup [.int a, .int b]) s else .fail
  | _ => .fail
theorem drv_rng {K : PySem.W.Frag} {a b : Int} {n : Nat} (hn : n = (b - a).toNat) : Drv K cl (Itr a n) [] itRng (.tup [.int a, .int b]) := by
  intro c H σ s T i ds I e
  have e' : ds = (List.range (b - a).toNat).map fun i => D.int (a + (i : Nat)) := (Option.some.inj (show some _ = some ds from e)).symm
  subst e' hn
  refine ⟨fun g hg => ?_, fun hl => by rw [List.length_map, List.length_range] at hl; exact hl⟩
  rw [List.getElem?_map] at hg
  obtain ⟨j, h1, rfl⟩ := Option.map_eq_some_iff.mp hg
  obtain ⟨h2, h3⟩ := List.getElem?_eq_some_iff.mp h1
  rw [List.getElem_range] at h3
  subst h3
  refine ⟨by rw [List.length_range] at h2; exact h2, fun x H'' hy => ?_⟩
  obtain ⟨rfl, rfl⟩ := hy
  exact SI.flat rfl I
theorem WantI.bindA {K : PySem.W.Frag} {its : D → Option (List D)} {c : Cz} {σ : L2.St} {T : List (D × V)} {o : Out (List D)} {k : List D → S → Out D} {R : It → Hp → Prop} {Q : List V → Hp → Prop} (h : WantI K cl W its c σ T (o.bind k) R)
    (hk : ∀ ds s, o = .ok ds s → WantI K cl W its c σ T (k ds s) R → ∀ vs H, ds.length = vs.length → SI K cl c H σ s (zipT ds vs T) → Q vs H) : WantA K cl W c σ T o Q := by
  cases o with
  | fail => exact h
  | ok d s => exact hk d s rfl h
  | exc n fs s => exact h
theorem di_rng1 {a : Expr} {f : M (List D)} {p pos : Pos} (h : DA X cl W [a] f) (hm : X.mg "range" = none) (hg : Gl X "range" := by rfl) (hs : starEach [a] X.env = [(false, eval a X.env)] := by rfl) : DI X cl W tg (.Call (.Name "range" p) [a] [] pos) (eRng1 f) itRng := by
  obtain ⟨te, pe, q⟩ := h
  refine ⟨_, pi_range1 hg hm pe hs, fun c σ s T H R I w hsm => ?_⟩
  refine q c σ s T H _ I (w.bindA fun ds s1 hfs w1 vs H1 hl I1 => ?_)
  split at w1
  · rename_i n
    cases hc : rngOk n with
    | false => rw [hc] at w1; exact w1.elim
    | true =>
      rw [hc] at w1
      simp only [rngOk, Bool.and_eq_true, decide_eq_true_eq] at hc
      have w1 : ∀ H J P, SI X.K cl c H σ s1 (P ++ T) → Drv X.K cl J P itRng (.tup [.int 0, .int n]) → R J H := w1
      cases vs with
      | nil => simp at hl
      | cons v vs =>
        cases vs with
        | cons _ _ => simp at hl
        | nil =>
          have ev := rep_int (show SI X.K cl c H1 σ s1 ((.int n, v) :: T) from I1)
          subst ev
          exact ⟨n, rfl, hc.1, hc.2, w1 H1 _ [] (SI.pop (p := (.int n, .int n)) I1) (drv_rng (by simp))⟩
  · exact w1.elim
theorem di_rng2 {a b : Expr} {f : M (List D)} {p pos : Pos} (h : DA X cl W [a, b] f) (hm : X.mg "range" = none) (hg : Gl X "range" := by rfl) (hs : starEach [a, b] X.env = [(false, eval a X.env), (false, eval b X.env)] := by rfl) (hs2 : starEach [b] X.env = [(false, eval b X.env)] := by rfl) : DI X cl W tg (.Call (.Name "range" p) [a, b] [] pos) (eRng2 f) itRng := by
  obtain ⟨te, pe, q⟩ := h
  refine ⟨_, pi_range2 hg hm pe hs hs2, fun c σ s T H R I w hsm => ?_⟩
  refine q c σ s T H _ I (w.bindA fun ds s1 hfs w1 vs H1 hl I1 => ?_)
  split at w1
  · rename_i a b
    cases hc : (rngOk a && rngOk b) with
    | false => rw [hc] at w1; exact w1.elim
    | true =>
      rw [hc] at w1
      simp only [rngOk, Bool.and_eq_true, decide_eq_true_eq] at hc
      have w1 : ∀ H J P, SI X.K cl c H σ s1 (P ++ T) → Drv X.K cl J P itRng (.tup [.int a, .int b]) → R J H := w1
      match vs, hl with
      | [u, v], _ =>
        have I2 : SI X.K cl c H1 σ s1 ((.int b, v) :: (.int a, u) :: T) := I1
        have e1 := rep_int I2
        have e2 := rep_int I2.pop
        subst e1 e2
        exact ⟨a, b, rfl, ⟨hc.1.1, hc.1.2, hc.2.1, hc.2.2⟩, w1 H1 _ [] I2.pop.pop (drv_rng rfl)⟩
  · exact w1.elim
end
end DL

/-! DlJ: targets; for, while; comprehensions. -/
namespace DL
open PySem L2
open PySem.Spec PyProof.Rows

/-! ### targets -/
structure DG (X : Cx) (cl : Str → Addr) (tg : Expr) (is : List Nat) (g : D → S → Option S) : Prop where
  ex : ∃ t, PG X tg t ∧ ∀ c σ s T H d v Q s', SI X.K cl c H σ s ((d, v) :: T) → g d s = some s' → (∀ σ', (∀ vs : List Nat, (∀ i ∈ is, i ∈ vs) → wipe σ' vs = wipe σ vs) → SI X.K cl c H σ' s' T → Q σ' H) → t v σ H Q
structure DGs (X : Cx) (cl : Str → Addr) (tgs : List Expr) (n : Nat) (is : List Nat) (g : List D → S → Option S) : Prop where
  len : ∀ ds s s', g ds s = some s' → ds.length = n
  ex : ∃ t, PGs X tgs t ∧ ∀ c σ s T H ds vs Q s', (∃ F α, SIx X.K cl c H σ s T F α ∧ RepL X.K cl H F α ds vs) → g ds s = some s' → (∀ σ', (∀ vs : List Nat, (∀ i ∈ is, i ∈ vs) → wipe σ' vs = wipe σ vs) → SI X.K cl c H σ' s' T → Q σ' H) → t vs σ H Q
def gVar (i : Nat) (d : D) (s : S) : Option S := if i < s.env.length then some { s with env := s.env.set i (some d) } else none
def gNone : List D → S → Option S
  | [], s => some s
  | _, _ => none
def gMore (g : D → S → Option S) (h : List D → S → Option S) : List D → S → Option S
  | d :: ds, s => (g d s).bind (h ds)
  | [], _ => none
def gTupD (g : List D → S → Option S) : D → S → Option S
  | .tup ds, s => g ds s
  | _, _ => none
theorem wipe_set {σ : L2.St} {i : Nat} {v : Option V} : ∀ {vs : List Nat}, i ∈ vs → wipe (σ.set i v) vs = wipe σ vs
  | [], h => by simp at h
  | j :: vs, h => by
    show (wipe (σ.set i v) vs).set j none = (wipe σ vs).set j none
    by_cases hv : i ∈ vs
    · rw [wipe_set hv]
    · have hj : i = j := (List.mem_cons.mp h).resolve_right hv
      subst hj
      have key : ∀ (ws : List Nat), i ∉ ws → wipe (σ.set i v) ws = (wipe σ ws).set i v := by
        intro ws
        induction ws with
        | nil => intro _; rfl
        | cons w ws ih =>
          intro hw
          show (wipe (σ.set i v) ws).set w none = ((wipe σ ws).set w none).set i v
          rw [ih fun q => hw (List.mem_cons_of_mem _ q), List.set_comm]
          exact fun q => hw (q ▸ List.mem_cons_self ..)
      rw [key vs hv, List.set_set]
section
variable {X : Cx} {cl : Str → Addr} {W : WX}
theorem dg_name {i : Nat} {x : Str} {pos : Pos} (hN : X.N.Nodup) (hi : X.N[i]? = some x) (hx : Loc X.env.scope x) (hf : X.fn x = true ∨ X.env.scope.names.lookup x = some .local := by first | exact .inl rfl | exact .inr rfl | assumption) : DG X cl (.Name x pos) [i] (gVar i) := by
  refine ⟨_, pg_name hN hi hx hf, fun c σ s T H d v Q s' I h k => ?_⟩
  unfold gVar at h
  by_cases hl : i < s.env.length
  · rw [if_pos hl] at h
    cases h
    exact k _ (fun vs hv => wipe_set (hv i (List.mem_cons_self ..))) (I.bind hl)
  · rw [if_neg hl] at h; cases h
theorem dgs_nil : DGs X cl [] 0 [] gNone := by
  refine ⟨fun ds s s' h => ?_, _, pgs_nil, fun c σ s T H ds vs Q s' ⟨F, α, I, r⟩ h k => ?_⟩
  · cases ds with
    | nil => rfl
    | cons _ _ => cases h
  cases r with
  | nil => cases h; exact ⟨rfl, k σ (fun _ _ => rfl) ⟨F, α, I⟩⟩
  | cons _ _ => cases h
theorem dgs_cons {e : Expr} {es : List Expr} {n : Nat} {is js : List Nat} {g : D → S → Option S} {h : List D → S → Option S} (h1 : DG X cl e is g) (h2 : DGs X cl es n js h) (hs : (assignEach (e :: es) X.env).map (·.2) = assign e X.env :: (assignEach es X.env).map (·.2) := by rfl) : DGs X cl (e :: es) (n + 1) (is ++ js) (gMore g h) := by
  obtain ⟨t, p, q⟩ := h1
  obtain ⟨hlen, t2, p2, q2⟩ := h2
  refine ⟨fun ds s s' hg => ?_, _, pgs_cons p p2 hs, fun c σ s T H ds vs Q s' ⟨F, α, I, r⟩ hg k => ?_⟩
  · cases ds with
    | nil => cases hg
    | cons d ds =>
      obtain ⟨s1, e1, e2⟩ := Option.bind_eq_some_iff.mp (show (g d s).bind (h ds) = some s' from hg)
      rw [List.length_cons, hlen _ _ _ e2]
  cases ds with
  | nil => cases hg
  | cons d ds =>
    cases vs with
    | nil => cases r
    | cons v vs =>
    cases r with
    | cons r1 r2 =>
    have hg' : (g d s).bind (h ds) = some s' := hg
    obtain ⟨s1, e1, e2⟩ := Option.bind_eq_some_iff.mp hg'
    refine ⟨v, vs, rfl, ?_⟩
    -- the rest's values are kept among the temps
    have I1 : SI X.K cl c H σ s ((d, v) :: zipT ds vs T) := by
      refine ⟨F, α, SIx.push ?_ r1⟩
      refine I.temps ?_
      have key : ∀ (ds : List D) (vs : List V), RepL X.K cl H F α ds vs → ∀ T : List (D × V), (∀ q ∈ T, Rep X.K cl H F α q.1 q.2) → ∀ q ∈ zipT ds vs T, Rep X.K cl H F α q.1 q.2 := by
        intro ds
        induction ds with
        | nil => intro vs r T h q hq; cases r; exact h q hq
        | cons d ds ih =>
          intro vs r T h q hq
          cases r with
          | cons r t => exact ih _ t _ (fun q hq => (List.mem_cons.mp hq).elim (fun e => by subst e; exact r) (h q)) q hq
      exact key ds vs r2 T I.tmp
    refine q c σ s _ H d v _ s1 I1 e1 fun σ1 hw I2 => ?_
    obtain ⟨F2, α2, J2⟩ := I2
    refine q2 c σ1 s1 T H ds vs Q s' ⟨F2, α2, J2.temps fun q hq => J2.tmp q (zipT_sub _ _ _ q hq), J2.args r2.length⟩ e2 fun σ2 hw2 I3 => ?_
    exact k σ2 (fun vs hv => (hw2 vs fun i hi => hv i (List.mem_append_right _ hi)).trans (hw vs fun i hi => hv i (List.mem_append_left _ hi))) I3
theorem dg_tup {es : List Expr} {k n : Nat} {pos : Pos} {is : List Nat} {g : List D → S → Option S} (hc : X.calm = true) (h : DGs X cl es n is g) (hn : (assignEach es X.env).length = n := by rfl) (hst : (assignEach es X.env).findIdx? (·.1) = none := by rfl) : DG X cl (.Tuple es k pos) is (gTupD g) := by
  obtain ⟨hlen, t, p, q⟩ := h
  refine ⟨_, pg_tup hc p hn hst, fun c σ s T H d v Q s' I hg kk => ?_⟩
  cases d with
  | tup ds =>
    obtain ⟨F, α, J⟩ := id I
    obtain ⟨a, vs, ev, h1, rl⟩ := J.vTup (J.tmp (.tup ds, v) (List.mem_cons_self ..)) rfl
    have ev : v = .ref a := ev
    have hg : g ds s = some s' := hg
    exact ⟨a, vs, ev, h1, by rw [← rl.length]; exact hlen _ _ _ hg, q c σ s T H ds vs Q s' ⟨F, α, J.temps fun q hq => J.tmp q (List.mem_cons_of_mem _ hq), rl⟩ hg kk⟩
  | _ => cases hg

/-! ### for -/
/-- the walked cell is as it was -/
noncomputable def chkP (d : D) (M0 M1 : List (Option C)) : Bool := match d with
  | .ptr k => @decide (M1[k]? = M0[k]?) (Classical.propDecidable _)
  | _ => true
theorem chkP_view {d : D} {M0 M1 : List (Option C)} (h : chkP d M0 M1 = true) : view M1 d = view M0 d := by
  cases d with
  | ptr k =>
    have e : M1[k]? = M0[k]? := @of_decide_eq_true _ (Classical.propDecidable _) h
    unfold view
    dsimp only
    rw [e]
  | _ => rfl
noncomputable def forL (d : D) (M0 : List (Option C)) (g : D → S → Option S) (body els : M Fl) : List D → S → Out Fl
  | [], s => els s
  | x :: r, s => match g x s with
    | none => .fail
    | some s1 => match body s1 with
      | .fail => .fail
      | .exc n fs s2 => .exc n fs s2
      | .ok (.ret e) s2 => .ok (.ret e) s2
      | .ok .brk s2 => .ok .nx s2
      | .ok .nx s2 => if chkP d M0 s2.M = true then forL d M0 g body els r s2 else .fail
      | .ok .ct s2 => if chkP d M0 s2.M = true then forL d M0 g body els r s2 else .fail
noncomputable def sFor (f : M D) (its : D → Option (List D)) (g : D → S → Option S) (body els : M Fl) : M Fl := fun s => (f s).bind fun d s => match its (view s.M d) with
  | none => .fail
  | some ds => forL d s.M g body els ds s
theorem WantS.deeper {K : PySem.W.Frag} {c : Cz} {T T' : List (D × V)} {o : Out Fl} {E : Ends} (h : WantS K cl W c T o E) (hs : ∀ p ∈ T, p ∈ T') : WantS K cl W c T' o E := by
  cases o with
  | fail => exact h
  | exc n fs s => exact fun dx σ H e i => h dx σ H e (i.xt hs)
  | ok r s =>
    cases r with
    | nx => exact fun σ H i => h σ H (i.sub hs)
    | brk => exact fun σ H i => h σ H (i.sub hs)
    | ct => exact fun σ H i => h σ H (i.sub hs)
    | ret d => exact fun v σ H i => h v σ H (i.sub fun q hq => (List.mem_cons.mp hq).elim (fun e => e ▸ List.mem_cons_self ..) fun z => List.mem_cons_of_mem _ (hs q z))
/-- the loop's heart, for both rules -/
theorem for_core {tg : Expr} {is : List Nat} {g : D → S → Option S} {body els : M Fl} {its : D → Option (List D)} {t : TG} {tb te : TS} {K : PySem.W.Frag} {c : Cz} {T : List (D × V)} {E : Ends}
    (qg : ∀ c σ s T H d v Q s', SI K cl c H σ s ((d, v) :: T) → g d s = some s' → (∀ σ', (∀ vs : List Nat, (∀ i ∈ is, i ∈ vs) → wipe σ' vs = wipe σ vs) → SI K cl c H σ' s' T → Q σ' H) → t v σ H Q)
    (qb : ∀ c σ s T H E, SI K cl c H σ s T → WantS K cl W c T (body s) E → tb E σ H) (qe : ∀ c σ s T H E, SI K cl c H σ s T → WantS K cl W c T (els s) E → te E σ H)
    {d : D} {ds : List D} {s : S} {σ : L2.St} {H : Hp} {J : It} {P : List (D × V)} (I : SI K cl c H σ s (P ++ T)) (dr : Drv K cl J P its d) (e : its (view s.M d) = some ds) (w : WantS K cl W c T (forL d s.M g body els ds s) E) :
    ∃ Wm : Nat → Nat → L2.St → Hp → Prop, (∃ m, Wm 0 m σ H) ∧ ∀ i m σ H, Wm i m σ H →
      (J.stop i H ∧ te E σ H) ∨ (J.go i H ∧ ∃ N : L2.St → Hp → Prop, (∀ σ' H', N σ' H' → ∃ m', m' < m ∧ Wm (i + 1) m' σ' H') ∧ ∀ x H', J.yld i H x H' → t x σ H' fun σ2 H2 => tb { E with nx := N, ct := N, bk := E.nx } σ2 H2) := by
  obtain ⟨M0, hM0⟩ : ∃ M0, M0 = s.M := ⟨_, rfl⟩
  rw [← hM0] at w e
  have e0 : view s.M d = view M0 d := by rw [hM0]
  refine ⟨fun i m σ H => m = ds.length - i ∧ i ≤ ds.length ∧ ∃ s, SI K cl c H σ s (P ++ T) ∧ view s.M d = view M0 d ∧ WantS K cl W c T (forL d M0 g body els (ds.drop i) s) E, ⟨_, rfl, Nat.zero_le _, s, I, e0, w⟩, ?_⟩
  rintro i m σ H ⟨rfl, hi, s, I, ev, w⟩
  have e1 : its (view s.M d) = some ds := by rw [ev]; exact e
  have d1 := dr c H σ s T i ds I e1
  by_cases hlt : i < ds.length
  · obtain ⟨hgo, hy⟩ := d1.1 _ (List.getElem?_eq_getElem hlt)
    refine .inr ⟨hgo, fun σ' H' => i + 1 ≤ ds.length ∧ ∃ s, SI K cl c H' σ' s (P ++ T) ∧ view s.M d = view M0 d ∧ WantS K cl W c T (forL d M0 g body els (ds.drop (i + 1)) s) E, fun σ' H' h => ⟨ds.length - (i + 1), by omega, rfl, h.1, h.2⟩, fun x H' hx => ?_⟩
    have I1 := hy x H' hx
    rw [List.drop_eq_getElem_cons hlt] at w
    unfold forL at w
    cases hg : g ds[i] s with
    | none => rw [hg] at w; exact w.elim
    | some s1 =>
      rw [hg] at w
      dsimp only at w
      refine qg c σ s (P ++ T) H' _ x _ s1 I1 hg fun σ2 _ I2 => ?_
      refine qb c σ2 s1 (P ++ T) H' _ I2 ?_
      cases hb : body s1 with
      | fail => rw [hb] at w; exact w
      | exc n fs s2 => rw [hb] at w; exact w.deeper fun p hp => List.mem_append_right _ hp
      | ok r s2 =>
        rw [hb] at w
        cases r with
        | ret e => exact WantS.deeper (o := .ok (.ret e) s2) w fun p hp => List.mem_append_right _ hp
        | brk => exact fun σ3 H3 I3 => w σ3 H3 I3.app
        | nx =>
          dsimp only at w
          by_cases hc : chkP d M0 s2.M = true
          · rw [if_pos hc] at w
            exact fun σ3 H3 I3 => ⟨hlt, s2, I3, chkP_view hc, w⟩
          · rw [if_neg hc] at w; exact w.elim
        | ct =>
          dsimp only at w
          by_cases hc : chkP d M0 s2.M = true
          · rw [if_pos hc] at w
            exact fun σ3 H3 I3 => ⟨hlt, s2, I3, chkP_view hc, w⟩
          · rw [if_neg hc] at w; exact w.elim
  · have hi' : i = ds.length := by omega
    subst hi'
    rw [List.drop_length] at w
    exact .inl ⟨d1.2 (Nat.le_refl _), qe c σ s T H E I.app w⟩
theorem WantS.toI {K : PySem.W.Frag} {its : D → Option (List D)} {c : Cz} {σ : L2.St} {T : List (D × V)} {o : Out D} {k : D → S → Out Fl} {E : Ends} {R : It → Hp → Prop} (h : WantS K cl W c T (o.bind k) E)
    (hk : ∀ d s, o = .ok d s → WantS K cl W c T (k d s) E → ∀ H J P, SI K cl c H σ s (P ++ T) → Drv K cl J P its d → R J H) : WantI K cl W its c σ T o R := by
  cases o with
  | fail => exact h
  | ok d s => exact hk d s rfl h
  | exc n fs s => exact fun dx H e I => h dx σ H e I
theorem ds_for {tg iter : Expr} {body : List Stmt} {pos : Pos} {f : M D} {its : D → Option (List D)} {is : List Nat} {g : D → S → Option S} {fb : M Fl} {k : Nat} (hk : Cok X W k) (hi : DI X cl W tg iter f its) (hg : DG X cl tg is g) (hb : DSs X cl W body fb)
    (hs : ∀ x, foldedSetIterable iter X.env x = pure x := by intro _; rfl) : DS X cl W (.For tg iter body [] pos) (sFor f its g fb sNx) := by
  obtain ⟨wi, pi, qi⟩ := hi
  obtain ⟨t, pg, qg⟩ := hg
  obtain ⟨tb, pb, qb⟩ := hb
  refine ⟨_, ps_for hk.po hk.calm pi pg pb hs, fun c σ s T H E I w => ?_⟩
  refine qi c σ s T H _ I (WantS.toI w fun d s1 hf w1 H1 J P I1 dr => ?_) fun d s1 hf => ?_
  · cases e : its (view s1.M d) with
    | none => rw [e] at w1; exact w1.elim
    | some ds =>
      rw [e] at w1
      exact for_core (tg := tg) (te := fun E σ H => E.nx σ H) qg qb (fun c σ s T H E I w => (show WantS X.K cl W c T (.ok .nx s) E from w) σ H I) I1 dr e w1
  · have w' : WantS X.K cl W c T ((f s).bind fun d s => match its (view s.M d) with
      | none => .fail
      | some ds => forL d s.M g fb sNx ds s) E := w
    rw [hf] at w'
    cases e : its (view s1.M d) with
    | none =>
      have w' : WantS X.K cl W c T (match its (view s1.M d) with
        | none => .fail
        | some ds => forL d s1.M g fb sNx ds s1) E := w'
      rw [e] at w'; exact w'.elim
    | some ds => rfl
theorem ds_forE {tg iter : Expr} {body orelse : List Stmt} {pos : Pos} {f : M D} {its : D → Option (List D)} {is : List Nat} {g : D → S → Option S} {fb fe : M Fl} {k : Nat} (hk : Cok X W k) (hi : DI X cl W tg iter f its) (hg : DG X cl tg is g) (hb : DSs X cl W body fb) (he : DSs X cl W orelse fe)
    (hs : ∀ x, foldedSetIterable iter X.env x = pure x := by intro _; rfl) : DS X cl W (.For tg iter body orelse pos) (sFor f its g fb fe) := by
  obtain ⟨wi, pi, qi⟩ := hi
  obtain ⟨t, pg, qg⟩ := hg
  obtain ⟨tb, pb, qb⟩ := hb
  obtain ⟨te, pe, qe⟩ := he
  refine ⟨_, ps_forE hk.po hk.calm pi pg pb pe hs, fun c σ s T H E I w => ?_⟩
  refine qi c σ s T H _ I (WantS.toI w fun d s1 hf w1 H1 J P I1 dr => ?_) fun d s1 hf => ?_
  · cases e : its (view s1.M d) with
    | none => rw [e] at w1; exact w1.elim
    | some ds =>
      rw [e] at w1
      exact for_core (tg := tg) qg qb qe I1 dr e w1
  · have w' : WantS X.K cl W c T ((f s).bind fun d s => match its (view s.M d) with
      | none => .fail
      | some ds => forL d s.M g fb fe ds s) E := w
    rw [hf] at w'
    cases e : its (view s1.M d) with
    | none =>
      have w' : WantS X.K cl W c T (match its (view s1.M d) with
        | none => .fail
        | some ds => forL d s1.M g fb fe ds s1) E := w'
      rw [e] at w'; exact w'.elim
    | some ds => rfl
/-! ### while -/
def whileL (t : M Bool) (body : M Fl) : Nat → S → Out Fl
  | 0, _ => .fail
  | n + 1, s => (t s).bind fun b s => if b = true then (match body s with
    | .fail => .fail
    | .exc n fs s2 => .exc n fs s2
    | .ok (.ret e) s2 => .ok (.ret e) s2
    | .ok .brk s2 => .ok .nx s2
    | .ok .nx s2 => whileL t body n s2
    | .ok .ct s2 => whileL t body n s2) else .ok .nx s
theorem ds_while {t : Expr} {body : List Stmt} {pos : Pos} {ft : M Bool} {fb : M Fl} {k : Nat} (n : Nat) (hk : Cok X W k) (ht : DT X cl W t ft) (hb : DSs X cl W body fb) : DS X cl W (.While t body [] pos) (whileL ft fb n) := by
  obtain ⟨tt, pt, qt⟩ := ht
  obtain ⟨tb, pb, qb⟩ := hb
  refine ⟨_, ps_while hk.po pt pb, fun c σ s T H E I w => ?_⟩
  refine ⟨fun m σ H => ∃ s, SI X.K cl c H σ s T ∧ WantS X.K cl W c T (whileL ft fb m s) E, ⟨n, s, I, w⟩, ?_⟩
  rintro m σ H ⟨s, I, w⟩
  cases m with
  | zero => exact w.elim
  | succ m =>
    unfold whileL at w
    refine qt c σ s T H _ I (w.bindB fun b s1 _ w1 H1 I1 => ?_)
    cases b with
    | false => exact iteF (w1 σ H1 I1)
    | true =>
      refine iteT ⟨fun σ' H' => ∃ s, SI X.K cl c H' σ' s T ∧ WantS X.K cl W c T (whileL ft fb m s) E, fun σ' H' h => ⟨m, Nat.lt_succ_self _, h⟩, ?_⟩
      refine qb c σ s1 T H1 _ I1 ?_
      rw [if_pos rfl] at w1
      cases hb : fb s1 with
      | fail => rw [hb] at w1; exact w1
      | exc n fs s2 => rw [hb] at w1; exact w1
      | ok r s2 =>
        rw [hb] at w1
        cases r with
        | ret e => exact w1
        | brk => exact fun σ3 H3 I3 => w1 σ3 H3 I3
        | nx => exact fun σ3 H3 I3 => ⟨s2, I3, w1⟩
        | ct => exact fun σ3 H3 I3 => ⟨s2, I3, w1⟩
end
end DL

/-! DlK: list comprehensions. -/
namespace DL
open PySem L2
open PySem.Spec PyProof.Rows

/-! ### the reading that a meaning has -/
def uE (K : PySem.W.Frag) (cl : Str → Addr) (W : WX) (f : M D) : TE := fun σ H Q => ∃ c s T, SI K cl c H σ s T ∧ Want K cl W c σ T (f s) Q
def uT (K : PySem.W.Frag) (cl : Str → Addr) (W : WX) (f : M Bool) : TT := fun σ H Q => ∃ c s T, SI K cl c H σ s T ∧ WantB K cl W c σ T (f s) Q
def uG (K : PySem.W.Frag) (cl : Str → Addr) (is : List Nat) (g : D → S → Option S) : TG := fun v σ H Q => ∃ c s T d s', SI K cl c H σ s ((d, v) :: T) ∧ g d s = some s' ∧ ∀ σ', (∀ vs : List Nat, (∀ i ∈ is, i ∈ vs) → wipe σ' vs = wipe σ vs) → SI K cl c H σ' s' T → Q σ' H
section
variable {X : Cx} {cl : Str → Addr} {W : WX}
theorem DE.pe {e : Expr} {f : M D} (h : DE X cl W e f) : PE X e (uE X.K cl W f) := by
  obtain ⟨te, p, q⟩ := h
  exact ⟨fun pins s σ H Q I ⟨c, s0, T, J, w⟩ => p.run pins s σ H Q I (q c σ s0 T H Q J w)⟩
theorem DT.pt {e : Expr} {f : M Bool} (h : DT X cl W e f) : PT X e (uT X.K cl W f) := by
  obtain ⟨te, p, q⟩ := h
  exact ⟨fun pins s σ H Q I ⟨c, s0, T, J, w⟩ => p.run pins s σ H Q I (q c σ s0 T H Q J w)⟩
theorem DG.pg {e : Expr} {is : List Nat} {g : D → S → Option S} (h : DG X cl e is g) : PG X e (uG X.K cl is g) := by
  obtain ⟨t, p, q⟩ := h
  exact ⟨fun pins s σ H v u Q I r ⟨c, s0, T, d, s', J, hg, k⟩ => p.run pins s σ H v u Q I r (q c σ s0 T H d v Q s' J hg k)⟩
structure DTs (X : Cx) (cl : Str → Addr) (W : WX) (ifs : List Expr) (f : M Bool) : Prop where
  pts : PTs X ifs (uT X.K cl W f)
def tYesM : M Bool := fun s => .ok true s
theorem dts_nil : DTs X cl W [] tYesM := ⟨⟨fun pins s σ H Q I ⟨c, s0, T, J, w⟩ => pts_nil.run pins s σ H Q I ((show WantB X.K cl W c σ T (.ok true s0) Q from w) H J)⟩⟩
theorem dts_one {e : Expr} {f : M Bool} (h : DT X cl W e f) : DTs X cl W [e] f := ⟨pts_one h.pt⟩
end

section
variable {K : PySem.W.Frag} {cl : Str → Addr} {c : Cz} {H H' : Hp} {σ σ' : L2.St} {s s' : S} {T T' : List (D × V)} {F F' : Addr → Prop} {α α' : List Addr}
/-- an address beside the state: tracked, no cell, not frozen -/
structure Side (c : Cz) (H : Hp) (F : Addr → Prop) (α : List Addr) (a : Addr) (vs : List V) : Prop where
  at_ : H a = some (.lst vs)
  nα : a ∉ α
  nF : ¬ F a
  old : a ∈ c.β ∨ c.H0 a = none
theorem SIx.c0 (I : SIx K cl c H σ s T F α) {b : Addr} (hb : H b = none) : b ∈ c.β ∨ c.H0 b = none := by
  cases q : c.H0 b with
  | none => exact .inr rfl
  | some u =>
    by_cases hm : b ∈ c.β
    · exact .inl hm
    · have := I.keep b u q hm
      rw [hb] at this; cases this
/-- the heap changes at an address that the state does not know -/
theorem SIx.beside {a : Addr} {o : HO} (I : SIx K cl c H σ s T F α) (nα : a ∉ α) (nF : ¬ F a) (old : a ∈ c.β ∨ c.H0 a = none) (hn : H a = none ∨ ∃ vs, H a = some (.lst vs)) : SIx K cl c (upd H a o) σ s T F α := by
  have nt : ∀ u, H a = some u → (∀ xs, u ≠ .tup xs) ∧ ∀ o v, u ≠ .frz o v := fun u q => by
    rcases hn with e | ⟨vs, e⟩
    · rw [e] at q; cases q
    · rw [e] at q; cases q; exact ⟨fun _ z => (by cases z), fun _ _ z => (by cases z)⟩
  have E : Ext H F α (upd H a o) F α := ⟨fun b hb => upd_ne fun e => nF (e ▸ hb), fun _ h => h, fun b xs q => by
      rw [upd_ne]; exact q
      intro e; subst e; exact (nt _ q).1 _ rfl, fun b u xs q => by
      rw [upd_ne]; exact q
      intro e; subst e; exact (nt _ q).2 _ _ rfl, fun _ _ e => e⟩
  refine ⟨fun i d e => ?_, I.el, fun q hq => (I.tmp q hq).ext E, I.len, fun k x b e1 e2 => ?_, I.nd, fun b hb => ?_, I.inα, fun b hb => ?_, I.inF, I.pre, fun b u e1 e2 => ?_, fun b xs e => E.tups b xs (I.tups b xs e), fun b u xs e => E.frzs b u xs (I.frzs b u xs e)⟩
  · obtain ⟨v, h1, h2⟩ := I.env i d e
    exact ⟨v, h1, h2.ext E⟩
  · obtain ⟨h1, h2⟩ := I.cel k x b e1 e2
    exact ⟨E.repC h1 (upd_ne fun e => nα (e ▸ List.mem_of_getElem? e2)), h2⟩
  · obtain ⟨u, e⟩ := I.dom b hb
    exact ⟨u, (upd_ne fun q : b = a => nα (q ▸ hb)).trans e⟩
  · obtain ⟨u, e⟩ := I.domF b hb
    exact ⟨u, (upd_ne fun q : b = a => nF (q ▸ hb)).trans e⟩
  · rw [upd_ne]
    · exact I.keep b u e1 e2
    · intro e; subst e
      rcases old with z | z
      · exact e2 z
      · rw [z] at e1; cases e1
/-- behind a run within -/
theorem Side.after {a : Addr} {vs : List V} (S : Side c H F α a vs) (J : SIx K cl ⟨H, α, F⟩ H' σ' s' T' F' α') : Side c H' F' α' a vs :=
  ⟨J.keep a _ S.at_ S.nα, fun h => (J.inα a h).elim S.nα fun z : H a = none => (by rw [S.at_] at z; cases z), fun h => (J.inF a h).elim S.nα fun z => z.elim S.nF fun z : H a = none => (by rw [S.at_] at z; cases z), S.old⟩
/-- it becomes a frozen list | a cell -/
theorem SIx.adoptF {a : Addr} {vs : List V} {ds : List D} (I : SIx K cl c H σ s T F α) (S : Side c H F α a vs) (r : RepL K cl H F α ds vs) : SI K cl c H σ s ((.lst ds, .ref a) :: T) := by
  have E : Ext H F α H (fun b => F b ∨ b = a) α := ⟨fun _ _ => rfl, fun _ h => .inl h, fun _ _ h => h, fun _ _ _ h => h, fun _ _ h => h⟩
  refine ⟨fun b => F b ∨ b = a, α, SIx.push ⟨fun i d e => ?_, I.el, fun q hq => (I.tmp q hq).ext E, I.len, fun k x b e1 e2 => ?_, I.nd, I.dom, I.inα, fun b hb => ?_, fun b hb => ?_, I.pre, I.keep, I.tups, I.frzs⟩ (.lst S.at_ (.inr rfl) (r.ext E))⟩
  · obtain ⟨v, h1, h2⟩ := I.env i d e
    exact ⟨v, h1, h2.ext E⟩
  · obtain ⟨h1, h2⟩ := I.cel k x b e1 e2
    exact ⟨E.repC h1 rfl, fun z => z.elim h2 fun e => S.nα (e ▸ List.mem_of_getElem? e2)⟩
  · rcases hb with hb | rfl
    · exact I.domF b hb
    · exact ⟨_, S.at_⟩
  · rcases hb with hb | rfl
    · exact I.inF b hb
    · rcases S.old with z | z
      · exact .inl z
      · exact .inr (.inr z)
theorem SIx.adoptC {a : Addr} {vs : List V} {ds : List D} (I : SIx K cl c H σ s T F α) (S : Side c H F α a vs) (r : RepL K cl H F α ds vs) : SI K cl c H σ { s with M := s.M ++ [some (.lst ds)] } ((.ptr s.M.length, .ref a) :: T) := by
  have al : ∀ (k : Nat) (b : Addr), α[k]? = some b → (α ++ [a])[k]? = some b := fun k b q => by
    rw [List.getElem?_append_left (List.getElem?_eq_some_iff.mp q).1]; exact q
  have E : Ext H F α H F (α ++ [a]) := ⟨fun _ _ => rfl, fun _ h => h, fun _ _ h => h, fun _ _ _ h => h, al⟩
  refine ⟨F, α ++ [a], fun i d e => ?_, I.el, fun q hq => ?_, ?_, fun k x b e1 e2 => ?_, ?_, fun b hb => ?_, fun b hb => ?_, I.domF, I.inF, fun k b e => al k b (I.pre k b e), I.keep, I.tups, I.frzs⟩
  · obtain ⟨v, h1, h2⟩ := I.env i d e
    exact ⟨v, h1, h2.ext E⟩
  · rcases List.mem_cons.mp hq with z | hq
    · subst z
      refine .ptr ?_
      rw [← I.len]
      exact List.getElem?_concat_length
    · exact (I.tmp q hq).ext E
  · show (α ++ [a]).length = (s.M ++ [some (C.lst ds)]).length
    rw [List.length_append, List.length_append, I.len]; rfl
  · have e1 : (s.M ++ [some (C.lst ds)])[k]? = some (some x) := e1
    by_cases hk : k < s.M.length
    · rw [List.getElem?_append_left hk] at e1
      rw [List.getElem?_append_left (by rw [I.len]; exact hk)] at e2
      obtain ⟨h1, h2⟩ := I.cel k x b e1 e2
      exact ⟨E.repC h1 rfl, h2⟩
    · have hk' : k = s.M.length := by
        have := (List.getElem?_eq_some_iff.mp e1).1
        rw [List.length_append] at this
        simp at this; omega
      subst hk'
      rw [List.getElem?_concat_length] at e1
      cases e1
      rw [← I.len, List.getElem?_concat_length] at e2
      cases e2
      exact ⟨⟨vs, S.at_, r.ext E⟩, S.nF⟩
  · rw [List.nodup_append]
    exact ⟨I.nd, by simp, fun x hx y hy e => S.nα (by rw [← List.mem_singleton.mp hy, ← e]; exact hx)⟩
  · rcases List.mem_append.mp hb with hb | hb
    · exact I.dom b hb
    · rw [List.mem_singleton.mp hb]; exact ⟨_, S.at_⟩
  · rcases List.mem_append.mp hb with hb | hb
    · exact I.inα b hb
    · rw [List.mem_singleton.mp hb]; exact S.old
end

/-! ### the comprehension -/
def wipeE (env : List (Option D)) : List Nat → List (Option D)
  | [] => env
  | v :: vs => (wipeE env vs).set v none
theorem wipeE_len (env : List (Option D)) : ∀ vs : List Nat, (wipeE env vs).length = env.length
  | [] => rfl
  | v :: vs => by show ((wipeE env vs).set v none).length = _; rw [List.length_set, wipeE_len env vs]
theorem wipeE_some {env : List (Option D)} {i : Nat} {d : D} : ∀ {vs : List Nat}, (wipeE env vs)[i]? = some (some d) → env[i]? = some (some d) ∧ i ∉ vs
  | [], h => ⟨h, by simp⟩
  | v :: vs, h => by
    have h : ((wipeE env vs).set v none)[i]? = some (some d) := h
    by_cases hi : v = i
    · subst hi
      by_cases hl : v < (wipeE env vs).length
      · rw [List.getElem?_set_self hl] at h; cases h
      · rw [List.getElem?_eq_none (by rw [List.length_set]; omega)] at h; cases h
    · rw [List.getElem?_set_ne hi] at h
      obtain ⟨h1, h2⟩ := wipeE_some h
      exact ⟨h1, by simp only [List.mem_cons, not_or]; exact ⟨fun e => hi e.symm, h2⟩⟩
theorem wipe_at {σ : L2.St} {i : Nat} : ∀ {vs : List Nat}, i ∉ vs → (wipe σ vs)[i]? = σ[i]?
  | [], _ => rfl
  | v :: vs, h => by
    show ((wipe σ vs).set v none)[i]? = σ[i]?
    rw [List.getElem?_set_ne (fun e : v = i => h (e ▸ List.mem_cons_self ..)), wipe_at fun q => h (List.mem_cons_of_mem _ q)]
theorem wipe_wipe (σ : L2.St) (vs : List Nat) : wipe (wipe σ vs) vs = wipe σ vs := by
  refine List.ext_getElem? fun i => ?_
  by_cases hi : i ∈ vs
  · have key : ∀ (ws : List Nat) (τ : L2.St), i ∈ ws → (wipe τ ws)[i]? = if i < τ.length then some none else none := by
      intro ws
      induction ws with
      | nil => intro τ h; simp at h
      | cons w ws ih =>
        intro τ h
        show ((wipe τ ws).set w none)[i]? = _
        by_cases hw : w = i
        · subst hw
          by_cases hl : w < τ.length
          · rw [List.getElem?_set_self (by rw [wipe_length]; exact hl), if_pos hl]
          · rw [List.getElem?_eq_none (by rw [List.length_set, wipe_length]; omega), if_neg hl]
        · rw [List.getElem?_set_ne hw]
          exact ih τ ((List.mem_cons.mp h).resolve_left fun e => hw e.symm)
    rw [key vs _ hi, key vs _ hi, wipe_length]
  · rw [wipe_at hi]
noncomputable def lcL (d : D) (M0 : List (Option C)) (env0 : List (Option D)) (g : D → S → Option S) (tt : M Bool) (fe : M D) : List D → List D → List (Option C) → Out (List D)
  | [], acc, M => .ok acc ⟨env0, M⟩
  | x :: r, acc, M => match g x ⟨env0, M⟩ with
    | none => .fail
    | some s1 => match tt s1 with
      | .ok true s2 => (match fe s2 with
        | .ok e s3 => if chkP d M0 s3.M = true ∧ acc.length < 1000000 then lcL d M0 env0 g tt fe r (acc ++ [e]) s3.M else .fail
        | _ => .fail)
      | .ok false s2 => if chkP d M0 s2.M = true then lcL d M0 env0 g tt fe r acc s2.M else .fail
      | _ => .fail
noncomputable def eLc (f : M D) (its : D → Option (List D)) (g : D → S → Option S) (tt : M Bool) (fe : M D) (vs : List Nat) : M D := fun s => (f s).bind fun d s1 => match its (view s1.M d) with
  | none => .fail
  | some ds => (lcL d s1.M (wipeE s1.env vs) g tt fe ds [] s1.M).bind fun acc s2 => .ok (.lst acc) { s1 with M := s2.M }
/-- .. to a new cell -/
noncomputable def eLcC (f : M D) (its : D → Option (List D)) (g : D → S → Option S) (tt : M Bool) (fe : M D) (vs : List Nat) : M D := fun s => (f s).bind fun d s1 => match its (view s1.M d) with
  | none => .fail
  | some ds => (lcL d s1.M (wipeE s1.env vs) g tt fe ds [] s1.M).bind fun acc s2 => .ok (.ptr s2.M.length) { s1 with M := s2.M ++ [some (.lst acc)] }
theorem zipT_snoc : ∀ {ds : List D} {vs : List V} {T : List (D × V)} {e : D} {y : V} {q : D × V}, ds.length = vs.length → q ∈ zipT (ds ++ [e]) (vs ++ [y]) T → q = (e, y) ∨ q ∈ zipT ds vs T
  | [], [], T, e, y, q, _, h => by
    rcases List.mem_cons.mp (show q ∈ (e, y) :: T from h) with h | h
    · exact .inl h
    · exact .inr h
  | d :: ds, v :: vs, T, e, y, q, hl, h => zipT_snoc (ds := ds) (vs := vs) (T := (d, v) :: T) (by simpa using hl) h
  | [], _ :: _, _, _, _, _, hl, _ => by simp at hl
  | _ :: _, [], _, _, _, _, hl, _ => by simp at hl
/-- the comprehension's heart: R is what is wanted of the new list's address and the heap, from the list of data made and the cells -/
theorem lc_heart {K : PySem.W.Frag} {cl : Str → Addr} {c : Cz} {σ : L2.St} {T : List (D × V)} {is vs : List Nat} {g : D → S → Option S} {tt : M Bool} {fe : M D} {its : D → Option (List D)} {R : V → Hp → Prop} (his : ∀ i ∈ is, i ∈ vs)
    {d : D} {ds : List D} {s : S} {H : Hp} {J : It} {P : List (D × V)} {Dn : Addr} (I : SI K cl c H σ s (P ++ T)) (dr : Drv K cl J P its d) (e : its (view s.M d) = some ds) (hD : H Dn = none)
    (hne : lcL d s.M (wipeE s.env vs) g tt fe ds [] s.M ≠ .fail)
    (w : ∀ acc s2, lcL d s.M (wipeE s.env vs) g tt fe ds [] s.M = .ok acc s2 → ∀ (H' : Hp) (F : Addr → Prop) (α : List Addr) (vl : List V), SIx K cl c H' σ { s with M := s2.M } T F α → Side c H' F α Dn vl → RepL K cl H' F α acc vl → R (.ref Dn) H') :
    ∃ Wm : Nat → Nat → Hp → Prop, (∃ m, Wm 0 m (upd H Dn (.lst []))) ∧ ∀ i m H, Wm i m H →
      (J.stop i H ∧ R (.ref Dn) H) ∨ (J.go i H ∧ ∃ Nx : Hp → Prop, (∀ H', Nx H' → ∃ m', m' < m ∧ Wm (i + 1) m' H') ∧ ∀ x H', J.yld i H x H' → uG K cl is g x (wipe σ vs) H' fun σ2 H2 => wipe σ2 vs = wipe σ vs ∧ uT K cl (fun _ _ _ _ => False) tt σ2 H2 fun b H3 =>
        if b = true then uE K cl (fun _ _ _ _ => False) fe σ2 H3 fun y H4 => ∃ acc, H4 Dn = some (.lst acc) ∧ acc.length < sizeLine ∧ Nx (upd H4 Dn (.lst (acc ++ [y]))) else Nx H3) := by
  obtain ⟨M0, hM0⟩ : ∃ M0, M0 = s.M := ⟨_, rfl⟩
  obtain ⟨res, hres⟩ : ∃ res, res = lcL d s.M (wipeE s.env vs) g tt fe ds [] s.M := ⟨_, rfl⟩
  rw [← hres] at hne w
  rw [← hM0] at hres e
  have e0 : view s.M d = view M0 d := by rw [hM0]
  -- the frame's names among the temps
  obtain ⟨L, hL⟩ : ∃ L, L = pairs s.env σ := ⟨_, rfl⟩
  obtain ⟨F0, α0, I0⟩ := I
  have hel := I0.el
  have lookL : ∀ (i : Nat) (d : D), s.env[i]? = some (some d) → ∃ v, σ[i]? = some (some v) ∧ (d, v) ∈ L := fun i d h => by
    obtain ⟨v, h1, _⟩ := I0.env i d h
    exact ⟨v, h1, by rw [hL]; exact pairs_mem h h1⟩
  have lookW : ∀ (i : Nat) (d : D), (wipeE s.env vs)[i]? = some (some d) → ∃ v, (wipe σ vs)[i]? = some (some v) ∧ (d, v) ∈ L := fun i d h => by
    obtain ⟨h1, h2⟩ := wipeE_some h
    obtain ⟨v, h3, h4⟩ := lookL i d h1
    exact ⟨v, by rw [wipe_at h2]; exact h3, h4⟩
  have lenW : (wipeE s.env vs).length = (wipe σ vs).length := by rw [wipeE_len, wipe_length]; exact hel
  let Inv' : Nat → Hp → Prop := fun i H => ∃ (M : List (Option C)) (aD : List D) (aV : List V) (F : Addr → Prop) (α : List Addr), SIx K cl c H (wipe σ vs) ⟨wipeE s.env vs, M⟩ (P ++ zipT aD aV (L ++ T)) F α ∧ aD.length = aV.length ∧ Side c H F α Dn aV ∧
    view M d = view M0 d ∧ lcL d M0 (wipeE s.env vs) g tt fe (ds.drop i) aD M = res
  have hstart : Inv' 0 (upd H Dn (.lst [])) := by
    have old := I0.c0 hD
    have nα : Dn ∉ α0 := fun h => by
      obtain ⟨o, q⟩ := I0.dom Dn h
      rw [hD] at q; cases q
    have nF : ¬ F0 Dn := fun h => by
      obtain ⟨o, q⟩ := I0.domF Dn h
      rw [hD] at q; cases q
    have I1 : SIx K cl c (upd H Dn (.lst [])) σ s (pairs s.env σ ++ (P ++ T)) F0 α0 := (I0.save).beside nα nF old (.inl hD)
    have I2 : SIx K cl c (upd H Dn (.lst [])) σ s (P ++ (L ++ T)) F0 α0 := I1.temps fun q hq => I1.tmp q (by
      rw [← hL]
      rcases List.mem_append.mp hq with h | h
      · exact List.mem_append_right _ (List.mem_append_left _ h)
      · rcases List.mem_append.mp h with h | h
        · exact List.mem_append_left _ h
        · exact List.mem_append_right _ (List.mem_append_right _ h))
    have I3 := I2.load lenW fun i d h => by
      obtain ⟨v, h1, h2⟩ := lookW i d h
      exact ⟨v, h1, List.mem_append_right _ (List.mem_append_left _ h2)⟩
    exact ⟨s.M, [], [], F0, α0, I3, rfl, ⟨upd_same, nα, nF, old⟩, e0, by rw [hres, ← hM0]; rfl⟩
  refine ⟨fun i m H => m = ds.length - i ∧ i ≤ ds.length ∧ Inv' i H, ⟨_, rfl, Nat.zero_le _, hstart⟩, ?_⟩
  rintro i m H ⟨rfl, hi, M, aD, aV, F, α, I, hal, SD, ev, hw⟩
  have e1 : its (view M d) = some ds := by rw [ev]; exact e
  by_cases hlt : i < ds.length
  · -- a turn: within the run that begins here
    have In := I.nest
    have d1 := dr ⟨H, α, F⟩ H (wipe σ vs) ⟨wipeE s.env vs, M⟩ (zipT aD aV (L ++ T)) i ds ⟨F, α, In⟩ e1
    obtain ⟨hgo, hy⟩ := d1.1 _ (List.getElem?_eq_getElem hlt)
    refine .inr ⟨hgo, fun H' => i + 1 ≤ ds.length ∧ Inv' (i + 1) H', fun H' h => ⟨ds.length - (i + 1), by omega, rfl, h.1, h.2⟩, fun x H' hx => ?_⟩
    have I1 := hy x H' hx
    rw [List.drop_eq_getElem_cons hlt] at hw
    unfold lcL at hw
    cases hg : g ds[i] ⟨wipeE s.env vs, M⟩ with
    | none => rw [hg] at hw; exact absurd hw.symm hne
    | some s1 =>
      rw [hg] at hw
      dsimp only at hw
      refine ⟨⟨H, α, F⟩, ⟨wipeE s.env vs, M⟩, _, ds[i], s1, I1, hg, fun σ2 hσ2 I2 => ⟨(hσ2 vs his).trans (wipe_wipe σ vs), ?_⟩⟩
      refine ⟨⟨H, α, F⟩, s1, _, I2, ?_⟩
      cases ht : tt s1 with
      | fail => rw [ht] at hw; exact absurd hw.symm hne
      | exc n fs s2 => rw [ht] at hw; exact absurd hw.symm hne
      | ok b s2 =>
        rw [ht] at hw
        intro H3 I3
        cases b with
        | false =>
          dsimp only at hw
          by_cases hc : chkP d M0 s2.M = true
          · rw [if_pos hc] at hw
            refine iteF ⟨hlt, ?_⟩
            obtain ⟨F', α', J3⟩ := I3
            have J4 := (I.unnest J3).load lenW fun i d h => by
              obtain ⟨v, h1, h2⟩ := lookW i d h
              exact ⟨v, h1, List.mem_append_right _ (zipT_sub _ _ _ _ (List.mem_append_left _ h2))⟩
            exact ⟨s2.M, aD, aV, F', α', J4, hal, SD.after J3, chkP_view hc, hw⟩
          · rw [if_neg hc] at hw; exact absurd hw.symm hne
        | true =>
          dsimp only at hw
          refine iteT ⟨⟨H, α, F⟩, s2, _, I3, ?_⟩
          cases hf : fe s2 with
          | fail => rw [hf] at hw; exact absurd hw.symm hne
          | exc n fs s3 => rw [hf] at hw; exact absurd hw.symm hne
          | ok y s3 =>
            rw [hf] at hw
            dsimp only at hw
            by_cases hc : chkP d M0 s3.M = true ∧ aD.length < 1000000
            · rw [if_pos hc] at hw
              intro v H4 I4
              obtain ⟨F', α', J4⟩ := I4
              have SD' := SD.after J4
              refine ⟨aV, SD'.at_, by rw [← hal]; exact Nat.lt_of_lt_of_le hc.2 (line1m (Nat.le_refl _)), hlt, ?_⟩
              have K4 := (I.unnest J4).beside (o := .lst (aV ++ [v])) SD'.nα SD'.nF SD'.old (.inr ⟨_, SD'.at_⟩)
              have K5 := K4.load lenW fun i d h => by
                obtain ⟨u, h1, h2⟩ := lookW i d h
                exact ⟨u, h1, List.mem_cons_of_mem _ (List.mem_append_right _ (zipT_sub _ _ _ _ (List.mem_append_left _ h2)))⟩
              refine ⟨s3.M, aD ++ [y], aV ++ [v], F', α', K5.temps fun q hq => K5.tmp q ?_, by rw [List.length_append, List.length_append, hal]; rfl, ⟨upd_same, SD'.nα, SD'.nF, SD'.old⟩, chkP_view hc.1, hw⟩
              rcases List.mem_append.mp hq with h | h
              · exact List.mem_cons_of_mem _ (List.mem_append_left _ h)
              · rcases zipT_snoc hal h with h | h
                · exact h ▸ List.mem_cons_self ..
                · exact List.mem_cons_of_mem _ (List.mem_append_right _ h)
            · rw [if_neg hc] at hw; exact absurd hw.symm hne
  · have hi' : i = ds.length := by omega
    subst hi'
    have d1 := dr c H (wipe σ vs) ⟨wipeE s.env vs, M⟩ (zipT aD aV (L ++ T)) ds.length ds ⟨F, α, I⟩ e1
    refine .inl ⟨d1.2 (Nat.le_refl _), ?_⟩
    rw [List.drop_length] at hw
    have I5 := I.load (σ0 := σ) (env := s.env) hel fun i d h => by
      obtain ⟨v, h1, h2⟩ := lookL i d h
      exact ⟨v, h1, List.mem_append_right _ (zipT_sub _ _ _ _ (List.mem_append_left _ h2))⟩
    have rl : RepL K cl H F α aD aV := SIx.repL (s := s) hal fun j d v h1 h2 => I.tmp (d, v) (List.mem_append_right _ (zipT_mem h1 h2))
    exact w aD ⟨wipeE s.env vs, M⟩ hw.symm H F α aV (I5.temps fun q hq => I5.tmp q (List.mem_append_right _ (zipT_sub _ _ _ _ (List.mem_append_right _ hq)))) SD rl
section
variable {X : Cx} {cl : Str → Addr} {W : WX}
theorem Want.toI {K : PySem.W.Frag} {its : D → Option (List D)} {c : Cz} {σ : L2.St} {T : List (D × V)} {o : Out D} {k : D → S → Out D} {Q : VK} {R : It → Hp → Prop} (h : Want K cl W c σ T (o.bind k) Q)
    (hk : ∀ d s, o = .ok d s → Want K cl W c σ T (k d s) Q → ∀ H J P, SI K cl c H σ s (P ++ T) → Drv K cl J P its d → R J H) : WantI K cl W its c σ T o R := by
  cases o with
  | fail => exact h
  | ok d s => exact hk d s rfl h
  | exc n fs s => exact h
theorem lcL_noexc : ∀ {d : D} {M0 : List (Option C)} {env0 : List (Option D)} {g : D → S → Option S} {tt : M Bool} {fe : M D} {ds acc : List D} {M : List (Option C)} {n : Str} {fs : List (Str × D)} {s : S}, lcL d M0 env0 g tt fe ds acc M ≠ .exc n fs s := by
  intro d M0 env0 g tt fe ds
  induction ds with
  | nil => intro acc M n fs s h; cases h
  | cons x r ih =>
    intro acc M n fs s h
    unfold lcL at h
    split at h
    · cases h
    · split at h
      · split at h
        · split at h
          · exact ih h
          · cases h
        · cases h
      · split at h
        · exact ih h
        · cases h
      · cases h
/-- a comprehension's parts, in the block's own context -/
structure Blk (X : Cx) (cl : Str → Addr) (scope : Scope) (tg : Expr) (ifs : List Expr) (elt : Expr) (is : List Nat) (g : D → S → Option S) (tt : M Bool) (fe : M D) : Prop where
  g_ : ∀ (s : Shared) (H : Hp) (C : Addr) (cc : List (Str × Addr)) (fp : List Addr), DG (X.blk s H scope (compEnvC scope cc C X.env) fp) cl tg is g
  t_ : ∀ (s : Shared) (H : Hp) (C : Addr) (cc : List (Str × Addr)) (fp : List Addr), DTs (X.blk s H scope (compEnvC scope cc C X.env) fp) cl (fun _ _ _ _ => False) ifs tt
  e_ : ∀ (s : Shared) (H : Hp) (C : Addr) (cc : List (Str × Addr)) (fp : List Addr), DE (X.blk s H scope (compEnvC scope cc C X.env) fp) cl (fun _ _ _ _ => False) elt fe
theorem de_lc {elt tg iter : Expr} {ifs : List Expr} {scope : Scope} {own : List (Str × Nat)} {pos : Pos} {f : M D} {its : D → Option (List D)} {is : List Nat} {g : D → S → Option S} {tt : M Bool} {fe : M D} {k : Nat} (hk : Cok X W k) (hi : DI X cl W tg iter f its) (ok : BlkOk X.N X.env.scope scope own)
    (hb : Blk X cl scope tg ifs elt is g tt fe) (his : ∀ i ∈ is, i ∈ own.map (·.2) := by decide) (hs : ∀ x, foldedSetIterable iter X.env x = pure x := by intro _; rfl) :
    DE X cl W (.ListComp elt [⟨tg, iter, ifs, 0⟩] scope pos) (eLc f its g tt fe (own.map (·.2))) := by
  obtain ⟨wi, pi, qi⟩ := hi
  refine ⟨_, pe_lc (g := uG X.K cl is g) (tt := uT X.K cl (fun _ _ _ _ => False) tt) (te := uE X.K cl (fun _ _ _ _ => False) fe) hk.calm hk.nd pi ok (fun s H C cc fp => (hb.g_ s H C cc fp).pg) (fun s H C cc fp => (hb.t_ s H C cc fp).pts) (fun s H C cc fp => (hb.e_ s H C cc fp).pe) hs, fun c σ s T H Q I w => ?_⟩
  have w' : Want X.K cl W c σ T ((f s).bind fun d s1 => match its (view s1.M d) with
    | none => .fail
    | some ds => (lcL d s1.M (wipeE s1.env (own.map (·.2))) g tt fe ds [] s1.M).bind fun acc s2 => .ok (.lst acc) { s1 with M := s2.M }) Q := w
  refine qi c σ s T H _ I (Want.toI w' fun d s1 hf w1 H1 J P I1 dr Dn hD => ?_) fun d s1 hf => ?_
  · cases e : its (view s1.M d) with
    | none => rw [e] at w1; exact w1.elim
    | some ds =>
      rw [e] at w1
      dsimp only at w1
      refine lc_heart his I1 dr e hD (fun h => by rw [h] at w1; exact w1.elim) fun acc s2 h H' F α vl I' SD r => ?_
      rw [h] at w1
      exact w1 _ H' (I'.adoptF SD r)
  · rw [hf] at w'
    cases e : its (view s1.M d) with
    | none =>
      have w' : Want X.K cl W c σ T (match its (view s1.M d) with
        | none => .fail
        | some ds => (lcL d s1.M (wipeE s1.env (own.map (·.2))) g tt fe ds [] s1.M).bind fun acc s2 => .ok (.lst acc) { s1 with M := s2.M }) Q := w'
      rw [e] at w'; exact w'.elim
    | some ds => rfl
/-- name = [..] on one line -/
theorem ds_setLc {i : Nat} {y : Str} {py : Pos} {elt tg iter : Expr} {ifs : List Expr} {scope : Scope} {own : List (Str × Nat)} {pos spos : Pos} {f : M D} {its : D → Option (List D)} {is : List Nat} {g : D → S → Option S} {tt : M Bool} {fe : M D} {k : Nat} (hk : Cok X W k) (hy : X.N[i]? = some y) (hyl : X.env.scope.names.lookup y = some .local)
    (hsw : swapsWith (.ListComp elt [⟨tg, iter, ifs, 0⟩] scope pos) (some (.Name y py)) spos.line X.env = pure true) (hi : DI X cl W tg iter f its) (ok : BlkOk X.N X.env.scope scope own)
    (hb : Blk X cl scope tg ifs elt is g tt fe) (his : ∀ i ∈ is, i ∈ own.map (·.2) := by decide) (hs : ∀ x, foldedSetIterable iter X.env x = pure x := by intro _; rfl) :
    DS X cl W (.Assign [.Name y py] (.ListComp elt [⟨tg, iter, ifs, 0⟩] scope pos) spos) (sSet i (eLc f its g tt fe (own.map (·.2)))) := by
  obtain ⟨wi, pi, qi⟩ := hi
  refine ⟨_, ps_setLc (g := uG X.K cl is g) (tt := uT X.K cl (fun _ _ _ _ => False) tt) (te := uE X.K cl (fun _ _ _ _ => False) fe) hk.calm hk.nd hy hyl hsw pi ok (fun s H C cc fp => (hb.g_ s H C cc fp).pg) (fun s H C cc fp => (hb.t_ s H C cc fp).pts) (fun s H C cc fp => (hb.e_ s H C cc fp).pe) hs, fun c σ s T H E I w => ?_⟩
  have key : Want X.K cl W c σ T (eLc f its g tt fe (own.map (·.2)) s) (fun v H' => E.nx (σ.set i (some v)) H') :=
    WantS.bind (k := fun d s => setV i d s) w fun d s1 _ w1 v H1 I1 => setV_ok w1 I1
  have w' : Want X.K cl W c σ T ((f s).bind fun d s1 => match its (view s1.M d) with
    | none => .fail
    | some ds => (lcL d s1.M (wipeE s1.env (own.map (·.2))) g tt fe ds [] s1.M).bind fun acc s2 => .ok (.lst acc) { s1 with M := s2.M }) (fun v H' => E.nx (σ.set i (some v)) H') := key
  refine qi c σ s T H _ I (Want.toI w' fun d s1 hf w1 H1 J P I1 dr Dn hD => ?_) fun d s1 hf => ?_
  · cases e : its (view s1.M d) with
    | none => rw [e] at w1; exact w1.elim
    | some ds =>
      rw [e] at w1
      dsimp only at w1
      refine lc_heart (R := fun x H1 => gName i x σ H1 E.nx) his I1 dr e hD (fun h => by rw [h] at w1; exact w1.elim) fun acc s2 h H' F α vl I' SD r => ?_
      rw [h] at w1
      exact w1 _ H' (I'.adoptF SD r)
  · rw [hf] at w'
    cases e : its (view s1.M d) with
    | none =>
      have w' : Want X.K cl W c σ T (match its (view s1.M d) with
        | none => .fail
        | some ds => (lcL d s1.M (wipeE s1.env (own.map (·.2))) g tt fe ds [] s1.M).bind fun acc s2 => .ok (.lst acc) { s1 with M := s2.M }) _ := w'
      rw [e] at w'; exact w'.elim
    | some ds => rfl
end
end DL

/-! DlL: built-in functions and types called; methods; subscripts. -/
namespace DL
open PySem L2
open PySem.Spec PyProof.Rows

theorem SIx.t1i {K : PySem.W.Frag} {cl : Str → Addr} {c : Cz} {H : Hp} {σ : L2.St} {s : S} {T : List (D × V)} {F : Addr → Prop} {α : List Addr} {d : D} {v : V} {i : Int} (J : SIx K cl c H σ s ((d, v) :: T) F α) (h : DL.view s.M d = .int i) : v = .int i := J.vInt (J.tmp (d, v) (List.mem_cons_self ..)) h
theorem SIx.t1b {K : PySem.W.Frag} {cl : Str → Addr} {c : Cz} {H : Hp} {σ : L2.St} {s : S} {T : List (D × V)} {F : Addr → Prop} {α : List Addr} {d : D} {v : V} {i : Bool} (J : SIx K cl c H σ s ((d, v) :: T) F α) (h : DL.view s.M d = .bl i) : v = .bl i := J.vBl (J.tmp (d, v) (List.mem_cons_self ..)) h
theorem SIx.t1s {K : PySem.W.Frag} {cl : Str → Addr} {c : Cz} {H : Hp} {σ : L2.St} {s : S} {T : List (D × V)} {F : Addr → Prop} {α : List Addr} {d : D} {v : V} {i : Str} (J : SIx K cl c H σ s ((d, v) :: T) F α) (h : DL.view s.M d = .str i) : v = .str i := J.vStr (J.tmp (d, v) (List.mem_cons_self ..)) h
theorem SIx.t2i {K : PySem.W.Frag} {cl : Str → Addr} {c : Cz} {H : Hp} {σ : L2.St} {s : S} {T : List (D × V)} {F : Addr → Prop} {α : List Addr} {e d : D} {u v : V} {i : Int} (J : SIx K cl c H σ s ((e, u) :: (d, v) :: T) F α) (h : DL.view s.M d = .int i) : v = .int i := J.vInt (J.tmp (d, v) (List.mem_cons_of_mem _ (List.mem_cons_self ..))) h
theorem SIx.t2s {K : PySem.W.Frag} {cl : Str → Addr} {c : Cz} {H : Hp} {σ : L2.St} {s : S} {T : List (D × V)} {F : Addr → Prop} {α : List Addr} {e d : D} {u v : V} {i : Str} (J : SIx K cl c H σ s ((e, u) :: (d, v) :: T) F α) (h : DL.view s.M d = .str i) : v = .str i := J.vStr (J.tmp (d, v) (List.mem_cons_of_mem _ (List.mem_cons_self ..))) h

structure CD (X : Cx) (cl : Str → Addr) (f : Value) (g : List D → Option D) : Prop where
  ex : ∃ r, CallR X f r ∧ ∀ c σ s T H ds vs z Q, ds.length = vs.length → SI X.K cl c H σ s (zipT ds vs T) → g (ds.map (view s.M)) = some z → (∀ v H', SI X.K cl c H' σ s ((z, v) :: zipT ds vs T) → Q v H') → r vs H Q
/-- .. that makes a list, to be a cell -/
structure CDC (X : Cx) (cl : Str → Addr) (f : Value) (g : List D → Option (List D)) : Prop where
  ex : ∃ r, CallR X f r ∧ ∀ c σ s T H ds vs z Q, ds.length = vs.length → SI X.K cl c H σ s (zipT ds vs T) → g (ds.map (view s.M)) = some z → (∀ v H', SI X.K cl c H' σ { s with M := s.M ++ [some (.lst z)] } ((.ptr s.M.length, v) :: zipT ds vs T) → Q v H') → r vs H Q
def eCB (g : List D → Option D) (f : M (List D)) : M D := fun s => (f s).bind fun ds s => oOf (g (ds.map (view s.M))) s
def eCBC (g : List D → Option (List D)) (f : M (List D)) : M D := fun s => (f s).bind fun ds s => match g (ds.map (view s.M)) with
  | some xs => .ok (.ptr s.M.length) { s with M := s.M ++ [some (.lst xs)] }
  | none => .fail
def orC (g h : List D → Option D) : List D → Option D := fun a => match g a with
  | some z => some z
  | none => h a
section
variable {X : Cx} {cl : Str → Addr} {W : WX} {f : Value} {g h : List D → Option D}
theorem CD.or (a : CD X cl f g) (b : CD X cl f h) : CD X cl f (orC g h) := by
  obtain ⟨r, hr, q⟩ := a
  obtain ⟨r', hr', q'⟩ := b
  refine ⟨_, hr.or hr', fun c σ s T H ds vs z Q hl I hz k => ?_⟩
  unfold orC at hz
  split at hz
  · rename_i z' e1
    cases hz
    exact .inl (q c σ s T H ds vs z Q hl I e1 k)
  · exact .inr (q' c σ s T H ds vs z Q hl I hz k)
theorem de_callB {x : Str} {id : String} {e : Expr} {es : List Expr} {fa : M (List D)} {p pos : Pos} (hc : CD X cl (.builtin id) g) (hm : X.mg x = none) (ha : DA X cl W (e :: es) fa) (hv : bootBuiltins x = some (.builtin id) := by decide +kernel) (hg : Gl X x := by rfl) (hn : x ≠ "__name__" := by decide) (hdb : (x == ("__debug__" : Str)) = false := by decide)
    (he : starEach (e :: es) X.env = (false, eval e X.env) :: starEach es X.env := by rfl) (hpl : (backTo pos (starEach es X.env)).any (·.1) = false := by rfl) : DE X cl W (.Call (.Name x p) (e :: es) [] pos) (eCB g fa) := by
  obtain ⟨ta, pa, qa⟩ := ha
  obtain ⟨r, hr, q⟩ := hc
  refine ⟨_, pe_callB hr hg hm hv pa hn hdb he hpl, fun c σ s T H Q I w => ?_⟩
  refine qa c σ s T H _ I (w.bindA fun ds s1 hfs w1 vs H1 hl I1 => ?_)
  unfold oOf at w1
  split at w1
  · rename_i z hz
    exact q c σ s1 T H1 ds vs z Q hl I1 hz fun v H' I' => w1 v H' I'.unzip
  · exact w1.elim
theorem de_callT {x : Str} {ty : String} {e : Expr} {es : List Expr} {fa : M (List D)} {p pos : Pos} (hc : CD X cl (.type ty) g) (hm : X.mg x = none) (ha : DA X cl W (e :: es) fa) (hv : bootBuiltins x = some (.type ty) := by decide +kernel) (hg : Gl X x := by rfl) (hn : x ≠ "__name__" := by decide) (hdb : (x == ("__debug__" : Str)) = false := by decide)
    (he : starEach (e :: es) X.env = (false, eval e X.env) :: starEach es X.env := by rfl) (hpl : (backTo pos (starEach es X.env)).any (·.1) = false := by rfl) : DE X cl W (.Call (.Name x p) (e :: es) [] pos) (eCB g fa) := by
  obtain ⟨ta, pa, qa⟩ := ha
  obtain ⟨r, hr, q⟩ := hc
  refine ⟨_, pe_callTy hr hg hm hv pa hn hdb he hpl, fun c σ s T H Q I w => ?_⟩
  refine qa c σ s T H _ I (w.bindA fun ds s1 hfs w1 vs H1 hl I1 => ?_)
  unfold oOf at w1
  split at w1
  · rename_i z hz
    exact q c σ s1 T H1 ds vs z Q hl I1 hz fun v H' I' => w1 v H' I'.unzip
  · exact w1.elim
theorem de_callTC {gl : List D → Option (List D)} {x : Str} {ty : String} {e : Expr} {es : List Expr} {fa : M (List D)} {p pos : Pos} (hc : CDC X cl (.type ty) gl) (hm : X.mg x = none) (ha : DA X cl W (e :: es) fa) (hv : bootBuiltins x = some (.type ty) := by decide +kernel) (hg : Gl X x := by rfl) (hn : x ≠ "__name__" := by decide) (hdb : (x == ("__debug__" : Str)) = false := by decide)
    (he : starEach (e :: es) X.env = (false, eval e X.env) :: starEach es X.env := by rfl) (hpl : (backTo pos (starEach es X.env)).any (·.1) = false := by rfl) : DE X cl W (.Call (.Name x p) (e :: es) [] pos) (eCBC gl fa) := by
  obtain ⟨ta, pa, qa⟩ := ha
  obtain ⟨r, hr, q⟩ := hc
  refine ⟨_, pe_callTy hr hg hm hv pa hn hdb he hpl, fun c σ s T H Q I w => ?_⟩
  refine qa c σ s T H _ I (w.bindA fun ds s1 hfs w1 vs H1 hl I1 => ?_)
  split at w1
  · rename_i z hz
    exact q c σ s1 T H1 ds vs z Q hl I1 hz fun v H' I' => w1 v H' I'.unzip
  · exact w1.elim
/-! one argument -/
theorem one_arg {ds : List D} {vs : List V} {d : D} {M : List (Option C)} (hl : ds.length = vs.length) (e : ds.map (view M) = [d]) : ∃ e v, ds = [e] ∧ vs = [v] ∧ view M e = d := by
  match ds, vs, hl with
  | [e'], [v], _ => exact ⟨e', v, rfl, rfl, by simpa using e⟩
  | [], _, _ => simp at e
  | _ :: _ :: _, _, _ => simp at e
theorem two_arg {ds : List D} {vs : List V} {d d2 : D} {M : List (Option C)} (hl : ds.length = vs.length) (e : ds.map (view M) = [d, d2]) : ∃ e v e2 v2, ds = [e, e2] ∧ vs = [v, v2] ∧ view M e = d ∧ view M e2 = d2 := by
  match ds, vs, hl with
  | [e1, e2], [v, v2], _ => 
    simp at e
    exact ⟨e1, v, e2, v2, rfl, rfl, e.1, e.2⟩
  | [], _, _ => simp at e
  | [_], _, _ => simp at e
  | _ :: _ :: _ :: _, _, _ => simp at e
def g1 (g : D → Option D) : List D → Option D
  | [d] => g d
  | _ => none
def g2 (g : D → D → Option D) : List D → Option D
  | [d, e] => g d e
  | _ => none
theorem CD.one {g : D → Option D} {r : List V → Hp → VK → Prop} (hr : CallR X f r) (q : ∀ c σ s T H F α d v z Q, SIx X.K cl c H σ s ((d, v) :: T) F α → g (view s.M d) = some z → (∀ v' H', SI X.K cl c H' σ s ((z, v') :: (d, v) :: T) → Q v' H') → r [v] H Q) : CD X cl f (g1 g) := by
  refine ⟨r, hr, fun c σ s T H ds vs z Q hl I hz k => ?_⟩
  match ds, vs, hl with
  | [e], [v], _ =>
    obtain ⟨F, α, J⟩ := id I
    exact q c σ s T H F α e v z Q J hz k
  | [], [], _ => cases hz
  | _ :: _ :: _, _, _ => cases hz
theorem CD.two {g : D → D → Option D} {r : List V → Hp → VK → Prop} (hr : CallR X f r) (q : ∀ c σ s T H F α d v e u z Q, SIx X.K cl c H σ s ((e, u) :: (d, v) :: T) F α → g (view s.M d) (view s.M e) = some z → (∀ v' H', SI X.K cl c H' σ s ((z, v') :: (e, u) :: (d, v) :: T) → Q v' H') → r [v, u] H Q) : CD X cl f (g2 g) := by
  refine ⟨r, hr, fun c σ s T H ds vs z Q hl I hz k => ?_⟩
  match ds, vs, hl with
  | [d, e], [v, u], _ =>
    obtain ⟨F, α, J⟩ := id I
    exact q c σ s T H F α d v e u z Q J hz k
  | [], [], _ => cases hz
  | [_], [_], _ => cases hz
  | _ :: _ :: _ :: _, _, _ => cases hz
/-- len -/
def dLen : D → Option D
  | .str z => if z.length ≤ 1000000 then some (.int z.length) else none
  | d => (seqD d).map fun xs => .int xs.length
theorem cd_len : CD X cl (.builtin "len") (g1 dLen) := by
  refine CD.one (call_len_seq.or call_len_str) fun c σ s T H F α d v z Q J hz k => ?_
  have r := J.tmp (d, v) (List.mem_cons_self ..)
  by_cases h : ∃ y, view s.M d = .str y
  · obtain ⟨y, e⟩ := h
    rw [e] at hz
    simp only [dLen] at hz
    split at hz
    · rename_i hl
      cases hz
      have ev : v = .str y := J.vStr r e
      subst ev
      exact .inr ⟨y, rfl, line1m hl, k _ H (SI.flat rfl ⟨F, α, J⟩)⟩
    · cases hz
  · have hz' : (seqD (view s.M d)).map (fun xs => D.int xs.length) = some z := by
      revert hz h
      generalize view s.M d = u
      intro hz h
      cases u <;> first | exact hz | exact absurd ⟨_, rfl⟩ h
    obtain ⟨xs, h1, rfl⟩ := Option.map_eq_some_iff.mp hz'
    obtain ⟨a, vs, ev, h2, rl⟩ := J.vSeq r h1
    have ev : v = .ref a := ev
    subst ev
    exact .inl ⟨a, vs, rfl, h2, by rw [← rl.length]; exact k _ H (SI.flat rfl ⟨F, α, J⟩)⟩
/-- abs, int -/
def dAbs : D → Option D
  | .int i => some (.int (if i < 0 then -i else i))
  | _ => none
theorem cd_abs : CD X cl (.builtin "abs") (g1 dAbs) := by
  refine CD.one call_abs fun c σ s T H F α d v z Q J hz k => ?_
  cases e : view s.M d with
  | int i =>
    rw [e] at hz
    cases hz
    exact ⟨i, by rw [J.t1i e], k _ H (SI.flat rfl ⟨F, α, J⟩)⟩
  | _ => rw [e] at hz; cases hz
def dInt : D → Option D
  | .int i => some (.int i)
  | .bl b => some (.int (if b then 1 else 0))
  | _ => none
theorem cd_int : CD X cl (.type "int") (g1 dInt) := by
  refine CD.one call_int1 fun c σ s T H F α d v z Q J hz k => ?_
  cases e : view s.M d with
  | int i =>
    rw [e] at hz
    cases hz
    exact .inl ⟨i, by rw [J.t1i e], k _ H (SI.flat rfl ⟨F, α, J⟩)⟩
  | bl i =>
    rw [e] at hz
    cases hz
    exact .inr ⟨i, by rw [J.t1b e], k _ H (SI.flat rfl ⟨F, α, J⟩)⟩
  | _ => rw [e] at hz; cases hz
def dMax2 : D → D → Option D
  | .int i, .int j => some (.int (if j > i then j else i))
  | _, _ => none
def dMin2 : D → D → Option D
  | .int i, .int j => some (.int (if j < i then j else i))
  | _, _ => none
theorem int2 {g : D → D → Option D} {gi : Int → Int → Int} {d e z : D} (hg : ∀ d e z, g d e = some z → ∃ i j, d = .int i ∧ e = .int j ∧ z = .int (gi i j)) (h : g d e = some z) : ∃ i j, d = .int i ∧ e = .int j ∧ z = .int (gi i j) := hg d e z h
theorem cd_max2 (hc : X.calm = true) : CD X cl (.builtin "max") (g2 dMax2) := by
  refine CD.two (call_max2 hc) fun c σ s T H F α d v e u z Q J hz k => ?_
  have key : ∀ d e z, dMax2 d e = some z → ∃ i j, d = .int i ∧ e = .int j ∧ z = .int (if j > i then j else i) := fun d e z h => by
    cases d <;> first | (cases e <;> first | (cases h; exact ⟨_, _, rfl, rfl, rfl⟩) | (simp [dMax2] at h)) | (simp [dMax2] at h)
  obtain ⟨i, j, e1, e2, rfl⟩ := key _ _ _ hz
  exact ⟨i, j, by rw [J.t2i e1, J.t1i e2], k _ H (SI.flat rfl ⟨F, α, J⟩)⟩
theorem cd_min2 (hc : X.calm = true) : CD X cl (.builtin "min") (g2 dMin2) := by
  refine CD.two (call_min2 hc) fun c σ s T H F α d v e u z Q J hz k => ?_
  have key : ∀ d e z, dMin2 d e = some z → ∃ i j, d = .int i ∧ e = .int j ∧ z = .int (if j < i then j else i) := fun d e z h => by
    cases d <;> first | (cases e <;> first | (cases h; exact ⟨_, _, rfl, rfl, rfl⟩) | (simp [dMin2] at h)) | (simp [dMin2] at h)
  obtain ⟨i, j, e1, e2, rfl⟩ := key _ _ _ hz
  exact ⟨i, j, by rw [J.t2i e1, J.t1i e2], k _ H (SI.flat rfl ⟨F, α, J⟩)⟩
/-- list(xs), tuple(xs) -/
def dList : D → Option D := fun d => (seqD d).map .lst
theorem SIx.lstNew {K : PySem.W.Frag} {c : Cz} {H : Hp} {σ : L2.St} {s : S} {T : List (D × V)} {F : Addr → Prop} {α : List Addr} {p : Addr} {ds : List D} {vs : List V} (J : SIx K cl c H σ s T F α) (hp : H p = none) (r : RepL K cl H F α ds vs) : SI K cl c (upd H p (.lst vs)) σ s ((.lst ds, .ref p) :: T) :=
  ⟨_, α, (J.newF hp).push (.lst upd_same (.inr rfl) (r.ext (ext_new J hp)))⟩
theorem SIx.tupNew {K : PySem.W.Frag} {c : Cz} {H : Hp} {σ : L2.St} {s : S} {T : List (D × V)} {F : Addr → Prop} {α : List Addr} {p : Addr} {ds : List D} {vs : List V} (J : SIx K cl c H σ s T F α) (hp : H p = none) (r : RepL K cl H F α ds vs) : SI K cl c (upd H p (.tup vs)) σ s ((.tup ds, .ref p) :: T) :=
  ⟨_, α, (J.newF hp).push (.tup (SqT.of upd_same) (r.ext (ext_new J hp)))⟩
theorem SIx.cellNew {K : PySem.W.Frag} {c : Cz} {H : Hp} {σ : L2.St} {s : S} {T : List (D × V)} {F : Addr → Prop} {α : List Addr} {p : Addr} {ds : List D} {vs : List V} (J : SIx K cl c H σ s T F α) (hp : H p = none) (r : RepL K cl H F α ds vs) : SI K cl c (upd H p (.lst vs)) σ { s with M := s.M ++ [some (.lst ds)] } ((.ptr s.M.length, .ref p) :: T) :=
  ⟨F, _, J.newCell hp fun e => ⟨vs, upd_same, r.ext e⟩⟩
theorem cd_list : CD X cl (.type "list") (g1 dList) := by
  refine CD.one call_list_of fun c σ s T H F α d v z Q J hz k => ?_
  obtain ⟨xs, h1, rfl⟩ := Option.map_eq_some_iff.mp hz
  obtain ⟨a, vs, ev, h2, rl⟩ := J.vSeq (J.tmp (d, v) (List.mem_cons_self ..)) h1
  have ev : v = .ref a := ev
  subst ev
  exact ⟨a, vs, rfl, h2, fun l hl => k _ _ (J.lstNew hl rl)⟩
def gL1 (g : D → Option (List D)) : List D → Option (List D)
  | [d] => g d
  | _ => none
theorem cdc_list : CDC X cl (.type "list") (gL1 seqD) := by
  refine ⟨_, call_list_of, fun c σ s T H ds vs z Q hl I hz k => ?_⟩
  match ds, vs, hl with
  | [d], [v], _ =>
    obtain ⟨F, α, J⟩ := id I
    have h1 : seqD (view s.M d) = some z := hz
    obtain ⟨a, vs, ev, h2, rl⟩ := J.vSeq (J.tmp (d, v) (List.mem_cons_self ..)) h1
    have ev : v = .ref a := ev
    subst ev
    exact ⟨a, vs, rfl, h2, fun l hl => k _ _ (J.cellNew hl rl)⟩
  | [], [], _ => cases hz
  | _ :: _ :: _, _, _ => cases hz
def dTuple : D → Option D := fun d => (seqD d).map .tup
theorem cd_tuple : CD X cl (.type "tuple") (g1 dTuple) := by
  refine CD.one call_tuple_of fun c σ s T H F α d v z Q J hz k => ?_
  obtain ⟨xs, h1, rfl⟩ := Option.map_eq_some_iff.mp hz
  obtain ⟨a, vs, ev, h2, rl⟩ := J.vSeq (J.tmp (d, v) (List.mem_cons_self ..)) h1
  have ev : v = .ref a := ev
  subst ev
  refine ⟨a, vs, rfl, ?_⟩
  rcases h2 with h2 | h2
  · exact .inl ⟨h2, fun l hl => k _ _ (J.tupNew hl rl)⟩
  · exact .inr ⟨h2, k _ _ ⟨F, α, J.push (.tup h2 rl)⟩⟩
/-- all, any of bools -/
def blsD : List D → Option (List Bool)
  | [] => some []
  | .bl b :: ds => (blsD ds).map (b :: ·)
  | _ => none
theorem blsD_rep {K : PySem.W.Frag} {H : Hp} {F : Addr → Prop} {α : List Addr} : ∀ {ds : List D} {vs : List V} {bs : List Bool}, RepL K cl H F α ds vs → blsD ds = some bs → vs = bs.map V.bl
  | _, _, _, .nil, h => by simp [blsD] at h; subst h; rfl
  | _, _, _, .cons (d := d) (ds := ds) r t, h => by
    cases d <;> first | (simp [blsD] at h; done) | skip
    simp only [blsD] at h
    obtain ⟨bs, h1, rfl⟩ := Option.map_eq_some_iff.mp h
    cases r
    rw [blsD_rep t h1]; rfl
def dAll : D → Option D
  | .lst ds => (blsD ds).map fun bs => .bl (bs.all id)
  | _ => none
def dAny : D → Option D
  | .lst ds => (blsD ds).map fun bs => .bl (bs.any id)
  | _ => none
theorem cd_all (hc : X.calm = true) : CD X cl (.builtin "all") (g1 dAll) := by
  refine CD.one (cr_all hc) fun c σ s T H F α d v z Q J hz k => ?_
  cases e : view s.M d with
  | lst ds =>
    rw [e] at hz
    obtain ⟨bs, h1, rfl⟩ := Option.map_eq_some_iff.mp (show (blsD ds).map (fun bs => D.bl (bs.all id)) = some z from hz)
    obtain ⟨a, vs, ev, h2, rl⟩ := J.vLst (J.tmp (d, v) (List.mem_cons_self ..)) e
    have ev : v = .ref a := ev
    subst ev
    have h3 := blsD_rep rl h1
    subst h3
    exact ⟨a, bs, rfl, SqL.of h2, k _ H (SI.flat rfl ⟨F, α, J⟩)⟩
  | _ => rw [e] at hz; cases hz
theorem cd_any (hc : X.calm = true) : CD X cl (.builtin "any") (g1 dAny) := by
  refine CD.one (cr_any hc) fun c σ s T H F α d v z Q J hz k => ?_
  cases e : view s.M d with
  | lst ds =>
    rw [e] at hz
    obtain ⟨bs, h1, rfl⟩ := Option.map_eq_some_iff.mp (show (blsD ds).map (fun bs => D.bl (bs.any id)) = some z from hz)
    obtain ⟨a, vs, ev, h2, rl⟩ := J.vLst (J.tmp (d, v) (List.mem_cons_self ..)) e
    have ev : v = .ref a := ev
    subst ev
    have h3 := blsD_rep rl h1
    subst h3
    exact ⟨a, bs, rfl, SqL.of h2, k _ H (SI.flat rfl ⟨F, α, J⟩)⟩
  | _ => rw [e] at hz; cases hz
/-! ### isinstance -/
inductive Ty where
  | non | bl | int | str | tup | lst | dct
  deriving DecidableEq
def Ty.nm : Ty → String
  | .non => "NoneType" | .bl => "bool" | .int => "int" | .str => "str" | .tup => "tuple" | .lst => "list" | .dct => "dict"
def tyD : D → Option Ty
  | .non => some .non | .bl _ => some .bl | .int _ => some .int | .str _ => some .str | .tup _ => some .tup | .lst _ => some .lst | .slst _ => some .lst
  | .dct _ => some .dct | .dcu _ => some .dct
  | _ => none
def isiT (t : Ty) (c : String) : Option Bool :=
  if c = "str" then some (t == .str) else if c = "tuple" then some (t == .tup) else if c = "list" then some (t == .lst) else if c = "int" then some (t == .int || t == .bl) else if c = "bool" then some (t == .bl) else if c = "dict" then some (t == .dct) else none
theorem isiT_ok {t : Ty} {c : String} {b : Bool} (h : isiT t c = some b) : kitB t.nm c = some b := by
  unfold isiT at h
  split at h
  · rename_i e; subst e; cases h; cases t <;> decide +kernel
  · split at h
    · rename_i e; subst e; cases h; cases t <;> decide +kernel
    · split at h
      · rename_i e; subst e; cases h; cases t <;> decide +kernel
      · split at h
        · rename_i e; subst e; cases h; cases t <;> decide +kernel
        · split at h
          · rename_i e; subst e; cases h; cases t <;> decide +kernel
          · split at h
            · rename_i e; subst e; cases h; cases t <;> decide +kernel
            · cases h
theorem sqT_ty {K : PySem.W.Frag} {H : Hp} {a : Addr} {xs : List V} (h : SqT K H a xs) : TyX K H (.ref a) (.type "tuple") := by
  rcases h with (h | ⟨o, h⟩) | ⟨o, its, n, h, c, _⟩
  · exact .base (.tup h)
  · exact .fTuple h
  · exact .kTuple h c
theorem sqL_ty {K : PySem.W.Frag} {H : Hp} {a : Addr} {xs : List V} (h : SqL K H a xs) : TyX K H (.ref a) (.type "list") := by
  rcases h with (h | ⟨o, h⟩) | ⟨o, its, n, h, c, _⟩
  · exact .base (.lst h)
  · exact .base (.frz h)
  · exact .kList h c
theorem tyD_rep {K : PySem.W.Frag} {H : Hp} {F : Addr → Prop} {α : List Addr} {d : D} {v : V} {t : Ty} (r : Rep K cl H F α d v) (h : tyD d = some t) : TyX K H v (.type t.nm) := by
  cases r <;> simp [tyD] at h <;> subst h
  · exact .base .non
  · exact .base (.bl _)
  · exact .base (.int _)
  · exact .base (.str _)
  · rename_i h _; exact sqT_ty h
  · rename_i h _ _; exact .base (.lst h)
  · rename_i h _ _; exact sqL_ty (.inl h)
  · rename_i h _; exact sqL_ty (h H)
  · rename_i h _ _; exact .base (.dK h)
  · rename_i h _ _; exact .base (.dT h)
theorem tyD_view {K : PySem.W.Frag} {c : Cz} {H : Hp} {σ : L2.St} {s : S} {T : List (D × V)} {F : Addr → Prop} {α : List Addr} {d : D} {v : V} {t : Ty} (J : SIx K cl c H σ s T F α) (r : Rep K cl H F α d v) (h : tyD (view s.M d) = some t) : TyX K H v (.type t.nm) := by
  rcases J.view r with r | ⟨k, x, a, _, rfl, _, _, e2, rc⟩
  · exact tyD_rep r h
  · rw [e2] at h
    cases x <;> simp [C.dat, tyD] at h <;> subst h
    · obtain ⟨vs, h1, _⟩ := rc; exact .base (.lst h1)
    · obtain ⟨vs, h1, _⟩ := rc; exact .base (.dK h1)
    · obtain ⟨vs, h1, _⟩ := rc; exact .base (.dT h1)
def dIsi : D → D → Option D
  | d, .raw (.ty c) => match tyD d with
    | some t => (isiT t c).map .bl
    | none => none
  | _, _ => none
theorem cd_isi : CD X cl (.builtin "isinstance") (g2 dIsi) := by
  refine CD.two call_isi fun c σ s T H F α d v e u z Q J hz k => ?_
  have key : ∀ d e z, dIsi d e = some z → ∃ cn t b, e = .raw (.ty cn) ∧ tyD d = some t ∧ isiT t cn = some b ∧ z = .bl b := fun d e z h => by
    unfold dIsi at h
    split at h
    · rename_i d cn
      split at h
      · rename_i t ht
        obtain ⟨b, h1, rfl⟩ := Option.map_eq_some_iff.mp h
        exact ⟨cn, t, b, rfl, ht, h1, rfl⟩
      · cases h
    · cases h
  obtain ⟨cn, t, b, e1, h1, h2, rfl⟩ := key _ _ _ hz
  have eu : u = .ty cn := by
    have r := J.tmp (e, u) (List.mem_cons_self ..)
    rcases J.view r with r | ⟨k', x, a, _, _, _, _, e2, _⟩
    · rw [e1] at r
      cases r; rfl
    · rw [e1] at e2; cases x <;> cases e2
  subst eu
  exact ⟨v, .ty cn, .type t.nm, .type cn, b, rfl, .ty cn, tyD_view J (J.tmp (d, v) (List.mem_cons_of_mem _ (List.mem_cons_self ..))) h1, kit_ty (isiT_ok h2), k _ H (SI.flat rfl ⟨F, α, J⟩)⟩
end
end DL

/-! DlM: defs that hand back a cell of their own; calls of them. -/
namespace DL
open PySem L2
open PySem.Spec PyProof.Rows

section
variable {K : PySem.W.Frag} {cl : Str → Addr} {c : Cz} {H : Hp} {σ : L2.St} {s : S} {T T' : List (D × V)} {F : Addr → Prop} {α : List Addr}
/-- a cell more, of a list (..) not known so far -/
theorem SIx.addCell {a : Addr} {x : C} (I : SIx K cl c H σ s T F α) (r : RepC K cl H F α a x) (nα : a ∉ α) (nF : ¬ F a) (old : a ∈ c.β ∨ c.H0 a = none) (dm : ∃ o, H a = some o) : SI K cl c H σ { s with M := s.M ++ [some x] } ((.ptr s.M.length, .ref a) :: T) := by
  have al : ∀ (k : Nat) (b : Addr), α[k]? = some b → (α ++ [a])[k]? = some b := fun k b q => by
    rw [List.getElem?_append_left (List.getElem?_eq_some_iff.mp q).1]; exact q
  have E : Ext H F α H F (α ++ [a]) := ⟨fun _ _ => rfl, fun _ h => h, fun _ _ h => h, fun _ _ _ h => h, al⟩
  refine ⟨F, α ++ [a], fun i d e => ?_, I.el, fun q hq => ?_, ?_, fun k y b e1 e2 => ?_, ?_, fun b hb => ?_, fun b hb => ?_, I.domF, I.inF, fun k b e => al k b (I.pre k b e), I.keep, I.tups, I.frzs⟩
  · obtain ⟨v, h1, h2⟩ := I.env i d e
    exact ⟨v, h1, h2.ext E⟩
  · rcases List.mem_cons.mp hq with z | hq
    · subst z
      refine .ptr ?_
      rw [← I.len]
      exact List.getElem?_concat_length
    · exact (I.tmp q hq).ext E
  · show (α ++ [a]).length = (s.M ++ [some x]).length
    rw [List.length_append, List.length_append, I.len]; rfl
  · have e1 : (s.M ++ [some x])[k]? = some (some y) := e1
    by_cases hk : k < s.M.length
    · rw [List.getElem?_append_left hk] at e1
      rw [List.getElem?_append_left (by rw [I.len]; exact hk)] at e2
      obtain ⟨h1, h2⟩ := I.cel k y b e1 e2
      exact ⟨E.repC h1 rfl, h2⟩
    · have hk' : k = s.M.length := by
        have := (List.getElem?_eq_some_iff.mp e1).1
        rw [List.length_append] at this
        simp at this; omega
      subst hk'
      rw [List.getElem?_concat_length] at e1
      cases e1
      rw [← I.len, List.getElem?_concat_length] at e2
      cases e2
      exact ⟨E.repC r rfl, nF⟩
  · rw [List.nodup_append]
    exact ⟨I.nd, by simp, fun x hx y hy e => nα (by rw [← List.mem_singleton.mp hy, ← e]; exact hx)⟩
  · rcases List.mem_append.mp hb with hb | hb
    · exact I.dom b hb
    · rw [List.mem_singleton.mp hb]; exact dm
  · rcases List.mem_append.mp hb with hb | hb
    · exact I.inα b hb
    · rw [List.mem_singleton.mp hb]; exact old
/-- the frame is left, one of its cells is kept -/
theorem SIx.leaveC {k n : Nat} {x : C} {v : V} (I : SIx K cl c H σ s ((.ptr k, v) :: T) F α) (hn : n ≤ k) (hk : s.M[k]? = some (some x)) (hβ : c.β.length ≤ n) (hc : cNp (s.M.take n) = true) (hx : x.np = true) :
    SI K cl c H [] ⟨[], s.M.take n ++ [some x]⟩ [(.ptr n, v)] := by
  have hkl : k < s.M.length := (List.getElem?_eq_some_iff.mp hk).1
  cases I.tmp (.ptr k, v) (List.mem_cons_self ..) with
  | ptr ha =>
    rename_i a
    have hl : n ≤ α.length := by rw [I.len]; omega
    obtain ⟨rc, nF⟩ := I.cel k x a hk ha
    have tk : ∀ (j : Nat) (b : Addr), (α.take n)[j]? = some b → α[j]? = some b ∧ j < n := fun j b e => by
      have hj : j < (α.take n).length := (List.getElem?_eq_some_iff.mp e).1
      rw [List.length_take] at hj
      have hj' : j < n := by omega
      rw [List.getElem?_take_of_lt hj'] at e
      exact ⟨e, hj'⟩
    have I2 : SIx K cl c H [] ⟨[], s.M.take n⟩ [] F (α.take n) := by
      refine ⟨fun i d e => by simp at e, rfl, fun q hq => by simp at hq, by show (α.take n).length = (s.M.take n).length; rw [List.length_take, List.length_take, I.len], fun j y b e1 e2 => ?_, I.nd.sublist (List.take_sublist _ _), fun b hb => I.dom b (List.mem_of_mem_take hb), fun b hb => I.inα b (List.mem_of_mem_take hb), I.domF, I.inF, fun j b e => ?_, I.keep, I.tups, I.frzs⟩
      · have e1 : (s.M.take n)[j]? = some (some y) := e1
        obtain ⟨e3, hj⟩ := tk j b e2
        have hy := cNp_get hc e1
        rw [List.getElem?_take_of_lt hj] at e1
        obtain ⟨rc, nF⟩ := I.cel j y b e1 e3
        exact ⟨rc.np (fun _ h => h) hy, nF⟩
      · have hj : j < n := Nat.lt_of_lt_of_le (List.getElem?_eq_some_iff.mp e).1 hβ
        rw [List.getElem?_take_of_lt hj]
        exact I.pre j b e
    have nα : a ∉ α.take n := fun hm => by
      obtain ⟨j, hj⟩ := List.getElem?_of_mem hm
      obtain ⟨e3, hj'⟩ := tk j a hj
      have := (List.getElem?_inj (by omega) I.nd).mp (e3.trans ha.symm)
      omega
    have Z := I2.addCell (x := x) (rc.np (fun _ h => h) hx) nα nF (I.inα a (List.mem_of_getElem? ha)) (I.dom a (List.mem_of_getElem? ha))
    have e : (s.M.take n).length = n := by rw [List.length_take]; omega
    have Z' : SI K cl c H [] ⟨[], s.M.take n ++ [some x]⟩ ((.ptr (s.M.take n).length, .ref a) :: []) := Z
    rw [e] at Z'
    exact Z'
end
/-- how a body's run ends, a cell of its own handed back -/
def finC (n : Nat) (o : Out Fl) : Out D := match o with
  | .ok (.ret (.ptr k)) s => match s.M[k]? with
    | some (some x) => if decide (n ≤ k) && cNp (s.M.take n) && x.np then .ok (.ptr n) ⟨[], s.M.take n ++ [some x]⟩ else .fail
    | _ => .fail
  | .exc c fs s => if npF fs && okM n s then .exc c fs ⟨[], s.M.take n⟩ else .fail
  | _ => .fail
def runC (N : Nat) (f : M Fl) : Sem := fun m ds => finC m.length (f ⟨ds.map some ++ List.replicate (N - ds.length) none, m.map some⟩)
/-- a def that hands back a cell -/
structure LenC (sem : Sem) : Prop where
  ok : ∀ m ds d s, sem m ds = .ok d s → ∃ x, d = .ptr m.length ∧ s.M.length = m.length + 1 ∧ s.M[m.length]? = some (some x)
  exc : ∀ m ds n fs s, sem m ds = .exc n fs s → s.M.length = m.length
theorem runC_len (N : Nat) (f : M Fl) : LenC (runC N f) := by
  refine ⟨fun m ds d s h => ?_, fun m ds n fs s h => ?_⟩
  · unfold runC at h
    revert h
    generalize f ⟨ds.map some ++ List.replicate (N - ds.length) none, m.map some⟩ = o
    intro h
    unfold finC at h
    split at h
    · rename_i k s1
      split at h
      · rename_i x hx
        split at h
        · rename_i hc
          cases h
          simp only [Bool.and_eq_true, decide_eq_true_eq] at hc
          have hk := (List.getElem?_eq_some_iff.mp hx).1
          have hl : (s1.M.take m.length).length = m.length := by rw [List.length_take]; omega
          refine ⟨x, rfl, ?_, ?_⟩
          · show (s1.M.take m.length ++ [some x]).length = _
            rw [List.length_append, hl]; rfl
          · show (s1.M.take m.length ++ [some x])[m.length]? = _
            rw [List.getElem?_append_right (by omega), hl, Nat.sub_self]; rfl
        · cases h
      · cases h
    · split at h <;> cases h
    · cases h
  · unfold runC at h
    revert h
    generalize f ⟨ds.map some ++ List.replicate (N - ds.length) none, m.map some⟩ = o
    intro h
    unfold finC at h
    split at h
    · split at h
      · split at h <;> cases h
      · cases h
    · split at h
      · rename_i hc
        cases h
        exact okM_len (Bool.and_eq_true_iff.mp hc).2
      · cases h
    · cases h
section
variable {K : PySem.W.Frag} {cl : Str → Addr} {H : Hp}
theorem body_wantC {W : XK} {F : Addr → Prop} {β : List Addr} {n : Nat} {o : Out Fl} {Q : VK} (hβ : β.length = n) (w : Want K cl (fun cls dx _ H' => W cls dx H') ⟨H, β, F⟩ [] [] (match finC n o with
    | .fail => .fail
    | .ok d s => .ok d ⟨[], s.M⟩
    | .exc n fs s => .exc n fs ⟨[], s.M⟩) Q) : WantS K cl (fun cls dx _ H' => W cls dx H') ⟨H, β, F⟩ [] o { nx := fun _ H' => Q .non H', rt := Q } := by
  cases o with
  | fail => exact w
  | exc c fs s => exact body_want (o := .exc c fs s) hβ w
  | ok r s =>
    cases r with
    | brk => exact w.elim
    | ct => exact w.elim
    | nx => exact w.elim
    | ret d =>
      rcases ptr_or d with ⟨k, rfl⟩ | hd
      · simp only [finC] at w
        cases e : s.M[k]? with
        | none => rw [e] at w; exact w.elim
        | some z =>
          cases z with
          | none => rw [e] at w; exact w.elim
          | some x =>
            rw [e] at w
            dsimp only at w
            cases hc : (decide (n ≤ k) && cNp (s.M.take n) && x.np) with
            | false => rw [hc] at w; exact w.elim
            | true =>
              rw [hc] at w
              simp only [Bool.and_eq_true, decide_eq_true_eq] at hc
              intro v σ H' I
              obtain ⟨G, α, J⟩ := I
              exact w v H' (J.leaveC hc.1.1 e (by rw [hβ]; exact Nat.le_refl _) hc.1.2 hc.2)
      · have : finC n (.ok (.ret d) s) = .fail := by
          cases d <;> first | rfl | exact absurd rfl (hd _)
        rw [this] at w
        exact w.elim
end
section
variable {P : Program} {w : World} {K : PySem.W.Frag} {mg : Str → Option Value} {base : Heap} {cl : Str → Addr}
/-- THE RULE, for any reading of the body's end -/
theorem fn_GX {k : Nat} {f : Addr} {x qual : Str} {params : Arguments} {body : List Stmt} {scope : Scope} {dvs : List V} {kws : List (Str × V)} {fd : FuncData} {N ps : List Str} {g : M Fl} {sem : Sem} (F : FunD K x qual params body scope dvs kws f fd) (S : FnScope N ps scope)
    (hsem : ∀ {H : Hp} {W : XK} {G : Addr → Prop} {β : List Addr} {m : List C} {ds : List D} {Q : VK}, β.length = m.length → Want K cl (fun cls dx _ H' => W cls dx H') ⟨H, β, G⟩ [] [] (match sem m ds with
      | .fail => .fail
      | .ok d s => .ok d ⟨[], s.M⟩
      | .exc n fs s => .exc n fs ⟨[], s.M⟩) Q → WantS K cl (fun cls dx _ H' => W cls dx H') ⟨H, β, G⟩ [] (g ⟨ds.map some ++ List.replicate (N.length - ds.length) none, m.map some⟩) { nx := fun _ H' => Q .non H', rt := Q })
    (hbody : ∀ (cdv : Value) (A : Around) (outer : List Env) (s : Shared) (H : Hp) (E : XK), Cok (cxOf (L2.CX P w) P w K mg base N qual scope f cdv A outer s H E) (fun cls dx _ H' => E cls dx H') k →
      DSs (cxOf (L2.CX P w) P w K mg base N qual scope f cdv A outer s H E) cl (fun cls dx _ H' => E cls dx H') body g) : FnG P w K mg base cl (k + 1) f fd ps sem := by
  obtain ⟨oc, od, dV, kV, doc, pm, an, cdv, ct, osl, rfl, lk, hcd, _, _⟩ := F.ex
  refine ⟨fun A outer s H args us vs Q E hr hgd e0 hb r hl hsp => ?_⟩
  have KX : K.In s.heap := e0.mod.kin.keeps fun b o e => (e0.bs b o e).1
  have lim : s.heap.NoLimit := e0.mod.nolimit.keeps fun b o e => (e0.bs b o e).1
  have hkind : ∀ y ∈ ps.zip us, scope.names.lookup y.1 = some .local ∨ (scope.names.lookup y.1 = some .cell ∧ ((cellsFrom (s.heap.objs.size + 1) scope.names []).lookup y.1).isSome = true) := fun ⟨n, v⟩ hy =>
    (S.par n (List.of_mem_zip hy).1).elim .inl fun q => .inr ⟨q, PySem.W.cellsFrom_some _ _ _ (.inl q)⟩
  refine codeAny_call_function hr.depth (KX _ _ lk) rfl S.co S.gen rfl (PySem.W.codeRec_of KX hcd) (hb _ _ _ _ ?_)
  refine wpAny_newFunctionEnv_cells S.kind hkind fun env he s1 z => ?_
  subst he
  refine ⟨lim.keeps z.toInCall.keep, codeAny_func ?_⟩
  have cok : Cok (cxOf (L2.CX P w) P w K mg base N qual scope f cdv A outer s H E) (fun cls dx _ H' => E cls dx H') k :=
    ⟨takes_of rfl rfl rfl rfl, passes_of (X := cxOf (L2.CX P w) P w K mg base N qual scope f cdv A outer s H E) (K := fun e s'' => L2.CX P w outer H s E e s'') rfl, S.nd, rfl, hr.deeper _, guards_deeper hgd⟩
  obtain ⟨ts, pt, hq⟩ := hbody cdv A outer s H E cok
  have I : Inv (cxOf (L2.CX P w) P w K mg base N qual scope f cdv A outer s H E) [] (start N vs) H s1 := inv_start S hr.hd e0 hl r z
  obtain ⟨G, β, m, ds, hdl, J, wn⟩ := hsp
  have hβ : β.length = m.length := by
    have := J.len
    rw [this]; show (m.map some).length = m.length
    rw [List.length_map]
  have start_want := hsem hβ wn
  have main := hq ⟨H, β, G⟩ (start N vs) _ [] H { nx := fun _ H' => Q .non H', rt := Q } (start_SI hdl J) start_want
  refine wpAny_mono (pt.run [] s1 (start N vs) H _ I main) (fun fl s' hs => ?_) fun e s' hs => hs
  have ends : ∀ {σ' : L2.St} {H' : Hp} {v : V} {u : Value}, Inv (cxOf (L2.CX P w) P w K mg base N qual scope f cdv A outer s H E) [] σ' H' s' → RelV v u → Q v H' → CE outer P w H s Q u s' :=
    fun {σ' H' v u} J rv q => ⟨v, H', J.os, J.bare, J.base, J.hok, rv, q⟩
  cases fl with
  | ret u =>
    obtain ⟨v, σ', H', J, rv, q⟩ := hs
    exact ends J rv q
  | next =>
    obtain ⟨σ', H', J, q⟩ := hs
    exact ends (v := V.non) (u := Value.none) J rfl q
  | brk => exact hs.elim fun _ h => h.elim fun _ h => h.2.elim
  | cont => exact hs.elim fun _ h => h.elim fun _ h => h.2.elim
theorem fn_GC {k : Nat} {f : Addr} {x qual : Str} {params : Arguments} {body : List Stmt} {scope : Scope} {dvs : List V} {kws : List (Str × V)} {fd : FuncData} {N ps : List Str} {g : M Fl} (F : FunD K x qual params body scope dvs kws f fd) (S : FnScope N ps scope)
    (hbody : ∀ (cdv : Value) (A : Around) (outer : List Env) (s : Shared) (H : Hp) (E : XK), Cok (cxOf (L2.CX P w) P w K mg base N qual scope f cdv A outer s H E) (fun cls dx _ H' => E cls dx H') k →
      DSs (cxOf (L2.CX P w) P w K mg base N qual scope f cdv A outer s H E) cl (fun cls dx _ H' => E cls dx H') body g) : FnG P w K mg base cl (k + 1) f fd ps (runC N.length g) :=
  fn_GX F S (fun hβ wn => body_wantC hβ wn) hbody
end
/-! ### the call -/
def callSC (io : List Bool) (sem : Sem) (ds : List D) (s : S) : Out D := match prep s.M io ds 0 with
  | none => .fail
  | some p => if p.ks.Nodup ∧ (∀ k ∈ p.ls, k ∉ p.ks) then
      match sem p.m p.ds with
      | .fail => .fail
      | .ok d s' => match s'.M[p.ks.length]? with
        | some (some x) => if x.np && cNp (s'.M.take p.ks.length) && (p.ls.isEmpty || (x.nm && cNm (s'.M.take p.ks.length))) then .ok (.ptr s.M.length) { s with M := putC s.M p.ks s'.M ++ [some x] } else .fail
        | _ => .fail
      | .exc n fs s' => if npF fs && cNp (s'.M.take p.ks.length) && p.ls.isEmpty then .exc n fs { s with M := putC s.M p.ks s'.M } else .fail
    else .fail
section
variable {K : PySem.W.Frag} {cl : Str → Addr} {c : Cz} {H : Hp} {σ : L2.St} {s : S} {T T' : List (D × V)} {F : Addr → Prop} {α : List Addr}
theorem call_dspC {W : WX} {io : List Bool} {sem : Sem} {ds : List D} {vs : List V} {Q : VK} (I : SIx K cl c H σ s (zipT ds vs T) F α) (hl : ds.length = vs.length) (w : Want K cl W c σ T (callSC io sem ds s) Q)
    (hM : LenC sem) : dsp K cl sem vs H Q (fun cls dx H' => W cls dx σ H') := by
  unfold callSC at w
  cases hp : prep s.M io ds 0 with
  | none => rw [hp] at w; exact w.elim
  | some p =>
    rw [hp] at w
    dsimp only at w
    by_cases hc : p.ks.Nodup ∧ ∀ k ∈ p.ls, k ∉ p.ks
    · rw [if_pos hc] at w
      obtain ⟨hks, hls⟩ := hc
      obtain ⟨Fp, hFp, hkl, hlive, pl, hdl, J0, IT⟩ := call_pre I hl hp hks hls
      refine ⟨Fp, adrs α p.ks, p.m, p.ds, hdl, J0, ?_⟩
      cases hs : sem p.m p.ds with
      | fail => rw [hs] at w; exact w.elim
      | ok d s' =>
        rw [hs] at w
        dsimp only at w ⊢
        obtain ⟨x, hd, hlen, hx⟩ := hM.ok _ _ _ _ hs
        rw [pl] at hd hlen hx
        subst hd
        rw [hx] at w
        dsimp only at w
        cases hcond : (x.np && cNp (s'.M.take p.ks.length) && (p.ls.isEmpty || (x.nm && cNm (s'.M.take p.ks.length)))) with
        | false => rw [hcond] at w; exact w.elim
        | true =>
          rw [hcond] at w
          simp only [Bool.and_eq_true, Bool.or_eq_true] at hcond
          obtain ⟨⟨h1, h2⟩, h3⟩ := hcond
          intro v H' J
          obtain ⟨G, γ, J⟩ := J
          have JT : SIx K cl ⟨H, adrs α p.ks, Fp⟩ H' [] ⟨[], s'.M⟩ [] G γ := { J with tmp := fun q hq => by simp at hq }
          obtain ⟨F2, hF2, hG, hF2G, B⟩ := backX (T' := []) IT hks hkl hlive hFp JT (by omega) h2 (by
            rcases h3 with h3 | ⟨_, h4⟩
            · exact .inl (List.isEmpty_iff.mp h3)
            · exact .inr ⟨h4, fun q hq => by simp at hq⟩) fun q hq => by simp at hq
          have hr : Rep K cl H' G γ (.ptr p.ks.length) v := J.tmp (.ptr p.ks.length, v) (List.mem_cons_self ..)
          cases hr with
          | ptr ha =>
            rename_i a
            obtain ⟨rc, nG⟩ := J.cel _ x a hx ha
            have hβl : (adrs α p.ks).length = p.ks.length := by unfold adrs; rw [List.length_map]
            have hfresh : H a = none := by
              rcases J.inα a (List.mem_of_getElem? ha) with z | z
              · obtain ⟨j, hj⟩ := List.getElem?_of_mem z
                have hj' := (List.getElem?_eq_some_iff.mp hj).1
                rw [hβl] at hj'
                have e1 := J.pre j a hj
                have := (List.getElem?_inj (List.getElem?_eq_some_iff.mp e1).1 J.nd).mp (e1.trans ha.symm)
                omega
              · exact z
            have nα : a ∉ α := fun hm => by
              obtain ⟨o, ho⟩ := I.dom a hm
              rw [hfresh] at ho; cases ho
            have nF : ¬ F2 a := fun hf => by
              rcases hF2G a hf with hf | ⟨_, hf⟩
              · obtain ⟨o, ho⟩ := I.domF a hf
                rw [hfresh] at ho; cases ho
              · exact nG hf
            have old : a ∈ c.β ∨ c.H0 a = none := by
              cases q : c.H0 a with
              | none => exact .inr rfl
              | some u =>
                by_cases hm : a ∈ c.β
                · exact .inl hm
                · have := I.keep a u q hm
                  rw [hfresh] at this; cases this
            have rcx : RepC K cl H' F2 α a x := by
              rcases h3 with h3 | ⟨h3, _⟩
              · exact rc.np (hG (List.isEmpty_iff.mp h3)) h1
              · exact rc.nm h3
            have Z := SIx.addCell (x := x) B rcx nα nF old (J.dom a (List.mem_of_getElem? ha))
            have Z' : SI K cl c H' σ { s with M := putC s.M p.ks s'.M ++ [some x] } ((.ptr (putC s.M p.ks s'.M).length, .ref a) :: T) := Z
            rw [putC_len] at Z'
            exact w _ H' Z'
      | exc n fs s' =>
        rw [hs] at w
        dsimp only at w ⊢
        have hlen : p.ks.length ≤ s'.M.length := by rw [hM.exc _ _ _ _ _ hs, pl]; exact Nat.le_refl _
        cases hcond : (npF fs && cNp (s'.M.take p.ks.length) && p.ls.isEmpty) with
        | false => rw [hcond] at w; exact w.elim
        | true =>
          rw [hcond] at w
          simp only [Bool.and_eq_true] at hcond
          obtain ⟨⟨h1, h2⟩, h3⟩ := hcond
          intro dx H' hdx J
          refine w dx H' hdx (back (T' := xt fs dx) IT hks hkl hlive hFp (by rw [List.append_nil] at J; exact J) hlen h2 (.inl (List.isEmpty_iff.mp h3)) fun q hq => ?_)
          cases dx with
          | none => simp [xt] at hq
          | some a =>
            rw [List.mem_singleton.mp hq]
            show np (.xd fs) = true
            simp only [np]; exact h1
    · rw [if_neg hc] at w; exact w.elim
theorem callSC_len {io : List Bool} {sem : Sem} {ds : List D} {W : WX} {Q : VK} (w : Want K cl W c σ T (callSC io sem ds s) Q) : ds.length = io.length := by
  unfold callSC at w
  cases hp : prep s.M io ds 0 with
  | none => rw [hp] at w; exact w.elim
  | some p =>
    refine callS_len (s := s) (sem := fun _ _ => .ok .non ⟨[], []⟩) (io := io) (K := K) (cl := cl) (c := c) (σ := σ) (T := T) (W := W) (Q := fun _ _ => True) ?_
    unfold callS
    rw [hp] at w ⊢
    dsimp only at w ⊢
    by_cases hc : p.ks.Nodup ∧ ∀ k ∈ p.ls, k ∉ p.ks
    · rw [if_pos hc]
      have e : (np D.non && cNp (([] : List (Option C)).take p.ks.length) && (p.ls.isEmpty || (nm D.non && cNm (([] : List (Option C)).take p.ks.length)))) = true := by
        rw [List.take_nil]
        cases p.ls.isEmpty <;> rfl
      rw [e]
      exact fun _ _ _ => trivial
    · rw [if_neg hc] at w; exact w.elim
end
def eCallC (io : List Bool) (sem : Sem) (f : M (List D)) : M D := fun s => (f s).bind fun ds s => callSC io sem ds s
section
variable {X : Cx} {cl : Str → Addr} {W : WX} {k : Nat}
theorem de_callC {x : Str} {fa : Addr} {fd : FuncData} {ps : List Str} {sem : Sem} {io : List Bool} {e : Expr} {es : List Expr} {f : M (List D)} {p pos : Pos} (F : FnG X.prog X.w X.K X.mg X.base cl k fa fd ps sem) (hn : LenC sem) (hio : io.length = ps.length) (hc : Cok X W k)
    (hm : X.mg x = some (.ref fa)) (hk : PySem.W.keepIn X.K (.ref fa) = true) (hb : Binds X.K fd ps []) (ha : DA X cl W (e :: es) f) (hg : Gl X x := by rfl)
    (hdb : (x == ("__debug__" : Str)) = false := by decide) (he : starEach (e :: es) X.env = (false, eval e X.env) :: starEach es X.env := by rfl) (hpl : (backTo pos (starEach es X.env)).any (·.1) = false := by rfl) :
    DE X cl W (.Call (.Name x p) (e :: es) [] pos) (eCallC io sem f) := by
  obtain ⟨ta, pa, qa⟩ := ha
  refine ⟨fun σ H Q => ta σ H fun vs H1 => vs.length = ps.length ∧ dsp X.K cl sem vs H1 Q (fun cls dx H' => W cls dx σ H'), ⟨fun pins s σ H Q I h => ?_⟩, fun c σ s T H Q I w => ?_⟩
  · refine wpAny_Call_Name_kw (ld_glob I hg hm ?_ hdb)
    refine PySem.W.callWith_K (h₀ := X.base) I.ok.mod.kin hk (thn (pa.run pos pins s σ H _ I h) fun us s1 ⟨vs, H1, I1, r, hl, q⟩ => ⟨I1.kIn, ?_⟩) he hpl
    exact run_G (dvs := []) F hc hb I1 r hl q
  · refine qa c σ s T H _ I (w.bindA fun ds s1 _ w1 vs H1 hl I1 => ?_)
    obtain ⟨G, α, J⟩ := I1
    exact ⟨by rw [← hl, callSC_len w1, hio], call_dspC J hl w1 hn⟩
end
end DL

/-! DlN: methods of texts and lists; subscripts; slices; stores. -/
namespace DL
open PySem L2
open PySem.Spec PyProof.Rows

def strsD : List D → Option (List Str)
  | [] => some []
  | .str z :: ds => (strsD ds).map (z :: ·)
  | _ => none
def intsD : List D → Option (List Int)
  | [] => some []
  | .int z :: ds => (intsD ds).map (z :: ·)
  | _ => none
section
variable {K : PySem.W.Frag} {cl : Str → Addr} {H : Hp} {F : Addr → Prop} {α : List Addr}
theorem strsD_rep : ∀ {ds : List D} {vs : List V} {zs : List Str}, RepL K cl H F α ds vs → strsD ds = some zs → vs = zs.map V.str
  | _, _, _, .nil, h => by simp [strsD] at h; subst h; rfl
  | _, _, _, .cons (d := d) (ds := ds) r t, h => by
    cases d <;> first | (simp [strsD] at h; done) | skip
    simp only [strsD] at h
    obtain ⟨bs, h1, rfl⟩ := Option.map_eq_some_iff.mp h
    cases r
    rw [strsD_rep t h1]; rfl
theorem intsD_rep : ∀ {ds : List D} {vs : List V} {zs : List Int}, RepL K cl H F α ds vs → intsD ds = some zs → vs = zs.map V.int
  | _, _, _, .nil, h => by simp [intsD] at h; subst h; rfl
  | _, _, _, .cons (d := d) (ds := ds) r t, h => by
    cases d <;> first | (simp [intsD] at h; done) | skip
    simp only [intsD] at h
    obtain ⟨bs, h1, rfl⟩ := Option.map_eq_some_iff.mp h
    cases r
    rw [intsD_rep t h1]; rfl
theorem rep_strs : ∀ zs : List Str, RepL K cl H F α (zs.map D.str) (zs.map V.str)
  | [] => .nil
  | _ :: zs => .cons .str (rep_strs zs)
theorem rep_ints : ∀ zs : List Int, RepL K cl H F α (zs.map D.int) (zs.map V.int)
  | [] => .nil
  | _ :: zs => .cons .int (rep_ints zs)
end
/-! ### the receiver's type -/
def tyN : D → Option String
  | .str _ => some "str"
  | .lst _ => some "list"
  | .slst _ => some "list"
  | .dct _ => some "dict"
  | .dcu _ => some "dict"
  | _ => none
theorem tyN_rep {K : PySem.W.Frag} {cl : Str → Addr} {H : Hp} {F : Addr → Prop} {α : List Addr} {d : D} {v : V} {t : String} (r : Rep K cl H F α d v) (h : tyN d = some t) : tyV K t v H := by
  cases r <;> simp [tyN] at h <;> subst h
  · rfl
  · rename_i h _ _; exact .inl ⟨rfl, _, SqL.of h⟩
  · rename_i h _ _; exact .inl ⟨rfl, _, .inl h⟩
  · rename_i h _; exact .inl ⟨rfl, _, h H⟩
  · rename_i h _ _; exact .inr (.inr (.inl ⟨rfl, .inl ⟨_, h⟩⟩))
  · rename_i h _ _; exact .inr (.inr (.inl ⟨rfl, .inr ⟨_, h⟩⟩))
theorem tyN_view {K : PySem.W.Frag} {cl : Str → Addr} {c : Cz} {H : Hp} {σ : L2.St} {s : S} {T : List (D × V)} {F : Addr → Prop} {α : List Addr} {d : D} {v : V} {t : String} (J : SIx K cl c H σ s T F α) (r : Rep K cl H F α d v) (h : tyN (view s.M d) = some t) : tyV K t v H := by
  rcases J.view r with r | ⟨k, x, a, _, rfl, _, _, e2, rc⟩
  · exact tyN_rep r h
  · rw [e2] at h
    cases x <;> simp [C.dat, tyN] at h <;> subst h
    · obtain ⟨vs, h1, _⟩ := rc; exact .inl ⟨rfl, _, SqL.of h1⟩
    · obtain ⟨vs, h1, _⟩ := rc; exact .inr (.inr (.inl ⟨rfl, .inl ⟨_, h1⟩⟩))
    · obtain ⟨vs, h1, _⟩ := rc; exact .inr (.inr (.inl ⟨rfl, .inr ⟨_, h1⟩⟩))

/-! ### methods that read -/
structure MD (X : Cx) (cl : Str → Addr) (id : String) (g : D → List D → Option D) : Prop where
  ex : ∃ r, MtR X id r ∧ ∀ c σ s T H d v ds vs z Q, ds.length = vs.length → SI X.K cl c H σ s (zipT ds vs ((d, v) :: T)) → g (view s.M d) (ds.map (view s.M)) = some z → (∀ v' H', SI X.K cl c H' σ s ((z, v') :: zipT ds vs ((d, v) :: T)) → Q v' H') → r v vs H Q
/-- .. that write their cell -/
structure MC (X : Cx) (cl : Str → Addr) (id : String) (g : C → List D → Option (D × C)) : Prop where
  ex : ∃ r, MtM X id r ∧ ∀ c σ s T H k x v ds vs z y Q, ds.length = vs.length → SI X.K cl c H σ s (zipT ds vs ((.ptr k, v) :: T)) → s.M[k]? = some (some x) → g x ds = some (z, y) → (∀ v' H', SI X.K cl c H' σ { s with M := s.M.set k (some y) } ((z, v') :: zipT ds vs ((.ptr k, v) :: T)) → Q v' H') → r v vs H Q
def eBM (t : String) (g : D → List D → Option D) (fo : M D) (fa : M (List D)) : M D := fun s => (fo s).bind fun d s1 => if tyN (view s1.M d) = some t then (fa s1).bind fun ds s2 => oOf (g (view s2.M d) (ds.map (view s2.M))) s2 else .fail
def eBM0 (t : String) (g : D → List D → Option D) (fo : M D) : M D := fun s => (fo s).bind fun d s1 => if tyN (view s1.M d) = some t then oOf (g (view s1.M d) []) s1 else .fail
def oC (k : Nat) (o : Option (D × C)) (s : S) : Out D := match o with
  | some (z, y) => .ok z { s with M := s.M.set k (some y) }
  | none => .fail
def onC (g : C → List D → Option (D × C)) (d : D) (ds : List D) (s : S) : Out D := match d with
  | .ptr k => match s.M[k]? with
    | some (some x) => oC k (g x ds) s
    | _ => .fail
  | _ => .fail
def eCM (t : String) (g : C → List D → Option (D × C)) (fo : M D) (fa : M (List D)) : M D := fun s => (fo s).bind fun d s1 => if tyN (view s1.M d) = some t then (fa s1).bind fun ds s2 => onC g d ds s2 else .fail
def eCM0 (t : String) (g : C → List D → Option (D × C)) (fo : M D) : M D := fun s => (fo s).bind fun d s1 => if tyN (view s1.M d) = some t then onC g d [] s1 else .fail
section
variable {X : Cx} {cl : Str → Addr} {W : WX} {o e : Expr} {es : List Expr} {fo : M D} {fa : M (List D)} {name : Str} {apos cpos : Pos} {t id : String} {g : D → List D → Option D} {gc : C → List D → Option (D × C)}
theorem de_bm (pa : PlainAttrs t) (slot : Slot t name id) (hty : typeOf (.builtin id) = pure (.type "method_descriptor")) (hm : MD X cl id g) (ho : DE X cl W o fo) (ha : DA X cl W (e :: es) fa)
    (hbase : attributeBase o name X.env (eval o X.env) = eval o X.env := by rfl)
    (hfew : ((backTo cpos (starEach (e :: es) X.env)).all (fun x => !x.1) && (backToKw cpos (keywordEach [] X.env)).all (fun x => x.1.isSome)
      && decide ((e :: es).length + ([] : List Keyword).length + (if ([] : List Keyword).isEmpty then 0 else 1) < 30)) = true := by rfl)
    (hline : (apos.endLine == cpos.line) = true := by rfl) (hs : starEach (e :: es) X.env = (false, eval e X.env) :: starEach es X.env := by rfl) (hplain : (backTo cpos (starEach es X.env)).any (·.1) = false := by rfl) :
    DE X cl W (.Call (.Attribute o name apos) (e :: es) [] cpos) (eBM t g fo fa) := by
  obtain ⟨to, po, qo⟩ := ho
  obtain ⟨ta, pp, qa⟩ := ha
  obtain ⟨r, hr, q⟩ := hm
  refine ⟨_, pe_bm pa slot hty hr po pp hbase hfew hline hs hplain, fun c σ s T H Q I w => ?_⟩
  refine qo c σ s T H _ I (w.bind fun d s1 _ w1 v H1 I1 => ?_)
  split at w1
  · rename_i ht
    obtain ⟨F, α, J⟩ := _root_.id I1
    refine ⟨tyN_view J (J.tmp (d, v) (List.mem_cons_self ..)) ht, ?_⟩
    refine qa c σ s1 _ H1 _ I1 ((w1.deeper fun p hp => List.mem_cons_of_mem _ hp).bindA fun ds s2 _ w2 vs H2 hl I2 => ?_)
    unfold oOf at w2
    split at w2
    · rename_i z hz
      exact q c σ s2 T H2 d v ds vs z Q hl I2 hz fun v' H' I' => w2 v' H' I'.unzip
    · exact w2.elim
  · exact w1.elim
theorem de_bm0 (pa : PlainAttrs t) (slot : Slot t name id) (hty : typeOf (.builtin id) = pure (.type "method_descriptor")) (hm : MD X cl id g) (ho : DE X cl W o fo)
    (hbase : attributeBase o name X.env (eval o X.env) = eval o X.env := by rfl) (hline : (apos.endLine == cpos.line) = true := by rfl) : DE X cl W (.Call (.Attribute o name apos) [] [] cpos) (eBM0 t g fo) := by
  obtain ⟨to, po, qo⟩ := ho
  obtain ⟨r, hr, q⟩ := hm
  refine ⟨_, pe_bm0 pa slot hty hr po hbase hline, fun c σ s T H Q I w => ?_⟩
  refine qo c σ s T H _ I (w.bind fun d s1 _ w1 v H1 I1 => ?_)
  split at w1
  · rename_i ht
    obtain ⟨F, α, J⟩ := _root_.id I1
    refine ⟨tyN_view J (J.tmp (d, v) (List.mem_cons_self ..)) ht, ?_⟩
    unfold oOf at w1
    split at w1
    · rename_i z hz
      exact q c σ s1 T H1 d v [] [] z Q rfl I1 hz fun v' H' I' => w1 v' H' (I'.sub fun p hp => (List.mem_cons.mp hp).elim (fun e => e ▸ List.mem_cons_self ..) fun hp => List.mem_cons_of_mem _ (List.mem_cons_of_mem _ hp))
    · exact w1.elim
  · exact w1.elim
theorem de_cm (pa : PlainAttrs t) (slot : Slot t name id) (hty : typeOf (.builtin id) = pure (.type "method_descriptor")) (hm : MC X cl id gc) (ho : DE X cl W o fo) (ha : DA X cl W (e :: es) fa)
    (hbase : attributeBase o name X.env (eval o X.env) = eval o X.env := by rfl)
    (hfew : ((backTo cpos (starEach (e :: es) X.env)).all (fun x => !x.1) && (backToKw cpos (keywordEach [] X.env)).all (fun x => x.1.isSome)
      && decide ((e :: es).length + ([] : List Keyword).length + (if ([] : List Keyword).isEmpty then 0 else 1) < 30)) = true := by rfl)
    (hline : (apos.endLine == cpos.line) = true := by rfl) (hs : starEach (e :: es) X.env = (false, eval e X.env) :: starEach es X.env := by rfl) (hplain : (backTo cpos (starEach es X.env)).any (·.1) = false := by rfl) :
    DE X cl W (.Call (.Attribute o name apos) (e :: es) [] cpos) (eCM t gc fo fa) := by
  obtain ⟨to, po, qo⟩ := ho
  obtain ⟨ta, pp, qa⟩ := ha
  obtain ⟨r, hr, q⟩ := hm
  refine ⟨_, pe_bm pa slot hty hr po pp hbase hfew hline hs hplain, fun c σ s T H Q I w => ?_⟩
  refine qo c σ s T H _ I (w.bind fun d s1 _ w1 v H1 I1 => ?_)
  split at w1
  · rename_i ht
    obtain ⟨F, α, J⟩ := _root_.id I1
    refine ⟨tyN_view J (J.tmp (d, v) (List.mem_cons_self ..)) ht, ?_⟩
    refine qa c σ s1 _ H1 _ I1 ((w1.deeper fun p hp => List.mem_cons_of_mem _ hp).bindA fun ds s2 _ w2 vs H2 hl I2 => ?_)
    rcases ptr_or d with ⟨k, rfl⟩ | hd
    · simp only [onC] at w2
      cases hk : s2.M[k]? with
      | none => rw [hk] at w2; exact w2.elim
      | some ox =>
        cases ox with
        | none => rw [hk] at w2; exact w2.elim
        | some x =>
          rw [hk] at w2
          dsimp only at w2
          cases hg : gc x ds with
          | none => rw [hg] at w2; exact w2.elim
          | some zy =>
            rw [hg] at w2
            obtain ⟨z, y⟩ := zy
            exact q c σ s2 T H2 k x v ds vs z y Q hl I2 hk hg fun v' H' I' => w2 v' H' I'.unzip
    · have : onC gc d ds s2 = .fail := by cases d <;> first | rfl | exact absurd rfl (hd _)
      rw [this] at w2
      exact w2.elim
  · exact w1.elim
theorem de_cm0 (pa : PlainAttrs t) (slot : Slot t name id) (hty : typeOf (.builtin id) = pure (.type "method_descriptor")) (hm : MC X cl id gc) (ho : DE X cl W o fo)
    (hbase : attributeBase o name X.env (eval o X.env) = eval o X.env := by rfl) (hline : (apos.endLine == cpos.line) = true := by rfl) : DE X cl W (.Call (.Attribute o name apos) [] [] cpos) (eCM0 t gc fo) := by
  obtain ⟨to, po, qo⟩ := ho
  obtain ⟨r, hr, q⟩ := hm
  refine ⟨_, pe_bm0 pa slot hty hr po hbase hline, fun c σ s T H Q I w => ?_⟩
  refine qo c σ s T H _ I (w.bind fun d s1 _ w2 v H1 I1 => ?_)
  split at w2
  · rename_i ht
    obtain ⟨F, α, J⟩ := _root_.id I1
    refine ⟨tyN_view J (J.tmp (d, v) (List.mem_cons_self ..)) ht, ?_⟩
    rcases ptr_or d with ⟨k, rfl⟩ | hd
    · simp only [onC] at w2
      cases hk : s1.M[k]? with
      | none => rw [hk] at w2; exact w2.elim
      | some ox =>
        cases ox with
        | none => rw [hk] at w2; exact w2.elim
        | some x =>
          rw [hk] at w2
          dsimp only at w2
          cases hg : gc x [] with
          | none => rw [hg] at w2; exact w2.elim
          | some zy =>
            rw [hg] at w2
            obtain ⟨z, y⟩ := zy
            exact q c σ s1 T H1 k x v [] [] z y Q rfl I1 hk hg fun v' H' I' => w2 v' H' (I'.sub fun p hp => (List.mem_cons.mp hp).elim (fun e => e ▸ List.mem_cons_self ..) fun hp => List.mem_cons_of_mem _ (List.mem_cons_of_mem _ hp))
    · have : onC gc d [] s1 = .fail := by cases d <;> first | rfl | exact absurd rfl (hd _)
      rw [this] at w2
      exact w2.elim
  · exact w2.elim
end
end DL

/-! DlO: the methods one by one; subscripts; slices; stores. -/
namespace DL
open PySem L2
open PySem.Spec PyProof.Rows

section
variable {K : PySem.W.Frag} {cl : Str → Addr} {c : Cz} {H : Hp} {σ : L2.St} {s : S} {T : List (D × V)} {F : Addr → Prop} {α : List Addr}
/-- a cell's list, and the same cell written -/
theorem SIx.cellL {k : Nat} {v : V} {xs : List D} (J : SIx K cl c H σ s T F α) (r : Rep K cl H F α (.ptr k) v) (hk : s.M[k]? = some (some (.lst xs))) :
    ∃ a vs, v = .ref a ∧ H a = some (.lst vs) ∧ RepL K cl H F α xs vs ∧ ∀ ys ws z u, RepL K cl H F α ys ws → Rep K cl H F α z u → SI K cl c (upd H a (.lst ws)) σ { s with M := s.M.set k (some (.lst ys)) } ((z, u) :: T) := by
  cases r with
  | ptr ha =>
    rename_i a
    obtain ⟨⟨vs, h1, rl⟩, nF⟩ := J.cel k _ a hk ha
    refine ⟨a, vs, rfl, h1, rl, fun ys ws z u ry rz => ?_⟩
    have e := ext_set (o := .lst ws) J hk ha
    exact ⟨F, α, (J.setCell (y := .lst ys) hk ha fun e => ⟨ws, upd_same, ry.ext e⟩).push (rz.ext e)⟩
end
def le1m (n : Nat) : Bool := decide (n ≤ 1000000)
theorem le1m_ok {n : Nat} (h : le1m n = true) : n ≤ sizeLine := line1m (of_decide_eq_true h)
theorem lt1m {n : Nat} (h : n < 1000000) : n < sizeLine := by
  have e : sizeLine = sizeLine := rfl
  have := line1m (n := n + 1) (by omega)
  omega
section
variable {X : Cx} {cl : Str → Addr}
def g0 (g : D → Option D) : D → List D → Option D := fun d ds => match ds with
  | [] => g d
  | _ => none
def g1m (g : D → D → Option D) : D → List D → Option D := fun d ds => match ds with
  | [e] => g d e
  | _ => none
theorem MD.none {id : String} {g : D → Option D} {r : V → List V → Hp → VK → Prop} (hr : MtR X id r) (q : ∀ c σ s T H F α d v z Q, SIx X.K cl c H σ s ((d, v) :: T) F α → g (view s.M d) = some z → (∀ v' H', SI X.K cl c H' σ s ((z, v') :: (d, v) :: T) → Q v' H') → r v [] H Q) : MD X cl id (g0 g) := by
  refine ⟨r, hr, fun c σ s T H d v ds vs z Q hl I hz k => ?_⟩
  match ds, vs, hl with
  | [], [], _ =>
    obtain ⟨F, α, J⟩ := _root_.id I
    exact q c σ s T H F α d v z Q J hz k
  | _ :: _, _, _ => cases hz
theorem MD.one {id : String} {g : D → D → Option D} {r : V → List V → Hp → VK → Prop} (hr : MtR X id r) (q : ∀ c σ s T H F α d v e u z Q, SIx X.K cl c H σ s ((e, u) :: (d, v) :: T) F α → g (view s.M d) (view s.M e) = some z → (∀ v' H', SI X.K cl c H' σ s ((z, v') :: (e, u) :: (d, v) :: T) → Q v' H') → r v [u] H Q) : MD X cl id (g1m g) := by
  refine ⟨r, hr, fun c σ s T H d v ds vs z Q hl I hz k => ?_⟩
  match ds, vs, hl with
  | [e], [u], _ =>
    obtain ⟨F, α, J⟩ := _root_.id I
    exact q c σ s T H F α d v e u z Q J hz k
  | [], _, _ => cases hz
  | _ :: _ :: _, _, _ => cases hz
/-- sep.join(..) -/
def dJoin : D → D → Option D := fun d e => match d with
  | .str a => match (seqD e).bind strsD with
    | some ys => if (ys.map (·.length)).sum + ys.length * a.length ≤ 16777216 then some (.str (Txt.join a ys)) else none
    | none => none
  | _ => none
theorem md_join : MD X cl "str.join" (g1m dJoin) := by
  refine MD.one mt_join fun c σ s T H F α d v e u z Q J hz k => ?_
  unfold dJoin at hz
  split at hz
  · rename_i a ea
    split at hz
    · rename_i ys hy
      split at hz
      · rename_i hb
        cases hz
        obtain ⟨xs, h1, h2⟩ := Option.bind_eq_some_iff.mp hy
        obtain ⟨p, vs, ev, h3, rl⟩ := J.vSeq (J.tmp (e, u) (List.mem_cons_self ..)) h1
        have ev : u = .ref p := ev
        subst ev
        have h4 := strsD_rep rl h2
        subst h4
        exact ⟨a, p, ys, J.t2s ea, rfl, h3, hb, k _ H (SI.flat rfl ⟨F, α, J⟩)⟩
      · cases hz
    · cases hz
  · cases hz
/-- texts, a text given -/
def dSS (g : Str → Str → Option D) : D → D → Option D
  | .str a, .str b => g a b
  | _, _ => none
theorem dSS_some {g : Str → Str → Option D} {d e z : D} (h : dSS g d e = some z) : ∃ a b, d = .str a ∧ e = .str b ∧ g a b = some z := by
  unfold dSS at h
  split at h
  · exact ⟨_, _, rfl, rfl, h⟩
  · cases h
theorem md_count : MD X cl "str.count" (g1m (dSS fun a b => some (.int (Txt.count a b)))) := by
  refine MD.one mt_count fun c σ s T H F α d v e u z Q J hz k => ?_
  obtain ⟨a, b, e1, e2, h⟩ := dSS_some hz
  cases h
  exact ⟨a, b, J.t2s e1, by rw [J.t1s e2], k _ H (SI.flat rfl ⟨F, α, J⟩)⟩
def dSplit (a b : Str) : Option D := if (b.length == 0) = false ∧ le1m (a.length + 2) = true then some (.lst ((Txt.split a b).map .str)) else none
theorem md_split : MD X cl "str.split" (g1m (dSS dSplit)) := by
  refine MD.one mt_split fun c σ s T H F α d v e u z Q J hz k => ?_
  obtain ⟨a, b, e1, e2, h⟩ := dSS_some hz
  unfold dSplit at h
  split at h
  · rename_i hc
    cases h
    exact ⟨a, b, J.t2s e1, by rw [J.t1s e2], hc.1, le1m_ok hc.2, fun p hp => k _ _ (J.lstNew hp (rep_strs _))⟩
  · cases h
/-! lists in cells -/
def cAppend : C → List D → Option (D × C)
  | .lst xs, [d] => if xs.length < 1000000 then some (.non, .lst (xs ++ [d])) else none
  | _, _ => none
theorem mc_append : MC X cl "list.append" cAppend := by
  refine ⟨_, mt_append, fun c σ s T H k x v ds vs z y Q hl I hk hg w => ?_⟩
  unfold cAppend at hg
  split at hg
  · rename_i xs d
    split at hg
    · rename_i hlt
      cases hg
      match vs, hl with
      | [u], _ =>
        obtain ⟨F, α, J⟩ := _root_.id I
        obtain ⟨a, ws, rfl, h1, rl, st⟩ := J.cellL (J.tmp (.ptr k, v) (List.mem_cons_of_mem _ (List.mem_cons_self ..))) hk
        refine ⟨a, ws, u, rfl, rfl, h1, by rw [← rl.length]; exact lt1m hlt, ?_⟩
        exact w _ _ (st _ _ _ _ (rl.append (.cons (J.tmp (d, u) (List.mem_cons_self ..)) .nil)) .non)
    · cases hg
  · cases hg
def cPop : C → List D → Option (D × C)
  | .lst xs, [] => (xs[xs.length - 1]?).map fun y => (y, .lst xs.dropLast)
  | _, _ => none
theorem mc_pop : MC X cl "list.pop" cPop := by
  refine ⟨_, mt_pop, fun c σ s T H k x v ds vs z y Q hl I hk hg w => ?_⟩
  unfold cPop at hg
  split at hg
  · rename_i xs
    obtain ⟨q, h2, h3⟩ := Option.map_eq_some_iff.mp hg
    cases h3
    match vs, hl with
    | [], _ =>
      obtain ⟨F, α, J⟩ := _root_.id I
      obtain ⟨a, ws, rfl, h1, rl, st⟩ := J.cellL (J.tmp (.ptr k, v) (List.mem_cons_self ..)) hk
      obtain ⟨u, h4, r4⟩ := rl.get h2
      refine ⟨a, ws, u, rfl, rfl, h1, by rw [← rl.length]; exact h4, w _ _ (st _ _ _ _ rl.dropLast r4)⟩
  · cases hg
def cPopAt : C → List D → Option (D × C)
  | .lst xs, [.int i] => match ixN xs.length i with
    | some j => if xs.length ≤ 1000000 then (xs[j]?).map fun y => (y, .lst (xs.eraseIdx j)) else none
    | none => none
  | _, _ => none
theorem mc_popAt : MC X cl "list.pop" cPopAt := by
  refine ⟨_, mt_popAt, fun c σ s T H k x v ds vs z y Q hl I hk hg w => ?_⟩
  unfold cPopAt at hg
  split at hg
  · rename_i xs i
    split at hg
    · rename_i j hj
      split at hg
      · rename_i hm
        obtain ⟨q, h2, h3⟩ := Option.map_eq_some_iff.mp hg
        cases h3
        match vs, hl with
        | [u], _ =>
          obtain ⟨F, α, J⟩ := _root_.id I
          obtain ⟨a, ws, rfl, h1, rl, st⟩ := J.cellL (J.tmp (.ptr k, v) (List.mem_cons_of_mem _ (List.mem_cons_self ..))) hk
          have eu : u = .int i := J.t1i rfl
          subst eu
          obtain ⟨w4, h4, r4⟩ := rl.get h2
          obtain ⟨s1, s2, s3, s4⟩ := ixN_seq hj
          refine ⟨a, ws, i, j, w4, rfl, rfl, h1, by omega, by omega, by rw [← rl.length]; exact s1, h4, w _ _ (st _ _ _ _ (rl.eraseIdx j) r4)⟩
      · cases hg
    · cases hg
  · cases hg
def cClear : C → List D → Option (D × C)
  | .lst _, [] => some (.non, .lst [])
  | _, _ => none
theorem mc_clear : MC X cl "list.clear" cClear := by
  refine ⟨_, mt_clear, fun c σ s T H k x v ds vs z y Q hl I hk hg w => ?_⟩
  unfold cClear at hg
  split at hg
  · cases hg
    match vs, hl with
    | [], _ =>
      obtain ⟨F, α, J⟩ := _root_.id I
      obtain ⟨a, ws, rfl, h1, rl, st⟩ := J.cellL (J.tmp (.ptr k, v) (List.mem_cons_self ..)) hk
      exact ⟨a, ws, rfl, rfl, h1, w _ _ (st _ _ _ _ .nil .non)⟩
  · cases hg
/-- xs.remove(k), ints -/
def cRemove : C → List D → Option (D × C)
  | .lst xs, [.int i] => match intsD xs with
    | some ns => if i ∈ ns then some (.non, .lst ((ns.erase i).map .int)) else none
    | none => none
  | _, _ => none
theorem first_at {i : Int} : ∀ {ns : List Int}, i ∈ ns → ∃ j : Nat, ns[j]? = some i ∧ (∀ m : Nat, m < j → ns[m]? ≠ some i) ∧ ns.eraseIdx j = ns.erase i
  | n :: ns, h => by
    by_cases e : n = i
    · subst e
      exact ⟨0, rfl, fun m hm => by omega, by simp⟩
    · have h' : i ∈ ns := (List.mem_cons.mp h).elim (fun q => absurd q.symm e) _root_.id
      obtain ⟨j, h1, h2, h3⟩ := first_at h'
      refine ⟨j + 1, by simpa using h1, fun m hm => ?_, ?_⟩
      · cases m with
        | zero => simpa using e
        | succ m => simpa using h2 m (by omega)
      · rw [List.eraseIdx_cons_succ, h3, List.erase_cons_tail (by simpa using e)]
theorem mc_remove : MC X cl "list.remove" cRemove := by
  refine ⟨_, mt_remove, fun c σ s T H k x v ds vs z y Q hl I hk hg w => ?_⟩
  unfold cRemove at hg
  split at hg
  · rename_i xs i
    split at hg
    · rename_i ns hn
      split at hg
      · rename_i hm
        cases hg
        match vs, hl with
        | [u], _ =>
          obtain ⟨F, α, J⟩ := _root_.id I
          obtain ⟨a, ws, rfl, h1, rl, st⟩ := J.cellL (J.tmp (.ptr k, v) (List.mem_cons_of_mem _ (List.mem_cons_self ..))) hk
          have eu : u = .int i := J.t1i rfl
          subst eu
          have ew := intsD_rep rl hn
          subst ew
          obtain ⟨j, h2, h3, h4⟩ := first_at hm
          refine ⟨a, ns, i, j, rfl, rfl, h1, h2, h3, ?_⟩
          rw [h4]
          exact w _ _ (st _ _ _ _ (rep_ints _) .non)
      · cases hg
    · cases hg
  · cases hg
end

/-! ### subscripts -/
structure IxD (X : Cx) (cl : Str → Addr) (g : D → D → Option D) : Prop where
  ex : ∃ r, IxR X r ∧ ∀ c σ s T H d v e u z Q, SI X.K cl c H σ s ((e, u) :: (d, v) :: T) → g (view s.M d) (view s.M e) = some z → (∀ v' H', SI X.K cl c H' σ s ((z, v') :: (e, u) :: (d, v) :: T) → Q v' H') → r v u H Q
section
variable {X : Cx} {cl : Str → Addr} {W : WX} {g h : D → D → Option D}
theorem IxD.or (a : IxD X cl g) (b : IxD X cl h) : IxD X cl (orD g h) := by
  obtain ⟨r, hr, q⟩ := a
  obtain ⟨r', hr', q'⟩ := b
  refine ⟨_, hr.or hr', fun c σ s T H d v e u z Q I hz k => ?_⟩
  unfold orD at hz
  split at hz
  · rename_i z' e1
    cases hz
    exact .inl (q c σ s T H d v e u z Q I e1 k)
  · exact .inr (q' c σ s T H d v e u z Q I hz k)
theorem de_ix {a b : Expr} {fa fb : M D} {pos : Pos} (ho : IxD X cl g) (ha : DE X cl W a fa) (hb : DE X cl W b fb) (hs : PlainIx b := by intro _ _; rfl) : DE X cl W (.Subscript a b pos) (eOp g fa fb) := by
  obtain ⟨ta, pa, qa⟩ := ha
  obtain ⟨tb, pb, qb⟩ := hb
  obtain ⟨r, hr, q⟩ := ho
  refine ⟨_, pe_ix hr pa pb hs, fun c σ s T H Q I w => ?_⟩
  refine qa c σ s T H _ I (w.bind fun d s1 _ w1 v H1 I1 => ?_)
  refine qb c σ s1 _ H1 _ I1 ((w1.deeper fun p hp => List.mem_cons_of_mem _ hp).bind fun e s2 _ w2 u H2 I2 => ?_)
  unfold oOf at w2
  split at w2
  · rename_i z hz
    exact q c σ s2 T H2 d v e u z Q I2 hz fun v' H' I' => w2 v' H' I'.drop2
  · exact w2.elim
/-- xs[i] of a list (frozen, sealed, a cell), a tuple -/
def dIx : D → D → Option D
  | .lst xs, .int i => atI xs i
  | .slst xs, .int i => atI xs i
  | .tup xs, .int i => atI xs i
  | _, _ => none
theorem atI_rep {K : PySem.W.Frag} {H : Hp} {F : Addr → Prop} {α : List Addr} {ds : List D} {vs : List V} {i : Int} {d : D} (r : RepL K cl H F α ds vs) (h : atI ds i = some d) : ∃ v, atI vs i = some v ∧ Rep K cl H F α d v := by
  obtain ⟨j, h1, h2⟩ := Option.bind_eq_some_iff.mp h
  obtain ⟨v, h3, h4⟩ := r.get h2
  exact ⟨v, Option.bind_eq_some_iff.mpr ⟨j, by rw [← r.length]; exact h1, h3⟩, h4⟩
theorem dIx_some {d e z : D} (h : dIx d e = some z) : ∃ xs i, seqD d = some xs ∧ e = .int i ∧ atI xs i = some z := by
  unfold dIx at h
  split at h
  · exact ⟨_, _, rfl, rfl, h⟩
  · exact ⟨_, _, rfl, rfl, h⟩
  · exact ⟨_, _, rfl, rfl, h⟩
  · cases h
theorem ixd_seq : IxD X cl dIx := by
  refine ⟨_, ix_seq, fun c σ s T H d v e u z Q I hz k => ?_⟩
  obtain ⟨F, α, J⟩ := _root_.id I
  obtain ⟨xs, i, h1, h2, h3⟩ := dIx_some hz
  obtain ⟨a, vs, ev, h4, rl⟩ := J.vSeq (J.tmp (d, v) (List.mem_cons_of_mem _ (List.mem_cons_self ..))) h1
  have ev : v = .ref a := ev
  subst ev
  have eu : u = .int i := J.t1i h2
  subst eu
  obtain ⟨w, h5, r5⟩ := atI_rep rl h3
  rcases h4 with h4 | h4
  · exact .inl ⟨a, vs, i, w, rfl, rfl, h4, h5, k _ H ⟨F, α, J.push r5⟩⟩
  · exact .inr (.inl ⟨a, vs, i, w, rfl, rfl, h4, h5, k _ H ⟨F, α, J.push r5⟩⟩)
/-- z[i] of a text -/
def dIxS : D → D → Option D
  | .str z, .int i => if le1m z.length = true then (atI z.cps.toList i).map fun c => .str ⟨#[c]⟩ else none
  | _, _ => none
theorem ixd_str : IxD X cl dIxS := by
  refine ⟨_, ix_str, fun c σ s T H d v e u z Q I hz k => ?_⟩
  obtain ⟨F, α, J⟩ := _root_.id I
  have key : ∀ d e z, dIxS d e = some z → ∃ y i ch, d = .str y ∧ e = .int i ∧ le1m y.length = true ∧ atI y.cps.toList i = some ch ∧ z = .str ⟨#[ch]⟩ := fun d e z h => by
    unfold dIxS at h
    split at h
    · split at h
      · rename_i hl
        obtain ⟨ch, h1, rfl⟩ := Option.map_eq_some_iff.mp h
        exact ⟨_, _, ch, rfl, rfl, hl, h1, rfl⟩
      · cases h
    · cases h
  obtain ⟨y, i, ch, e1, e2, h1, h2, rfl⟩ := key _ _ _ hz
  exact ⟨y, i, ch, J.t2s e1, J.t1i e2, le1m_ok h1, h2, k _ H (SI.flat rfl ⟨F, α, J⟩)⟩
/-! ### slices -/
/-- a bound -/
structure DO (X : Cx) (cl : Str → Addr) (W : WX) (e : Option Expr) (f : M (Option Int)) : Prop where
  ex : ∃ t, PO X e t ∧ ∀ c σ s T H (Q : Option Int → Hp → Prop), SI X.K cl c H σ s T → (match f s with
    | .fail => False
    | .ok b s' => ∀ H', SI X.K cl c H' σ s' T → Q b H'
    | .exc n fs s' => ∀ dx H', (dx = none → fs = []) → SI X.K cl c H' σ s' (xt fs dx ++ T) → W (.ref (cl n)) dx σ H') → t σ H Q
def oNone : M (Option Int) := fun s => .ok none s
def oSome (f : M D) : M (Option Int) := fun s => (f s).bind fun d s => match view s.M d with
  | .int i => .ok (some i) s
  | _ => .fail
theorem do_none : DO X cl W none oNone := ⟨_, po_none, fun c σ s T H Q I w => w H I⟩
theorem do_some {e : Expr} {f : M D} (h : DE X cl W e f) : DO X cl W (some e) (oSome f) := by
  obtain ⟨t, p, q⟩ := h
  refine ⟨_, po_some p, fun c σ s T H Q I w => ?_⟩
  refine q c σ s T H _ I ?_
  unfold oSome at w
  cases hf : f s with
  | fail => rw [hf] at w; exact w.elim
  | exc n fs s1 => rw [hf] at w; exact w
  | ok d s1 =>
    rw [hf] at w
    intro v H1 I1
    obtain ⟨F, α, J⟩ := _root_.id I1
    have w : (match (match view s1.M d with
      | .int i => Out.ok (some i) s1
      | _ => .fail) with
    | .fail => False
    | .ok b s' => ∀ H', SI X.K cl c H' σ s' T → Q b H'
    | .exc n fs s' => ∀ dx H', (dx = none → fs = []) → SI X.K cl c H' σ s' (xt fs dx ++ T) → W (.ref (cl n)) dx σ H') := w
    cases e : view s1.M d with
    | int i =>
      rw [e] at w
      exact ⟨i, J.t1i e, w H1 I1.pop⟩
    | _ => rw [e] at w; exact w.elim
structure SlD (X : Cx) (cl : Str → Addr) (g : D → Option Int → Option Int → Option D) : Prop where
  ex : ∃ r, SlR X r ∧ ∀ c σ s T H d v lo hi z Q, SI X.K cl c H σ s ((d, v) :: T) → g (view s.M d) lo hi = some z → (∀ v' H', SI X.K cl c H' σ s ((z, v') :: (d, v) :: T) → Q v' H') → r v lo hi H Q
def eSl (g : D → Option Int → Option Int → Option D) (f : M D) (lo hi : M (Option Int)) : M D := fun s => (f s).bind fun d s => (lo s).bind fun l s => (hi s).bind fun h s => oOf (g (view s.M d) l h) s
theorem de_slice {gs : D → Option Int → Option Int → Option D} {e : Expr} {lo hi : Option Expr} {fe : M D} {fl fh : M (Option Int)} {p2 pos : Pos} (hg : SlD X cl gs) (he : DE X cl W e fe) (hl : DO X cl W lo fl) (hh : DO X cl W hi fh) : DE X cl W (.Subscript e (.Slice lo hi none p2) pos) (eSl gs fe fl fh) := by
  obtain ⟨te, pe, qe⟩ := he
  obtain ⟨tl, pl, ql⟩ := hl
  obtain ⟨th, ph, qh⟩ := hh
  obtain ⟨r, hr, q⟩ := hg
  refine ⟨_, pe_slice hr pe pl ph, fun c σ s T H Q I w => ?_⟩
  refine qe c σ s T H _ I (w.bind fun d s1 _ w1 v H1 I1 => ?_)
  have w1 := w1.deeper (T' := (d, v) :: T) fun p hp => List.mem_cons_of_mem _ hp
  refine ql c σ s1 _ H1 _ I1 ?_
  cases hfl : fl s1 with
  | fail => rw [hfl] at w1; exact w1.elim
  | exc n fs s2 => rw [hfl] at w1; exact w1
  | ok l s2 =>
    rw [hfl] at w1
    intro H2 I2
    have w1 : Want X.K cl W c σ ((d, v) :: T) ((fh s2).bind fun h s => oOf (gs (view s.M d) l h) s) Q := w1
    refine qh c σ s2 _ H2 _ I2 ?_
    cases hfh : fh s2 with
    | fail => rw [hfh] at w1; exact w1.elim
    | exc n fs s3 => rw [hfh] at w1; exact w1
    | ok h s3 =>
      rw [hfh] at w1
      intro H3 I3
      have w1 : Want X.K cl W c σ ((d, v) :: T) (oOf (gs (view s3.M d) l h) s3) Q := w1
      unfold oOf at w1
      split at w1
      · rename_i z hz
        exact q c σ s3 T H3 d v l h z Q I3 hz w1
      · exact w1.elim
/-- of lists, tuples, texts -/
def cutD (xs : List D) (lo hi : Option Int) : List D := (xs.drop (HT.sIx xs.length 0 lo)).take (HT.sIx xs.length xs.length hi - HT.sIx xs.length 0 lo)
theorem cutD_rep {K : PySem.W.Frag} {H : Hp} {F : Addr → Prop} {α : List Addr} {ds : List D} {vs : List V} (r : RepL K cl H F α ds vs) (lo hi : Option Int) : RepL K cl H F α (cutD ds lo hi) (cutV vs lo hi) := by
  unfold cutD cutV
  rw [r.length]
  exact (r.drop _).take _
def dSl : D → Option Int → Option Int → Option D
  | .lst xs, lo, hi => some (.lst (cutD xs lo hi))
  | .slst xs, lo, hi => some (.lst (cutD xs lo hi))
  | .tup xs, lo, hi => some (.tup (cutD xs lo hi))
  | .str z, lo, hi => if le1m z.length = true then some (.str (cutS z lo hi)) else none
  | _, _, _ => none
theorem cut_whole {ds : List D} {lo hi : Option Int} (h : HT.sIx ds.length 0 lo = 0 ∧ HT.sIx ds.length ds.length hi = ds.length) : cutD ds lo hi = ds := by
  unfold cutD
  rw [h.1, h.2, List.drop_zero, Nat.sub_zero, List.take_length]
theorem sld : SlD X cl dSl := by
  refine ⟨_, (sl_list.or sl_tupA).or sl_str, fun c σ s T H d v lo hi z Q I hz k => ?_⟩
  obtain ⟨F, α, J⟩ := _root_.id I
  have r := J.tmp (d, v) (List.mem_cons_self ..)
  cases e : view s.M d with
  | lst xs =>
    rw [e] at hz
    cases hz
    obtain ⟨a, vs, ev, h1, rl⟩ := J.vLst r e
    have ev : v = .ref a := ev
    subst ev
    exact .inl (.inl ⟨a, vs, rfl, SqL.of h1, fun p hp => k _ _ (J.lstNew hp (cutD_rep rl lo hi))⟩)
  | slst xs =>
    rw [e] at hz
    cases hz
    obtain ⟨a, vs, ev, h1, rl⟩ := J.vSeqL r (fun xs q => by have q : d = .tup xs := q; rw [q] at e; cases e) (show seqD (view s.M d) = some xs by rw [e]; rfl)
    have ev : v = .ref a := ev
    subst ev
    exact .inl (.inl ⟨a, vs, rfl, h1, fun p hp => k _ _ (J.lstNew hp (cutD_rep rl lo hi))⟩)
  | tup xs =>
    rw [e] at hz
    cases hz
    obtain ⟨a, vs, ev, h1, rl⟩ := J.vTup r e
    have ev : v = .ref a := ev
    subst ev
    refine .inl (.inr ⟨a, vs, rfl, h1, fun hw => ?_, fun _ p hp => k _ _ (J.tupNew hp (cutD_rep rl lo hi))⟩)
    rw [← rl.length] at hw
    rw [cut_whole hw] at k
    exact k _ H ⟨F, α, J.push (.tup h1 rl)⟩
  | str y =>
    rw [e] at hz
    simp only [dSl] at hz
    split at hz
    · rename_i hl
      cases hz
      exact .inr ⟨y, J.t1s e, le1m_ok hl, k _ H (SI.flat rfl ⟨F, α, J⟩)⟩
    · cases hz
  | _ => rw [e] at hz; cases hz
end
end DL

/-! DlP: assignment to any target; op=; what is never reached; sorted. -/
namespace DL
open PySem L2
open PySem.Spec PyProof.Rows

def WantG (K : PySem.W.Frag) (cl : Str → Addr) (W : WX) (c : Cz) (T : List (D × V)) (o : Out Unit) (Q : L2.St → Hp → Prop) : Prop := match o with
  | .fail => False
  | .ok _ s => ∀ σ H, SI K cl c H σ s T → Q σ H
  | .exc n fs s => ∀ dx σ H, (dx = none → fs = []) → SI K cl c H σ s (xt fs dx ++ T) → W (.ref (cl n)) dx σ H
theorem WantG.deeper {K : PySem.W.Frag} {cl : Str → Addr} {W : WX} {c : Cz} {T T' : List (D × V)} {o : Out Unit} {Q : L2.St → Hp → Prop} (h : WantG K cl W c T o Q) (hs : ∀ p ∈ T, p ∈ T') : WantG K cl W c T' o Q := by
  cases o with
  | fail => exact h
  | ok d s => exact fun σ H I => h σ H (I.sub hs)
  | exc n fs s => exact fun dx σ H e I => h dx σ H e (I.xt hs)
structure DH (X : Cx) (cl : Str → Addr) (W : WX) (tg : Expr) (g : D → M Unit) : Prop where
  ex : ∃ t, PG X tg t ∧ ∀ c σ s T H d v Q, SI X.K cl c H σ s ((d, v) :: T) → WantG X.K cl W c T (g d s) Q → t v σ H Q
structure DHs (X : Cx) (cl : Str → Addr) (W : WX) (tgs : List Expr) (g : List D → M Unit) : Prop where
  ex : ∃ t, PGs X tgs t ∧ ∀ c σ s T H ds vs Q, ds.length = vs.length → SI X.K cl c H σ s (zipT ds vs T) → WantG X.K cl W c T (g ds s) Q → t vs σ H Q
def hVar (i : Nat) (d : D) : M Unit := fun s => if i < s.env.length then .ok () { s with env := s.env.set i (some d) } else .fail
def hNone : List D → M Unit
  | [], s => .ok () s
  | _, _ => .fail
def hMore (g : D → M Unit) (h : List D → M Unit) : List D → M Unit
  | d :: ds, s => (g d s).bind fun _ s => h ds s
  | [], _ => .fail
def hTup (n : Nat) (g : List D → M Unit) : D → M Unit
  | .tup ds, s => if ds.length = n then g ds s else .fail
  | _, _ => .fail
/-- the items of a value list, from a tuple's -/
theorem RepL.zip {K : PySem.W.Frag} {cl : Str → Addr} {H : Hp} {F : Addr → Prop} {α : List Addr} : ∀ {ds : List D} {vs : List V}, RepL K cl H F α ds vs → ∀ {T : List (D × V)}, (∀ q ∈ T, Rep K cl H F α q.1 q.2) → ∀ q ∈ zipT ds vs T, Rep K cl H F α q.1 q.2
  | _, _, .nil, T, h, q, hq => h q hq
  | _, _, .cons r t, T, h, q, hq => RepL.zip t (fun q hq => (List.mem_cons.mp hq).elim (fun e => by subst e; exact r) (h q)) q hq
section
variable {X : Cx} {cl : Str → Addr} {W : WX}
theorem dh_name {i : Nat} {x : Str} {pos : Pos} (hN : X.N.Nodup) (hi : X.N[i]? = some x) (hx : Loc X.env.scope x) (hf : X.fn x = true ∨ X.env.scope.names.lookup x = some .local := by first | exact .inl rfl | exact .inr rfl | assumption) : DH X cl W (.Name x pos) (hVar i) := by
  refine ⟨_, pg_name hN hi hx hf, fun c σ s T H d v Q I w => ?_⟩
  unfold hVar at w
  by_cases hl : i < s.env.length
  · rw [if_pos hl] at w
    exact w _ _ (I.bind hl)
  · rw [if_neg hl] at w; exact w.elim
theorem dhs_nil : DHs X cl W [] hNone := by
  refine ⟨_, pgs_nil, fun c σ s T H ds vs Q hl I w => ?_⟩
  match ds, vs, hl with
  | [], [], _ => exact ⟨rfl, w σ H I⟩
  | _ :: _, _, _ => exact w.elim
theorem dhs_cons {e : Expr} {es : List Expr} {g : D → M Unit} {h : List D → M Unit} (h1 : DH X cl W e g) (h2 : DHs X cl W es h) (hs : (assignEach (e :: es) X.env).map (·.2) = assign e X.env :: (assignEach es X.env).map (·.2) := by rfl) : DHs X cl W (e :: es) (hMore g h) := by
  obtain ⟨t, p, q⟩ := h1
  obtain ⟨t2, p2, q2⟩ := h2
  refine ⟨_, pgs_cons p p2 hs, fun c σ s T H ds vs Q hl I w => ?_⟩
  match ds, vs, hl with
  | [], _, _ => exact w.elim
  | d :: ds, v :: vs, hl =>
    have hl' : ds.length = vs.length := by simpa using hl
    refine ⟨v, vs, rfl, ?_⟩
    have I1 : SI X.K cl c H σ s ((d, v) :: zipT ds vs T) := I.sub fun p hp => by
      have I0 : p ∈ zipT ds vs ((d, v) :: T) := by
        rcases List.mem_cons.mp hp with e | hp
        · exact zipT_sub _ _ _ _ (e ▸ List.mem_cons_self ..)
        · revert hp
          have key : ∀ (ds : List D) (vs : List V) (T T' : List (D × V)), (∀ p ∈ T, p ∈ T') → ∀ p ∈ zipT ds vs T, p ∈ zipT ds vs T' := by
            intro ds
            induction ds with
            | nil => intro vs T T' h p hp; exact h p hp
            | cons d ds ih =>
              intro vs T T' h p hp
              cases vs with
              | nil => exact h p hp
              | cons v vs => exact ih vs _ _ (fun p hp => (List.mem_cons.mp hp).elim (fun e => e ▸ List.mem_cons_self ..) fun hp => List.mem_cons_of_mem _ (h p hp)) p hp
          exact key ds vs T _ (fun p hp => List.mem_cons_of_mem _ hp) p
      exact I0
    refine q c σ s _ H d v _ I1 ?_
    have w : WantG X.K cl W c T ((g d s).bind fun _ s => h ds s) Q := w
    cases hg : g d s with
    | fail => rw [hg] at w; exact w.elim
    | exc n fs s1 => rw [hg] at w; exact WantG.deeper (o := .exc n fs s1) (Q := fun _ _ => True) (show WantG X.K cl W c T (.exc n fs s1) _ from w) (zipT_sub ds vs T)
    | ok u s1 =>
      rw [hg] at w
      intro σ1 H1 I2
      exact q2 c σ1 s1 T H1 ds vs Q hl' I2 w
theorem dh_tup {es : List Expr} {k n : Nat} {pos : Pos} {g : List D → M Unit} (hc : X.calm = true) (h : DHs X cl W es g) (hn : (assignEach es X.env).length = n := by rfl) (hst : (assignEach es X.env).findIdx? (·.1) = none := by rfl) : DH X cl W (.Tuple es k pos) (hTup n g) := by
  obtain ⟨t, p, q⟩ := h
  refine ⟨_, pg_tup hc p hn hst, fun c σ s T H d v Q I w => ?_⟩
  cases d with
  | tup ds =>
    obtain ⟨F, α, J⟩ := _root_.id I
    obtain ⟨a, vs, ev, h1, rl⟩ := J.vTup (J.tmp (.tup ds, v) (List.mem_cons_self ..)) rfl
    have ev : v = .ref a := ev
    simp only [hTup] at w
    by_cases hl : ds.length = n
    · rw [if_pos hl] at w
      exact ⟨a, vs, ev, h1, by rw [← rl.length]; exact hl, q c σ s T H ds vs Q rl.length ⟨F, α, J.temps (rl.zip fun q hq => J.tmp q (List.mem_cons_of_mem _ hq))⟩ w⟩
    · rw [if_neg hl] at w; exact w.elim
  | _ => exact w.elim
/-- o[i] = .. -/
structure StD (X : Cx) (cl : Str → Addr) (g : C → D → D → Option C) : Prop where
  ex : ∃ r, PSet X r ∧ ∀ c σ s T H k x v e u d w y Q, SI X.K cl c H σ s ((e, u) :: (.ptr k, v) :: (d, w) :: T) → s.M[k]? = some (some x) → g x e d = some y → (∀ H', SI X.K cl c H' σ { s with M := s.M.set k (some y) } T → Q H') → r v u w H Q
def stC (g : C → D → D → Option C) (o i d : D) (s : S) : Out Unit := match o with
  | .ptr k => match s.M[k]? with
    | some (some x) => match g x i d with
      | some y => .ok () { s with M := s.M.set k (some y) }
      | none => .fail
    | _ => .fail
  | _ => .fail
def hSub (g : C → D → D → Option C) (fo fi : M D) (d : D) : M Unit := fun s => (fo s).bind fun o s => (fi s).bind fun i s => stC g o i d s
theorem dh_sub {o i : Expr} {fo fi : M D} {pos : Pos} {g : C → D → D → Option C} (hg : StD X cl g) (ho : DE X cl W o fo) (hi : DE X cl W i fi)
    (ha : ∀ v, assign (.Subscript o i pos) X.env v = (do
      let ov ← holding [v] (eval o X.env)
      let iv ← holding [v, ov] (eval i X.env)
      standAt pos
      holding [v, ov, iv] (setItem ov iv v)
      release [v, ov, iv] []) := by intro _; rfl) : DH X cl W (.Subscript o i pos) (hSub g fo fi) := by
  obtain ⟨to, po, qo⟩ := ho
  obtain ⟨ti, pi, qi⟩ := hi
  obtain ⟨r, hr, q⟩ := hg
  refine ⟨_, pg_sub po pi hr ha, fun c σ s T H d w Q I wn => ?_⟩
  refine qo c σ s _ H _ I ?_
  unfold hSub at wn
  cases hfo : fo s with
  | fail => rw [hfo] at wn; exact wn.elim
  | exc n fs s1 => rw [hfo] at wn; exact fun dx H1 e I1 => wn dx σ H1 e (I1.xt fun p hp => List.mem_cons_of_mem _ hp)
  | ok ov s1 =>
    rw [hfo] at wn
    intro v H1 I1
    refine qi c σ s1 _ H1 _ I1 ?_
    have wn : WantG X.K cl W c T ((fi s1).bind fun i s => stC g ov i d s) Q := wn
    cases hfi : fi s1 with
    | fail => rw [hfi] at wn; exact wn.elim
    | exc n fs s2 => rw [hfi] at wn; exact fun dx H2 e I2 => wn dx σ H2 e (I2.xt fun p hp => List.mem_cons_of_mem _ (List.mem_cons_of_mem _ hp))
    | ok iv s2 =>
      rw [hfi] at wn
      intro u H2 I2
      have wn : WantG X.K cl W c T (stC g ov iv d s2) Q := wn
      rcases ptr_or ov with ⟨k, rfl⟩ | hd
      · simp only [stC] at wn
        cases hk : s2.M[k]? with
        | none => rw [hk] at wn; exact wn.elim
        | some ox =>
          cases ox with
          | none => rw [hk] at wn; exact wn.elim
          | some x =>
            rw [hk] at wn
            dsimp only at wn
            cases hy : g x iv d with
            | none => rw [hy] at wn; exact wn.elim
            | some y =>
              rw [hy] at wn
              exact q c σ s2 T H2 k x v iv u d w y _ I2 hk hy fun H' I' => wn σ H' I'
      · have : stC g ov iv d s2 = .fail := by cases ov <;> first | rfl | exact absurd rfl (hd _)
        rw [this] at wn
        exact wn.elim
def cSet : C → D → D → Option C
  | .lst xs, .int i, d => (ixN xs.length i).map fun j => .lst (xs.set j d)
  | _, _, _ => none
theorem cSet_some {x y : C} {e d : D} (h : cSet x e d = some y) : ∃ xs i j, x = .lst xs ∧ e = .int i ∧ ixN xs.length i = some j ∧ y = .lst (xs.set j d) := by
  cases x <;> first | (simp [cSet] at h; done) | skip
  cases e <;> first | (simp [cSet] at h; done) | skip
  obtain ⟨j, hj, hy⟩ := Option.map_eq_some_iff.mp h
  exact ⟨_, _, j, rfl, rfl, hj, hy.symm⟩
theorem std_list : StD X cl cSet := by
  refine ⟨_, set_list, fun c σ s T H k x v e u d w y Q I hk hg wn => ?_⟩
  obtain ⟨xs, i, j, rfl, rfl, hj, rfl⟩ := cSet_some hg
  obtain ⟨F, α, J⟩ := _root_.id I
  obtain ⟨a, ws, rfl, h1, rl, st⟩ := J.cellL (J.tmp (.ptr k, v) (List.mem_cons_of_mem _ (List.mem_cons_self ..))) hk
  have eu : u = .int i := J.t1i rfl
  subst eu
  have rd : Rep X.K cl H F α d w := J.tmp (d, w) (List.mem_cons_of_mem _ (List.mem_cons_of_mem _ (List.mem_cons_self ..)))
  refine ⟨a, ws, i, j, rfl, rfl, h1, by rw [← rl.length]; exact hj, ?_⟩
  exact wn _ (((st _ _ .non .non (rl.set rd j) .non).pop).sub fun p hp => List.mem_cons_of_mem _ (List.mem_cons_of_mem _ (List.mem_cons_of_mem _ hp)))
/-- target = e -/
def sAsg (f : M D) (g : D → M Unit) : M Fl := fun s => (f s).bind fun d s => (g d s).bind fun _ s => .ok .nx s
theorem ds_asg {tg e : Expr} {f : M D} {g : D → M Unit} {pos : Pos} (he : DE X cl W e f) (hg : DH X cl W tg g) (hs : swapsWithSole [tg] e pos.line X.env = pure false := by rfl) (hw : swappedStores [tg] e X.env = pure none := by rfl)
    (h1 : (assignEach [tg] X.env).map (·.2) = [assign tg X.env] := by rfl) : DS X cl W (.Assign [tg] e pos) (sAsg f g) := by
  obtain ⟨te, pe, qe⟩ := he
  obtain ⟨t, p, q⟩ := hg
  refine ⟨_, ps_asg pe p hs hw h1, fun c σ s T H E I w => ?_⟩
  refine qe c σ s T H _ I (w.bind fun d s1 _ w1 v H1 I1 => ?_)
  refine q c σ s1 T H1 d v _ I1 ?_
  cases hgd : g d s1 with
  | fail => rw [hgd] at w1; exact w1.elim
  | exc n fs s2 => rw [hgd] at w1; exact w1
  | ok u s2 => rw [hgd] at w1; exact w1
/-- a, b = x, y: plain local names -/
def sPar (i j : Nat) (f : M (List D)) : M Fl := fun s => (f s).bind fun ds s => match ds with
  | [d, e] => if i < s.env.length ∧ j < s.env.length then .ok .nx { s with env := (s.env.set i (some d)).set j (some e) } else .fail
  | _ => .fail
theorem ds_par {i j : Nat} {x y : Str} {a b : Expr} {f : M (List D)} {px py pt pos : Pos} {kt k2 pt2} (hc : X.calm = true) (hN : X.N.Nodup) (hi : X.N[i]? = some x) (hj : X.N[j]? = some y) (hij : i ≠ j)
    (hx : X.env.scope.names.lookup x = some .local) (hy : X.env.scope.names.lookup y = some .local) (ha : DA X cl W [a, b] f)
    (hw : swappedStores [.Tuple [.Name x px, .Name y py] kt pt] (.Tuple [a, b] k2 pt2) X.env = pure (some [x, y]) := by rfl)
    (hs : swapsWithSole [.Tuple [.Name x px, .Name y py] kt pt] (.Tuple [a, b] k2 pt2) pos.line X.env = pure false := by rfl) :
    DS X cl W (.Assign [.Tuple [.Name x px, .Name y py] kt pt] (.Tuple [a, b] k2 pt2) pos) (sPar i j f) := by
  obtain ⟨t, p, q⟩ := ha
  refine ⟨_, ps_par hc hN hi hj hij hx hy p hw hs, fun c σ s T H E I w => ?_⟩
  refine q c σ s T H _ I (w.bindA fun ds s1 _ w1 vs H1 hl I1 => ?_)
  match ds, vs, hl with
  | [d, e], [v, u], _ =>
    dsimp only at w1
    by_cases hb : i < s1.env.length ∧ j < s1.env.length
    · rw [if_pos hb] at w1
      refine ⟨v, u, rfl, w1 _ _ ?_⟩
      have I2 : SI X.K cl c H1 σ s1 ((d, v) :: (e, u) :: T) := I1.sub fun p hp => by
        show p ∈ (e, u) :: (d, v) :: T
        simp only [List.mem_cons] at hp ⊢
        rcases hp with h | h | h
        · exact .inr (.inl h)
        · exact .inl h
        · exact .inr (.inr h)
      have I3 := I2.bind hb.1
      have I4 := I3.bind (i := j) (d := e) (v := u) (by show j < (s1.env.set i (some d)).length; rw [List.length_set]; exact hb.2)
      exact I4
    · rw [if_neg hb] at w1; exact w1.elim
  | [], [], _ => exact w1.elim
  | [_], [_], _ => exact w1.elim
  | _ :: _ :: _ :: _, _, _ => exact w1.elim
/-- name op= e -/
def sAug (i : Nat) (g : D → D → Option D) (f : M D) : M Fl := fun s => match s.env[i]? with
  | some (some d) => (f s).bind fun e s1 => match g (view s1.M d) (view s1.M e) with
    | some z => setV i z s1
    | none => .fail
  | _ => .fail
theorem ds_aug {i : Nat} {x : Str} {e : Expr} {f : M D} {op : Operator} {g : D → D → Option D} {pos pos' : Pos} (hN : X.N.Nodup) (hi : X.N[i]? = some x) (hx : Loc X.env.scope x) (he : DE X cl W e f) (ho : OpD X cl (inplaceOp op) g)
    (hf : X.fn x = true ∨ X.env.scope.names.lookup x = some .local := by first | exact .inl rfl | exact .inr rfl | assumption) : DS X cl W (.AugAssign (.Name x pos') op e pos) (sAug i g f) := by
  obtain ⟨te, pe, qe⟩ := he
  obtain ⟨r, hr, q⟩ := ho
  have hp : PIp X op r := fun pins s σ H x y v u Q I r1 r2 h => hr pins s σ H x y v u Q I r1 r2 h
  refine ⟨_, ps_aug hN hi hx pe hp hf, fun c σ s T H E I w => ?_⟩
  unfold sAug at w
  cases hd : s.env[i]? with
  | none => rw [hd] at w; exact w.elim
  | some od =>
    cases od with
    | none => rw [hd] at w; exact w.elim
    | some d =>
      rw [hd] at w
      dsimp only at w
      obtain ⟨v, h1, I1⟩ := I.var hd
      refine ⟨v, h1, qe c σ s _ H _ I1 ?_⟩
      cases hf : f s with
      | fail => rw [hf] at w; exact w.elim
      | exc n fs s1 => rw [hf] at w; exact fun dx H1 e I1 => w dx σ H1 e (I1.xt fun p hp => List.mem_cons_of_mem _ hp)
      | ok e s1 =>
        rw [hf] at w
        intro u H1 I2
        have w : WantS X.K cl W c T (match g (view s1.M d) (view s1.M e) with
          | some z => setV i z s1
          | none => .fail) E := w
        cases hz : g (view s1.M d) (view s1.M e) with
        | none => rw [hz] at w; exact w.elim
        | some z =>
          rw [hz] at w
          exact q c σ s1 T H1 d v e u z _ I2 hz fun v' H' I' => setV_ok w I'.drop2.drop2
theorem oi_add : OpD X cl (inplaceOp .Add) dAddI := OpD.int iop_add (fun i j z v H Q e f q => by cases e; cases f; exact ⟨i, j, rfl, rfl, q⟩) (fun i j z e => by cases e; exact ⟨_, rfl⟩)
theorem oi_sub : OpD X cl (inplaceOp .Sub) dSubI := OpD.int iop_sub (fun i j z v H Q e f q => by cases e; cases f; exact ⟨i, j, rfl, rfl, q⟩) (fun i j z e => by cases e; exact ⟨_, rfl⟩)
theorem oi_mul : OpD X cl (inplaceOp .Mult) dMulI := OpD.intIf iop_mul fun i j h => by
  simpa [small64, Bool.or_eq_true, Bool.and_eq_true, CMul] using h
theorem oi_div : OpD X cl (inplaceOp .FloorDiv) dDivI := OpD.intIf iop_fdiv fun i j h => by simpa [CDiv, Bool.and_eq_true] using h
/-! ### never reached -/
def eFail {α : Type} : M α := fun _ => .fail
theorem dss_never {sts : List Stmt} : DSs X cl W sts eFail := ⟨_, pss_never, fun _ _ _ _ _ _ _ w => w.elim⟩
theorem ds_never {st : Stmt} : DS X cl W st eFail := ⟨_, ps_never, fun _ _ _ _ _ _ _ w => w.elim⟩
end
end DL

/-! DlQ: sorted, of lists, tuples and texts. -/
namespace DL
open PySem L2
open PySem.Spec PyProof.Rows

/-! ### the sorted list is one -/
def leS (a b : Str) : Bool := !decide (b.cps.toList < a.cps.toList)
def sortS (zs : List Str) : List Str := zs.mergeSort leS
def sortI (ns : List Int) : List Int := ns.mergeSort (fun a b => decide (a ≤ b))
theorem leS_iff {a b : Str} : leS a b = true ↔ a.cps.toList ≤ b.cps.toList := by
  unfold leS
  rw [Bool.not_eq_true', decide_eq_false_iff_not, List.not_lt]
theorem leS_anti {a b : Str} (h1 : leS a b = true) (h2 : leS b a = true) : a = b := by
  have e := List.le_antisymm (leS_iff.mp h1) (leS_iff.mp h2)
  obtain ⟨x⟩ := a
  obtain ⟨y⟩ := b
  have e' : x.toList = y.toList := e
  rw [Array.toList_inj.mp e']
theorem leS_trans (a b c : Str) (h1 : leS a b = true) (h2 : leS b c = true) : leS a c = true := leS_iff.mpr (List.le_trans (leS_iff.mp h1) (leS_iff.mp h2))
theorem leS_total (a b : Str) : (leS a b || leS b a) = true := by
  rcases List.le_total a.cps.toList b.cps.toList with h | h
  · rw [leS_iff.mpr h]; rfl
  · rw [leS_iff.mpr h, Bool.or_true]
theorem rising_pw : ∀ (p : Str) (r : List Str), risingS p r = true → (p :: r).Pairwise fun a b => leS a b = true
  | p, [], _ => by simp
  | p, x :: r, h => by
    have h' : (!ltCps x.cps.toList p.cps.toList && risingS x r) = true := h
    rw [Bool.and_eq_true] at h'
    have ih := rising_pw x r h'.2
    have hx : leS p x = true := by
      have := h'.1
      rw [ltCps_eq] at this
      exact this
    refine List.pairwise_cons.mpr ⟨fun y hy => ?_, ih⟩
    rcases List.mem_cons.mp hy with e | hy
    · exact e ▸ hx
    · exact leS_trans _ _ _ hx ((List.pairwise_cons.mp ih).1 y hy)
theorem sortS_eq {ys zs : List Str} (hp : ys.Perm zs) (hs : sortedS ys = true) : ys = sortS zs := by
  have h1 : ys.Pairwise fun a b => leS a b = true := by
    cases ys with
    | nil => exact .nil
    | cons p r => exact rising_pw p r hs
  exact List.Perm.eq_of_pairwise (fun a b _ _ => leS_anti) h1 (List.pairwise_mergeSort leS_trans leS_total zs) (hp.trans (List.mergeSort_perm zs leS).symm)
theorem sortI_eq {ys zs : List Int} (hp : ys.Perm zs) (hs : ys.Pairwise (· ≤ ·)) : ys = sortI zs := by
  refine List.Perm.eq_of_pairwise (le := fun a b => decide (a ≤ b) = true) (fun a b _ _ h1 h2 => Int.le_antisymm (of_decide_eq_true h1) (of_decide_eq_true h2)) (hs.imp fun h => decide_eq_true h)
    (List.pairwise_mergeSort (le := fun a b : Int => decide (a ≤ b)) (fun a b c h1 h2 => decide_eq_true (Int.le_trans (of_decide_eq_true h1) (of_decide_eq_true h2))) (fun a b => ?_) zs) (hp.trans (List.mergeSort_perm zs _).symm)
  rcases Int.le_total a b with h | h
  · rw [decide_eq_true h]; rfl
  · rw [decide_eq_true h, Bool.or_true]

section
variable {prog : Program} {w : World} {A : Around} {E : Value → Shared → Prop} {s : Shared}
theorem collect_tup {l : Addr} {vs : List Value} {Q : List Value → Shared → Prop} (hl : IsTup s.heap l vs.toArray)
    (h : Q vs { s with heap := (s.heap.push (seqObj "list" #[] 0)).update s.heap.objs.size (Obj.mapSeq (· ++ vs.toArray)) }) (hsz : vs.length ≤ sizeLine) :
    wpAny (model prog w) A (collect (.ref l)) Q E s := by
  obtain ⟨o, ho, hc, n, hd⟩ := id hl
  unfold collect
  refine wpAny_bind (wpAny_runValue (codeAny_builtin entry_proto_collect' ?_))
  show wpAny _ _ (do again (.builtin "list.__iadd__" ⟨[← newList [], .ref l], []⟩)) _ _ s
  refine wpAny_bind (wpAny_newList (wpAny_pure ⟨Code.quiet_builtin _ (by decide +kernel), codeAny_builtin entry_list_iadd' ?_⟩))
  show wpAny _ _ (Builtin.List.listExtendWith (.ref s.heap.objs.size) (.ref l) (.ref s.heap.objs.size)) _ _ { s with heap := s.heap.push (seqObj "list" #[] 0) }
  unfold Builtin.List.listExtendWith
  have ho' : (s.heap.push (seqObj "list" #[] 0)).get? l = some o := Heap.get?_push_of_some _ ho
  refine wpAny_bind (wpAny_typeOf (T := "tuple") ⟨o, ho', hc⟩ ?_)
  have ht : (Value.type "tuple" == Value.type "tuple") = true := by rfl
  rw [if_pos (by rw [ht]; simp)]
  refine wpAny_bind (listItems_at ho' hd ?_)
  refine wpAny_bind (listItems_at (xs := #[]) (n := 0) (Heap.get?_push_size _ rfl) rfl ?_)
  rw [if_neg (by simp)]
  refine wpAny_bind (listUpdate_at (xs := #[]) (n := 0) (Heap.get?_push_size _ rfl) rfl ?_ (Nat.zero_le _) (by show (#[] ++ vs.toArray).size ≤ sizeLine + 1; simp only [Array.size_append, List.size_toArray, List.length_nil]; omega))
  refine wpAny_pure ?_
  show wpAny (model prog w) A (do
      let o ← load s.heap.objs.size
      match o.data with
      | .seq xs _ => pure xs.toList
      | _ => unsupported "internal:collect") Q E { s with heap := (s.heap.push (seqObj "list" #[] 0)).update s.heap.objs.size (Obj.mapSeq (· ++ vs.toArray)) }
  refine wpAny_bind (wpAny_load (get?_update_seq (Heap.get?_push_size _ rfl) _) ?_)
  show wpAny _ _ (pure ((#[] : Array Value) ++ vs.toArray).toList) Q E _
  rw [show ((#[] : Array Value) ++ vs.toArray).toList = vs by simp]
  exact wpAny_pure h
theorem copy_keeps {vs : List Value} {b : Addr} {o : Obj} (h : s.heap.get? b = some o) : ((s.heap.push (seqObj "list" #[] 0)).update s.heap.objs.size (Obj.mapSeq (· ++ vs.toArray))).get? b = some o := by
  rw [Heap.get?_update_ne _ _ _ _ (Nat.ne_of_lt (Heap.lt_size h))]
  exact Heap.get?_push_of_some _ h
/-- sorted, whatever is collected -/
theorem sorted_col {κ : KeyKind} (hO : κ.OneLt) {src : Value} {P : List Value → Prop} {Q : Value → Shared → Prop} {E : Value → Shared → Prop}
    (col : ∀ (Q' : List Value → Shared → Prop), (∀ h' tk vs, (∀ b o, s.heap.get? b = some o → h'.get? b = some o) → P vs → Q' vs { s with heap := h', toks := tk }) → wpAny (model prog w) A.in1 (collect src) Q' E s)
    (hP : ∀ vs, P vs → KeysOf κ (pairsOf vs) ∧ (∀ v₁ v₂ rest, vs = v₁ :: v₂ :: rest → keyKind' (v₁ :: v₂ :: rest).toArray = pure oneType') ∧ vs.length ≤ sizeLine)
    (h : ∀ (h1 h' : Heap) tk vs (st' : SortSt) (a : Addr) e, P vs → (arrOf st').Perm (pairsOf vs) → SortedToK κ (arrOf st') (pairsOf vs).size → (∀ b o, s.heap.get? b = some o → h1.get? b = some o) → (∀ b o, h1.get? b = some o → h'.get? b = some o) → h1.objs.size ≤ a →
      h'.get? a = some (seqObj "list" ((arrOf st').map (·.2)) e) → Q (.ref a) { s with heap := h', toks := tk }) :
    wpAny (model prog w) A (call (.builtin "sorted") [src]) Q E s := by
  refine Calls.call_function_entry kind_sorted plain_sorted entry_sorted (args_sorted1 _) ?_
  unfold Builtin.«sorted»
  refine wpAny_bind (m := checkCount "sorted" 1 1 _) (wpAny_pure ?_)
  refine wpAny_bind (col _ fun h' tk vs hk hvs => ?_)
  obtain ⟨h0, hkk, hL⟩ := hP vs hvs
  refine wpAny_bind (wpAny_newList ?_ hL)
  have hoL : (h'.push (seqObj "list" vs.toArray 0)).get? h'.objs.size = some (seqObj "list" vs.toArray 0) := Heap.get?_push_size _ rfl
  show wpAny _ _ _ _ _ { s with heap := h'.push (seqObj "list" vs.toArray 0), toks := tk }
  refine wpAny_bind (wpAny_holding (wpAny_call_entry slot_list_sort ⟨_, hoL, rfl⟩ entry_list_sort (list_sort_treeKAny (s := { s with heap := h'.push (seqObj "list" vs.toArray 0), toks := tk }) hO hoL h0 hkk hL fun st' a1 a2 => ⟨_, rfl, ?_⟩) (args_list_sort _)))
  obtain ⟨e, he⟩ := sortedHeap_at (vs := vs) (out := (arrOf st').map (·.2)) hoL
  refine wpAny_pure ⟨_, rfl, h h' _ tk vs st' _ e hvs a1 a2 hk (fun b o hb => ?_) (Nat.le_refl _) he⟩
  have hlt := Heap.lt_size hb
  rw [sortedHeap_old (Nat.ne_of_lt hlt) (by rw [size_push']; exact Nat.lt_succ_of_lt hlt)]
  exact Heap.get?_push_of_some _ hb
end

section
variable {X : Cx} {cl : Str → Addr}
theorem strs_of_signs {z : Str} {acc : Array Value} (h : ItemsOf (SignAt z) acc z.cps.size) : StrsAre acc.toList (signs z) := by
  obtain ⟨h1, h2⟩ := h
  have key : ∀ (us : List Value) (ys : List Str), us.length = ys.length → (∀ (j : Nat) (u : Value), us[j]? = some u → ∃ t y, ys[j]? = some y ∧ u = Value.str y t) → StrsAre us ys := by
    intro us
    induction us with
    | nil => intro ys hl _; cases ys with
      | nil => exact .nil
      | cons _ _ => cases hl
    | cons u us ih =>
      intro ys hl h
      cases ys with
      | nil => cases hl
      | cons y ys =>
        obtain ⟨t, y', e1, e2⟩ := h 0 u rfl
        cases e1
        subst e2
        exact .cons y t (ih ys (by simpa using hl) fun j u hu => h (j + 1) u (by simpa using hu))
  refine key _ _ (by simp [h1, signs]) fun j u hu => ?_
  obtain ⟨c, t, hc, rfl⟩ := h2 j u (by simpa using hu)
  exact ⟨t, ⟨#[c]⟩, by simp [signs, hc], rfl⟩
def rSrtS (K : PySem.W.Frag) : List V → Hp → VK → Prop := fun vs H Q => (∃ z, vs = [.str z] ∧ z.length ≤ sizeLine ∧ ∀ p, H p = none → Q (.ref p) (upd H p (.lst ((sortS (signs z)).map V.str)))) ∨
  ∃ a zs, vs = [.ref a] ∧ (SqL K H a (zs.map V.str) ∨ SqT K H a (zs.map V.str)) ∧ ∀ p, H p = none → Q (.ref p) (upd H p (.lst ((sortS zs).map V.str)))
def rSrtI (K : PySem.W.Frag) : List V → Hp → VK → Prop := fun vs H Q => ∃ a ns, vs = [.ref a] ∧ (SqL K H a (ns.map V.int) ∨ SqT K H a (ns.map V.int)) ∧ ∀ p, H p = none → Q (.ref p) (upd H p (.lst ((sortI ns).map V.int)))
theorem cr_srtS (hc : X.calm = true) : CallR X (.builtin "sorted") (rSrtS X.K) := by
  intro pins s σ H vs us Q I r h
  have fin : ∀ {src : Value} {zs : List Str}, zs.length ≤ sizeLine → (∀ (Q' : List Value → Shared → Prop), (∀ h' tk vs, (∀ b o, s.heap.get? b = some o → h'.get? b = some o) → StrsAre vs zs → Q' vs { s with heap := h', toks := tk }) → wpAny (model X.prog X.w) X.A.in1 (collect src) Q' X.xe s) →
      (∀ p, H p = none → Q (.ref p) (upd H p (.lst ((sortS zs).map V.str)))) → wpAny (model X.prog X.w) X.A (call (.builtin "sorted") [src]) (EP X pins σ Q) X.xe s := by
    intro src zs hz col q
    refine sorted_col strKind_oneLt (P := fun vs => StrsAre vs zs) col (fun vs hS => ⟨hS.keysOf, fun v₁ v₂ rest e => keyKind_strs (by rw [← e]; exact hS), by rw [hS.length]; exact hz⟩) fun h1 h' tk vs st' a e hS hp hs k1 k2 ha he => ?_
    obtain ⟨ss', g1, g2, g3⟩ := sorted_out_str hS hp hs
    have I1 : Inv X pins σ H { s with heap := h1, toks := tk } := I.kept k1
    have eq := sortS_eq g2 g3
    have hlen : (ss'.map V.str).length ≤ sizeLine := by rw [List.length_map, g2.length_eq]; exact hz
    refine ⟨.ref a, upd H a (.lst (ss'.map V.str)), I1.laid (t' := tk) k2 ha ⟨hlen, _, e, vals_of_strs g1, he⟩, rfl, ?_⟩
    rw [eq]
    exact q a (I1.hok.fresh ha)
  rcases h with ⟨z, rfl, hz, q⟩ | ⟨a, zs, rfl, hs, q⟩
  · obtain ⟨u, rfl, ru⟩ := r.one
    obtain ⟨t, rfl⟩ := ru
    refine fin (zs := signs z) (by rw [signs_length]; exact hz) (fun Q' k => ?_) q
    refine wpAny_collect_str (A := X.A.in1) (I.ok.hd hc) z t (fun s' acc hk hg hd ho hacc => ?_) hz
    obtain ⟨h', g', d', tk', os'⟩ := s'
    have e1 : g' = s.gens := hg
    have e2 : d' = s.drawn := hd
    have e3 : os' = s.os := ho
    subst e1 e2 e3
    exact k h' tk' acc.toList hk (strs_of_signs hacc)
  · rw [Vals.ref1 r]
    rcases hs with hs | hs
    · obtain ⟨its, rv, hl, hz⟩ := I.list hs
      rw [List.length_map] at hz
      refine fin hz (fun Q' k => collect_list hl.isList (k _ s.toks _ (fun b o => copy_keeps) rv.strs) ?_) q
      rw [← rv.length, List.length_map]; exact hz
    · obtain ⟨its, rv, hl, hz⟩ := I.tuple hs
      rw [List.length_map] at hz
      refine fin hz (fun Q' k => collect_tup hl (k _ s.toks _ (fun b o => copy_keeps) rv.strs) ?_) q
      rw [← rv.length, List.length_map]; exact hz
theorem cr_srtI (hc : X.calm = true) : CallR X (.builtin "sorted") (rSrtI X.K) := by
  intro pins s σ H vs us Q I r h
  have fin : ∀ {src : Value} {zs : List Int}, zs.length ≤ sizeLine → (∀ (Q' : List Value → Shared → Prop), (∀ h' tk vs, (∀ b o, s.heap.get? b = some o → h'.get? b = some o) → IntsAre vs zs → Q' vs { s with heap := h', toks := tk }) → wpAny (model X.prog X.w) X.A.in1 (collect src) Q' X.xe s) →
      (∀ p, H p = none → Q (.ref p) (upd H p (.lst ((sortI zs).map V.int)))) → wpAny (model X.prog X.w) X.A (call (.builtin "sorted") [src]) (EP X pins σ Q) X.xe s := by
    intro src zs hz col q
    refine sorted_col intKind_oneLt (P := fun vs => IntsAre vs zs) col (fun vs hS => ⟨hS.keysOfInt, fun v₁ v₂ rest e => keyKind_ints (by rw [← e]; exact hS), by rw [hS.length]; exact hz⟩) fun h1 h' tk vs st' a e hS hp hs k1 k2 ha he => ?_
    obtain ⟨ss', g1, g2, g3⟩ := sorted_out hS hp (sortedTo_of_int hs)
    have I1 : Inv X pins σ H { s with heap := h1, toks := tk } := I.kept k1
    have eq := sortI_eq g2 g3
    have hlen : (ss'.map V.int).length ≤ sizeLine := by rw [List.length_map, g2.length_eq]; exact hz
    refine ⟨.ref a, upd H a (.lst (ss'.map V.int)), I1.laid (t' := tk) k2 ha ⟨hlen, _, e, vals_of_ints g1, he⟩, rfl, ?_⟩
    rw [eq]
    exact q a (I1.hok.fresh ha)
  obtain ⟨a, zs, rfl, hs, q⟩ := h
  rw [Vals.ref1 r]
  rcases hs with hs | hs
  · obtain ⟨its, rv, hl, hz⟩ := I.list hs
    rw [List.length_map] at hz
    refine fin hz (fun Q' k => collect_list hl.isList (k _ s.toks _ (fun b o => copy_keeps) rv.ints) ?_) q
    rw [← rv.length, List.length_map]; exact hz
  · obtain ⟨its, rv, hl, hz⟩ := I.tuple hs
    rw [List.length_map] at hz
    refine fin hz (fun Q' k => collect_tup hl (k _ s.toks _ (fun b o => copy_keeps) rv.ints) ?_) q
    rw [← rv.length, List.length_map]; exact hz
/-- sorted(xs) -/
def dSrtS : D → Option (List D)
  | .str z => if le1m z.length = true then some ((sortS (signs z)).map .str) else none
  | d => ((seqD d).bind strsD).map fun zs => (sortS zs).map .str
def dSrtI : D → Option (List D) := fun d => ((seqD d).bind intsD).map fun zs => (sortI zs).map .int
theorem cdc_srtS (hc : X.calm = true) : CDC X cl (.builtin "sorted") (gL1 dSrtS) := by
  refine ⟨_, cr_srtS hc, fun c σ s T H ds vs z Q hl I hz k => ?_⟩
  match ds, vs, hl with
  | [d], [v], _ =>
    obtain ⟨F, α, J⟩ := _root_.id I
    have h1 : dSrtS (view s.M d) = some z := hz
    by_cases h : ∃ y, view s.M d = .str y
    · obtain ⟨y, e⟩ := h
      rw [e] at h1
      simp only [dSrtS] at h1
      split at h1
      · rename_i hl
        cases h1
        exact .inl ⟨y, by rw [J.t1s e], le1m_ok hl, fun p hp => k _ _ (J.cellNew hp (rep_strs _))⟩
      · cases h1
    · have h2 : ((seqD (view s.M d)).bind strsD).map (fun zs => (sortS zs).map D.str) = some z := by
        revert h1 h
        generalize view s.M d = u
        intro h1 h
        cases u <;> first | exact h1 | exact absurd ⟨_, rfl⟩ h
      obtain ⟨zs, h3, rfl⟩ := Option.map_eq_some_iff.mp h2
      obtain ⟨xs, h4, h5⟩ := Option.bind_eq_some_iff.mp h3
      obtain ⟨a, vs, ev, h6, rl⟩ := J.vSeq (J.tmp (d, v) (List.mem_cons_self ..)) h4
      have ev : v = .ref a := ev
      subst ev
      have h7 := strsD_rep rl h5
      subst h7
      exact .inr ⟨a, zs, rfl, h6, fun p hp => k _ _ (J.cellNew hp (rep_strs _))⟩
  | [], [], _ => cases hz
  | _ :: _ :: _, _, _ => cases hz
theorem cdc_srtI (hc : X.calm = true) : CDC X cl (.builtin "sorted") (gL1 dSrtI) := by
  refine ⟨_, cr_srtI hc, fun c σ s T H ds vs z Q hl I hz k => ?_⟩
  match ds, vs, hl with
  | [d], [v], _ =>
    obtain ⟨F, α, J⟩ := _root_.id I
    have h1 : ((seqD (view s.M d)).bind intsD).map (fun zs => (sortI zs).map D.int) = some z := hz
    obtain ⟨zs, h3, rfl⟩ := Option.map_eq_some_iff.mp h1
    obtain ⟨xs, h4, h5⟩ := Option.bind_eq_some_iff.mp h3
    obtain ⟨a, vs, ev, h6, rl⟩ := J.vSeq (J.tmp (d, v) (List.mem_cons_self ..)) h4
    have ev : v = .ref a := ev
    subst ev
    have h7 := intsD_rep rl h5
    subst h7
    exact ⟨a, zs, rfl, h6, fun p hp => k _ _ (J.cellNew hp (rep_ints _))⟩
  | [], [], _ => cases hz
  | _ :: _ :: _, _, _ => cases hz
theorem CDC.cd {f : Value} {r : List V → Hp → VK → Prop} {g : D → Option (List D)} (hr : CallR X f r) (q : ∀ c σ s T H F α d v z Q, SIx X.K cl c H σ s ((d, v) :: T) F α → g (view s.M d) = some z → (∀ v' H', SI X.K cl c H' σ s ((.lst z, v') :: (d, v) :: T) → Q v' H') → r [v] H Q) : CD X cl f (g1 fun d => (g d).map .lst) := by
  refine CD.one hr fun c σ s T H F α d v z Q J hz k => ?_
  obtain ⟨xs, h1, rfl⟩ := Option.map_eq_some_iff.mp hz
  exact q c σ s T H F α d v xs Q J h1 k
theorem cd_srtS (hc : X.calm = true) : CD X cl (.builtin "sorted") (g1 fun d => (dSrtS d).map .lst) := by
  refine CDC.cd (cr_srtS hc) fun c σ s T H F α d v z Q J hz k => ?_
  by_cases h : ∃ y, view s.M d = .str y
  · obtain ⟨y, e⟩ := h
    rw [e] at hz
    simp only [dSrtS] at hz
    split at hz
    · rename_i hl
      cases hz
      exact .inl ⟨y, by rw [J.t1s e], le1m_ok hl, fun p hp => k _ _ (J.lstNew hp (rep_strs _))⟩
    · cases hz
  · have h2 : ((seqD (view s.M d)).bind strsD).map (fun zs => (sortS zs).map D.str) = some z := by
      revert hz h
      generalize view s.M d = u
      intro h1 h
      cases u <;> first | exact h1 | exact absurd ⟨_, rfl⟩ h
    obtain ⟨zs, h3, rfl⟩ := Option.map_eq_some_iff.mp h2
    obtain ⟨xs, h4, h5⟩ := Option.bind_eq_some_iff.mp h3
    obtain ⟨a, vs, ev, h6, rl⟩ := J.vSeq (J.tmp (d, v) (List.mem_cons_self ..)) h4
    have ev : v = .ref a := ev
    subst ev
    have h7 := strsD_rep rl h5
    subst h7
    exact .inr ⟨a, zs, rfl, h6, fun p hp => k _ _ (J.lstNew hp (rep_strs _))⟩
theorem cd_srtI (hc : X.calm = true) : CD X cl (.builtin "sorted") (g1 fun d => (dSrtI d).map .lst) := by
  refine CDC.cd (cr_srtI hc) fun c σ s T H F α d v z Q J hz k => ?_
  have h1 : ((seqD (view s.M d)).bind intsD).map (fun zs => (sortI zs).map D.int) = some z := hz
  obtain ⟨zs, h3, rfl⟩ := Option.map_eq_some_iff.mp h1
  obtain ⟨xs, h4, h5⟩ := Option.bind_eq_some_iff.mp h3
  obtain ⟨a, vs, ev, h6, rl⟩ := J.vSeq (J.tmp (d, v) (List.mem_cons_self ..)) h4
  have ev : v = .ref a := ev
  subst ev
  have h7 := intsD_rep rl h5
  subst h7
  exact ⟨a, zs, rfl, h6, fun p hp => k _ _ (J.lstNew hp (rep_ints _))⟩
def dSrt : List D → Option D := orC (g1 fun d => (dSrtS d).map .lst) (g1 fun d => (dSrtI d).map .lst)
theorem cd_sorted (hc : X.calm = true) : CD X cl (.builtin "sorted") dSrt := (cd_srtS hc).or (cd_srtI hc)
end
end DL

/-! DlR: repr; texts backwards. -/
namespace DL
open PySem L2
open PySem.Spec PyProof.Rows
section
variable {X : Cx} {cl : Str → Addr} {W : WX}
/-- what repr shows -/
def shOk : PyData → Bool
  | .list xs => (PyData.list xs).showable && !(PyData.list xs).hasDict && decide ((PyData.list xs).depth ≤ 60) && le1m (PyData.list xs).shown.length
  | .tuple xs => (PyData.tuple xs).showable && !(PyData.tuple xs).hasDict && decide ((PyData.tuple xs).depth ≤ 60) && le1m (PyData.tuple xs).shown.length
  | _ => false
def rRepr (K : PySem.W.Frag) : List V → Hp → VK → Prop := fun vs H Q => ∃ v p, vs = [v] ∧ Dp K H v p ∧ shOk p = true ∧ Q (.str p.shown) H
theorem shOk_out {p : PyData} (h : shOk p = true) : p.showable = true ∧ p.hasDict = false ∧ p.depth ≤ 60 ∧ p.shown.length ≤ sizeLine ∧ ((∃ xs, p = .list xs) ∨ ∃ xs, p = .tuple xs) := by
  cases p <;> first | (simp [shOk] at h; done) | skip
  all_goals
    simp only [shOk, Bool.and_eq_true, decide_eq_true_eq, Bool.not_eq_true'] at h
    obtain ⟨⟨⟨h1, h2⟩, h3⟩, h4⟩ := h
    refine ⟨h1, h2, h3, le1m_ok h4, ?_⟩
    first | exact .inl ⟨_, rfl⟩ | exact .inr ⟨_, rfl⟩
theorem cr_repr (hg : X.A.guards = some []) (hu : X.A.units + 64 < cLine) : CallR X (.builtin "repr") (rRepr X.K) := by
  intro pins s σ H vs us Q I r h
  obtain ⟨v, p, rfl, hd, hs, q⟩ := h
  obtain ⟨u, rfl, ru⟩ := r.one
  obtain ⟨h1, h2, h3, h4, h5⟩ := shOk_out hs
  obtain ⟨as, hr⟩ := Dp.reads I p v u hd ru
  have : ∃ a, v = .ref a := by
    rcases h5 with ⟨xs, rfl⟩ | ⟨xs, rfl⟩ <;> cases hd <;> exact ⟨_, rfl⟩
  obtain ⟨a, rfl⟩ := this
  cases ru
  exact repr_of_reads' hr h1 (PyData.noDict_hsm h2) hg (by omega) (fun _ _ e => e) (fun h' u tk hk => ⟨.str _, H, I.kept hk, ⟨_, rfl⟩, q⟩) h4
def dRepr : D → Option D := fun d => match pd d with
  | some p => if shOk p = true then some (.str p.shown) else none
  | none => none
theorem cd_repr (hg : X.A.guards = some []) (hu : X.A.units + 64 < cLine) : CD X cl (.builtin "repr") (g1 dRepr) := by
  refine CD.one (cr_repr hg hu) fun c σ s T H F α d v z Q J hz k => ?_
  unfold dRepr at hz
  split at hz
  · rename_i p hp
    split at hz
    · rename_i hs
      cases hz
      exact ⟨v, p, rfl, J.vDp (J.tmp (d, v) (List.mem_cons_self ..)) hp, hs, k _ H (SI.flat rfl ⟨F, α, J⟩)⟩
    · cases hz
  · cases hz
/-! ### z[::-1] -/
def revS (z : Str) : Str := ⟨z.cps.reverse⟩
def tRevS (te : TE) : TE := fun σ H Q => te σ H fun x H1 => ∃ z, x = .str z ∧ z.length ≤ sizeLine ∧ Q (.str (revS z)) H1
theorem revIx (n : Nat) : Builtin.Str.strSliceIndices none none (-1) n = (List.range n).map fun k => n - 1 - k := by
  rw [← PySem.W.krv_sliceRange]
  rfl
theorem rev_pick (xs : List Nat) : ((List.range xs.length).map fun k => xs.length - 1 - k).filterMap (fun j => xs.toArray[j]?) = xs.reverse := by
  have h1 : (List.range xs.length).map (fun k => xs.length - 1 - k) = (List.range xs.length).reverse := by
    refine List.ext_getElem (by simp) fun i h1 h2 => ?_
    simp at h1 ⊢
  have h2 : (List.range xs.length).filterMap (fun j => xs.toArray[j]?) = xs := by
    have : ∀ (ys zs : List Nat), (List.range' ys.length zs.length).filterMap (fun j => (ys ++ zs)[j]?) = zs := by
      intro ys zs
      induction zs generalizing ys with
      | nil => rfl
      | cons z zs ih =>
        rw [List.length_cons, List.range'_succ, List.filterMap_cons]
        have e : (ys ++ z :: zs)[ys.length]? = some z := by simp
        rw [e]
        have ih' := ih (ys ++ [z])
        rw [List.length_append, List.append_assoc] at ih'
        exact congrArg (z :: ·) ih'
    have := this [] xs
    rw [List.length_nil, ← List.range_eq_range'] at this
    simpa using this
  rw [h1, List.filterMap_reverse, h2]
theorem revS_pick (z : Str) : (⟨((Builtin.Str.strSliceIndices none none (-1) z.length).filterMap (z.cps[·]?)).toArray⟩ : Str) = revS z := by
  obtain ⟨⟨xs⟩⟩ := z
  rw [revIx]
  have := rev_pick xs
  show (⟨(((List.range xs.length).map fun k => xs.length - 1 - k).filterMap (fun j => xs.toArray[j]?)).toArray⟩ : Str) = _
  rw [this]
  simp [revS]
theorem pe_revS {e : Expr} {te : TE} {k : Nat} {p1 p2 p3 pos : Pos} (he : PE X e te) : PE X (.Subscript e (.Slice none none (some (.UnaryOp .USub (.Constant (.int 1) k p1) p2)) p3) pos) (tRevS te) := by
  refine ⟨fun pins s σ H Q I h => ?_⟩
  refine Subscript_ (thn (he.run pins s σ H _ I h) fun v s1 ⟨x, H1, I1, r1, q1⟩ => ?_)
  obtain ⟨z, rfl, hz, q⟩ := q1
  obtain ⟨t, rfl⟩ := r1
  have hst : PO X (some (.UnaryOp .USub (.Constant (.int 1) k p1) p2)) (tPart (tUn (rU fun i => .int (-i)) (tC (.int 1)))) := po_some (pe_un un_neg pe_int)
  refine wpAny_Slice (thn (po_none.run pins s1 σ H1 (fun o H2 => o = none ∧ H2 = H1) I1 ⟨rfl, rfl⟩) fun vl s2 ⟨l, H2, I2, pl, el, e2⟩ => ?_)
  subst el e2
  refine thn (po_none.run pins s2 σ H2 (fun o H3 => o = none ∧ H3 = H2) I2 ⟨rfl, rfl⟩) fun vu s3 ⟨u, H3, I3, pu, eu, e3⟩ => ?_
  subst eu e3
  refine thn (hst.run pins s3 σ H3 (fun o H4 => o = some (-1) ∧ H4 = H3) I3 ⟨1, rfl, -1, rfl, rfl, rfl⟩) fun vs s4 ⟨o, H4, I4, ps, eo, e4⟩ => ?_
  subst eo e4
  have I5 : Inv X pins σ H4 { s4 with heap := s4.heap.push { cls := .type "slice", data := .fields #[vl, vu, vs] } } := I4.kept (t' := s4.toks) fun b ob q => Heap.get?_push_of_some _ q
  cases pl
  cases pu
  cases ps with
  | int i ti =>
  show wpAny (model X.prog X.w) X.A (subscriptTail e (.Slice none none (some (.UnaryOp .USub (.Constant (.int 1) k p1) p2)) p3) (.str z t) (.ref s4.heap.objs.size)) (EP X pins σ Q) X.xe { s4 with heap := s4.heap.push { cls := .type "slice", data := .fields #[.none, .none, .int (-1) ti] } }
  refine tail_any (ops := [.str z t, .ref s4.heap.objs.size]) (typeIs_str _ _ _) (F.slot_str_getitem.lookup) ?_ (by with_unfolding_all rfl)
  refine wpAny_getItem_str_slice (l := none) (u := none) (st := some (-1, ti)) ⟨_, Heap.get?_push_size _ rfl, rfl, rfl⟩ rfl ?_
  show Made.post (if (((-1 : Int)) == 1 && (Builtin.Str.strSliceIndices none none (-1) z.length).length == z.length) = true then Made.val (.str z t)
    else Made.str ⟨((Builtin.Str.strSliceIndices none none (-1) z.length).filterMap (z.cps[·]?)).toArray⟩) (EP X pins σ Q) _
  rw [if_neg (by rw [show ((-1 : Int) == 1) = false from rfl, Bool.false_and]; exact Bool.false_ne_true), revS_pick]
  refine ⟨?_, .str _, H4, I5.tok _, ⟨_, rfl⟩, q⟩
  show z.cps.reverse.size ≤ sizeLine
  rw [Array.size_reverse]
  exact hz
def dRev : D → Option D
  | .str z => if le1m z.length = true then some (.str (revS z)) else none
  | _ => none
def eUn (g : D → Option D) (f : M D) : M D := fun s => (f s).bind fun d s => oOf (g (view s.M d)) s
theorem de_revS {e : Expr} {f : M D} {k : Nat} {p1 p2 p3 pos : Pos} (he : DE X cl W e f) : DE X cl W (.Subscript e (.Slice none none (some (.UnaryOp .USub (.Constant (.int 1) k p1) p2)) p3) pos) (eUn dRev f) := by
  obtain ⟨te, pe, q⟩ := he
  refine ⟨_, pe_revS pe, fun c σ s T H Q I w => ?_⟩
  refine q c σ s T H _ I (w.bind fun d s1 _ w1 v H1 I1 => ?_)
  obtain ⟨F, α, J⟩ := _root_.id I1
  cases e : view s1.M d with
  | str z =>
    rw [e] at w1
    simp only [dRev] at w1
    by_cases hl : le1m z.length = true
    · rw [if_pos hl] at w1
      exact ⟨z, J.t1s e, le1m_ok hl, w1 _ H1 (SI.flat rfl I1.pop)⟩
    · rw [if_neg hl] at w1; exact w1.elim
  | _ => rw [e] at w1; exact w1.elim
/-- xs[::-1] of a list -/
def dRevL : D → Option D
  | .lst xs => some (.lst xs.reverse)
  | .slst xs => some (.lst xs.reverse)
  | _ => none
theorem de_revL {e : Expr} {f : M D} {k : Nat} {p1 p2 p3 pos : Pos} (he : DE X cl W e f) : DE X cl W (.Subscript e (.Slice none none (some (.UnaryOp .USub (.Constant (.int 1) k p1) p2)) p3) pos) (eUn dRevL f) := by
  obtain ⟨te, pe, q⟩ := he
  refine ⟨_, pe_revL pe, fun c σ s T H Q I w => ?_⟩
  refine q c σ s T H _ I (w.bind fun d s1 _ w1 v H1 I1 => ?_)
  obtain ⟨F, α, J⟩ := _root_.id I1
  have r := J.tmp (d, v) (List.mem_cons_self ..)
  have key : ∀ xs, seqD (view s1.M d) = some xs → (∀ ys, d ≠ .tup ys) → Want X.K cl W c σ T (.ok (.lst xs.reverse) s1) Q → ∃ a vs, v = .ref a ∧ SqL X.K H1 a vs ∧ ∀ p, H1 p = none → Q (.ref p) (upd H1 p (.lst vs.reverse)) := fun xs h hn w => by
    obtain ⟨a, vs, ev, h1, rl⟩ := J.vSeqL r hn h
    exact ⟨a, vs, ev, h1, fun p hp => w _ _ (J.lstNew hp rl.reverse).drop2⟩
  cases e : view s1.M d with
  | lst xs => rw [e] at w1 key; exact key xs rfl (fun ys q => by subst q; cases e) w1
  | slst xs => rw [e] at w1 key; exact key xs rfl (fun ys q => by subst q; cases e) w1
  | _ => rw [e] at w1; exact w1.elim
end
end DL

/-! DlS: calls by names; the law's call. -/
namespace DL
open PySem L2
open PySem.Spec PyProof.Rows

structure DK (X : Cx) (cl : Str → Addr) (W : WX) (kws : List Keyword) (f : M (List D)) : Prop where
  ex : ∃ te, PK X kws te ∧ ∀ c σ s T H Q, SI X.K cl c H σ s T → WantA X.K cl W c σ T (f s) Q → te σ H Q
def pick {α : Type} (ix : List Nat) (l : List α) : List α := ix.filterMap fun i => l[i]?
theorem Vals.pick {vs : List V} {us : List Value} (r : Vals vs us) : ∀ ix : List Nat, Vals (DL.pick ix vs) (DL.pick ix us)
  | [] => .nil
  | i :: ix => by
    unfold DL.pick
    rw [List.filterMap_cons, List.filterMap_cons]
    cases e : vs[i]? with
    | none =>
      have e2 : us[i]? = none := by
        rw [List.getElem?_eq_none_iff] at e ⊢
        rw [← r.length]; exact e
      rw [e2]
      exact Vals.pick r ix
    | some v =>
      obtain ⟨u, hu, ru⟩ := r.get e
      rw [hu]
      exact .cons ru (Vals.pick r ix)
theorem RepL.pick {K : PySem.W.Frag} {cl : Str → Addr} {H : Hp} {F : Addr → Prop} {α : List Addr} {ds : List D} {vs : List V} (r : RepL K cl H F α ds vs) : ∀ ix : List Nat, RepL K cl H F α (DL.pick ix ds) (DL.pick ix vs)
  | [] => .nil
  | i :: ix => by
    unfold DL.pick
    rw [List.filterMap_cons, List.filterMap_cons]
    cases e : ds[i]? with
    | none =>
      have e2 : vs[i]? = none := by
        rw [List.getElem?_eq_none_iff] at e ⊢
        rw [← r.length]; exact e
      rw [e2]
      exact RepL.pick r ix
    | some d =>
      obtain ⟨v, hv, rv⟩ := r.get e
      rw [hv]
      exact .cons rv (RepL.pick r ix)
theorem kbn_of {K : PySem.W.Frag} {x qual : Str} {params : Arguments} {body : List Stmt} {scope : Scope} {kws : List (Str × V)} {f : Addr} {fd : FuncData} {ps : List Str} {ix : List Nat} (F : FunD K x qual params body scope [] kws f fd) (n : Nat) (ks : List Str)
    (h : ∀ (kV doc pm : Value) (an : Option Addr) (cdv ct : Value) (us ws : List Value), us.length = n → ws.length = ks.length → bindArgs (PySem.W.fnOf x qual params body scope .none kV doc pm an cdv ct) ⟨us, ks.zip ws⟩ = pure (ps.zip (pick ix (us ++ ws)))) :
    KBn K fd ps n ks (fun us ws => pick ix (us ++ ws)) (fun us ws => pick ix (us ++ ws)) := by
  obtain ⟨oc, od, dV, kV, doc, pm, an, cdv, ct, osl, rfl, lk, hcd, hD, hK⟩ := F.ex
  rcases hD with ⟨_, rfl⟩ | ⟨e, _⟩
  · exact ⟨fun s us ws X l1 l2 => .of_eq (h kV doc pm an cdv ct us ws l1 l2), fun r1 r2 => Vals.pick (r1.append r2) ix⟩
  · exact absurd rfl e
section
variable {X : Cx} {cl : Str → Addr} {W : WX} {k : Nat}
theorem de_tyname {x : Str} {ty : String} {pos : Pos} (hm : X.mg x = none) (hv : bootBuiltins x = some (.type ty) := by decide +kernel) (hg : Gl X x := by rfl) (hn : x ≠ "__name__" := by decide) (hd : (x == ("__debug__" : Str)) = false := by decide) : DE X cl W (.Name x pos) (eC (.raw (.ty ty))) :=
  ⟨_, pe_bltn hg hm hv (v := .ty ty) rfl hn hd, fun c σ s T H Q I w => w _ H (by obtain ⟨F, α, J⟩ := I; exact ⟨F, α, J.push .raw⟩)⟩
theorem dk_nil : DK X cl W [] aNil := ⟨_, pk_nil, fun c σ s T H Q I w => w [] H rfl I⟩
theorem dk_cons {e : Expr} {nm : Option Str} {kpos : Pos} {kws : List Keyword} {f : M D} {g : M (List D)} (h : DE X cl W e f) (hr : DK X cl W kws g) : DK X cl W (⟨nm, e, kpos⟩ :: kws) (aCons f g) := by
  obtain ⟨te, pe, q⟩ := h
  obtain ⟨ta, pa, qa⟩ := hr
  refine ⟨_, pk_cons pe pa, fun c σ s T H Q I w => ?_⟩
  refine q c σ s T H _ I (w.bind fun d s1 _ w1 v H1 I1 => ?_)
  refine qa c σ s1 _ H1 _ I1 ?_
  cases hg : g s1 with
  | fail => rw [hg] at w1; exact w1
  | exc n fs s2 => rw [hg] at w1; exact fun dx H e i => w1 dx H e (i.xt fun p hp => List.mem_cons_of_mem _ hp)
  | ok ds s2 =>
    rw [hg] at w1
    exact fun vs H2 hl I2 => w1 (v :: vs) H2 (by rw [List.length_cons, List.length_cons, hl]) I2
def eCallK (io : List Bool) (sem : Sem) (n m : Nat) (ix : List Nat) (f fk : M (List D)) : M D := fun s => (f s).bind fun ds s => (fk s).bind fun es s => if ds.length = n ∧ es.length = m then callS io sem (pick ix (ds ++ es)) s else .fail
theorem run_GK {fa : Addr} {fd : FuncData} {ps ks : List Str} {sem : Sem} {pins : List (Addr × Obj)} {σ : L2.St} {H : Hp} {s : Shared} {Q : VK} {us ws : List Value} {vs zs : List V} {g : List Value → List Value → List Value} {gV : List V → List V → List V} (F : FnG X.prog X.w X.K X.mg X.base cl k fa fd ps sem) (hc : Cok X W k) {n : Nat} (hb : KBn X.K fd ps n ks g gV) (I : Inv X pins σ H s) (r : Vals vs us) (rz : Vals zs ws) (hl : (gV vs zs).length = ps.length) (l1 : vs.length = n) (l2 : zs.length = ks.length)
    (h : dsp X.K cl sem (gV vs zs) H Q (fun cls dx H' => W cls dx σ H')) : wpAny (model X.prog X.w) X.A (call (.ref fa) us (ks.zip ws)) (EP X pins σ Q) X.xe s := by
  have r2 := hb.rel r rz
  have hl2 : (g us ws).length = ps.length := by rw [← r2.length]; exact hl
  refine wpAny_call (codeAny_mono (F.run X.A X.stack s H ⟨us, ks.zip ws⟩ (g us ws) (gV vs zs) Q _ hc.room hc.gd I.env0 (hb.to s us ws I.kIn (r.length.symm.trans l1) (rz.length.symm.trans l2)) r2 hl h) fun res s' hq => ?_)
  cases res with
  | error e => exact passAt hc.tk σ pins H s e s' I hq
  | ok fl =>
    cases fl with
    | ret u => exact I.after hq
    | next => exact False.elim hq
    | brk => exact False.elim hq
    | cont => exact False.elim hq
theorem callK_dsp {σ : L2.St} {T : List (D × V)} {c : Cz} {s : S} {H : Hp} {io : List Bool} {sem : Sem} {ix : List Nat} {ds es : List D} {vs zs : List V} {Q : VK} (hn : LenOk sem) (hl : ds.length = vs.length) (hl2 : es.length = zs.length) (I : SI X.K cl c H σ s (zipT es zs (zipT ds vs T))) (w : Want X.K cl W c σ T (callS io sem (pick ix (ds ++ es)) s) Q) :
    dsp X.K cl sem (pick ix (vs ++ zs)) H Q (fun cls dx H' => W cls dx σ H') ∧ (pick ix (vs ++ zs)).length = io.length := by
  obtain ⟨G, α, J⟩ := I
  have r2 := J.args hl2
  have J1 : SIx X.K cl c H σ s (zipT ds vs T) G α := J.temps fun q hq => J.tmp q (zipT_sub _ _ _ q hq)
  have r1 := J1.args hl
  have rp := (r1.append r2).pick ix
  have J2 : SIx X.K cl c H σ s (zipT (pick ix (ds ++ es)) (pick ix (vs ++ zs)) T) G α := J1.temps (rp.zip fun q hq => J1.tmp q (zipT_sub _ _ _ q hq))
  exact ⟨call_dsp J2 rp.length w hn.1 hn.2, by rw [← rp.length, callS_len w]⟩
theorem zipT_key : ∀ (ds : List D) (vs : List V) (T T' : List (D × V)), (∀ p ∈ T, p ∈ T') → ∀ p ∈ zipT ds vs T, p ∈ zipT ds vs T' := by
  intro ds
  induction ds with
  | nil => intro vs T T' h p hp; exact h p hp
  | cons d ds ih =>
    intro vs T T' h p hp
    cases vs with
    | nil => exact h p hp
    | cons v vs => exact ih vs _ _ (fun p hp => (List.mem_cons.mp hp).elim (fun e => e ▸ List.mem_cons_self ..) fun hp => List.mem_cons_of_mem _ (h p hp)) p hp
theorem zipT_or : ∀ (ds : List D) (vs : List V) (T : List (D × V)) (p : D × V), p ∈ zipT ds vs T → p ∈ T ∨ p ∈ zipT ds vs [] := by
  intro ds
  induction ds with
  | nil => intro vs T p hp; exact .inl hp
  | cons d ds ih =>
    intro vs T p hp
    cases vs with
    | nil => exact .inl hp
    | cons v vs =>
      rcases ih vs _ p hp with h | h
      · rcases List.mem_cons.mp h with h | h
        · exact .inr (zipT_sub ds vs [(d, v)] p (by rw [h]; exact List.mem_cons_self ..))
        · exact .inl h
      · exact .inr (zipT_key ds vs [] [(d, v)] (fun _ h => by simp at h) p h)
theorem zz (ds : List D) (vs : List V) (es : List D) (zs : List V) (T : List (D × V)) : ∀ p ∈ zipT es zs (zipT ds vs (zipT ds vs T)), p ∈ zipT es zs (zipT ds vs T) := by
  refine zipT_key es zs _ _ fun p hp => ?_
  rcases zipT_or ds vs _ p hp with h | h
  · exact h
  · exact zipT_key ds vs [] T (fun _ h => by simp at h) p h
/-- f(e, .., k = v, ..) -/
theorem de_callK {x : Str} {fa : Addr} {fd : FuncData} {ps ks : List Str} {sem : Sem} {io : List Bool} {n : Nat} {ix : List Nat} {e : Expr} {es : List Expr} {kws : List Keyword} {f fk : M (List D)} {p pos : Pos} (F : FnG X.prog X.w X.K X.mg X.base cl k fa fd ps sem) (hn : LenOk sem) (hio : io.length = ps.length) (hc : Cok X W k)
    (hm : X.mg x = some (.ref fa)) (hk : PySem.W.keepIn X.K (.ref fa) = true) (hb : KBn X.K fd ps n ks (fun us ws => pick ix (us ++ ws)) (fun us ws => pick ix (us ++ ws))) (ha : DA X cl W (e :: es) f) (hkw : DK X cl W kws fk)
    (hg : Gl X x := by rfl) (hall : (backToKw pos (keywordEach kws X.env)).all (·.1.isSome) = true := by rfl) (hks : (backToKw pos (keywordEach kws X.env)).filterMap (·.1) = ks := by rfl)
    (hdb : (x == ("__debug__" : Str)) = false := by decide) (he : starEach (e :: es) X.env = (false, eval e X.env) :: starEach es X.env := by rfl)
    (hpl : ((backTo pos (starEach (e :: es) X.env)).any (·.1) || (backToKw pos (keywordEach kws X.env)).any (·.1.isNone)) = false := by rfl) : DE X cl W (.Call (.Name x p) (e :: es) kws pos) (eCallK io sem n ks.length ix f fk) := by
  obtain ⟨ta, pa, qa⟩ := ha
  obtain ⟨tk, pk, qk⟩ := hkw
  refine ⟨fun σ H Q => ta σ H fun vs H1 => tk σ H1 fun zs H2 => vs.length = n ∧ zs.length = ks.length ∧ (pick ix (vs ++ zs)).length = ps.length ∧ dsp X.K cl sem (pick ix (vs ++ zs)) H2 Q (fun cls dx H' => W cls dx σ H'), ⟨fun pins s σ H Q I h => ?_⟩, fun c σ s T H Q I w => ?_⟩
  · refine wpAny_Call_Name_kw (ld_glob I hg hm ?_ hdb)
    refine PySem.W.callWith_KW (h₀ := X.base) I.ok.mod.kin hk hall (thn (pa.run pos pins s σ H _ I h) fun us s1 ⟨vs, H1, I1, r, q⟩ => ?_) hpl he
    refine thn (pk.run pos pins s1 σ H1 _ I1 q) fun ws s2 ⟨zs, H2, I2, rz, l1, l2, hl, q2⟩ => ⟨I2.kIn, ?_⟩
    rw [hks]
    exact run_GK F hc hb I2 r rz hl l1 l2 q2
  · refine qa c σ s T H _ I (w.bindA fun ds s1 _ w1 vs H1 hl I1 => ?_)
    refine qk c σ s1 _ H1 _ I1 ((w1.deeper fun p hp => zipT_sub _ _ _ p hp).bindA fun es' s2 _ w2 zs H2 hl2 I2 => ?_)
    by_cases hb : ds.length = n ∧ es'.length = ks.length
    · rw [if_pos hb] at w2
      obtain ⟨h1, h2⟩ := callK_dsp (T := zipT ds vs T) hn hl hl2 (I2.sub fun p hp => zz ds vs es' zs T p hp) w2
      exact ⟨hl.symm.trans hb.1, hl2.symm.trans hb.2, by rw [h2, hio], h1⟩
    · rw [if_neg hb] at w2; exact w2.elim
/-- f(k = v, ..) -/
theorem de_callK0 {x : Str} {fa : Addr} {fd : FuncData} {ps ks : List Str} {sem : Sem} {io : List Bool} {n : Nat} {ix : List Nat} {kws : List Keyword} {fk : M (List D)} {p pos : Pos} (F : FnG X.prog X.w X.K X.mg X.base cl k fa fd ps sem) (hn : LenOk sem) (hio : io.length = ps.length) (hc : Cok X W k)
    (hm : X.mg x = some (.ref fa)) (hk : PySem.W.keepIn X.K (.ref fa) = true) (hb : KBn X.K fd ps n ks (fun us ws => pick ix (us ++ ws)) (fun us ws => pick ix (us ++ ws))) (hkw : DK X cl W kws fk)
    (hg : Gl X x := by rfl) (hall : (backToKw pos (keywordEach kws X.env)).all (·.1.isSome) = true := by rfl) (hks : (backToKw pos (keywordEach kws X.env)).filterMap (·.1) = ks := by rfl)
    (hdb : (x == ("__debug__" : Str)) = false := by decide)
    (hpl : ((backTo pos (starEach [] X.env)).any (·.1) || (backToKw pos (keywordEach kws X.env)).any (·.1.isNone)) = false := by rfl) : DE X cl W (.Call (.Name x p) [] kws pos) (eCallK io sem n ks.length ix aNil fk) := by
  obtain ⟨tk, pk, qk⟩ := hkw
  refine ⟨fun σ H Q => tk σ H fun zs H2 => 0 = n ∧ zs.length = ks.length ∧ (pick ix ([] ++ zs)).length = ps.length ∧ dsp X.K cl sem (pick ix ([] ++ zs)) H2 Q (fun cls dx H' => W cls dx σ H'), ⟨fun pins s σ H Q I h => ?_⟩, fun c σ s T H Q I w => ?_⟩
  · refine wpAny_Call_Name_kw (ld_glob I hg hm ?_ hdb)
    refine PySem.W.callWith_KW0 (h₀ := X.base) I.ok.mod.kin hk hall (thn (pk.run pos pins s σ H _ I h) fun ws s2 ⟨zs, H2, I2, rz, l1, l2, hl, q2⟩ => ⟨I2.kIn, ?_⟩) hpl
    rw [hks]
    exact run_GK (us := []) (vs := []) F hc hb I2 .nil rz hl l1 l2 q2
  · have w' : Want X.K cl W c σ T ((fk s).bind fun es s => if 0 = n ∧ es.length = ks.length then callS io sem (pick ix ([] ++ es)) s else .fail) Q := w
    refine qk c σ s _ H _ I (w'.bindA fun es' s2 _ w2 zs H2 hl2 I2 => ?_)
    by_cases hb : 0 = n ∧ es'.length = ks.length
    · rw [if_pos hb] at w2
      obtain ⟨h1, h2⟩ := callK_dsp (ds := []) (vs := []) (T := T) hn rfl hl2 I2 w2
      exact ⟨hb.1, hl2.symm.trans hb.2, by rw [h2, hio], h1⟩
    · rw [if_neg hb] at w2; exact w2.elim
end

/-! ### the law, called -/
theorem law_G {P : Program} {w : World} {K : PySem.W.Frag} {cl : Str → Addr} {mg mb : Str → Option Value} {k : Nat} {fa a : Addr} {fd : FuncData} {x : Str} {sem : Sem} {s₁ : Shared} {vs : List Value} {ns : List Int}
    (KX : K.In s₁.heap) (hns : s₁.heap.Ns mainGlobals mg) (hb : s₁.heap.Ns builtinsNs mb) (hbb : ∀ x : Str, x ≠ "__name__" → mb x = bootBuiltins x) (hlim : s₁.heap.NoLimit) (hg : s₁.gens = #[])
    (ha : s₁.heap.get? a = some { cls := .type "list", data := .seq vs.toArray }) (hi : IntsAre vs ns) (hl : ns.length ≤ sizeLine) (hr : Room k callerA)
    (F : ∀ base : Heap, K.In base → base.Ns mainGlobals mg → FnG P w K mg base cl k fa fd [x] sem) (hbind : ∀ (s : Shared) (u : Value), BindsTo s fd ⟨[u], []⟩ [(x, u)])
    (hsem : ∃ s', sem [] [.slst (ns.map .int)] = .ok (.bl true) s') :
    codeAny (model P w) callerA (.call (.ref fa) ⟨[.ref a], []⟩) (fun r s' => r = .ok (.ret (.bool true)) ∧ OldK s₁.heap s'.heap ∧ s'.os = s₁.os ∧ AllBare s'.gens) s₁ := by
  have rv := vals_ints hi
  have lenV := hi.length
  have core : ∀ H : Hp, Only H → SqL K H a (ns.map V.int) → HOk P w H s₁.heap → (∀ b, H b ≠ none → b = a) → (H a ≠ none → K.lookup a = none) →
      codeAny (model P w) callerA (.call (.ref fa) ⟨[.ref a], []⟩) (fun r s' => r = .ok (.ret (.bool true)) ∧ OldK s₁.heap s'.heap ∧ s'.os = s₁.os ∧ AllBare s'.gens) s₁ := by
    intro H hO hS hok hA hK
    have only : ∀ {b : Addr}, b ≠ a → H b = none := fun {b} nb => by
      cases q : H b with
      | none => rfl
      | some u => exact absurd (hA b (by rw [q]; simp)) nb
    have ofns : ∀ {b : Addr} {m : Str → Option Value}, s₁.heap.Ns b m → (hidT s₁.heap H).Ns b m := fun {b m} ⟨o, es, ep, e, d, r⟩ => by
      refine ⟨o, es, ep, hidT_get e (only fun q => ?_), d, r⟩
      subst q
      rw [ha] at e; cases e
      exact nomatch (show Data.seq vs.toArray _ = Data.dict es ep from d)
    have inK : K.In (hidT s₁.heap H) := fun b o e => hidT_get (KX b o e) (by
      by_cases q : H a = none
      · by_cases nb : b = a
        · rw [nb]; exact q
        · exact only nb
      · exact only fun nb => by rw [nb, hK q] at e; cases e)
    obtain ⟨mc, h1, h2⟩ := id hlim
    have e0 : Env0 P w K mg (hidT s₁.heap H) callerA [] s₁ H := ⟨rfl, ⟨inK, ofns hns, ⟨mb, ofns hb, hbb⟩, ⟨mc, ofns h1, h2⟩⟩, fun b o e => of_hidT e, Nat.le_of_eq (hidT_size _ _), trivial, fun b hb => absurd (show b ∈ ([] : List Addr) from hb) (by simp), hok, .of_eq hg⟩
    have promise : dsp K cl sem [.ref a] H (fun v _ => v = .bl true) (fun _ _ _ => False) := by
      obtain ⟨s2, e2⟩ := hsem
      have live : H a ≠ none → ∃ o, H a = some o := fun q => by
        cases z : H a with
        | none => exact absurd z q
        | some o => exact ⟨o, rfl⟩
      have rp : Rep K cl H (fun b => b = a ∧ H b ≠ none) [] (.slst (ns.map .int)) (.ref a) := by
        rcases hS with h | h
        · refine .slst h ⟨rfl, ?_⟩ (rep_ints ns)
          rcases h with h | ⟨o, h⟩ <;> rw [h] <;> simp
        · exact .slstK (fun H' => .inr h) (rep_ints ns)
      refine ⟨fun b => b = a ∧ H b ≠ none, [], [], [.slst (ns.map .int)], rfl, ?_, ?_⟩
      · exact ⟨fun i d e => by simp at e, rfl, fun q hq => by
          rw [List.mem_singleton.mp (show q ∈ [((D.slst (ns.map .int)), V.ref a)] from hq)]; exact rp, rfl, fun k x b e => by simp at e, List.nodup_nil, fun b hb => by simp at hb, fun b hb => by simp at hb, fun b hb => by
          obtain ⟨rfl, q⟩ := hb
          exact live q, fun b hb => .inr (.inl hb), fun k b e => by simp at e, fun b o e _ => e, fun _ _ e => e, fun _ _ _ e => e⟩
      · rw [e2]
        intro v H' I'
        obtain ⟨F', α', J'⟩ := I'
        cases J'.tmp (.bl true, v) (List.mem_cons_self ..)
        rfl
    refine codeAny_mono ((F _ inK (ofns hns)).run callerA [] s₁ H ⟨[.ref a], []⟩ [.ref a] [.ref a] _ _ hr rfl e0 (hbind s₁ (.ref a)) (.cons rfl .nil) rfl promise) fun r s' h => ?_
    cases r with
    | error e =>
      obtain ⟨_, _, _, _, _, _, _, _, _, _, _, _, z⟩ := h
      exact z.elim
    | ok fl =>
      cases fl with
      | next => exact False.elim h
      | brk => exact False.elim h
      | cont => exact False.elim h
      | ret u =>
        obtain ⟨v, H', os, bare, un, hok', r', q⟩ := h
        have q' : v = .bl true := q
        subst q'
        obtain rfl : u = Value.bool true := r'
        refine ⟨rfl, OldK.of_keep fun b o e => ?_, os, bare⟩
        rcases hO b with z | ⟨ob, xs, z⟩
        · exact un.keep b o e z (by intro z; exact absurd (show b ∈ ([] : List Addr) from z) (by simp)) (by simp)
        · obtain ⟨e1, _⟩ := hok b _ z
          obtain ⟨e2, _⟩ := hok' b _ (un.frzs b ob _ z)
          rw [e] at e1; cases e1
          exact e2
  cases hk : K.lookup a with
  | some o =>
    have e := KX a o hk
    rw [ha] at e
    cases e
    exact core (fun _ => none) (fun _ => .inl rfl) (.inr ⟨_, vs.toArray, _, hk, rfl, rfl, rfl, by rw [List.size_toArray, lenV]; exact hl, by simpa using rv⟩) (fun b u z => by cases z) (fun b z => absurd rfl z) fun z => absurd rfl z
  | none =>
    obtain ⟨H, hH⟩ : ∃ H : Hp, H = fun b => if b = a then some (.frz { cls := .type "list", data := .seq vs.toArray } (.lst (ns.map V.int))) else none := ⟨_, rfl⟩
    have here : H a = some (.frz { cls := .type "list", data := .seq vs.toArray } (.lst (ns.map V.int))) := by rw [hH]; exact if_pos rfl
    have away : ∀ b, b ≠ a → H b = none := fun b nb => by rw [hH]; exact if_neg nb
    refine core H (fun b => ?_) (.inl (.inr ⟨_, here⟩)) (fun b u z => ?_) (fun b z => ?_) fun _ => hk
    · by_cases nb : b = a
      · subst nb; exact .inr ⟨_, _, here⟩
      · exact .inl (away b nb)
    · by_cases nb : b = a
      · subst nb
        rw [here] at z
        cases z
        exact ⟨ha, by rw [List.length_map]; exact hl, vs, _, rv, ha⟩
      · rw [away b nb] at z
        cases z
    · by_cases nb : b = a
      · exact nb
      · exact absurd (away b nb) z
theorem walk_G {l : PySem.W.OpenLaw} {n k : Nat} {q : Program} {loose : List Str} {XP : (Str → Option Value) → Heap → Prop} {YP : World → Heap → Prop} {d : DefRec} {x : Str}
    (hn : l.most = some n) (hn2 : n ≤ sizeLine) (hdf : d.params.defaults = []) (hr : Room k callerA)
    (F : ∀ (w : World) (mg : Str → Option Value) (fa : Addr) (h : Heap), YP w h → h.Ns mainGlobals mg → mg d.name = some (.ref fa) →
      ∃ (K : PySem.W.Frag) (cl : Str → Addr) (fd : FuncData) (sem : Sem), K.In h ∧ (∀ (s : Shared) (u : Value), BindsTo s fd ⟨[u], []⟩ [(x, u)]) ∧
        (∀ ns : List Int, ns.length ≤ n → ∃ s', sem [] [.slst (ns.map .int)] = .ok (.bl true) s') ∧
        ∀ base : Heap, K.In base → base.Ns mainGlobals mg → FnG l.prog w K mg base cl k fa fd [x] sem) :
    PySem.W.WalkO q loose XP YP l.row.toRowW d [] (fun f vs => PySem.call f vs) := by
  refine Att.attach_call hn hdf fun w s₀ s₁ mg mb fa o pm cd doc a vs ns G Y ho hd hcd hmg hobj hints hlen hg => ?_
  obtain ⟨K, cl, fd, sem, KX, hb, hsem, hF⟩ := F w mg fa _ Y G.T.g hmg
  exact law_G KX G.T.g G.T.b G.T.builtins G.T.nolimit hg hobj hints (Nat.le_trans hlen hn2) hr hF hb (hsem ns hlen)
end DL

/-! DlZ: zip, strict, over any two walks of one length. -/
namespace DL
open PySem
open PySem.Sem (wp)
section
variable {prog : Program} {w : World} {A : Around} {E : Value → Shared → Prop} {s : Shared}
theorem nextEnd_of {it : Value} {Q : Option Value → Shared → Prop} (h : wpAny (model prog w) A (pyNext it) Q E s) : wpAny (model prog w) A (Builtin.SmallTypes.nextOrEnd it) Q E s := by
  intro Γ p hΓ
  have h := h Γ p hΓ
  unfold pyNext at h
  unfold Builtin.SmallTypes.nextOrEnd Builtin.SmallTypes.nextOf
  rw [Sem.wp_bind', Sem.wp_attempt] at h
  rw [Sem.wp_bind', Sem.wp_attempt, Sem.wp_bind']
  refine Sem.wp_mono _ _ _ (fun r p' s' h => ?_) (fun e p' s' h => ?_) _ _ h
  · cases r with
    | none => exact False.elim (by simpa [wp] using h)
    | some v => exact h
  · exact h
/-- the zip's record, strict -/
abbrev IsZs (h : Heap) (z TI TO : Addr) (f0 : Value) : Prop :=
  h.get? z = some { cls := .type "zip", dict := none, data := .fields #[f0, .bool false, .bool true, .ref TI, .ref TO], slots := #[] }
/-- two walks, the zip's own objects, all apart -/
structure Zw (z TI TO i1 i2 : Addr) (fp1 fp2 wr1 wr2 : List Addr) : Prop where
  TIz : TI ≠ z
  TOz : TO ≠ z
  TITO : TI ≠ TO
  z1 : z ∉ fp1
  z2 : z ∉ fp2
  I1 : TI ∉ fp1
  I2 : TI ∉ fp2
  O1 : TO ∉ fp1
  O2 : TO ∉ fp2
  a12 : ∀ b ∈ fp1, b ∉ wr2
  a21 : ∀ b ∈ fp2, b ∉ wr1
variable {z TI TO i1 i2 : Addr} {fp1 fp2 wr1 wr2 : List Addr} {n : Nat} {P1 P2 : Nat → Value → Prop} {S1 S2 : Nat → Heap → Prop}
theorem zs_item (D : Zw z TI TO i1 i2 fp1 fp2 wr1 wr2) (W1 : Walks prog w A i1 fp1 wr1 n P1 S1) (W2 : Walks prog w A i2 fp2 wr2 n P2 S2) {a b : Value} {k : Nat} {Q : Value → Shared → Prop}
    (hz : IsZs s.heap z TI TO .none) (hTI : IsPair s.heap TI (.ref i1) (.ref i2)) (hTO : IsPair s.heap TO a b) (h1 : S1 k s.heap) (h2 : S2 k s.heap) (hk : k < n)
    (hQ : ∀ x y (h5 h' : Heap) tk, P1 k x → P2 k y → (∀ c o, c ≠ z → c ≠ TO → c ∉ wr1 → c ∉ wr2 → s.heap.get? c = some o → h5.get? c = some o) → (∀ c o, c ≠ z → h5.get? c = some o → h'.get? c = some o) →
      IsZs h' z TI TO (rawInt h5.objs.size) → IsPair h' TO x y → S1 (k + 1) h' → S2 (k + 1) h' → IsPair h' h5.objs.size x y → z < h5.objs.size → Q (.ref h5.objs.size) { s with heap := h', toks := tk }) :
    wpAny (model prog w) A (Builtin.«zip.__next__» ⟨[.ref z], []⟩) (fun fin s' => ∃ v, fin = .done (.ret v) ∧ Q v s') E s := by
  show wpAny _ _ (field (.ref z) 2 >>= _) _ _ _
  refine wpAny_bind (wpAny_field hz rfl (x := .bool true) rfl ?_)
  show wpAny _ _ (field (.ref z) 3 >>= _) _ _ _
  refine wpAny_bind (wpAny_field hz rfl (x := .ref TI) rfl ?_)
  refine wpAny_bind (wpAny_seqItems hTI rfl ?_)
  show wpAny _ _ (Builtin.SmallTypes.ownedTupleIsFree (.ref z) >>= _) _ _ _
  refine wpAny_bind ?_
  unfold Builtin.SmallTypes.ownedTupleIsFree
  refine wpAny_bind (wpAny_field hz rfl (x := .none) rfl (wpAny_pure ?_))
  simp only [if_true]
  refine wpAny_bind (wpAny_rule ?_)
  refine wpAny_bind (wpAny_field hz rfl (x := .ref TO) rfl ?_)
  refine wpAny_bind (wpAny_setField_rec hz (by simp) fun h₁ hz₁ hs₁ => ?_)
  replace hz₁ : IsZs h₁ z TI TO .ellipsis := hz₁
  refine wpAny_bind ?_
  simp only [List.zipIdx_cons, List.zipIdx_nil, List.forIn_cons, List.forIn_nil]
  have g1 : S1 k h₁ := W1.frame _ _ _ h1 fun b hb o q => hs₁.extBut _ _ (fun e => D.z1 (e ▸ hb)) q
  have g2 : S2 k h₁ := W2.frame _ _ _ h2 fun b hb o q => hs₁.extBut _ _ (fun e => D.z2 (e ▸ hb)) q
  refine wpAny_bind (wpAny_bind (wpAny_onRaise ?_))
  show wpAny _ _ (Builtin.SmallTypes.nextOrEnd (.ref i1)) _ _ _
  refine nextEnd_of (W1.item k _ _ _ hk g1 fun x h₂ t₂ px st1 k₂ => ?_)
  have zw1 : z ∉ wr1 := fun q => D.z1 (W1.sub z q)
  have Ow1 : TO ∉ wr1 := fun q => D.O1 (W1.sub TO q)
  have Iw1 : TI ∉ wr1 := fun q => D.I1 (W1.sub TI q)
  have zw2 : z ∉ wr2 := fun q => D.z2 (W2.sub z q)
  have Ow2 : TO ∉ wr2 := fun q => D.O2 (W2.sub TO q)
  have hTO₂ : IsPair h₂ TO a b := k₂ _ _ Ow1 (hs₁.extBut _ _ D.TOz hTO)
  refine wpAny_bind (wpAny_seqItems (s := { s with heap := h₂, toks := t₂ }) hTO₂ rfl ?_)
  refine wpAny_bind (wpAny_updateSeq_pair (s := { s with heap := h₂, toks := t₂ }) hTO₂ fun h₃ hTO₃ hs₃ => ?_)
  replace hTO₃ : IsPair h₃ TO x b := hTO₃
  refine wpAny_bind (wpAny_letGo (wpAny_pure ?_))
  have g3 : S2 k h₃ := W2.frame _ _ _ g2 fun c hc o q => hs₃.extBut _ _ (fun e => D.O2 (e ▸ hc)) (k₂ _ _ (D.a21 c hc) q)
  refine wpAny_bind (wpAny_bind (wpAny_onRaise ?_))
  show wpAny _ _ (Builtin.SmallTypes.nextOrEnd (.ref i2)) _ _ _
  refine nextEnd_of (W2.item k { s with heap := h₃, toks := t₂ } _ _ hk g3 fun y h₄ t₄ py st2 k₄ => ?_)
  have hTO₄ : IsPair h₄ TO x b := k₄ _ _ Ow2 hTO₃
  refine wpAny_bind (wpAny_seqItems (s := { s with heap := h₄, toks := t₄ }) hTO₄ rfl ?_)
  refine wpAny_bind (wpAny_updateSeq_pair (s := { s with heap := h₄, toks := t₄ }) hTO₄ fun h₅ hTO₅ hs₅ => ?_)
  replace hTO₅ : IsPair h₅ TO x y := hTO₅
  refine wpAny_bind (wpAny_letGo (wpAny_pure (wpAny_pure ?_)))
  refine wpAny_bind (wpAny_seqItems (s := { s with heap := h₅, toks := t₄ }) hTO₅ rfl ?_)
  refine wpAny_bind (wpAny_newTuple ?_)
  have hz₅ : IsZs h₅ z TI TO .ellipsis := hs₅.extBut _ _ D.TOz.symm (k₄ _ _ zw2 (hs₃.extBut _ _ D.TOz.symm (k₂ _ _ zw1 hz₁)))
  have hk₅ : ∀ c o, c ≠ z → c ≠ TO → c ∉ wr1 → c ∉ wr2 → s.heap.get? c = some o → h₅.get? c = some o := fun c o c1 c2 c3 c4 e =>
    hs₅.extBut _ _ c2 (k₄ _ _ c4 (hs₃.extBut _ _ c2 (k₂ _ _ c3 (hs₁.extBut _ _ c1 e))))
  have e1₅ : S1 (k + 1) h₅ := W1.frame _ _ _ st1 fun c hc o q => hs₅.extBut _ _ (fun e => D.O1 (e ▸ hc)) (k₄ _ _ (D.a12 c hc) (hs₃.extBut _ _ (fun e => D.O1 (e ▸ hc)) q))
  have e2₅ : S2 (k + 1) h₅ := W2.frame _ _ _ st2 fun c hc o q => hs₅.extBut _ _ (fun e => D.O2 (e ▸ hc)) q
  have hzlt : z < h₅.objs.size := Heap.lt_size hz₅
  show wpAny _ _ (Builtin.SmallTypes.ownedTupleHandOut (.ref z) (.ref h₅.objs.size) >>= _) _ _ _
  refine wpAny_bind ?_
  unfold Builtin.SmallTypes.ownedTupleHandOut
  have hz₆ : IsZs (h₅.push { cls := .type "tuple", data := .seq #[x, y] }) z TI TO .ellipsis := Heap.get?_push_of_some _ hz₅
  refine wpAny_bind (wpAny_setField_rec (s := { s with heap := h₅.push { cls := .type "tuple", data := .seq #[x, y] }, toks := t₄ }) hz₆ (by simp) fun h₇ hz₇ hs₇ => ?_)
  replace hz₇ : IsZs h₇ z TI TO (rawInt h₅.objs.size) := hz₇
  refine wpAny_setField_rec (s := { s with heap := h₇, toks := t₄ }) hz₇ (by simp) fun h₈ hz₈ hs₈ => ?_
  replace hz₈ : IsZs h₈ z TI TO (rawInt h₅.objs.size) := hz₈
  have up : ∀ c o, c ≠ z → h₅.get? c = some o → h₈.get? c = some o := fun c o c1 e => hs₈.extBut _ _ c1 (hs₇.extBut _ _ c1 (Heap.get?_push_of_some _ e))
  have hT₈ : IsPair h₈ h₅.objs.size x y := hs₈.extBut _ _ (Nat.ne_of_gt hzlt) (hs₇.extBut _ _ (Nat.ne_of_gt hzlt) (Heap.get?_push_size _ rfl))
  refine wpAny_pure ⟨_, rfl, ?_⟩
  exact hQ x y h₅ h₈ t₄ px py hk₅ up hz₈ (up _ _ D.TOz hTO₅) (W1.frame _ _ _ e1₅ fun c hc o q => up c o (fun e => D.z1 (e ▸ hc)) q) (W2.frame _ _ _ e2₅ fun c hc o q => up c o (fun e => D.z2 (e ▸ hc)) q) hT₈ hzlt
theorem stop_raises {Q : Fin → Shared → Prop} (hh : A.handled = none) (hE : ∀ h' e, (∀ c o, s.heap.get? c = some o → h'.get? c = some o) → (∃ o, h'.get? e = some o ∧ o.cls = .type "StopIteration") → E (.ref e) { s with heap := h' }) :
    wpAny (model prog w) A (Builtin.SmallTypes.stopIteration) Q E s := by
  show wpAny _ _ (newExc (.type "StopIteration") [] >>= _) _ _ _
  refine wpAny_bind ?_
  simp only [newExc, newTuple]
  refine wpAny_bind (wpAny_newObj_type ?_ (by size_fits))
  refine wpAny_bind (m := firstArgMember _ _) (wpAny_of_eq (a := Value.none) (by first | rfl | (simp only [firstArgMember]; rfl)) ?_)
  refine wpAny_newObj_type ?_ (by size_fits)
  simp only [raiseNew]
  refine wpAny_bind (wpAny_handled ?_)
  rw [hh]
  refine wpAny_bind (wpAny_pure (wpAny_throw ?_))
  exact hE _ _ (fun c o e => Heap.get?_push_of_some _ (Heap.get?_push_of_some _ e)) ⟨_, Heap.get?_push_size _ rfl, rfl⟩
theorem zs_done (hh : A.handled = none) (D : Zw z TI TO i1 i2 fp1 fp2 wr1 wr2) (W1 : Walks prog w A i1 fp1 wr1 n P1 S1) (W2 : Walks prog w A i2 fp2 wr2 n P2 S2) {a b : Value} {Q : Fin → Shared → Prop}
    (hz : IsZs s.heap z TI TO .none) (hTI : IsPair s.heap TI (.ref i1) (.ref i2)) (hTO : IsPair s.heap TO a b) (h1 : S1 n s.heap) (h2 : S2 n s.heap)
    (hE : ∀ (h' : Heap) tk e, (∀ c o, c ≠ z → c ≠ TO → c ∉ wr1 → c ∉ wr2 → s.heap.get? c = some o → h'.get? c = some o) → (∃ o, h'.get? e = some o ∧ o.cls = .type "StopIteration") → E (.ref e) { s with heap := h', toks := tk }) :
    wpAny (model prog w) A (Builtin.«zip.__next__» ⟨[.ref z], []⟩) Q E s := by
  show wpAny _ _ (field (.ref z) 2 >>= _) _ _ _
  refine wpAny_bind (wpAny_field hz rfl (x := .bool true) rfl ?_)
  show wpAny _ _ (field (.ref z) 3 >>= _) _ _ _
  refine wpAny_bind (wpAny_field hz rfl (x := .ref TI) rfl ?_)
  refine wpAny_bind (wpAny_seqItems hTI rfl ?_)
  show wpAny _ _ (Builtin.SmallTypes.ownedTupleIsFree (.ref z) >>= _) _ _ _
  refine wpAny_bind ?_
  unfold Builtin.SmallTypes.ownedTupleIsFree
  refine wpAny_bind (wpAny_field hz rfl (x := .none) rfl (wpAny_pure ?_))
  simp only [if_true]
  refine wpAny_bind (wpAny_rule ?_)
  refine wpAny_bind (wpAny_field hz rfl (x := .ref TO) rfl ?_)
  refine wpAny_bind (wpAny_setField_rec hz (by simp) fun h₁ hz₁ hs₁ => ?_)
  replace hz₁ : IsZs h₁ z TI TO .ellipsis := hz₁
  refine wpAny_bind ?_
  simp only [List.zipIdx_cons, List.zipIdx_nil, List.forIn_cons, List.forIn_nil]
  have g1 : S1 n h₁ := W1.frame _ _ _ h1 fun b hb o q => hs₁.extBut _ _ (fun e => D.z1 (e ▸ hb)) q
  have g2 : S2 n h₁ := W2.frame _ _ _ h2 fun b hb o q => hs₁.extBut _ _ (fun e => D.z2 (e ▸ hb)) q
  have zw1 : z ∉ wr1 := fun q => D.z1 (W1.sub z q)
  have zw2 : z ∉ wr2 := fun q => D.z2 (W2.sub z q)
  refine wpAny_bind (wpAny_bind (wpAny_onRaise ?_))
  show wpAny _ _ (Builtin.SmallTypes.nextOrEnd (.ref i1)) _ _ _
  refine nextEnd_of (W1.done _ _ _ g1 fun h₂ t₂ k₂ => ?_)
  have hz₂ : IsZs h₂ z TI TO .ellipsis := k₂ _ _ zw1 hz₁
  have g3 : S2 n h₂ := W2.frame _ _ _ g2 fun c hc o q => k₂ _ _ (D.a21 c hc) q
  refine wpAny_bind (wpAny_setField_rec (s := { s with heap := h₂, toks := t₂ }) hz₂ (by simp) fun h₃ hz₃ hs₃ => ?_)
  have g4 : S2 n h₃ := W2.frame _ _ _ g3 fun c hc o q => hs₃.extBut _ _ (fun e => D.z2 (e ▸ hc)) q
  refine wpAny_bind ?_
  refine wpAny_bind (m := forIn [(Value.ref i2, 1)] PUnit.unit _) ?_
  simp only [List.forIn_cons, List.forIn_nil]
  refine wpAny_bind ?_
  refine wpAny_bind (nextEnd_of (W2.done { s with heap := h₃, toks := t₂ } _ _ g4 fun h₄ t₄ k₄ => ?_))
  refine wpAny_pure ?_
  refine wpAny_pure ?_
  refine wpAny_bind (wpAny_rule (stop_raises (s := { s with heap := h₄, toks := t₄ }) hh fun h' e k5 he => hE h' t₄ e (fun c o c1 c2 c3 c4 q => k5 _ _ (k₄ _ _ c4 (hs₃.extBut _ _ c1 (k₂ _ _ c3 (hs₁.extBut _ _ c1 q))))) he))
end
theorem typeCall_zs (a b : Value) : checkTypeCall "zip" ⟨[a, b], [(Str.ofString "strict", .bool true)]⟩ = pure () := by kernel_rfl
theorem newCall_zs (a b : Value) : checkBuiltinCall "zip.__new__" ⟨[.type "zip", a, b], [(Str.ofString "strict", .bool true)]⟩ = pure () := by kernel_rfl
theorem args_zs (obj a b : Value) : argsOk "object.__init__" ⟨[obj, a, b], [(Str.ofString "strict", .bool true)]⟩ := by unfold argsOk; kernel_rfl
abbrev zH3 (h : Heap) (o1 o2 : Obj) : Heap := ((h.push o1).push o2).push { cls := .type "tuple", data := .seq #[.ref h.objs.size, .ref (h.push o1).objs.size] }
abbrev zH4 (h : Heap) (o1 o2 : Obj) : Heap := (zH3 h o1 o2).push { cls := .type "tuple", data := .seq #[.none, .none] }
abbrev zH5 (h : Heap) (o1 o2 : Obj) : Heap := (zH4 h o1 o2).push { cls := .type "zip", data := .fields #[.none, .bool false, .bool true, .ref ((h.push o1).push o2).objs.size, .ref (zH3 h o1 o2).objs.size] }
theorem meets_zs {v1 v2 : Value} {o1 o2 : Obj} {H1 H2 : Heap → Prop} (B1 : Begins v1 o1 H1) (B2 : Begins v2 o2 H2) :
    Meets (Builtin.«zip.__new__» ⟨[.type "zip", v1, v2], [(Str.ofString "strict", .bool true)]⟩) (fun _ R s => H1 s.heap ∧ H2 (s.heap.push o1) ∧
      R (.ok (.ret (.ref (zH4 s.heap o1 o2).objs.size))) { s with heap := zH5 s.heap o1 o2 }) :=
  .of_wp fun prog w A R s h => by
    obtain ⟨hp, g, d, tk, os⟩ := s; obtain ⟨h1, h2, h⟩ := h
    have hsub := sub_zip
    have q1 : ∀ {A' : Around} {E : Value → Shared → Prop} {Q : Value → Shared → Prop}, Q (.ref hp.objs.size) ⟨hp.push o1, g, d, tk, os⟩ → wpAny (model prog w) A' (pyIter v1) Q E ⟨hp, g, d, tk, os⟩ :=
      fun q => B1.iter prog w _ _ ⟨hp, g, d, tk, os⟩ _ h1 q
    have q2 : ∀ {A' : Around} {E : Value → Shared → Prop} {Q : Value → Shared → Prop}, Q (.ref (hp.push o1).objs.size) ⟨(hp.push o1).push o2, g, d, tk, os⟩ → wpAny (model prog w) A' (pyIter v2) Q E ⟨hp.push o1, g, d, tk, os⟩ :=
      fun q => B2.iter prog w _ _ ⟨hp.push o1, g, d, tk, os⟩ _ h2 q
    have e2 : (Str.ofString "strict" != ("strict" : Str)) = false := by decide +kernel
    wp_walk using q1, q2
    exact ⟨_, rfl, h⟩
section
variable {prog : Program} {w : World} {A : Around} {E : Value → Shared → Prop} {s : Shared}
theorem call_zs {v1 v2 : Value} {o1 o2 : Obj} {H1 H2 : Heap → Prop} {Q : Value → Shared → Prop} (B1 : Begins v1 o1 H1) (B2 : Begins v2 o2 H2) (h1 : H1 s.heap) (h2 : H2 s.heap)
    (h : ∀ h' : Heap, IsZs h' (s.heap.objs.size + 4) (s.heap.objs.size + 2) (s.heap.objs.size + 3) .none → IsPair h' (s.heap.objs.size + 2) (.ref s.heap.objs.size) (.ref (s.heap.objs.size + 1)) →
      IsPair h' (s.heap.objs.size + 3) .none .none → h'.get? s.heap.objs.size = some o1 → h'.get? (s.heap.objs.size + 1) = some o2 →
      (∀ c o, s.heap.get? c = some o → h'.get? c = some o) → Q (.ref (s.heap.objs.size + 4)) { s with heap := h' }) :
    wpAny (model prog w) A (call (.type "zip") [v1, v2] [(Str.ofString "strict", .bool true)]) Q E s := by
  refine callType_newKw F.called_zip (by decide) (typeCall_zs _ _) (newCall_zs _ _) (fun obj => args_zs obj _ _) F.entry_zip_new
    (meets_zs B1 B2) ⟨h1, B2.keeps _ _ h2 fun b o e => Heap.get?_push_of_some _ e, ?_⟩
  have z1 : (s.heap.push o1).objs.size = s.heap.objs.size + 1 := Heap.size_push ..
  have z2 : ((s.heap.push o1).push o2).objs.size = s.heap.objs.size + 2 := by rw [Heap.size_push, z1]
  have z3 : (zH3 s.heap o1 o2).objs.size = s.heap.objs.size + 3 := by rw [Heap.size_push, z2]
  have z4 : (zH4 s.heap o1 o2).objs.size = s.heap.objs.size + 4 := by rw [Heap.size_push, z3]
  have g5 : (zH5 s.heap o1 o2).get? (zH4 s.heap o1 o2).objs.size = some _ := Heap.get?_push_size _ rfl
  have g4 : (zH5 s.heap o1 o2).get? (zH3 s.heap o1 o2).objs.size = some _ := Heap.get?_push_of_some _ (Heap.get?_push_size _ rfl)
  have g3 : (zH5 s.heap o1 o2).get? ((s.heap.push o1).push o2).objs.size = some _ := Heap.get?_push_of_some _ (Heap.get?_push_of_some _ (Heap.get?_push_size _ rfl))
  have g2 : (zH5 s.heap o1 o2).get? (s.heap.push o1).objs.size = some o2 := Heap.get?_push_of_some _ (Heap.get?_push_of_some _ (Heap.get?_push_of_some _ (Heap.get?_push_size _ B2.free)))
  have g1 : (zH5 s.heap o1 o2).get? s.heap.objs.size = some o1 := Heap.get?_push_of_some _ (Heap.get?_push_of_some _ (Heap.get?_push_of_some _ (Heap.get?_push_of_some _ (Heap.get?_push_size _ B1.free))))
  show _ ∧ _
  rw [z2, z3, z4] at g5
  rw [z1, z2] at g3
  rw [z3] at g4
  rw [z1] at g2
  rw [z4]
  exact ⟨⟨_, g5, rfl⟩, h _ g5 g3 g4 g1 g2 fun c o x =>
    Heap.get?_push_of_some _ (Heap.get?_push_of_some _ (Heap.get?_push_of_some _ (Heap.get?_push_of_some _ (Heap.get?_push_of_some _ x))))⟩
variable {z TI TO i1 i2 : Addr} {fp1 fp2 wr1 wr2 : List Addr} {n : Nat} {P1 P2 : Nat → Value → Prop} {S1 S2 : Nat → Heap → Prop}
theorem pyNext_zs_item (D : Zw z TI TO i1 i2 fp1 fp2 wr1 wr2) (W1 : Walks prog w A.in1 i1 fp1 wr1 n P1 S1) (W2 : Walks prog w A.in1 i2 fp2 wr2 n P2 S2) {a b : Value} {k : Nat} {Q : Option Value → Shared → Prop}
    (hz : IsZs s.heap z TI TO .none) (hTI : IsPair s.heap TI (.ref i1) (.ref i2)) (hTO : IsPair s.heap TO a b) (h1 : S1 k s.heap) (h2 : S2 k s.heap) (hk : k < n)
    (hQ : ∀ x y (h5 h' : Heap) tk, P1 k x → P2 k y → (∀ c o, c ≠ z → c ≠ TO → c ∉ wr1 → c ∉ wr2 → s.heap.get? c = some o → h5.get? c = some o) → (∀ c o, c ≠ z → h5.get? c = some o → h'.get? c = some o) →
      IsZs h' z TI TO (rawInt h5.objs.size) → IsPair h' TO x y → S1 (k + 1) h' → S2 (k + 1) h' → IsPair h' h5.objs.size x y → z < h5.objs.size → Q (some (.ref h5.objs.size)) { s with heap := h', toks := tk }) :
    wpAny (model prog w) A (pyNext (.ref z)) Q E s := by
  have hT : s.TypeIs (.ref z) "zip" := ⟨_, hz, rfl⟩
  unfold pyNext
  exact wpAny_bind (wpAny_attempt (wpAny_callSpecial?_slot (name := Str.ofString "__next__") hT F.slot_zip_next
    (wpAny_call_entry F.slot_zip_next hT F.entry_zip_next
      (zs_item (A := A.in1) D W1 W2 hz hTI hTO h1 h2 hk fun x y h5 h' tk a1 a2 a3 a4 a5 a6 a7 a8 a9 a10 => wpAny_pure (hQ x y h5 h' tk a1 a2 a3 a4 a5 a6 a7 a8 a9 a10)) (F.args_zip_next_1 _))))
theorem pyNext_zs_end (hh : A.handled = none) (D : Zw z TI TO i1 i2 fp1 fp2 wr1 wr2) (W1 : Walks prog w A.in1 i1 fp1 wr1 n P1 S1) (W2 : Walks prog w A.in1 i2 fp2 wr2 n P2 S2) {a b : Value} {Q : Option Value → Shared → Prop}
    (hz : IsZs s.heap z TI TO .none) (hTI : IsPair s.heap TI (.ref i1) (.ref i2)) (hTO : IsPair s.heap TO a b) (h1 : S1 n s.heap) (h2 : S2 n s.heap)
    (hQ : ∀ (h' : Heap) tk, (∀ c o, c ≠ z → c ≠ TO → c ∉ wr1 → c ∉ wr2 → s.heap.get? c = some o → h'.get? c = some o) → Q none { s with heap := h', toks := tk }) : wpAny (model prog w) A (pyNext (.ref z)) Q E s := by
  have hT : s.TypeIs (.ref z) "zip" := ⟨_, hz, rfl⟩
  unfold pyNext
  refine wpAny_bind (wpAny_attempt (wpAny_callSpecial?_slot (name := Str.ofString "__next__") hT F.slot_zip_next
    (wpAny_call_entry F.slot_zip_next hT F.entry_zip_next (zs_done (A := A.in1) hh D W1 W2 hz hTI hTO h1 h2 fun h' tk e hk he => ?_) (F.args_zip_next_1 _))))
  obtain ⟨o, ho, hc⟩ := he
  refine wpAny_bind (wpAny_isInstance (T := "StopIteration") (b := true) ⟨o, ho, hc⟩ isSubtype_stop ?_)
  exact wpAny_pure (hQ _ _ hk)
theorem pyIter_zs {f0 : Value} {Q : Value → Shared → Prop} (hz : IsZs s.heap z TI TO f0) (h : Q (.ref z) s) : wpAny (model prog w) A (pyIter (.ref z)) Q E s := by
  have hT : s.TypeIs (.ref z) "zip" := ⟨_, hz, rfl⟩
  refine wpAny_pyIter_slot hT F.slot_zip_iter (wpAny_call_entry F.slot_zip_iter hT F.entry_zip_iter ?_ (F.args_zip_iter_1 _))
  show wpAny _ _ (ret (.ref z)) _ _ s
  exact wpAny_pure ⟨_, rfl, "zip", _, hT, F.slot_zip_next.lookup, h⟩
theorem go_zs {elts : List Expr} {x1} {pos : Pos} {T : Addr} {Q : Unit → Shared → Prop} (hz : IsZs s.heap z TI TO (rawInt T))
    (hQ : ∀ h', IsZs h' z TI TO .none → Heap.SameBut z s.heap h' → Q () { s with heap := h' }) :
    wpAny (model prog w) A (letOwnedTupleGo (.Tuple elts x1 pos) (.ref z) (.ref T)) Q E s := by
  unfold letOwnedTupleGo
  refine wpAny_bind (wpAny_load hz ?_)
  show wpAny _ _ (if (["enumerate", "zip", "dict_itemiterator", "dict_reverseitemiterator", "odict_iterator", "itertools.zip_longest", "itertools.pairwise"].contains "zip" &&
      (#[rawInt T, .bool false, .bool true, .ref TI, .ref TO] : Array Value)[0]? == some (rawInt T)) = true then _ else _) Q E s
  rw [if_pos (by simp)]
  refine wpAny_bind (wpAny_rule ?_)
  show wpAny _ _ (setField (.ref z) 0 .none) Q E s
  exact wpAny_setField_rec hz (by simp) fun h' hz' hs' => hQ h' hz' hs'
end
end DL

/-! DlY: zip of two texts, strict, as something walked. -/
namespace DL
open PySem PySem.Spec PyProof.Rows L2
theorem nad (m : Nat) {i j : Nat} (h : i ≠ j := by decide) : m + i ≠ m + j := by omega
theorem nad0 (m : Nat) {i : Nat} (h : i ≠ 0 := by decide) : m + i ≠ m := by omega
theorem walks_txt {P : Program} {w : World} {A : Around} (hh : A.handled = none) (it : Addr) (x : Str) (t : Tok) : Walks P w A it [it] [it] x.cps.size (SignAt x) (fun i h => h.IsStrIter it (strIterType x) x t i) := by
  unfold strIterType
  cases h : x.cps.all (· < 128)
  · exact Walks.strWide hh it x t
  · exact Walks.strAscii hh it x t
/-- the signs of two texts, in new pairs -/
def ItzS (x y : Str) (n : Nat) : It :=
  ⟨fun i _ => i < n,
    fun i H v H' => ∃ T c d, v = .ref T ∧ H T = none ∧ H' = upd H T (.tup [.str ⟨#[c]⟩, .str ⟨#[d]⟩]) ∧ x.cps[i]? = some c ∧ y.cps[i]? = some d,
    fun i _ => n ≤ i⟩
theorem turn_zs {P : Program} {w : World} {K : PySem.W.Frag} {elts : List Expr} {kk : Nat} {tpos : Pos} {m : Nat} {x y : Str} {t u : Tok} (hsz : y.cps.size = x.cps.size) :
    Turn P w K (.Tuple elts kk tpos) (ItzS x y x.cps.size) [m + 4, m + 2, m + 3, m, m + 1] (m + 4) (fun i h => i ≤ x.cps.size ∧ IsZs h (m + 4) (m + 2) (m + 3) .none ∧ IsPair h (m + 2) (.ref m) (.ref (m + 1)) ∧ (∃ a b, IsPair h (m + 3) a b) ∧ h.IsStrIter m (strIterType x) x t i ∧ h.IsStrIter (m + 1) (strIterType y) y u i) where
  mem := by simp
  obj := fun i h st c hc => by
    obtain ⟨_, hz, hTI, ⟨a, b, hTO⟩, ⟨o1, e1, _, d1⟩, ⟨o2, e2, _, d2⟩⟩ := st
    have e' : c = m + 4 ∨ c = m + 2 ∨ c = m + 3 ∨ c = m ∨ c = m + 1 := by simpa using hc
    rcases e' with q | q | q | q | q
    · rw [q]; exact ⟨_, hz, fun v q => nomatch q⟩
    · rw [q]; exact ⟨_, hTI, fun v q => nomatch q⟩
    · rw [q]; exact ⟨_, hTO, fun v q => nomatch q⟩
    · rw [q]; exact ⟨o1, e1, fun v q => by rw [d1] at q; cases q⟩
    · rw [q]; exact ⟨o2, e2, fun v q => by rw [d2] at q; cases q⟩
  keep := fun i h h' st k => by
    obtain ⟨hle, hz, hTI, ⟨a, b, hTO⟩, ⟨o1, e1, r1⟩, ⟨o2, e2, r2⟩⟩ := st
    exact ⟨hle, k _ (by simp) _ hz, k _ (by simp) _ hTI, ⟨a, b, k _ (by simp) _ hTO⟩, ⟨o1, k _ (by simp) _ e1, r1⟩, ⟨o2, k _ (by simp) _ e2, r2⟩⟩
  item := by
    intro X hP hw hK hc i pins s σ H E I hf st hg
    subst hP hw hK
    obtain ⟨hle, hz, hTI, ⟨a0, b0, hTO⟩, h1, h2⟩ := st
    have D : Zw (m + 4) (m + 2) (m + 3) m (m + 1) [m] [m + 1] [m] [m + 1] := ⟨nad m, nad m, nad m, by simp, by simp, by simp, by simp, by simp, by simp, by simp, by simp⟩
    have W1 := walks_txt (P := X.prog) (w := X.w) (A := X.A.in1) (I.ok.hd hc) m x t
    have W2 := walks_txt (P := X.prog) (w := X.w) (A := X.A.in1) (I.ok.hd hc) (m + 1) y u
    rw [hsz] at W2
    refine pyNext_zs_item D W1 W2 hz hTI hTO h1 h2 hg fun vx vy h5 h' tk px py k5 k8 hz' hTO' g1 g2 hT hlt => ?_
    obtain ⟨c, t1, hcx, rfl⟩ := px
    obtain ⟨d, t2, hdy, rfl⟩ := py
    refine ⟨_, rfl, go_zs (s := { s with heap := h', toks := tk }) hz' fun h'' hz'' sb => ?_⟩
    have I5 : Inv X pins σ H { s with heap := h5, toks := tk } := I.turnedL (ch := [m + 4, m + 2, m + 3, m, m + 1]) (fun b o hb q => k5 b o (fun e => hb (by simp [e])) (fun e => hb (by simp [e])) (fun e => hb (by simp at e; simp [e])) (fun e => hb (by simp at e; simp [e])) q) hf
    have hT2 : h''.get? h5.objs.size = some { cls := .type "tuple", data := .seq #[.str ⟨#[c]⟩ t1, .str ⟨#[d]⟩ t2] } := (sb.2 _ (Nat.ne_of_gt hlt)).trans hT
    have new : ObjOk X.prog X.w (upd H h5.objs.size (.tup [.str ⟨#[c]⟩, .str ⟨#[d]⟩])) h'' h5.objs.size (.tup [.str ⟨#[c]⟩, .str ⟨#[d]⟩]) :=
      ⟨by show 2 ≤ sizeLine; decide, [.str ⟨#[c]⟩ t1, .str ⟨#[d]⟩ t2], .cons ⟨_, rfl⟩ (.cons ⟨_, rfl⟩ .nil), ⟨_, hT2, rfl, _, rfl⟩⟩
    have I1 : Inv X pins σ (upd H h5.objs.size (.tup [.str ⟨#[c]⟩, .str ⟨#[d]⟩])) { s with heap := h'', toks := tk } :=
      I5.turnedNew (t' := tk) (ch := [m + 4, m + 2, m + 3, m, m + 1]) (fun b o hb q => (sb.2 b (fun e => hb (by simp [e]))).trans (k8 b o (fun e => hb (by simp [e])) q)) hf (Nat.le_refl _) new
    have keep5 : ∀ b o, b ≠ m + 4 → h'.get? b = some o → h''.get? b = some o := fun b o nb q => (sb.2 b nb).trans q
    refine ⟨.ref h5.objs.size, _, I1, rfl, ⟨_, c, d, rfl, I5.hok.fresh (Nat.le_refl _), rfl, hcx, hdy⟩, ⟨hg, hz'', ?_, ⟨_, _, keep5 _ _ (nad m) hTO'⟩, ?_, ?_⟩, fun b hb => ?_⟩
    · have q := k5 (m + 2) _ (nad m) (nad m) (by simp) (by simp) hTI
      exact keep5 _ _ (nad m) (k8 _ _ (nad m) q)
    · obtain ⟨o, e, r⟩ := g1
      exact ⟨o, keep5 _ _ (nad0 m).symm e, r⟩
    · obtain ⟨o, e, r⟩ := g2
      exact ⟨o, keep5 _ _ (nad m) e, r⟩
    · have nb : b ≠ h5.objs.size := fun e => by
        have e' : b = m + 4 ∨ b = m + 2 ∨ b = m + 3 ∨ b = m ∨ b = m + 1 := by simpa using hb
        have hlt' : m + 4 < h5.objs.size := hlt
        have : ∀ b' N : Nat, (b' = m + 4 ∨ b' = m + 2 ∨ b' = m + 3 ∨ b' = m ∨ b' = m + 1) → m + 4 < N → b' = N → False := by
          intro b' N h1 h2 h3
          omega
        exact this b _ e' hlt' e
      rw [upd_ne nb]
      exact (hf b hb).1
  done := by
    intro X hP hw hK hc i pins s σ H E I hf st hg
    subst hP hw hK
    have hg : x.cps.size ≤ i := hg
    obtain ⟨hle, hz, hTI, ⟨a0, b0, hTO⟩, h1, h2⟩ := st
    have D : Zw (m + 4) (m + 2) (m + 3) m (m + 1) [m] [m + 1] [m] [m + 1] := ⟨nad m, nad m, nad m, by simp, by simp, by simp, by simp, by simp, by simp, by simp, by simp⟩
    have W1 := walks_txt (P := X.prog) (w := X.w) (A := X.A.in1) (I.ok.hd hc) m x t
    have W2 := walks_txt (P := X.prog) (w := X.w) (A := X.A.in1) (I.ok.hd hc) (m + 1) y u
    rw [hsz] at W2
    have ei : i = x.cps.size := Nat.le_antisymm hle hg
    subst ei
    exact pyNext_zs_end (I.ok.hd hc) D W1 W2 hz hTI hTO h1 h2 fun h' tk hk => ⟨rfl, I.turnedL (t' := tk) (ch := [m + 4, m + 2, m + 3, m, m + 1]) (fun b o hb q => hk b o (fun e => hb (by simp [e])) (fun e => hb (by simp [e])) (fun e => hb (by simp at e; simp [e])) (fun e => hb (by simp at e; simp [e])) q) hf⟩
  self := fun A i s Q E st h => pyIter_zs st.2.1 h
theorem callWith_typeKw {M : Model} {A : Around} {E : Value → Shared → Prop} {s : Shared} {env : Env} {pos : Pos} {T : String} {e : Expr} {rest : List Expr} {kws : List Keyword} {Q : Value → Shared → Prop}
    (h : wpAny M A (spliced (backTo pos (starEach (e :: rest) env))) (fun vs s₁ => wpAny M A (evalAll ((backToKw pos (keywordEach kws env)).map (·.2)))
      (fun kvs s₂ => wpAny M A (call (.type T) vs (((backToKw pos (keywordEach kws env)).filterMap (·.1)).zip kvs)) Q E s₂) E s₁) E s)
    (he : backTo pos (starEach (e :: rest) env) = (false, eval e env) :: backTo pos (starEach rest env) := by rfl)
    (hplain : (backTo pos (starEach (e :: rest) env)).any (·.1) = false := by rfl)
    (hall : (backToKw pos (keywordEach kws env)).all (·.1.isSome) = true := by rfl)
    (hkw : (backToKw pos (keywordEach kws env)).any (·.1.isNone) = false := by rfl) :
    wpAny M A (callWith pos (.type T) [] (backTo pos (starEach (e :: rest) env)) (backToKw pos (keywordEach kws env))) Q E s := by
  have h2 : wpAny M A (evalArgs (.type T) true (backTo pos (starEach (e :: rest) env)) (backToKw pos (keywordEach kws env))) (fun a s₁ => wpAny M A (call (.type T) ([] ++ a.pos) a.kw) Q E s₁) E s := by
    rw [he] at h ⊢
    exact evalArgs_kwB hall h
  unfold callWith
  refine wpAny_bind (wpAny_holding (wpAny_mono h2 (fun a s₁ h₁ => wpAny_bind (wpAny_standAt ?_)) fun _ _ x => x))
  simp only [hplain, hkw, Bool.or_false]
  refine wpAny_bind (wpAny_pure ?_)
  exact wpAny_bind (wpAny_mono h₁ (fun r s₂ hr => wpAny_bind (wpAny_holding (wpAny_point (wpAny_pure hr)))) fun _ _ x => x)
def iZipS (t : TA) : TI := fun σ H R => t σ H fun vs H1 => ∃ x y : Str, vs = [.str x, .str y] ∧ y.cps.size = x.cps.size ∧ R (ItzS x y x.cps.size) H1
theorem pi_zs {X : Cx} {e e2 : Expr} {ta : TA} {p pos tpos kq kr : Pos} {k kk : Nat} {elts : List Expr} (hm : X.mg "zip" = none) (ha : PA X [e, e2] ta) (hg : Gl X "zip" := by rfl)
    (he : backTo pos (starEach [e, e2] X.env) = (false, eval e X.env) :: backTo pos (starEach [e2] X.env) := by rfl) (hpl : (backTo pos (starEach [e, e2] X.env)).any (·.1) = false := by rfl) :
    PI X (.Tuple elts kk tpos) (.Call (.Name "zip" p) [e, e2] [⟨some "strict", .Constant (.bool true) k kq, kr⟩] pos) (iZipS ta) := by
  refine ⟨fun pins s σ H R I h => ?_⟩
  refine wpAny_Call_Name_kw (ld_blt I hg hm PyProof.Rows.boot_zip ?_)
  refine callWith_typeKw (thn (ha.run pos pins s σ H _ I h) fun us s1 ⟨vs, H1, I1, r1, x, y, ex, hsz, q1⟩ => ?_) he hpl
  subst ex
  refine thn ((pk_cons pe_bl pk_nil).run pos pins s1 σ H1 (fun zs H2 => zs = [.bl true] ∧ H2 = H1) I1 ⟨rfl, rfl⟩) fun ws s2 ⟨zs, H2, I2, r2, e1, e2⟩ => ?_
  subst e1 e2
  obtain ⟨u1, u2, rfl, ru1, ru2⟩ := r1.two
  obtain ⟨t1, rfl⟩ := ru1
  obtain ⟨t2, rfl⟩ := ru2
  obtain ⟨w1, rfl, rw1⟩ := r2.one
  obtain rfl : w1 = Value.bool true := rw1
  show wpAny (model X.prog X.w) X.A (call (.type "zip") [.str x t1, .str y t2] [(Str.ofString "strict", .bool true)]) _ _ s2
  refine call_zs (begins_text x t1) (begins_text y t2) trivial trivial fun h' hz hTI hTO g1 g2 hk => pyIter_zs hz ?_
  have fresh5 : ∀ c, c ∈ [s2.heap.objs.size + 4, s2.heap.objs.size + 2, s2.heap.objs.size + 3, s2.heap.objs.size, s2.heap.objs.size + 1] → FpOk X pins H2 c := fun c hcm => by
    have e' : c = s2.heap.objs.size + 4 ∨ c = s2.heap.objs.size + 2 ∨ c = s2.heap.objs.size + 3 ∨ c = s2.heap.objs.size ∨ c = s2.heap.objs.size + 1 := by simpa using hcm
    have hle : s2.heap.objs.size ≤ c := by
      rcases e' with z | z | z | z | z
      · rw [z]; exact Nat.le_add_right _ _
      · rw [z]; exact Nat.le_add_right _ _
      · rw [z]; exact Nat.le_add_right _ _
      · rw [z]; exact Nat.le_refl _
      · rw [z]; exact Nat.le_add_right _ _
    exact I2.fpOk hle (I2.hok.fresh hle)
  have I3 : Inv X pins σ H2 { s2 with heap := h' } := I2.kept (t' := s2.toks) hk
  exact ⟨s2.heap.objs.size + 4, [s2.heap.objs.size + 4, s2.heap.objs.size + 2, s2.heap.objs.size + 3, s2.heap.objs.size, s2.heap.objs.size + 1], _, _, H2, rfl, I3, turn_zs hsz, ⟨Nat.zero_le _, hz, hTI, ⟨_, _, hTO⟩, ⟨_, g1, rfl, rfl⟩, ⟨_, g2, rfl, rfl⟩⟩, fresh5, q1⟩
end DL

/-! DlT: list of a text; zip, strict. -/
namespace DL
open PySem L2
open PySem.Spec PyProof.Rows

section
variable {X : Cx} {cl : Str → Addr} {W : WX}
theorem Blk.of {scope : Scope} {tg : Expr} {ifs : List Expr} {elt : Expr} {is : List Nat} {g : D → S → Option S} {tt : M Bool} {fe : M D} {k : Nat} (hk : Cok X W k)
    (g_ : ∀ (s : Shared) (H : Hp) (C : Addr) (cc : List (Str × Addr)) (fp : List Addr), Cok (X.blk s H scope (compEnvC scope cc C X.env) fp) (fun _ _ _ _ => False) k → DG (X.blk s H scope (compEnvC scope cc C X.env) fp) cl tg is g)
    (t_ : ∀ (s : Shared) (H : Hp) (C : Addr) (cc : List (Str × Addr)) (fp : List Addr), Cok (X.blk s H scope (compEnvC scope cc C X.env) fp) (fun _ _ _ _ => False) k → DTs (X.blk s H scope (compEnvC scope cc C X.env) fp) cl (fun _ _ _ _ => False) ifs tt)
    (e_ : ∀ (s : Shared) (H : Hp) (C : Addr) (cc : List (Str × Addr)) (fp : List Addr), Cok (X.blk s H scope (compEnvC scope cc C X.env) fp) (fun _ _ _ _ => False) k → DE (X.blk s H scope (compEnvC scope cc C X.env) fp) cl (fun _ _ _ _ => False) elt fe) : Blk X cl scope tg ifs elt is g tt fe :=
  ⟨fun s H C cc fp => g_ s H C cc fp (hk.blk ..), fun s H C cc fp => t_ s H C cc fp (hk.blk ..), fun s H C cc fp => e_ s H C cc fp (hk.blk ..)⟩
def dIxA : D → D → Option D := orD dIx dIxS
theorem ixd_any : IxD X cl dIxA := ixd_seq.or ixd_str
/-- list(z) -/
def rLstS : List V → Hp → VK → Prop := fun vs H Q => ∃ z, vs = [.str z] ∧ z.length ≤ sizeLine ∧ ∀ p, H p = none → Q (.ref p) (upd H p (.lst ((signs z).map V.str)))
theorem call_list_txt (hc : X.calm = true) : CallR X (.type "list") rLstS := by
  intro pins s σ H vs us Q I r h
  obtain ⟨z, rfl, hz, q⟩ := h
  obtain ⟨u, rfl, ru⟩ := r.one
  obtain ⟨t, rfl⟩ := ru
  refine call_list_str (I.ok.hd hc) z t (fun h' tk acc' c' hk hS hacc => ?_) hz
  have rv := vals_of_strs (strs_of_signs hacc)
  exact ⟨.ref _, _, I.laid (t' := tk) (a := s.heap.objs.size) (o := .lst ((signs z).map V.str)) hk (Nat.le_refl _) ⟨by rw [List.length_map, signs_length]; exact hz, acc'.toList, c', rv, hS⟩, rfl, q _ (I.hok.fresh (Nat.le_refl _))⟩
def lstOf : D → Option (List D)
  | .str z => if le1m z.length = true then some ((signs z).map .str) else none
  | d => seqD d
theorem lstOf_cases {d : D} {z : List D} (h : lstOf d = some z) : (∃ y, d = .str y ∧ le1m y.length = true ∧ z = (signs y).map .str) ∨ seqD d = some z := by
  cases d <;> first | exact .inr h | skip
  simp only [lstOf] at h
  split at h
  · rename_i hl
    cases h
    exact .inl ⟨_, rfl, hl, rfl⟩
  · cases h
theorem cdc_listA (hc : X.calm = true) : CDC X cl (.type "list") (gL1 lstOf) := by
  refine ⟨_, (call_list_txt hc).or call_list_of, fun c σ s T H ds vs z Q hl I hz k => ?_⟩
  match ds, vs, hl with
  | [d], [v], _ =>
    obtain ⟨F, α, J⟩ := _root_.id I
    rcases lstOf_cases (show lstOf (view s.M d) = some z from hz) with ⟨y, e, hl, rfl⟩ | h1
    · exact .inl ⟨y, by rw [J.t1s e], le1m_ok hl, fun p hp => k _ _ (J.cellNew hp (rep_strs _))⟩
    · obtain ⟨a, vs, ev, h2, rl⟩ := J.vSeq (J.tmp (d, v) (List.mem_cons_self ..)) h1
      have ev : v = .ref a := ev
      subst ev
      exact .inr ⟨a, vs, rfl, h2, fun l hl => k _ _ (J.cellNew hl rl)⟩
  | [], [], _ => cases hz
  | _ :: _ :: _, _, _ => cases hz
theorem cd_listA (hc : X.calm = true) : CD X cl (.type "list") (g1 fun d => (lstOf d).map .lst) := by
  refine CDC.cd ((call_list_txt hc).or call_list_of) fun c σ s T H F α d v z Q J hz k => ?_
  rcases lstOf_cases hz with ⟨y, e, hl, rfl⟩ | h1
  · exact .inl ⟨y, by rw [J.t1s e], le1m_ok hl, fun p hp => k _ _ (J.lstNew hp (rep_strs _))⟩
  · obtain ⟨a, vs, ev, h2, rl⟩ := J.vSeq (J.tmp (d, v) (List.mem_cons_self ..)) h1
    have ev : v = .ref a := ev
    subst ev
    exact .inr ⟨a, vs, rfl, h2, fun l hl => k _ _ (J.lstNew hl rl)⟩
/-! ### zip(a, b, strict=True), as long as one another -/
def zipL : List D → List D → List D
  | a :: as, b :: bs => .tup [a, b] :: zipL as bs
  | _, _ => []
def zipO : Option (List D) → Option (List D) → Option (List D)
  | some xs, some ys => if xs.length = ys.length ∧ xs.length ≤ 1000000 then some (zipL xs ys) else none
  | _, _ => none
def itZip : D → Option (List D)
  | .tup [.str x, .str y] => zipO (itSeq (.str x)) (itSeq (.str y))
  | _ => none
def eZip (f : M (List D)) : M D := fun s => (f s).bind fun ds s => match ds with
  | [a, b] => .ok (.tup [view s.M a, view s.M b]) s
  | _ => .fail
theorem zipL_at : ∀ (as bs : List D) (i : Nat) (e : D), (zipL as bs)[i]? = some e → ∃ a b, as[i]? = some a ∧ bs[i]? = some b ∧ e = .tup [a, b]
  | a :: as, b :: bs, 0, e, h => by cases h; exact ⟨a, b, rfl, rfl, rfl⟩
  | a :: as, b :: bs, i + 1, e, h => zipL_at as bs i e (by simpa [zipL] using h)
  | [], _, _, _, h => by simp [zipL] at h
  | _ :: _, [], _, _, h => by simp [zipL] at h
theorem zipL_len : ∀ (as bs : List D), as.length = bs.length → (zipL as bs).length = as.length
  | [], [], _ => rfl
  | a :: as, b :: bs, h => by
    show (zipL as bs).length + 1 = as.length + 1
    rw [zipL_len as bs (by simpa using h)]
theorem drv_zs {K : PySem.W.Frag} {x y : Str} {P : List (D × V)} (hsz : y.cps.size = x.cps.size) : Drv K cl (ItzS x y x.cps.size) P itZip (.tup [.str x, .str y]) := by
  intro c H σ s T i ds I e
  have e1 : zipO (some (x.cps.toList.map fun c => D.str ⟨#[c]⟩)) (some (y.cps.toList.map fun c => D.str ⟨#[c]⟩)) = some ds := e
  unfold zipO at e1
  dsimp only at e1
  split at e1
  · cases e1
    refine ⟨fun g hg => ?_, fun hl => ?_⟩
    · obtain ⟨a, b, h1, h2, rfl⟩ := zipL_at _ _ _ _ hg
      rw [List.getElem?_map] at h1 h2
      obtain ⟨ca, h3, rfl⟩ := Option.map_eq_some_iff.mp h1
      obtain ⟨cb, h4, rfl⟩ := Option.map_eq_some_iff.mp h2
      have h3' : x.cps[i]? = some ca := by rw [← Array.getElem?_toList]; exact h3
      have h4' : y.cps[i]? = some cb := by rw [← Array.getElem?_toList]; exact h4
      refine ⟨(Array.getElem?_eq_some_iff.mp h3').1, fun v H'' hy => ?_⟩
      obtain ⟨q, c1, d1, rfl, hq, rfl, h5, h6⟩ := hy
      rw [h3'] at h5; cases h5
      rw [h4'] at h6; cases h6
      obtain ⟨F, α, J⟩ := I
      exact J.tupNew hq (.cons .str (.cons .str .nil))
    · rename_i hc
      rw [zipL_len _ _ hc.1, List.length_map, Array.length_toList] at hl
      exact hl
  · cases e1
theorem di_zipS {tgs : List Expr} {tk : Nat} {tp : Pos} {a b : Expr} {f : M (List D)} {p q r pos : Pos} {k : Nat} (hc : X.calm = true) (h : DA X cl W [a, b] f) (hm : X.mg "zip" = none) (hg : Gl X "zip" := by rfl)
    (he : backTo pos (starEach [a, b] X.env) = (false, eval a X.env) :: backTo pos (starEach [b] X.env) := by rfl) (hpl : (backTo pos (starEach [a, b] X.env)).any (·.1) = false := by rfl) :
    DI X cl W (.Tuple tgs tk tp) (.Call (.Name "zip" p) [a, b] [⟨some "strict", .Constant (.bool true) k q, r⟩] pos) (eZip f) itZip := by
  obtain ⟨te, pe, qq⟩ := h
  refine ⟨_, pi_zs hm pe hg he hpl, fun c σ s T H R I w hs => ?_⟩
  refine qq c σ s T H _ I (w.bindA fun ds s1 hfs w1 vs H1 hl I1 => ?_)
  match ds, vs, hl with
  | [d1, d2], [v1, v2], _ =>
    have hs1 := hs (.tup [view s1.M d1, view s1.M d2]) s1 (by unfold eZip; rw [hfs]; rfl)
    have w1 : ∀ H J P, SI X.K cl c H σ s1 (P ++ T) → Drv X.K cl J P itZip (.tup [view s1.M d1, view s1.M d2]) → R J H := w1
    obtain ⟨x, y, e1, e2, hsz⟩ : ∃ x y : Str, view s1.M d1 = .str x ∧ view s1.M d2 = .str y ∧ y.cps.size = x.cps.size := by
      have hs2 : (itZip (.tup [view s1.M d1, view s1.M d2])).isSome = true := hs1
      revert hs2
      generalize view s1.M d1 = u1
      generalize view s1.M d2 = u2
      intro hs2
      cases u1 <;> first | (cases hs2; done) | skip
      cases u2 <;> first | (cases hs2; done) | skip
      rename_i x y
      refine ⟨x, y, rfl, rfl, ?_⟩
      have hs3 : (zipO (some (x.cps.toList.map fun c => D.str ⟨#[c]⟩)) (some (y.cps.toList.map fun c => D.str ⟨#[c]⟩))).isSome = true := hs2
      unfold zipO at hs3
      dsimp only at hs3
      split at hs3
      · rename_i hc
        have := hc.1
        rw [List.length_map, List.length_map, Array.length_toList, Array.length_toList] at this
        exact this.symm
      · cases hs3
    obtain ⟨F, α, J⟩ := _root_.id I1
    rw [e1, e2] at w1
    exact ⟨x, y, by rw [J.t2s e1, J.t1s e2], hsz, w1 H1 _ [] (I1.sub fun p hp => zipT_sub [d1, d2] [v1, v2] T p hp) (drv_zs hsz)⟩
  | [], [], _ => exact w1.elim
  | [_], [_], _ => exact w1.elim
  | _ :: _ :: _ :: _, _, _ => exact w1.elim
end
end DL

/-! DlU: reckoning with the readings. -/
namespace DL
open PySem L2
open PySem.Spec PyProof.Rows
@[simp] theorem eVar_eq (i : Nat) (s : S) : DL.eVar i s = (match s.env[i]? with
  | some (some d) => .ok d s
  | _ => .fail) := (rfl)
@[simp] theorem eC_eq (d : D) (s : S) : DL.eC d s = (.ok d s) := (rfl)
@[simp] theorem eOp_eq (g : D → D → Option D) (fa fb : M D) (s : S) : DL.eOp g fa fb s = ((fa s).bind fun x s => (fb s).bind fun y s => oOf (g (view s.M x) (view s.M y)) s) := (rfl)
@[simp] theorem oOf_eq (o : Option D) (s : S) : DL.oOf o s = (match o with
  | some d => .ok d s
  | none => .fail) := (rfl)
@[simp] theorem eCB_eq (g : List D → Option D) (f : M (List D)) (s : S) : DL.eCB g f s = ((f s).bind fun ds s => oOf (g (ds.map (view s.M))) s) := (rfl)
@[simp] theorem eCBC_eq (g : List D → Option (List D)) (f : M (List D)) (s : S) : DL.eCBC g f s = ((f s).bind fun ds s => match g (ds.map (view s.M)) with
  | some xs => .ok (.ptr s.M.length) { s with M := s.M ++ [some (.lst xs)] }
  | none => .fail) := (rfl)
@[simp] theorem eTup_eq (f : M (List D)) (s : S) : DL.eTup f s = ((f s).bind fun ds s => if ds.length ≤ 1000000 then .ok (.tup ds) s else .fail) := (rfl)
@[simp] theorem eLst_eq (f : M (List D)) (s : S) : DL.eLst f s = ((f s).bind fun ds s => if ds.length ≤ 1000000 then .ok (.lst ds) s else .fail) := (rfl)
@[simp] theorem eLstC_eq (f : M (List D)) (s : S) : DL.eLstC f s = ((f s).bind fun ds s => if ds.length ≤ 1000000 then .ok (.ptr s.M.length) { s with M := s.M ++ [some (.lst ds)] } else .fail) := (rfl)
@[simp] theorem aNil_eq (s : S) : DL.aNil  s = (.ok [] s) := (rfl)
@[simp] theorem aCons_eq (f : M D) (g : M (List D)) (s : S) : DL.aCons f g s = ((f s).bind fun d s => (g s).bind fun ds s => .ok (d :: ds) s) := (rfl)
@[simp] theorem tOf_eq (f : M D) (s : S) : DL.tOf f s = ((f s).bind bOf) := (rfl)
@[simp] theorem bOf_eq (d : D) (s : S) : DL.bOf d s = (match d with
  | .bl b => .ok b s
  | _ => .fail) := (rfl)
@[simp] theorem tAndM_eq (f g : M Bool) (s : S) : DL.tAndM f g s = ((f s).bind fun b s => if b = true then g s else .ok false s) := (rfl)
@[simp] theorem tOrM_eq (f g : M Bool) (s : S) : DL.tOrM f g s = ((f s).bind fun b s => if b = true then .ok true s else g s) := (rfl)
@[simp] theorem tNotM_eq (f : M Bool) (s : S) : DL.tNotM f s = ((f s).bind fun b s => .ok (!b) s) := (rfl)
@[simp] theorem eAnd_eq (f g : M D) (s : S) : DL.eAnd f g s = ((f s).bind fun d s => match d with
  | .bl true => g s
  | .bl false => .ok (.bl false) s
  | _ => .fail) := (rfl)
@[simp] theorem eOr_eq (f g : M D) (s : S) : DL.eOr f g s = ((f s).bind fun d s => match d with
  | .bl true => .ok (.bl true) s
  | .bl false => g s
  | _ => .fail) := (rfl)
@[simp] theorem eNot_eq (f : M D) (s : S) : DL.eNot f s = ((f s).bind fun d s => match d with
  | .bl b => .ok (.bl (!b)) s
  | _ => .fail) := (rfl)
@[simp] theorem eIf_eq (t : M Bool) (f g : M D) (s : S) : DL.eIf t f g s = ((t s).bind fun b s => if b = true then f s else g s) := (rfl)
@[simp] theorem eNeg_eq (f : M D) (s : S) : DL.eNeg f s = ((f s).bind fun d s => match d with
  | .int i => .ok (.int (-i)) s
  | _ => .fail) := (rfl)
@[simp] theorem sNx_eq (s : S) : DL.sNx  s = (.ok .nx s) := (rfl)
@[simp] theorem sSeq_eq (f g : M Fl) (s : S) : DL.sSeq f g s = ((f s).bind fun r s => match r with
  | .nx => g s
  | r => .ok r s) := (rfl)
@[simp] theorem sBrk_eq (s : S) : DL.sBrk  s = (.ok .brk s) := (rfl)
@[simp] theorem sCt_eq (s : S) : DL.sCt  s = (.ok .ct s) := (rfl)
@[simp] theorem sExpr_eq (f : M D) (s : S) : DL.sExpr f s = ((f s).bind fun _ s => .ok .nx s) := (rfl)
@[simp] theorem sRet_eq (f : M D) (s : S) : DL.sRet f s = ((f s).bind fun d s => .ok (.ret d) s) := (rfl)
@[simp] theorem sIf_eq (t : M Bool) (f g : M Fl) (s : S) : DL.sIf t f g s = ((t s).bind fun b s => if b = true then f s else g s) := (rfl)
@[simp] theorem sSet_eq (i : Nat) (f : M D) (s : S) : DL.sSet i f s = ((f s).bind fun d s => setV i d s) := (rfl)
@[simp] theorem setV_eq (i : Nat) (d : D) (s : S) : DL.setV i d s = (if i < s.env.length then .ok .nx { s with env := s.env.set i (some d) } else .fail) := (rfl)
@[simp] theorem sAsg_eq (f : M D) (g : D → M Unit) (s : S) : DL.sAsg f g s = ((f s).bind fun d s => (g d s).bind fun _ s => .ok .nx s) := (rfl)
@[simp] theorem sPar_eq (i j : Nat) (f : M (List D)) (s : S) : DL.sPar i j f s = ((f s).bind fun ds s => match ds with
  | [d, e] => if i < s.env.length ∧ j < s.env.length then .ok .nx { s with env := (s.env.set i (some d)).set j (some e) } else .fail
  | _ => .fail) := (rfl)
@[simp] theorem sAug_eq (i : Nat) (g : D → D → Option D) (f : M D) (s : S) : DL.sAug i g f s = (match s.env[i]? with
  | some (some d) => (f s).bind fun e s1 => match g (view s1.M d) (view s1.M e) with
    | some z => setV i z s1
    | none => .fail
  | _ => .fail) := (rfl)
@[simp] theorem hVar_eq (i : Nat) (d : D) (s : S) : DL.hVar i d s = (if i < s.env.length then .ok () { s with env := s.env.set i (some d) } else .fail) := (rfl)
@[simp] theorem hSub_eq (g : C → D → D → Option C) (fo fi : M D) (d : D) (s : S) : DL.hSub g fo fi d s = ((fo s).bind fun o s => (fi s).bind fun i s => stC g o i d s) := (rfl)
@[simp] theorem stC_eq (g : C → D → D → Option C) (o i d : D) (s : S) : DL.stC g o i d s = (match o with
  | .ptr k => match s.M[k]? with
    | some (some x) => match g x i d with
      | some y => .ok () { s with M := s.M.set k (some y) }
      | none => .fail
    | _ => .fail
  | _ => .fail) := (rfl)
@[simp] theorem eSl_eq (g : D → Option Int → Option Int → Option D) (f : M D) (lo hi : M (Option Int)) (s : S) : DL.eSl g f lo hi s = ((f s).bind fun d s => (lo s).bind fun l s => (hi s).bind fun h s => oOf (g (view s.M d) l h) s) := (rfl)
@[simp] theorem oNone_eq (s : S) : DL.oNone  s = (.ok none s) := (rfl)
@[simp] theorem oSome_eq (f : M D) (s : S) : DL.oSome f s = ((f s).bind fun d s => match view s.M d with
  | .int i => .ok (some i) s
  | _ => .fail) := (rfl)
@[simp] theorem eUn_eq (g : D → Option D) (f : M D) (s : S) : DL.eUn g f s = ((f s).bind fun d s => oOf (g (view s.M d)) s) := (rfl)
@[simp] theorem eBM_eq (t : String) (g : D → List D → Option D) (fo : M D) (fa : M (List D)) (s : S) : DL.eBM t g fo fa s = ((fo s).bind fun d s1 => if tyN (view s1.M d) = some t then (fa s1).bind fun ds s2 => oOf (g (view s2.M d) (ds.map (view s2.M))) s2 else .fail) := (rfl)
@[simp] theorem eBM0_eq (t : String) (g : D → List D → Option D) (fo : M D) (s : S) : DL.eBM0 t g fo s = ((fo s).bind fun d s1 => if tyN (view s1.M d) = some t then oOf (g (view s1.M d) []) s1 else .fail) := (rfl)
@[simp] theorem eCM_eq (t : String) (g : C → List D → Option (D × C)) (fo : M D) (fa : M (List D)) (s : S) : DL.eCM t g fo fa s = ((fo s).bind fun d s1 => if tyN (view s1.M d) = some t then (fa s1).bind fun ds s2 => onC g d ds s2 else .fail) := (rfl)
@[simp] theorem eCM0_eq (t : String) (g : C → List D → Option (D × C)) (fo : M D) (s : S) : DL.eCM0 t g fo s = ((fo s).bind fun d s1 => if tyN (view s1.M d) = some t then onC g d [] s1 else .fail) := (rfl)
@[simp] theorem onC_eq (g : C → List D → Option (D × C)) (d : D) (ds : List D) (s : S) : DL.onC g d ds s = (match d with
  | .ptr k => match s.M[k]? with
    | some (some x) => oC k (g x ds) s
    | _ => .fail
  | _ => .fail) := (rfl)
@[simp] theorem oC_eq (k : Nat) (o : Option (D × C)) (s : S) : DL.oC k o s = (match o with
  | some (z, y) => .ok z { s with M := s.M.set k (some y) }
  | none => .fail) := (rfl)
@[simp] theorem eCall_eq (io : List Bool) (sem : Sem) (f : M (List D)) (s : S) : DL.eCall io sem f s = ((f s).bind fun ds s => callS io sem ds s) := (rfl)
@[simp] theorem eCallC_eq (io : List Bool) (sem : Sem) (f : M (List D)) (s : S) : DL.eCallC io sem f s = ((f s).bind fun ds s => callSC io sem ds s) := (rfl)
@[simp] theorem eCallK_eq (io : List Bool) (sem : Sem) (n m : Nat) (ix : List Nat) (f fk : M (List D)) (s : S) : DL.eCallK io sem n m ix f fk s = ((f s).bind fun ds s => (fk s).bind fun es s => if ds.length = n ∧ es.length = m then callS io sem (pick ix (ds ++ es)) s else .fail) := (rfl)
@[simp] theorem eRng1_eq (f : M (List D)) (s : S) : DL.eRng1 f s = ((f s).bind fun ds s => match ds with
  | [.int n] => if rngOk n then .ok (.tup [.int 0, .int n]) s else .fail
  | _ => .fail) := (rfl)
@[simp] theorem eRng2_eq (f : M (List D)) (s : S) : DL.eRng2 f s = ((f s).bind fun ds s => match ds with
  | [.int a, .int b] => if rngOk a && rngOk b then .ok (.tup [.int a, .int b]) s else .fail
  | _ => .fail) := (rfl)
@[simp] theorem eZip_eq (f : M (List D)) (s : S) : DL.eZip f s = ((f s).bind fun ds s => match ds with
  | [a, b] => .ok (.tup [view s.M a, view s.M b]) s
  | _ => .fail) := (rfl)
@[simp] theorem tYesM_eq (s : S) : DL.tYesM  s = (.ok true s) := (rfl)
@[simp] theorem gVar_eq (i : Nat) (d : D) (s : S) : DL.gVar i d s = (if i < s.env.length then some { s with env := s.env.set i (some d) } else none) := (rfl)
@[simp] theorem eFail_eq {α : Type} (s : S) : (DL.eFail : M α) s = (.fail) := (rfl)
@[simp] theorem sFor_eq (f : M D) (its : D → Option (List D)) (g : D → S → Option S) (body els : M Fl) (s : S) : DL.sFor f its g body els s = ((f s).bind fun d s => match its (view s.M d) with
  | none => .fail
  | some ds => forL d s.M g body els ds s) := (rfl)
@[simp] theorem eLc_eq (f : M D) (its : D → Option (List D)) (g : D → S → Option S) (tt : M Bool) (fe : M D) (vs : List Nat) (s : S) : DL.eLc f its g tt fe vs s = ((f s).bind fun d s1 => match its (view s1.M d) with
  | none => .fail
  | some ds => (lcL d s1.M (wipeE s1.env vs) g tt fe ds [] s1.M).bind fun acc s2 => .ok (.lst acc) { s1 with M := s2.M }) := (rfl)
@[simp] theorem bind_ok {α β : Type} (a : α) (s : S) (f : α → S → Out β) : (Out.ok a s).bind f = f a s := (rfl)
@[simp] theorem bind_fail {α β : Type} (f : α → S → Out β) : (Out.fail : Out α).bind f = .fail := (rfl)
@[simp] theorem bind_exc {α β : Type} (n : Str) (fs : List (Str × D)) (s : S) (f : α → S → Out β) : (Out.exc n fs s : Out α).bind f = .exc n fs s := (rfl)
@[simp] theorem hNone_nil (s : S) : hNone [] s = .ok () s := (rfl)
@[simp] theorem hMore_cons (g : D → M Unit) (h : List D → M Unit) (d : D) (ds : List D) (s : S) : hMore g h (d :: ds) s = (g d s).bind fun _ s => h ds s := (rfl)
@[simp] theorem hTup_tup (n : Nat) (g : List D → M Unit) (ds : List D) (s : S) : hTup n g (.tup ds) s = if ds.length = n then g ds s else .fail := (rfl)
@[simp] theorem gNone_nil (s : S) : gNone [] s = some s := (rfl)
@[simp] theorem gMore_cons (g : D → S → Option S) (h : List D → S → Option S) (d : D) (ds : List D) (s : S) : gMore g h (d :: ds) s = (g d s).bind (h ds) := (rfl)
@[simp] theorem gTupD_tup (g : List D → S → Option S) (ds : List D) (s : S) : gTupD g (.tup ds) s = g ds s := (rfl)
@[simp] theorem g1_one (g : D → Option D) (d : D) : g1 g [d] = g d := (rfl)
@[simp] theorem g2_two (g : D → D → Option D) (d e : D) : g2 g [d, e] = g d e := (rfl)
@[simp] theorem g1m_one (g : D → D → Option D) (d e : D) : g1m g d [e] = g d e := (rfl)
@[simp] theorem g0_nil (g : D → Option D) (d : D) : g0 g d [] = g d := (rfl)
@[simp] theorem gL1_one (g : D → Option (List D)) (d : D) : gL1 g [d] = g d := (rfl)
@[simp] theorem view_int (M : List (Option C)) (i : Int) : view M (.int i) = .int i := (rfl)
@[simp] theorem view_bl (M : List (Option C)) (i : Bool) : view M (.bl i) = .bl i := (rfl)
@[simp] theorem view_strs (M : List (Option C)) (i : Str) : view M (.str i) = .str i := (rfl)
@[simp] theorem view_non (M : List (Option C)) : view M .non = .non := (rfl)
@[simp] theorem view_lst (M : List (Option C)) (xs : List D) : view M (.lst xs) = .lst xs := (rfl)
@[simp] theorem view_slst (M : List (Option C)) (xs : List D) : view M (.slst xs) = .slst xs := (rfl)
@[simp] theorem view_tups (M : List (Option C)) (xs : List D) : view M (.tup xs) = .tup xs := (rfl)
@[simp] theorem view_raw (M : List (Option C)) (v : V) : view M (.raw v) = .raw v := (rfl)
theorem view_ptr {M : List (Option C)} {k : Nat} {c : C} (h : M[k]? = some (some c)) : view M (.ptr k) = c.dat := by simp [view, h]
@[simp] theorem view_ptr0 (c : C) (M : List (Option C)) : view (some c :: M) (.ptr 0) = c.dat := (rfl)
@[simp] theorem view_ptrS (c : Option C) (M : List (Option C)) (k : Nat) : view (c :: M) (.ptr (k + 1)) = match view M (.ptr k) with
  | .ptr _ => .ptr (k + 1)
  | d => d := by
  unfold view
  dsimp only
  rw [List.getElem?_cons_succ]
  cases M[k]? with
  | none => rfl
  | some o =>
    cases o with
    | none => rfl
    | some c => cases c <;> rfl
@[simp] theorem view_ptr1 (c : C) (o : Option C) (M : List (Option C)) : view (o :: some c :: M) (.ptr 1) = c.dat := (rfl)
@[simp] theorem view_ptr2 (c : C) (o o2 : Option C) (M : List (Option C)) : view (o :: o2 :: some c :: M) (.ptr 2) = c.dat := (rfl)
@[simp] theorem dat_lst (xs : List D) : (C.lst xs).dat = .lst xs := (rfl)
@[simp] theorem tyN_str (z : Str) : tyN (.str z) = some "str" := (rfl)
@[simp] theorem tyN_lst (z : List D) : tyN (.lst z) = some "list" := (rfl)
@[simp] theorem tyN_slst (z : List D) : tyN (.slst z) = some "list" := (rfl)
@[simp] theorem seqD_tup (z : List D) : seqD (.tup z) = some z := (rfl)
@[simp] theorem seqD_lst (z : List D) : seqD (.lst z) = some z := (rfl)
@[simp] theorem seqD_slst (z : List D) : seqD (.slst z) = some z := (rfl)
@[simp] theorem seqD_str (z : Str) : seqD (.str z) = none := (rfl)
@[simp] theorem itSeq_str (z : Str) : itSeq (.str z) = some (z.cps.toList.map fun c => .str ⟨#[c]⟩) := (rfl)
@[simp] theorem itSeq_lst (z : List D) : itSeq (.lst z) = some z := (rfl)
@[simp] theorem itSeq_slst (z : List D) : itSeq (.slst z) = some z := (rfl)
@[simp] theorem itSeq_tup (z : List D) : itSeq (.tup z) = some z := (rfl)
@[simp] theorem dAdd_int (i j : Int) : dAdd (.int i) (.int j) = some (.int (i + j)) := (rfl)
@[simp] theorem dSub_int (i j : Int) : dSubI (.int i) (.int j) = some (.int (i - j)) := (rfl)
@[simp] theorem dAddI_int (i j : Int) : dAddI (.int i) (.int j) = some (.int (i + j)) := (rfl)
@[simp] theorem dMul_int (i j : Int) : dMulI (.int i) (.int j) = if (small64 i || small64 j) = true then some (.int (i * j)) else none := by
  simp only [dMulI, gI, gIf]
  cases (small64 i || small64 j) <;> rfl
@[simp] theorem dMod_int (i j : Int) : dModI (.int i) (.int j) = if 0 < j then some (.int (i % j)) else none := by
  simp only [dModI, gI, gIf]
  by_cases h : 0 < j <;> simp [h]
@[simp] theorem dDiv_int (i j : Int) : dDivI (.int i) (.int j) = if 0 < j ∧ j < 1073741824 then some (.int (i / j)) else none := by
  simp only [dDivI, gI, gIf]
  by_cases h : 0 < j <;> by_cases h2 : j < 1073741824 <;> simp [h, h2]
@[simp] theorem dLt_int (i j : Int) : dLtI (.int i) (.int j) = some (.bl (decide (i < j))) := (rfl)
@[simp] theorem dLe_int (i j : Int) : dLeI (.int i) (.int j) = some (.bl (decide (i ≤ j))) := (rfl)
@[simp] theorem dGt_int (i j : Int) : dGtI (.int i) (.int j) = some (.bl (decide (j < i))) := (rfl)
@[simp] theorem dGe_int (i j : Int) : dGeI (.int i) (.int j) = some (.bl (decide (j ≤ i))) := (rfl)
@[simp] theorem dEq_int (i j : Int) : dEq (.int i) (.int j) = some (.bl (decide (i = j))) := by simp [dEq, orD, dEqF, eqF]
@[simp] theorem dEq_str (i j : Str) : dEq (.str i) (.str j) = some (.bl (decide (i = j))) := by simp [dEq, orD, dEqF, eqF]
@[simp] theorem dNe_str (i j : Str) : dNe (.str i) (.str j) = some (.bl (!decide (i = j))) := by simp [dNe, orD, dNeF, eqF]
@[simp] theorem dNe_int (i j : Int) : dNe (.int i) (.int j) = some (.bl (!decide (i = j))) := by simp [dNe, orD, dNeF, eqF]
@[simp] theorem itRng_tup (a b : Int) : itRng (.tup [.int a, .int b]) = some ((List.range (b - a).toNat).map fun i => .int (a + (i : Nat))) := (rfl)
@[simp] theorem dInt_bl (b : Bool) : dInt (.bl b) = some (.int (if b then 1 else 0)) := (rfl)
@[simp] theorem dInt_int (b : Int) : dInt (.int b) = some (.int b) := (rfl)
@[simp] theorem dAbs_int (i : Int) : dAbs (.int i) = some (.int (if i < 0 then -i else i)) := (rfl)
@[simp] theorem dLen_lst (xs : List D) : dLen (.lst xs) = some (.int xs.length) := (rfl)
@[simp] theorem dLen_slst (xs : List D) : dLen (.slst xs) = some (.int xs.length) := (rfl)
@[simp] theorem dLen_tup (xs : List D) : dLen (.tup xs) = some (.int xs.length) := (rfl)
@[simp] theorem dLen_str (z : Str) : dLen (.str z) = if z.length ≤ 1000000 then some (.int z.length) else none := (rfl)
@[simp] theorem dIxA_lst (xs : List D) (i : Int) : dIxA (.lst xs) (.int i) = atI xs i := by
  show (match atI xs i with | some z => some z | none => dIxS (.lst xs) (.int i)) = _
  cases atI xs i <;> rfl
@[simp] theorem dIxA_slst (xs : List D) (i : Int) : dIxA (.slst xs) (.int i) = atI xs i := by
  show (match atI xs i with | some z => some z | none => dIxS (.slst xs) (.int i)) = _
  cases atI xs i <;> rfl
@[simp] theorem dIxA_tup (xs : List D) (i : Int) : dIxA (.tup xs) (.int i) = atI xs i := by
  show (match atI xs i with | some z => some z | none => dIxS (.tup xs) (.int i)) = _
  cases atI xs i <;> rfl
@[simp] theorem dMax2_int (i j : Int) : dMax2 (.int i) (.int j) = some (.int (if j > i then j else i)) := (rfl)
@[simp] theorem dMin2_int (i j : Int) : dMin2 (.int i) (.int j) = some (.int (if j < i then j else i)) := (rfl)
@[simp] theorem cSet_lst (xs : List D) (i : Int) (d : D) : cSet (.lst xs) (.int i) d = (ixN xs.length i).map fun j => .lst (xs.set j d) := (rfl)
theorem ixN_nat {n i : Nat} (h : i < n) : ixN n (i : Int) = some i := by
  unfold ixN
  rw [if_pos (by omega), if_pos (by omega)]
  simp
theorem atI_nat {α : Type} {xs : List α} {i : Nat} (h : i < xs.length) : atI xs (i : Int) = xs[i]? := by
  unfold atI
  rw [ixN_nat h]; rfl
@[simp] theorem run_eq (N : Nat) (f : M Fl) (m : List C) (ds : List D) : DL.run N f m ds = fin m.length (f ⟨ds.map some ++ List.replicate (N - ds.length) none, m.map some⟩) := (rfl)
@[simp] theorem runC_eq (N : Nat) (f : M Fl) (m : List C) (ds : List D) : DL.runC N f m ds = finC m.length (f ⟨ds.map some ++ List.replicate (N - ds.length) none, m.map some⟩) := (rfl)
@[simp] theorem fin_fail (n : Nat) : fin n .fail = .fail := (rfl)
@[simp] theorem fin_nx (n : Nat) (s : S) : fin n (.ok .nx s) = if okM n s then .ok .non ⟨[], s.M.take n⟩ else .fail := (rfl)
@[simp] theorem fin_int (n : Nat) (s : S) (i : Int) : fin n (.ok (.ret (.int i)) s) = if okM n s then .ok (.int i) ⟨[], s.M.take n⟩ else .fail := (rfl)
@[simp] theorem fin_bl (n : Nat) (s : S) (i : Bool) : fin n (.ok (.ret (.bl i)) s) = if okM n s then .ok (.bl i) ⟨[], s.M.take n⟩ else .fail := (rfl)
@[simp] theorem fin_str (n : Nat) (s : S) (i : Str) : fin n (.ok (.ret (.str i)) s) = if okM n s then .ok (.str i) ⟨[], s.M.take n⟩ else .fail := (rfl)
@[simp] theorem fin_non (n : Nat) (s : S) : fin n (.ok (.ret .non) s) = if okM n s then .ok .non ⟨[], s.M.take n⟩ else .fail := (rfl)
@[simp] theorem fin_lst (n : Nat) (s : S) (xs : List D) : fin n (.ok (.ret (.lst xs)) s) = if npL xs = true then (if okM n s then .ok (.lst xs) ⟨[], s.M.take n⟩ else .fail) else .fail := by
  show (match (if np (.lst xs) then some (D.lst xs) else none) with
    | some d => if okM n s then Out.ok d ⟨[], s.M.take n⟩ else .fail
    | none => .fail) = _
  have e : np (.lst xs) = npL xs := by simp [np]
  rw [e]
  cases npL xs <;> rfl
@[simp] theorem fin_tup (n : Nat) (s : S) (xs : List D) : fin n (.ok (.ret (.tup xs)) s) = if npL xs = true then (if okM n s then .ok (.tup xs) ⟨[], s.M.take n⟩ else .fail) else .fail := by
  show (match (if np (.tup xs) then some (D.tup xs) else none) with
    | some d => if okM n s then Out.ok d ⟨[], s.M.take n⟩ else .fail
    | none => .fail) = _
  have e : np (.tup xs) = npL xs := by simp [np]
  rw [e]
  cases npL xs <;> rfl
@[simp] theorem fin_ptr (n : Nat) (s : S) (k : Nat) : fin n (.ok (.ret (.ptr k)) s) = match outD n s (.ptr k) with
    | some d => if okM n s then .ok d ⟨[], s.M.take n⟩ else .fail
    | none => .fail := (rfl)
@[simp] theorem finC_ptr (n : Nat) (s : S) (k : Nat) : finC n (.ok (.ret (.ptr k)) s) = match s.M[k]? with
    | some (some x) => if decide (n ≤ k) && cNp (s.M.take n) && x.np then .ok (.ptr n) ⟨[], s.M.take n ++ [some x]⟩ else .fail
    | _ => .fail := (rfl)
@[simp] theorem okM_eq (n : Nat) (s : S) : okM n s = (decide (n ≤ s.M.length) && cNp (s.M.take n)) := (rfl)
@[simp] theorem np_int (i : Int) : np (.int i) = true := (rfl)
@[simp] theorem np_bl (i : Bool) : np (.bl i) = true := (rfl)
@[simp] theorem np_str (i : Str) : np (.str i) = true := (rfl)
@[simp] theorem np_non : np .non = true := (rfl)
@[simp] theorem np_lst (xs : List D) : np (.lst xs) = npL xs := by simp [np]
@[simp] theorem np_slst (xs : List D) : np (.slst xs) = npL xs := by simp [np]
@[simp] theorem np_tup (xs : List D) : np (.tup xs) = npL xs := by simp [np]
@[simp] theorem npL_nil : npL [] = true := by simp [npL]
@[simp] theorem npL_cons (d : D) (ds : List D) : npL (d :: ds) = (np d && npL ds) := by simp [npL]
@[simp] theorem Cnp_lst (xs : List D) : (C.lst xs).np = npL xs := (rfl)
@[simp] theorem cNp_nil : cNp [] = true := (rfl)
@[simp] theorem cNp_some (c : C) (cs : List (Option C)) : cNp (some c :: cs) = (c.np && cNp cs) := (rfl)
@[simp] theorem cNp_none (cs : List (Option C)) : cNp (none :: cs) = cNp cs := (rfl)
@[simp] theorem nm_int (i : Int) : nm (.int i) = true := (rfl)
@[simp] theorem nm_bl (i : Bool) : nm (.bl i) = true := (rfl)
@[simp] theorem nm_str (i : Str) : nm (.str i) = true := (rfl)
@[simp] theorem nm_non : nm .non = true := (rfl)
@[simp] theorem nm_tup (xs : List D) : nm (.tup xs) = nmL xs := by simp [nm]
@[simp] theorem nmL_nil : nmL [] = true := by simp [nmL]
@[simp] theorem nmL_cons (d : D) (ds : List D) : nmL (d :: ds) = (nm d && nmL ds) := by simp [nmL]
@[simp] theorem Cnm_lst (xs : List D) : (C.lst xs).nm = nmL xs := (rfl)
@[simp] theorem cNm_nil : cNm [] = true := (rfl)
@[simp] theorem cNm_some (c : C) (cs : List (Option C)) : cNm (some c :: cs) = (c.nm && cNm cs) := (rfl)
@[simp] theorem cNm_none (cs : List (Option C)) : cNm (none :: cs) = cNm cs := (rfl)
theorem npL_iff {xs : List D} : npL xs = true ↔ ∀ x ∈ xs, np x = true := by
  induction xs with
  | nil => simp
  | cons x xs ih => simp [ih]
theorem nmL_iff {xs : List D} : nmL xs = true ↔ ∀ x ∈ xs, nm x = true := by
  induction xs with
  | nil => simp
  | cons x xs ih => simp [ih]
@[simp] theorem npL_strs (zs : List Str) : npL (zs.map D.str) = true := npL_iff.mpr fun x hx => by obtain ⟨z, _, rfl⟩ := List.mem_map.mp hx; rfl
@[simp] theorem npL_ints (zs : List Int) : npL (zs.map D.int) = true := npL_iff.mpr fun x hx => by obtain ⟨z, _, rfl⟩ := List.mem_map.mp hx; rfl
@[simp] theorem nmL_strs (zs : List Str) : nmL (zs.map D.str) = true := nmL_iff.mpr fun x hx => by obtain ⟨z, _, rfl⟩ := List.mem_map.mp hx; rfl
@[simp] theorem nmL_ints (zs : List Int) : nmL (zs.map D.int) = true := nmL_iff.mpr fun x hx => by obtain ⟨z, _, rfl⟩ := List.mem_map.mp hx; rfl
@[simp] theorem strsD_map (zs : List Str) : strsD (zs.map D.str) = some zs := by
  induction zs with
  | nil => rfl
  | cons z zs ih => simp [strsD, ih]
@[simp] theorem intsD_map (zs : List Int) : intsD (zs.map D.int) = some zs := by
  induction zs with
  | nil => rfl
  | cons z zs ih => simp [intsD, ih]
/-! ### prep -/
@[simp] theorem prep_nil (M : List (Option C)) (j : Nat) : prep M [] [] j = some ⟨[], [], [], []⟩ := (rfl)
@[simp] theorem prep_t (M : List (Option C)) (io : List Bool) (k : Nat) (ds : List D) (j : Nat) : prep M (true :: io) (.ptr k :: ds) j = match M[k]? with
    | some (some x) => if x.np then (prep M io ds (j + 1)).map fun p => ⟨k :: p.ks, x :: p.m, .ptr j :: p.ds, p.ls⟩ else none
    | _ => none := by
  first | (simp only [prep]; done) | (simp only [prep]; rfl)
@[simp] theorem prep_fp (M : List (Option C)) (io : List Bool) (k : Nat) (ds : List D) (j : Nat) : prep M (false :: io) (.ptr k :: ds) j = match M[k]? with
    | some (some x) => if x.np then (prep M io ds j).map fun p => ⟨p.ks, p.m, x.dat :: p.ds, k :: p.ls⟩ else none
    | _ => none := by
  first | (simp only [prep]; done) | (simp only [prep]; rfl)
theorem prep_fv {M : List (Option C)} {io : List Bool} {d : D} {ds : List D} {j : Nat} (h : ∀ k, d ≠ .ptr k) : prep M (false :: io) (d :: ds) j = if np d then (prep M io ds j).map fun p => (⟨p.ks, p.m, d :: p.ds, p.ls⟩ : Prep) else none := by
  cases d <;> first | exact absurd rfl (h _) | simp [prep]
@[simp] theorem prep_fi (M : List (Option C)) (io : List Bool) (i : Int) (ds : List D) (j : Nat) : prep M (false :: io) (.int i :: ds) j = (prep M io ds j).map fun p => (⟨p.ks, p.m, .int i :: p.ds, p.ls⟩ : Prep) := by rw [prep_fv (by simp)]; rfl
@[simp] theorem prep_fs (M : List (Option C)) (io : List Bool) (i : Str) (ds : List D) (j : Nat) : prep M (false :: io) (.str i :: ds) j = (prep M io ds j).map fun p => (⟨p.ks, p.m, .str i :: p.ds, p.ls⟩ : Prep) := by rw [prep_fv (by simp)]; rfl
@[simp] theorem prep_fb (M : List (Option C)) (io : List Bool) (i : Bool) (ds : List D) (j : Nat) : prep M (false :: io) (.bl i :: ds) j = (prep M io ds j).map fun p => (⟨p.ks, p.m, .bl i :: p.ds, p.ls⟩ : Prep) := by rw [prep_fv (by simp)]; rfl
@[simp] theorem prep_fn (M : List (Option C)) (io : List Bool) (ds : List D) (j : Nat) : prep M (false :: io) (.non :: ds) j = (prep M io ds j).map fun p => (⟨p.ks, p.m, .non :: p.ds, p.ls⟩ : Prep) := by rw [prep_fv (by simp)]; rfl
@[simp] theorem prep_fl (M : List (Option C)) (io : List Bool) (xs : List D) (ds : List D) (j : Nat) : prep M (false :: io) (.lst xs :: ds) j = if npL xs = true then (prep M io ds j).map fun p => (⟨p.ks, p.m, .lst xs :: p.ds, p.ls⟩ : Prep) else none := by rw [prep_fv (by simp)]; simp
@[simp] theorem prep_fsl (M : List (Option C)) (io : List Bool) (xs : List D) (ds : List D) (j : Nat) : prep M (false :: io) (.slst xs :: ds) j = if npL xs = true then (prep M io ds j).map fun p => (⟨p.ks, p.m, .slst xs :: p.ds, p.ls⟩ : Prep) else none := by rw [prep_fv (by simp)]; simp
@[simp] theorem prep_ft (M : List (Option C)) (io : List Bool) (xs : List D) (ds : List D) (j : Nat) : prep M (false :: io) (.tup xs :: ds) j = if npL xs = true then (prep M io ds j).map fun p => (⟨p.ks, p.m, .tup xs :: p.ds, p.ls⟩ : Prep) else none := by rw [prep_fv (by simp)]; simp
@[simp] theorem putC_nil (M cs : List (Option C)) : putC M [] cs = M := by cases cs <;> rfl
@[simp] theorem putC_cons (M : List (Option C)) (k : Nat) (ks : List Nat) (x : Option C) (cs : List (Option C)) : putC M (k :: ks) (x :: cs) = putC (M.set k x) ks cs := (rfl)
/-! ### loops -/
/-- a for: each turn goes on, or hands back -/
theorem forL_gen {d : D} {M0 : List (Option C)} {g : D → S → Option S} {body els : M Fl} {ds : List D} (I : Nat → S → Prop) (R : Out Fl → Prop)
    (hs : ∀ (i : Nat) (x : D) (s : S), ds[i]? = some x → I i s → ∃ s1, g x s = some s1 ∧ ((∃ s2, (body s1 = .ok .nx s2 ∨ body s1 = .ok .ct s2) ∧ chkP d M0 s2.M = true ∧ I (i + 1) s2) ∨ (∃ e s2, body s1 = .ok (.ret e) s2 ∧ R (.ok (.ret e) s2)))) {s : S} (h0 : I 0 s)
    (hd : ∀ s', I ds.length s' → R (els s')) : R (forL d M0 g body els ds s) := by
  have key : ∀ (r p : List D) (s : S), ds = p ++ r → I p.length s → R (forL d M0 g body els r s) := by
    intro r
    induction r with
    | nil =>
      intro p s e h
      rw [List.append_nil] at e
      subst e
      exact hd s h
    | cons x r ih =>
      intro p s e h
      obtain ⟨s1, h1, h2⟩ := hs p.length x s (by rw [e]; simp) h
      unfold forL
      rw [h1]
      dsimp only
      rcases h2 with ⟨s2, h3, h4, h5⟩ | ⟨v, s2, h3, h4⟩
      · have := ih (p ++ [x]) s2 (by rw [e, List.append_assoc]; rfl) (by rw [List.length_append]; exact h5)
        rcases h3 with h3 | h3 <;> rw [h3] <;> dsimp only <;> rw [if_pos h4] <;> exact this
      · rw [h3]
        exact h4
  exact key ds [] s rfl h0
theorem forL_inv {d : D} {M0 : List (Option C)} {g : D → S → Option S} {body els : M Fl} {ds : List D} (I : Nat → S → Prop)
    (hs : ∀ (i : Nat) (x : D) (s : S), ds[i]? = some x → I i s → ∃ s1 s2, g x s = some s1 ∧ (body s1 = .ok .nx s2 ∨ body s1 = .ok .ct s2) ∧ chkP d M0 s2.M = true ∧ I (i + 1) s2) {s : S} (h0 : I 0 s) : ∃ s', I ds.length s' ∧ forL d M0 g body els ds s = els s' := by
  refine forL_gen I (fun o => ∃ s', I ds.length s' ∧ o = els s') (fun i x s e h => ?_) h0 fun s' h => ⟨s', h, rfl⟩
  obtain ⟨s1, s2, h1, h2, h3, h4⟩ := hs i x s e h
  exact ⟨s1, h1, .inl ⟨s2, h2, h3, h4⟩⟩
/-- a comprehension that keeps all: its items one by one -/
theorem lcL_all {d : D} {M0 : List (Option C)} {env0 : List (Option D)} {g : D → S → Option S} {tt : M Bool} {fe : M D} {ds : List D} (I : Nat → List D → List (Option C) → Prop)
    (hs : ∀ (i : Nat) (x : D) (acc : List D) (M : List (Option C)), ds[i]? = some x → I i acc M → ∃ s1 s2 e s3, g x ⟨env0, M⟩ = some s1 ∧ tt s1 = .ok true s2 ∧ fe s2 = .ok e s3 ∧ chkP d M0 s3.M = true ∧ I (i + 1) (acc ++ [e]) s3.M)
    (hl : ds.length < 1000000) {M : List (Option C)} (h0 : I 0 [] M) : ∃ acc M', I ds.length acc M' ∧ acc.length = ds.length ∧ lcL d M0 env0 g tt fe ds [] M = .ok acc ⟨env0, M'⟩ := by
  have key : ∀ (r p acc : List D) (M : List (Option C)), ds = p ++ r → acc.length = p.length → I p.length acc M → ∃ acc' M', I ds.length acc' M' ∧ acc'.length = ds.length ∧ lcL d M0 env0 g tt fe r acc M = .ok acc' ⟨env0, M'⟩ := by
    intro r
    induction r with
    | nil =>
      intro p acc M e hla h
      rw [List.append_nil] at e
      subst e
      exact ⟨acc, M, h, hla, rfl⟩
    | cons x r ih =>
      intro p acc M e hla h
      obtain ⟨s1, s2, y, s3, h1, h2, h3, h4, h5⟩ := hs p.length x acc M (by rw [e]; simp) h
      have hlt : acc.length < 1000000 := by
        have := congrArg List.length e
        rw [List.length_append, List.length_cons] at this
        omega
      obtain ⟨acc', M', r1, r2, r3⟩ := ih (p ++ [x]) (acc ++ [y]) s3.M (by rw [e, List.append_assoc]; rfl) (by rw [List.length_append, List.length_append, hla]; rfl) (by rw [List.length_append]; exact h5)
      refine ⟨acc', M', r1, r2, ?_⟩
      unfold lcL
      rw [h1]
      dsimp only
      rw [h2]
      dsimp only
      rw [h3]
      dsimp only
      rw [if_pos ⟨h4, hlt⟩]
      exact r3
  exact key ds [] [] M rfl rfl h0
/-- .. each item by a function, nothing written -/
theorem lcL_map {d : D} {M0 : List (Option C)} {env0 : List (Option D)} {g : D → S → Option S} {tt : M Bool} {fe : M D} {ds : List D} {M : List (Option C)} (f : D → D) (hd : chkP d M0 M = true)
    (hs : ∀ x ∈ ds, ∃ s1 s2 s3, g x ⟨env0, M⟩ = some s1 ∧ tt s1 = .ok true s2 ∧ fe s2 = .ok (f x) s3 ∧ s3.M = M)
    (hl : ds.length < 1000000) : lcL d M0 env0 g tt fe ds [] M = .ok (ds.map f) ⟨env0, M⟩ := by
  obtain ⟨acc, M', ⟨h1, h2⟩, _, h3⟩ := lcL_all (d := d) (M0 := M0) (env0 := env0) (g := g) (tt := tt) (fe := fe) (ds := ds) (fun i acc M' => M' = M ∧ acc = (ds.take i).map f) (fun i x acc M' e ⟨e1, e2⟩ => by
    subst e1 e2
    obtain ⟨s1, s2, s3, h1, h2, h3, h4⟩ := hs x (List.mem_of_getElem? e)
    refine ⟨s1, s2, f x, s3, h1, h2, h3, by rw [h4]; exact hd, h4, ?_⟩
    rw [List.take_add_one, e, List.map_append]; rfl) hl ⟨rfl, rfl⟩
  rw [h3, h1, h2, List.take_length]
@[simp] theorem chkP_lst (xs : List D) (M0 M1 : List (Option C)) : chkP (.lst xs) M0 M1 = true := (rfl)
@[simp] theorem chkP_slst (xs : List D) (M0 M1 : List (Option C)) : chkP (.slst xs) M0 M1 = true := (rfl)
@[simp] theorem chkP_tup (xs : List D) (M0 M1 : List (Option C)) : chkP (.tup xs) M0 M1 = true := (rfl)
@[simp] theorem chkP_str (xs : Str) (M0 M1 : List (Option C)) : chkP (.str xs) M0 M1 = true := (rfl)
theorem chkP_ptr {k : Nat} {M0 M1 : List (Option C)} (h : M1[k]? = M0[k]?) : chkP (.ptr k) M0 M1 = true := @decide_eq_true _ (Classical.propDecidable _) h
@[simp] theorem wipeE_nil (env : List (Option D)) : wipeE env [] = env := (rfl)
@[simp] theorem wipeE_cons (env : List (Option D)) (v : Nat) (vs : List Nat) : wipeE env (v :: vs) = (wipeE env vs).set v none := (rfl)
theorem small64_of {i : Int} (h1 : 0 ≤ i) (h2 : i < 18446744073709551616) : small64 i = true := by
  unfold small64
  rw [decide_eq_true (by omega : -(2 ^ 64 : Int) < i), decide_eq_true (by omega : i < 2 ^ 64)]; rfl
end DL

namespace K48
open PySem L2 DL
open PySem.Spec PyProof.Rows
abbrev prog : Program := PySem.Challenge.pw_lastchoicefirst_k48_dominates
def top (i : Nat) : Stmt := prog.main.body.getD i (.Pass ⟨0, 0, 0, 0⟩)
abbrev FnP (K : PySem.W.Frag) (x : Str) (st : Stmt) (f : Addr) (fd : FuncData) : Prop := FunD K x x (defArgs st) (defBody st) (defScope st) [] [] f fd
abbrev st_is_letters : Stmt := top 6
abbrev st__law_pool : Stmt := top 9
abbrev st__law_take : Stmt := top 10
abbrev st__law_due : Stmt := top 14
abbrev st_dominates : Stmt := top 7
abbrev st__law_turning : Stmt := top 11
abbrev st__law_letters : Stmt := top 12
abbrev st__law_second : Stmt := top 13
abbrev st_law : Stmt := top 15
noncomputable def e1_is_letters : M D := (eOp dIn (eVar 1) (eC (.tup [(.str "A"), (.str "B")])))
noncomputable def m_is_letters : M Fl := (sRet (eAnd (eCB (g2 dIsi) (aCons (eVar 0) (aCons (eC (.raw (.ty "str"))) aNil))) (eAnd (eOp dLeI (eCB (g1 dLen) (aCons (eVar 0) aNil)) (eC (.int 40))) (eCB (g1 dAll) (aCons (eLc (eVar 0) itSeq (gVar 1) tYesM e1_is_letters [1]) aNil)))))
noncomputable def sem_is_letters : Sem := run 2 m_is_letters
noncomputable def m__law_pool : M Fl := (sSeq (sSet 2 (eC (.int 0))) (sSeq (sIf (tOf (eOp dLtI (eVar 1) (eCB (g1 dLen) (aCons (eVar 0) aNil)))) (sSet 2 (eCB (g1 dAbs) (aCons (eOp dIxA (eVar 0) (eVar 1)) aNil))) sNx) (sSeq (sSet 3 (eOp dModI (eOp dMulI (eOp dAdd (eOp dAdd (eOp dAdd (eOp dModI (eVar 2) (eC (.int 2147483629))) (eOp dMulI (eOp dMulI (eC (.int 7919)) (eVar 1)) (eVar 1))) (eOp dMulI (eC (.int 31)) (eVar 1))) (eC (.int 17))) (eC (.int 48271))) (eC (.int 2147483647)))) (sRet (eLstC (aCons (eOp dMulI (eVar 2) (eCB (g1 dInt) (aCons (eOp dGeI (eVar 2) (eOp dPowI (eC (.int 10)) (eC (.int 18)))) aNil))) (aCons (eOp dModI (eOp dMulI (eVar 3) (eVar 3)) (eC (.int 2147483629))) aNil)))))))
noncomputable def sem__law_pool : Sem := runC 4 m__law_pool
noncomputable def m__law_take : M Fl := (sSeq (sIf (tOf (eOp dGtI (eOp dIxA (eVar 0) (eC (.int 0))) (eC (.int 0)))) (sSeq (sSet 2 (eOp dModI (eOp dIxA (eVar 0) (eC (.int 0))) (eVar 1))) (sSeq (sAsg (eOp dDivI (eOp dIxA (eVar 0) (eC (.int 0))) (eVar 1)) (hSub cSet (eVar 0) (eC (.int 0)))) (sRet (eVar 2)))) sNx) (sSeq (sAsg (eOp dModI (eOp dAdd (eOp dMulI (eOp dIxA (eVar 0) (eC (.int 1))) (eC (.int 48271))) (eC (.int 12345))) (eC (.int 2147483647))) (hSub cSet (eVar 0) (eC (.int 1)))) (sRet (eOp dModI (eOp dDivI (eOp dModI (eOp dMulI (eOp dIxA (eVar 0) (eC (.int 1))) (eOp dIxA (eVar 0) (eC (.int 1)))) (eC (.int 2147483629))) (eC (.int 64))) (eVar 1)))))
noncomputable def sem__law_take : Sem := run 3 m__law_take
noncomputable def b1__law_due : M Fl := (sIf (tOf (eOp dLtI (eBM "str" (g1m (dSS fun a b => some (.int (Txt.count a b)))) (eSl dSl (eVar 0) oNone (oSome (eOp dAdd (eVar 2) (eC (.int 1))))) (aCons (eC (.str "A")) aNil)) (eBM "str" (g1m (dSS fun a b => some (.int (Txt.count a b)))) (eSl dSl (eVar 1) oNone (oSome (eOp dAdd (eVar 2) (eC (.int 1))))) (aCons (eC (.str "A")) aNil)))) (sRet (eC (.bl false))) sNx)
noncomputable def m__law_due : M Fl := (sSeq (sFor (eRng1 (aCons (eCB (g1 dLen) (aCons (eVar 0) aNil)) aNil)) itRng (gVar 2) b1__law_due sNx) (sRet (eC (.bl true))))
noncomputable def sem__law_due : Sem := run 3 m__law_due
noncomputable def b1_dominates : M Fl := (sSeq (sAug 2 dAddI (eOp dSubI (eCB (g1 dInt) (aCons (eOp dEq (eVar 3) (eC (.str "A"))) aNil)) (eCB (g1 dInt) (aCons (eOp dEq (eVar 4) (eC (.str "A"))) aNil)))) (sIf (tOf (eOp dLtI (eVar 2) (eC (.int 0)))) (sRet (eC (.bl false))) sNx))
noncomputable def m_dominates : M Fl := (sSeq (sIf (tNotM (tOf (eCall [false] sem_is_letters (aCons (eVar 0) aNil)))) eFail sNx) (sSeq (sIf (tOrM (tNotM (tOf (eCall [false] sem_is_letters (aCons (eVar 1) aNil)))) (tOf (eOp dNe (eCB dSrt (aCons (eVar 1) aNil)) (eCB dSrt (aCons (eVar 0) aNil))))) eFail sNx) (sSeq (sSet 2 (eC (.int 0))) (sSeq (sFor (eZip (aCons (eVar 0) (aCons (eVar 1) aNil))) itZip (gTupD (gMore (gVar 3) (gMore (gVar 4) gNone))) b1_dominates sNx) (sRet (eC (.bl true)))))))
noncomputable def sem_dominates : Sem := run 5 m_dominates
noncomputable def b1__law_turning : M Fl := (sExpr (eCM "list" cAppend (eVar 3) (aCons (eCM "list" cPopAt (eVar 2) (aCons (eCall [true, false] sem__law_take (aCons (eVar 0) (aCons (eCB (g1 dLen) (aCons (eVar 2) aNil)) aNil))) aNil)) aNil)))
noncomputable def m__law_turning : M Fl := (sSeq (sPar 2 3 (aCons (eCBC (gL1 lstOf) (aCons (eVar 1) aNil)) (aCons (eLstC aNil) aNil))) (sSeq (sFor (eRng1 (aCons (eCB (g1 dLen) (aCons (eVar 1) aNil)) aNil)) itRng (gVar 4) b1__law_turning sNx) (sRet (eVar 3))))
noncomputable def sem__law_turning : Sem := run 5 m__law_turning
noncomputable def e1__law_letters : M D := (eOp dIxA (eLst (aCons (eC (.str "A")) (aCons (eC (.str "B")) aNil))) (eCall [true, false] sem__law_take (aCons (eVar 0) (aCons (eC (.int 2)) aNil))))
noncomputable def m__law_letters : M Fl := (sRet (eBM "str" (g1m dJoin) (eC (.str "")) (aCons (eLc (eRng1 (aCons (eVar 1) aNil)) itRng (gVar 2) tYesM e1__law_letters [2]) aNil)))
noncomputable def sem__law_letters : Sem := run 3 m__law_letters
noncomputable def b1__law_second : M Fl := (sSeq (sSet 5 (eCall [true, false] sem__law_take (aCons (eVar 0) (aCons (eOp dSubI (eCB (g1 dLen) (aCons (eVar 3) aNil)) (eC (.int 1))) aNil)))) (sAsg (eTup (aCons (eOp dIxA (eVar 3) (eOp dAdd (eVar 5) (eC (.int 1)))) (aCons (eOp dIxA (eVar 3) (eVar 5)) aNil))) (hTup 2 (hMore (hSub cSet (eVar 3) (eVar 5)) (hMore (hSub cSet (eVar 3) (eOp dAdd (eVar 5) (eC (.int 1)))) hNone)))))
noncomputable def m__law_second : M Fl := (sSeq (sSet 2 (eCall [true, false] sem__law_take (aCons (eVar 0) (aCons (eC (.int 4)) aNil)))) (sSeq (sIf (tOf (eOp dEq (eVar 2) (eC (.int 0)))) (sRet (eBM "str" (g1m dJoin) (eC (.str "")) (aCons (eCall [true, false] sem__law_turning (aCons (eVar 0) (aCons (eCB (g1 fun d => (lstOf d).map .lst) (aCons (eVar 1) aNil)) aNil))) aNil))) sNx) (sSeq (sIf (tOf (eOp dEq (eVar 2) (eC (.int 1)))) (sRet (eUn dRev (eBM "str" (g1m dJoin) (eC (.str "")) (aCons (eCB dSrt (aCons (eVar 1) aNil)) aNil)))) sNx) (sSeq (sSet 3 (eCBC (gL1 lstOf) (aCons (eVar 1) aNil))) (sSeq (sFor (eRng1 (aCons (eOp dMulI (eVar 2) (eCB (g1 dInt) (aCons (eOp dGtI (eCB (g1 dLen) (aCons (eVar 3) aNil)) (eC (.int 1))) aNil))) aNil)) itRng (gVar 4) b1__law_second sNx) (sRet (eBM "str" (g1m dJoin) (eC (.str "")) (aCons (eVar 3) aNil))))))))
noncomputable def sem__law_second : Sem := run 6 m__law_second
noncomputable def b1_law : M Fl := (sSeq (sSet 2 (eCallC [false, false] sem__law_pool (aCons (eVar 0) (aCons (eVar 1) aNil)))) (sSeq (sSet 3 (eCall [true, false] sem__law_letters (aCons (eVar 2) (aCons (eCall [true, false] sem__law_take (aCons (eVar 2) (aCons (eC (.int 41)) aNil))) aNil)))) (sSeq (sSet 4 (eCall [true, false] sem__law_second (aCons (eVar 2) (aCons (eVar 3) aNil)))) (sSeq (sSet 5 (eLst (aCons (eCall [false, false] sem_dominates (aCons (eVar 3) (aCons (eVar 4) aNil))) (aCons (eCall [false, false] sem_dominates (aCons (eVar 4) (aCons (eVar 3) aNil))) aNil)))) (sSeq (sIf (tOf (eOp dNe (eCB (g1 dRepr) (aCons (eVar 5) aNil)) (eCB (g1 dRepr) (aCons (eLst (aCons (eCall [false, false] sem__law_due (aCons (eVar 3) (aCons (eVar 4) aNil))) (aCons (eCall [false, false] sem__law_due (aCons (eVar 4) (aCons (eVar 3) aNil))) aNil))) aNil)))) (sRet (eC (.bl false))) sNx) (sIf (tOrM (tOf (eOp dNot (eCallK [false, false] sem_dominates 0 2 [0, 1] aNil (aCons (eVar 3) (aCons (eVar 3) aNil))) (eC (.bl true)))) (tOf (eOp dNot (eCall [false, false] sem_dominates (aCons (eBM "str" (g1m dJoin) (eC (.str "")) (aCons (eCB dSrt (aCons (eVar 3) aNil)) aNil)) (aCons (eVar 4) aNil))) (eC (.bl true))))) (sRet (eC (.bl false))) sNx))))))
noncomputable def m_law : M Fl := (sSeq (sFor (eRng1 (aCons (eCB (g2 dMax2) (aCons (eC (.int 1)) (aCons (eCB (g2 dMin2) (aCons (eCB (g1 dLen) (aCons (eVar 0) aNil)) (aCons (eC (.int 10)) aNil))) aNil))) aNil)) itRng (gVar 1) b1_law sNx) (sRet (eOp dIs (eCall [false, false] sem_dominates (aCons (eC (.str "")) (aCons (eC (.str "")) aNil))) (eC (.bl true)))))
noncomputable def sem_law : Sem := run 6 m_law
theorem sc_is_letters : FnScope ["value", "letter"] ["value"] (defScope st_is_letters) := ⟨rfl, rfl, rfl, by decide +kernel, rfl, by decide +kernel, by decide +kernel⟩
theorem sc__law_pool : FnScope ["_law_script", "_law_k", "_law_cell", "_law_blend"] ["_law_script", "_law_k"] (defScope st__law_pool) := ⟨rfl, rfl, rfl, by decide +kernel, rfl, by decide +kernel, by decide +kernel⟩
theorem sc__law_take : FnScope ["_law_pool_here", "_law_sides", "_law_found"] ["_law_pool_here", "_law_sides"] (defScope st__law_take) := ⟨rfl, rfl, rfl, by decide +kernel, rfl, by decide +kernel, by decide +kernel⟩
theorem sc__law_due : FnScope ["_law_one", "_law_two", "_law_at"] ["_law_one", "_law_two"] (defScope st__law_due) := ⟨rfl, rfl, rfl, by decide +kernel, rfl, by decide +kernel, by decide +kernel⟩
theorem sc_dominates : FnScope ["turns", "other", "ahead", "mine", "theirs"] ["turns", "other"] (defScope st_dominates) := ⟨rfl, rfl, rfl, by decide +kernel, rfl, by decide +kernel, by decide +kernel⟩
theorem sc__law_turning : FnScope ["_law_pool_here", "_law_things", "_law_left", "_law_found", "_law_turn"] ["_law_pool_here", "_law_things"] (defScope st__law_turning) := ⟨rfl, rfl, rfl, by decide +kernel, rfl, by decide +kernel, by decide +kernel⟩
theorem sc__law_letters : FnScope ["_law_pool_here", "_law_count", "_law_turn"] ["_law_pool_here", "_law_count"] (defScope st__law_letters) := ⟨rfl, rfl, rfl, by decide +kernel, rfl, by decide +kernel, by decide +kernel⟩
theorem sc__law_second : FnScope ["_law_pool_here", "_law_letters_here", "_law_way", "_law_found", "_law_turn", "_law_at"] ["_law_pool_here", "_law_letters_here"] (defScope st__law_second) := ⟨rfl, rfl, rfl, by decide +kernel, rfl, by decide +kernel, by decide +kernel⟩
theorem sc_law : FnScope ["_law_script", "_law_k", "_law_pool_here", "_law_one", "_law_two", "_law_told"] ["_law_script"] (defScope st_law) := ⟨rfl, rfl, rfl, by decide +kernel, rfl, by decide +kernel, by decide +kernel⟩
structure Lw (K : PySem.W.Frag) (mg : Str → Option Value) where
  fd_is_letters : FuncData
  F_is_letters : FnP K "is_letters" st_is_letters (He.ga K "is_letters") fd_is_letters
  g_is_letters : mg "is_letters" = some (.ref (He.ga K "is_letters"))
  fd__law_pool : FuncData
  F__law_pool : FnP K "_law_pool" st__law_pool (He.ga K "_law_pool") fd__law_pool
  g__law_pool : mg "_law_pool" = some (.ref (He.ga K "_law_pool"))
  fd__law_take : FuncData
  F__law_take : FnP K "_law_take" st__law_take (He.ga K "_law_take") fd__law_take
  g__law_take : mg "_law_take" = some (.ref (He.ga K "_law_take"))
  fd__law_due : FuncData
  F__law_due : FnP K "_law_due" st__law_due (He.ga K "_law_due") fd__law_due
  g__law_due : mg "_law_due" = some (.ref (He.ga K "_law_due"))
  fd_dominates : FuncData
  F_dominates : FnP K "dominates" st_dominates (He.ga K "dominates") fd_dominates
  g_dominates : mg "dominates" = some (.ref (He.ga K "dominates"))
  fd__law_turning : FuncData
  F__law_turning : FnP K "_law_turning" st__law_turning (He.ga K "_law_turning") fd__law_turning
  g__law_turning : mg "_law_turning" = some (.ref (He.ga K "_law_turning"))
  fd__law_letters : FuncData
  F__law_letters : FnP K "_law_letters" st__law_letters (He.ga K "_law_letters") fd__law_letters
  g__law_letters : mg "_law_letters" = some (.ref (He.ga K "_law_letters"))
  fd__law_second : FuncData
  F__law_second : FnP K "_law_second" st__law_second (He.ga K "_law_second") fd__law_second
  g__law_second : mg "_law_second" = some (.ref (He.ga K "_law_second"))
  fd_law : FuncData
  F_law : FnP K "law" st_law (He.ga K "law") fd_law
  g_law : mg "law" = some (.ref (He.ga K "law"))
  b_abs : mg "abs" = none
  b_all : mg "all" = none
  b_int : mg "int" = none
  b_isinstance : mg "isinstance" = none
  b_len : mg "len" = none
  b_list : mg "list" = none
  b_max : mg "max" = none
  b_min : mg "min" = none
  b_range : mg "range" = none
  b_repr : mg "repr" = none
  b_sorted : mg "sorted" = none
  b_str : mg "str" = none
  b_zip : mg "zip" = none
  k_MAX_ITEMS : Tok
  g_MAX_ITEMS : mg "MAX_ITEMS" = some (.int 40 k_MAX_ITEMS)
  g_PLAYERS : mg "PLAYERS" = some (.ref (He.ga K "PLAYERS"))
  t_PLAYERS : ∀ H, SqT K H (He.ga K "PLAYERS") [.str "A", .str "B"]
section
variable {K : PySem.W.Frag} {mg : Str → Option Value} {w : World} {base : Heap} {cl : Str → Addr}
theorem b_is_letters {fd : FuncData} {a : Addr} (F : FnP K "is_letters" st_is_letters a fd) : Binds K fd ["value"] [] := F.bindsN fun _ _ _ _ _ _ us hl => match us, hl with | [_], _ => rfl
theorem b__law_pool {fd : FuncData} {a : Addr} (F : FnP K "_law_pool" st__law_pool a fd) : Binds K fd ["_law_script", "_law_k"] [] := F.bindsN fun _ _ _ _ _ _ us hl => match us, hl with | [_, _], _ => rfl
theorem b__law_take {fd : FuncData} {a : Addr} (F : FnP K "_law_take" st__law_take a fd) : Binds K fd ["_law_pool_here", "_law_sides"] [] := F.bindsN fun _ _ _ _ _ _ us hl => match us, hl with | [_, _], _ => rfl
theorem b__law_due {fd : FuncData} {a : Addr} (F : FnP K "_law_due" st__law_due a fd) : Binds K fd ["_law_one", "_law_two"] [] := F.bindsN fun _ _ _ _ _ _ us hl => match us, hl with | [_, _], _ => rfl
theorem b_dominates {fd : FuncData} {a : Addr} (F : FnP K "dominates" st_dominates a fd) : Binds K fd ["turns", "other"] [] := F.bindsN fun _ _ _ _ _ _ us hl => match us, hl with | [_, _], _ => rfl
theorem b__law_turning {fd : FuncData} {a : Addr} (F : FnP K "_law_turning" st__law_turning a fd) : Binds K fd ["_law_pool_here", "_law_things"] [] := F.bindsN fun _ _ _ _ _ _ us hl => match us, hl with | [_, _], _ => rfl
theorem b__law_letters {fd : FuncData} {a : Addr} (F : FnP K "_law_letters" st__law_letters a fd) : Binds K fd ["_law_pool_here", "_law_count"] [] := F.bindsN fun _ _ _ _ _ _ us hl => match us, hl with | [_, _], _ => rfl
theorem b__law_second {fd : FuncData} {a : Addr} (F : FnP K "_law_second" st__law_second a fd) : Binds K fd ["_law_pool_here", "_law_letters_here"] [] := F.bindsN fun _ _ _ _ _ _ us hl => match us, hl with | [_, _], _ => rfl
theorem b_law {fd : FuncData} {a : Addr} (F : FnP K "law" st_law a fd) : Binds K fd ["_law_script"] [] := F.bindsN fun _ _ _ _ _ _ us hl => match us, hl with | [_], _ => rfl
theorem kb_dominates_turns_other {fd : FuncData} {a : Addr} (F : FnP K "dominates" st_dominates a fd) : KBn K fd ["turns", "other"] 0 ["turns", "other"] (fun us ws => pick [0, 1] (us ++ ws)) (fun us ws => pick [0, 1] (us ++ ws)) := kbn_of F 0 ["turns", "other"] fun _ _ _ _ _ _ us ws h1 h2 => match us, ws, h1, h2 with | [], [_, _], _, _ => rfl
theorem fg_is_letters (L : Lw K mg) : FnG prog w K mg base cl 1 (He.ga K "is_letters") L.fd_is_letters ["value"] sem_is_letters :=
  fn_G L.F_is_letters sc_is_letters fun cdv A outer s H E hk =>
    (dss_one (ds_ret (de_and (de_callB cd_isi L.b_isinstance (da_cons (de_var rfl (by first | exact .inl rfl | exact .inr (.inl rfl) | exact .inr (.inr rfl))) (da_cons (de_tyname L.b_str) da_nil))) (de_and (de_cmp od_leI (de_callB cd_len L.b_len (da_cons (de_var rfl (by first | exact .inl rfl | exact .inr (.inl rfl) | exact .inr (.inr rfl))) da_nil)) (de_glob (v := .int 40) rfl L.g_MAX_ITEMS ⟨_, rfl⟩ (fun _ _ _ => .int)) rfl) (de_one (de_callB (cd_all hk.calm) L.b_all (da_cons (de_lc (own := [("letter", 1)]) hk (di_seq (de_var rfl (by first | exact .inl rfl | exact .inr (.inl rfl) | exact .inr (.inr rfl)))) (show BlkOk ["value", "letter"] (defScope st_is_letters) _ [("letter", 1)] from ⟨rfl, by decide +kernel, by decide +kernel, by decide +kernel, by decide +kernel⟩) (Blk.of hk (fun s H C cc fp hk => (dg_name hk.nd rfl (by first | exact .inl rfl | exact .inr rfl))) (fun s H C cc fp hk => dts_nil) (fun s H C cc fp hk => (de_cmp od_in (de_var rfl (by first | exact .inl rfl | exact .inr (.inl rfl) | exact .inr (.inr rfl))) (de_glob (v := .ref (He.ga K "PLAYERS")) rfl L.g_PLAYERS rfl (fun H _ _ => .tup (L.t_PLAYERS H) (.cons .str (.cons .str .nil)))) rfl)))) da_nil)))))))
theorem fg__law_pool (L : Lw K mg) : FnG prog w K mg base cl 1 (He.ga K "_law_pool") L.fd__law_pool ["_law_script", "_law_k"] sem__law_pool :=
  fn_GC L.F__law_pool sc__law_pool fun cdv A outer s H E hk =>
    (dss_cons (ds_set hk.nd rfl (by first | exact .inl rfl | exact .inr rfl) de_int) (dss_cons (ds_if (dt_cmp od_ltI (de_var rfl (by first | exact .inl rfl | exact .inr (.inl rfl) | exact .inr (.inr rfl))) (de_callB cd_len L.b_len (da_cons (de_var rfl (by first | exact .inl rfl | exact .inr (.inl rfl) | exact .inr (.inr rfl))) da_nil)) rfl) (dss_one (ds_set hk.nd rfl (by first | exact .inl rfl | exact .inr rfl) (de_callB cd_abs L.b_abs (da_cons (de_ix ixd_any (de_var rfl (by first | exact .inl rfl | exact .inr (.inl rfl) | exact .inr (.inr rfl))) (de_var rfl (by first | exact .inl rfl | exact .inr (.inl rfl) | exact .inr (.inr rfl)))) da_nil)))) dss_nil) (dss_cons (ds_set hk.nd rfl (by first | exact .inl rfl | exact .inr rfl) (de_op od_modI (de_op od_mulI (de_op od_add (de_op od_add (de_op od_add (de_op od_modI (de_var rfl (by first | exact .inl rfl | exact .inr (.inl rfl) | exact .inr (.inr rfl))) de_int) (de_op od_mulI (de_op od_mulI de_int (de_var rfl (by first | exact .inl rfl | exact .inr (.inl rfl) | exact .inr (.inr rfl)))) (de_var rfl (by first | exact .inl rfl | exact .inr (.inl rfl) | exact .inr (.inr rfl))))) (de_op od_mulI de_int (de_var rfl (by first | exact .inl rfl | exact .inr (.inl rfl) | exact .inr (.inr rfl))))) de_int) de_int) de_int)) (dss_one (ds_ret (de_lstC (da_cons (de_op od_mulI (de_var rfl (by first | exact .inl rfl | exact .inr (.inl rfl) | exact .inr (.inr rfl))) (de_callT cd_int L.b_int (da_cons (de_cmp od_geI (de_var rfl (by first | exact .inl rfl | exact .inr (.inl rfl) | exact .inr (.inr rfl))) (de_op od_powI de_int de_int) rfl) da_nil))) (da_cons (de_op od_modI (de_op od_mulI (de_var rfl (by first | exact .inl rfl | exact .inr (.inl rfl) | exact .inr (.inr rfl))) (de_var rfl (by first | exact .inl rfl | exact .inr (.inl rfl) | exact .inr (.inr rfl)))) de_int) da_nil))))))))
theorem fg__law_take (L : Lw K mg) : FnG prog w K mg base cl 1 (He.ga K "_law_take") L.fd__law_take ["_law_pool_here", "_law_sides"] sem__law_take :=
  fn_G L.F__law_take sc__law_take fun cdv A outer s H E hk =>
    (dss_cons (ds_if (dt_cmp od_gtI (de_ix ixd_any (de_var rfl (by first | exact .inl rfl | exact .inr (.inl rfl) | exact .inr (.inr rfl))) de_int) de_int rfl) (dss_cons (ds_set hk.nd rfl (by first | exact .inl rfl | exact .inr rfl) (de_op od_modI (de_ix ixd_any (de_var rfl (by first | exact .inl rfl | exact .inr (.inl rfl) | exact .inr (.inr rfl))) de_int) (de_var rfl (by first | exact .inl rfl | exact .inr (.inl rfl) | exact .inr (.inr rfl))))) (dss_cons (ds_asg (de_op od_divI (de_ix ixd_any (de_var rfl (by first | exact .inl rfl | exact .inr (.inl rfl) | exact .inr (.inr rfl))) de_int) (de_var rfl (by first | exact .inl rfl | exact .inr (.inl rfl) | exact .inr (.inr rfl)))) (dh_sub std_list (de_var rfl (by first | exact .inl rfl | exact .inr (.inl rfl) | exact .inr (.inr rfl))) de_int)) (dss_one (ds_ret (de_var rfl (by first | exact .inl rfl | exact .inr (.inl rfl) | exact .inr (.inr rfl))))))) dss_nil) (dss_cons (ds_asg (de_op od_modI (de_op od_add (de_op od_mulI (de_ix ixd_any (de_var rfl (by first | exact .inl rfl | exact .inr (.inl rfl) | exact .inr (.inr rfl))) de_int) de_int) de_int) de_int) (dh_sub std_list (de_var rfl (by first | exact .inl rfl | exact .inr (.inl rfl) | exact .inr (.inr rfl))) de_int)) (dss_one (ds_ret (de_op od_modI (de_op od_divI (de_op od_modI (de_op od_mulI (de_ix ixd_any (de_var rfl (by first | exact .inl rfl | exact .inr (.inl rfl) | exact .inr (.inr rfl))) de_int) (de_ix ixd_any (de_var rfl (by first | exact .inl rfl | exact .inr (.inl rfl) | exact .inr (.inr rfl))) de_int)) de_int) de_int) (de_var rfl (by first | exact .inl rfl | exact .inr (.inl rfl) | exact .inr (.inr rfl))))))))
theorem fg__law_due (L : Lw K mg) : FnG prog w K mg base cl 1 (He.ga K "_law_due") L.fd__law_due ["_law_one", "_law_two"] sem__law_due :=
  fn_G L.F__law_due sc__law_due fun cdv A outer s H E hk =>
    (dss_cons (ds_for hk (di_rng1 (da_cons (de_callB cd_len L.b_len (da_cons (de_var rfl (by first | exact .inl rfl | exact .inr (.inl rfl) | exact .inr (.inr rfl))) da_nil)) da_nil) L.b_range) (dg_name hk.nd rfl (by first | exact .inl rfl | exact .inr rfl)) (dss_one (ds_if (dt_cmp od_ltI (de_bm PySem.F.plainAttrs_str PySem.F.slot_str_count PySem.F.type_str_count md_count (de_slice sld (de_var rfl (by first | exact .inl rfl | exact .inr (.inl rfl) | exact .inr (.inr rfl))) do_none (do_some (de_op od_add (de_var rfl (by first | exact .inl rfl | exact .inr (.inl rfl) | exact .inr (.inr rfl))) de_int))) (da_cons de_str da_nil)) (de_bm PySem.F.plainAttrs_str PySem.F.slot_str_count PySem.F.type_str_count md_count (de_slice sld (de_var rfl (by first | exact .inl rfl | exact .inr (.inl rfl) | exact .inr (.inr rfl))) do_none (do_some (de_op od_add (de_var rfl (by first | exact .inl rfl | exact .inr (.inl rfl) | exact .inr (.inr rfl))) de_int))) (da_cons de_str da_nil)) rfl) (dss_one (ds_ret de_bl)) dss_nil))) (dss_one (ds_ret de_bl)))
theorem fg_dominates (L : Lw K mg) : FnG prog w K mg base cl 2 (He.ga K "dominates") L.fd_dominates ["turns", "other"] sem_dominates :=
  fn_G L.F_dominates sc_dominates fun cdv A outer s H E hk =>
    (dss_cons (ds_if (dt_not (dt_val (de_call ((fg_is_letters L).mono (by decide)) (run_len _ _) rfl hk L.g_is_letters L.F_is_letters.kp (b_is_letters L.F_is_letters) (da_cons (de_var rfl (by first | exact .inl rfl | exact .inr (.inl rfl) | exact .inr (.inr rfl))) da_nil)))) (dss_one ds_never) dss_nil) (dss_cons (ds_if (DW.dt (dw_or (dt_not (dt_val (de_call ((fg_is_letters L).mono (by decide)) (run_len _ _) rfl hk L.g_is_letters L.F_is_letters.kp (b_is_letters L.F_is_letters) (da_cons (de_var rfl (by first | exact .inl rfl | exact .inr (.inl rfl) | exact .inr (.inr rfl))) da_nil)))) (dw_or1 (dt_cmp (od_ne hk.u64) (de_callB (cd_sorted hk.calm) L.b_sorted (da_cons (de_var rfl (by first | exact .inl rfl | exact .inr (.inl rfl) | exact .inr (.inr rfl))) da_nil)) (de_callB (cd_sorted hk.calm) L.b_sorted (da_cons (de_var rfl (by first | exact .inl rfl | exact .inr (.inl rfl) | exact .inr (.inr rfl))) da_nil)) rfl)))) (dss_one ds_never) dss_nil) (dss_cons (ds_set hk.nd rfl (by first | exact .inl rfl | exact .inr rfl) de_int) (dss_cons (ds_for hk (di_zipS hk.calm (da_cons (de_var rfl (by first | exact .inl rfl | exact .inr (.inl rfl) | exact .inr (.inr rfl))) (da_cons (de_var rfl (by first | exact .inl rfl | exact .inr (.inl rfl) | exact .inr (.inr rfl))) da_nil)) L.b_zip) (dg_tup hk.calm (dgs_cons (dg_name hk.nd rfl (by first | exact .inl rfl | exact .inr rfl)) (dgs_cons (dg_name hk.nd rfl (by first | exact .inl rfl | exact .inr rfl)) dgs_nil))) (dss_cons (ds_aug hk.nd rfl (by first | exact .inl rfl | exact .inr rfl) (de_op od_subI (de_callT cd_int L.b_int (da_cons (de_cmp (od_eq hk.u64) (de_var rfl (by first | exact .inl rfl | exact .inr (.inl rfl) | exact .inr (.inr rfl))) de_str rfl) da_nil)) (de_callT cd_int L.b_int (da_cons (de_cmp (od_eq hk.u64) (de_var rfl (by first | exact .inl rfl | exact .inr (.inl rfl) | exact .inr (.inr rfl))) de_str rfl) da_nil))) oi_add) (dss_one (ds_if (dt_cmp od_ltI (de_var rfl (by first | exact .inl rfl | exact .inr (.inl rfl) | exact .inr (.inr rfl))) de_int rfl) (dss_one (ds_ret de_bl)) dss_nil)))) (dss_one (ds_ret de_bl))))))
theorem fg__law_turning (L : Lw K mg) : FnG prog w K mg base cl 2 (He.ga K "_law_turning") L.fd__law_turning ["_law_pool_here", "_law_things"] sem__law_turning :=
  fn_G L.F__law_turning sc__law_turning fun cdv A outer s H E hk =>
    (dss_cons (ds_par hk.calm hk.nd rfl rfl (by decide) rfl rfl (da_cons (de_callTC (cdc_listA hk.calm) L.b_list (da_cons (de_var rfl (by first | exact .inl rfl | exact .inr (.inl rfl) | exact .inr (.inr rfl))) da_nil)) (da_cons (de_lstC da_nil) da_nil))) (dss_cons (ds_for hk (di_rng1 (da_cons (de_callB cd_len L.b_len (da_cons (de_var rfl (by first | exact .inl rfl | exact .inr (.inl rfl) | exact .inr (.inr rfl))) da_nil)) da_nil) L.b_range) (dg_name hk.nd rfl (by first | exact .inl rfl | exact .inr rfl)) (dss_one (ds_expr (de_cm PySem.F.plainAttrs_list PySem.F.slot_list_append PySem.F.type_list_append mc_append (de_var rfl (by first | exact .inl rfl | exact .inr (.inl rfl) | exact .inr (.inr rfl))) (da_cons (de_cm PySem.F.plainAttrs_list PySem.F.slot_list_pop PySem.F.type_list_pop mc_popAt (de_var rfl (by first | exact .inl rfl | exact .inr (.inl rfl) | exact .inr (.inr rfl))) (da_cons (de_call ((fg__law_take L).mono (by decide)) (run_len _ _) rfl hk L.g__law_take L.F__law_take.kp (b__law_take L.F__law_take) (da_cons (de_var rfl (by first | exact .inl rfl | exact .inr (.inl rfl) | exact .inr (.inr rfl))) (da_cons (de_callB cd_len L.b_len (da_cons (de_var rfl (by first | exact .inl rfl | exact .inr (.inl rfl) | exact .inr (.inr rfl))) da_nil)) da_nil))) da_nil)) da_nil))))) (dss_one (ds_ret (de_var rfl (by first | exact .inl rfl | exact .inr (.inl rfl) | exact .inr (.inr rfl)))))))
theorem fg__law_letters (L : Lw K mg) : FnG prog w K mg base cl 2 (He.ga K "_law_letters") L.fd__law_letters ["_law_pool_here", "_law_count"] sem__law_letters :=
  fn_G L.F__law_letters sc__law_letters fun cdv A outer s H E hk =>
    (dss_one (ds_ret (de_bm PySem.F.plainAttrs_str PySem.F.slot_str_join PySem.F.type_str_join md_join de_str (da_cons (de_lc (own := [("_law_turn", 2)]) hk (di_rng1 (da_cons (de_var rfl (by first | exact .inl rfl | exact .inr (.inl rfl) | exact .inr (.inr rfl))) da_nil) L.b_range) (show BlkOk ["_law_pool_here", "_law_count", "_law_turn"] (defScope st__law_letters) _ [("_law_turn", 2)] from ⟨rfl, by decide +kernel, by decide +kernel, by decide +kernel, by decide +kernel⟩) (Blk.of hk (fun s H C cc fp hk => (dg_name hk.nd rfl (by first | exact .inl rfl | exact .inr rfl))) (fun s H C cc fp hk => dts_nil) (fun s H C cc fp hk => (de_ix ixd_any (de_lst (da_cons de_str (da_cons de_str da_nil))) (de_call ((fg__law_take L).mono (by decide)) (run_len _ _) rfl hk L.g__law_take L.F__law_take.kp (b__law_take L.F__law_take) (da_cons (de_var rfl (by first | exact .inl rfl | exact .inr (.inl rfl) | exact .inr (.inr rfl))) (da_cons de_int da_nil))))))) da_nil))))
theorem fg__law_second (L : Lw K mg) : FnG prog w K mg base cl 3 (He.ga K "_law_second") L.fd__law_second ["_law_pool_here", "_law_letters_here"] sem__law_second :=
  fn_G L.F__law_second sc__law_second fun cdv A outer s H E hk =>
    (dss_cons (ds_set hk.nd rfl (by first | exact .inl rfl | exact .inr rfl) (de_call ((fg__law_take L).mono (by decide)) (run_len _ _) rfl hk L.g__law_take L.F__law_take.kp (b__law_take L.F__law_take) (da_cons (de_var rfl (by first | exact .inl rfl | exact .inr (.inl rfl) | exact .inr (.inr rfl))) (da_cons de_int da_nil)))) (dss_cons (ds_if (dt_cmp (od_eq hk.u64) (de_var rfl (by first | exact .inl rfl | exact .inr (.inl rfl) | exact .inr (.inr rfl))) de_int rfl) (dss_one (ds_ret (de_bm PySem.F.plainAttrs_str PySem.F.slot_str_join PySem.F.type_str_join md_join de_str (da_cons (de_call ((fg__law_turning L).mono (by decide)) (run_len _ _) rfl hk L.g__law_turning L.F__law_turning.kp (b__law_turning L.F__law_turning) (da_cons (de_var rfl (by first | exact .inl rfl | exact .inr (.inl rfl) | exact .inr (.inr rfl))) (da_cons (de_callT (cd_listA hk.calm) L.b_list (da_cons (de_var rfl (by first | exact .inl rfl | exact .inr (.inl rfl) | exact .inr (.inr rfl))) da_nil)) da_nil))) da_nil)))) dss_nil) (dss_cons (ds_if (dt_cmp (od_eq hk.u64) (de_var rfl (by first | exact .inl rfl | exact .inr (.inl rfl) | exact .inr (.inr rfl))) de_int rfl) (dss_one (ds_ret (de_revS (de_bm PySem.F.plainAttrs_str PySem.F.slot_str_join PySem.F.type_str_join md_join de_str (da_cons (de_callB (cd_sorted hk.calm) L.b_sorted (da_cons (de_var rfl (by first | exact .inl rfl | exact .inr (.inl rfl) | exact .inr (.inr rfl))) da_nil)) da_nil))))) dss_nil) (dss_cons (ds_set hk.nd rfl (by first | exact .inl rfl | exact .inr rfl) (de_callTC (cdc_listA hk.calm) L.b_list (da_cons (de_var rfl (by first | exact .inl rfl | exact .inr (.inl rfl) | exact .inr (.inr rfl))) da_nil))) (dss_cons (ds_for hk (di_rng1 (da_cons (de_op od_mulI (de_var rfl (by first | exact .inl rfl | exact .inr (.inl rfl) | exact .inr (.inr rfl))) (de_callT cd_int L.b_int (da_cons (de_cmp od_gtI (de_callB cd_len L.b_len (da_cons (de_var rfl (by first | exact .inl rfl | exact .inr (.inl rfl) | exact .inr (.inr rfl))) da_nil)) de_int rfl) da_nil))) da_nil) L.b_range) (dg_name hk.nd rfl (by first | exact .inl rfl | exact .inr rfl)) (dss_cons (ds_set hk.nd rfl (by first | exact .inl rfl | exact .inr rfl) (de_call ((fg__law_take L).mono (by decide)) (run_len _ _) rfl hk L.g__law_take L.F__law_take.kp (b__law_take L.F__law_take) (da_cons (de_var rfl (by first | exact .inl rfl | exact .inr (.inl rfl) | exact .inr (.inr rfl))) (da_cons (de_op od_subI (de_callB cd_len L.b_len (da_cons (de_var rfl (by first | exact .inl rfl | exact .inr (.inl rfl) | exact .inr (.inr rfl))) da_nil)) de_int) da_nil)))) (dss_one (ds_asg (de_tup (da_cons (de_ix ixd_any (de_var rfl (by first | exact .inl rfl | exact .inr (.inl rfl) | exact .inr (.inr rfl))) (de_op od_add (de_var rfl (by first | exact .inl rfl | exact .inr (.inl rfl) | exact .inr (.inr rfl))) de_int)) (da_cons (de_ix ixd_any (de_var rfl (by first | exact .inl rfl | exact .inr (.inl rfl) | exact .inr (.inr rfl))) (de_var rfl (by first | exact .inl rfl | exact .inr (.inl rfl) | exact .inr (.inr rfl)))) da_nil))) (dh_tup hk.calm (dhs_cons (dh_sub std_list (de_var rfl (by first | exact .inl rfl | exact .inr (.inl rfl) | exact .inr (.inr rfl))) (de_var rfl (by first | exact .inl rfl | exact .inr (.inl rfl) | exact .inr (.inr rfl)))) (dhs_cons (dh_sub std_list (de_var rfl (by first | exact .inl rfl | exact .inr (.inl rfl) | exact .inr (.inr rfl))) (de_op od_add (de_var rfl (by first | exact .inl rfl | exact .inr (.inl rfl) | exact .inr (.inr rfl))) de_int)) dhs_nil))))))) (dss_one (ds_ret (de_bm PySem.F.plainAttrs_str PySem.F.slot_str_join PySem.F.type_str_join md_join de_str (da_cons (de_var rfl (by first | exact .inl rfl | exact .inr (.inl rfl) | exact .inr (.inr rfl))) da_nil)))))))))
theorem fg_law (L : Lw K mg) : FnG prog w K mg base cl 4 (He.ga K "law") L.fd_law ["_law_script"] sem_law :=
  fn_G L.F_law sc_law fun cdv A outer s H E hk =>
    (dss_cons (ds_for hk (di_rng1 (da_cons (de_callB (cd_max2 hk.calm) L.b_max (da_cons de_int (da_cons (de_callB (cd_min2 hk.calm) L.b_min (da_cons (de_callB cd_len L.b_len (da_cons (de_var rfl (by first | exact .inl rfl | exact .inr (.inl rfl) | exact .inr (.inr rfl))) da_nil)) (da_cons de_int da_nil))) da_nil))) da_nil) L.b_range) (dg_name hk.nd rfl (by first | exact .inl rfl | exact .inr rfl)) (dss_cons (ds_set hk.nd rfl (by first | exact .inl rfl | exact .inr rfl) (de_callC ((fg__law_pool L).mono (by decide)) (runC_len _ _) rfl hk L.g__law_pool L.F__law_pool.kp (b__law_pool L.F__law_pool) (da_cons (de_var rfl (by first | exact .inl rfl | exact .inr (.inl rfl) | exact .inr (.inr rfl))) (da_cons (de_var rfl (by first | exact .inl rfl | exact .inr (.inl rfl) | exact .inr (.inr rfl))) da_nil)))) (dss_cons (ds_set hk.nd rfl (by first | exact .inl rfl | exact .inr rfl) (de_call ((fg__law_letters L).mono (by decide)) (run_len _ _) rfl hk L.g__law_letters L.F__law_letters.kp (b__law_letters L.F__law_letters) (da_cons (de_var rfl (by first | exact .inl rfl | exact .inr (.inl rfl) | exact .inr (.inr rfl))) (da_cons (de_call ((fg__law_take L).mono (by decide)) (run_len _ _) rfl hk L.g__law_take L.F__law_take.kp (b__law_take L.F__law_take) (da_cons (de_var rfl (by first | exact .inl rfl | exact .inr (.inl rfl) | exact .inr (.inr rfl))) (da_cons de_int da_nil))) da_nil)))) (dss_cons (ds_set hk.nd rfl (by first | exact .inl rfl | exact .inr rfl) (de_call ((fg__law_second L).mono (by decide)) (run_len _ _) rfl hk L.g__law_second L.F__law_second.kp (b__law_second L.F__law_second) (da_cons (de_var rfl (by first | exact .inl rfl | exact .inr (.inl rfl) | exact .inr (.inr rfl))) (da_cons (de_var rfl (by first | exact .inl rfl | exact .inr (.inl rfl) | exact .inr (.inr rfl))) da_nil)))) (dss_cons (ds_set hk.nd rfl (by first | exact .inl rfl | exact .inr rfl) (de_lst (da_cons (de_call ((fg_dominates L).mono (by decide)) (run_len _ _) rfl hk L.g_dominates L.F_dominates.kp (b_dominates L.F_dominates) (da_cons (de_var rfl (by first | exact .inl rfl | exact .inr (.inl rfl) | exact .inr (.inr rfl))) (da_cons (de_var rfl (by first | exact .inl rfl | exact .inr (.inl rfl) | exact .inr (.inr rfl))) da_nil))) (da_cons (de_call ((fg_dominates L).mono (by decide)) (run_len _ _) rfl hk L.g_dominates L.F_dominates.kp (b_dominates L.F_dominates) (da_cons (de_var rfl (by first | exact .inl rfl | exact .inr (.inl rfl) | exact .inr (.inr rfl))) (da_cons (de_var rfl (by first | exact .inl rfl | exact .inr (.inl rfl) | exact .inr (.inr rfl))) da_nil))) da_nil)))) (dss_cons (ds_if (dt_cmp (od_ne hk.u64) (de_callB (cd_repr hk.gd hk.u64) L.b_repr (da_cons (de_var rfl (by first | exact .inl rfl | exact .inr (.inl rfl) | exact .inr (.inr rfl))) da_nil)) (de_callB (cd_repr hk.gd hk.u64) L.b_repr (da_cons (de_lst (da_cons (de_call ((fg__law_due L).mono (by decide)) (run_len _ _) rfl hk L.g__law_due L.F__law_due.kp (b__law_due L.F__law_due) (da_cons (de_var rfl (by first | exact .inl rfl | exact .inr (.inl rfl) | exact .inr (.inr rfl))) (da_cons (de_var rfl (by first | exact .inl rfl | exact .inr (.inl rfl) | exact .inr (.inr rfl))) da_nil))) (da_cons (de_call ((fg__law_due L).mono (by decide)) (run_len _ _) rfl hk L.g__law_due L.F__law_due.kp (b__law_due L.F__law_due) (da_cons (de_var rfl (by first | exact .inl rfl | exact .inr (.inl rfl) | exact .inr (.inr rfl))) (da_cons (de_var rfl (by first | exact .inl rfl | exact .inr (.inl rfl) | exact .inr (.inr rfl))) da_nil))) da_nil))) da_nil)) rfl) (dss_one (ds_ret de_bl)) dss_nil) (dss_one (ds_if (DW.dt (dw_or (dt_cmp od_not (de_callK0 ((fg_dominates L).mono (by decide)) (run_len _ _) rfl hk L.g_dominates L.F_dominates.kp (kb_dominates_turns_other L.F_dominates) (dk_cons (de_var rfl (by first | exact .inl rfl | exact .inr (.inl rfl) | exact .inr (.inr rfl))) (dk_cons (de_var rfl (by first | exact .inl rfl | exact .inr (.inl rfl) | exact .inr (.inr rfl))) dk_nil))) de_bl rfl) (dw_or1 (dt_cmp od_not (de_call ((fg_dominates L).mono (by decide)) (run_len _ _) rfl hk L.g_dominates L.F_dominates.kp (b_dominates L.F_dominates) (da_cons (de_bm PySem.F.plainAttrs_str PySem.F.slot_str_join PySem.F.type_str_join md_join de_str (da_cons (de_callB (cd_sorted hk.calm) L.b_sorted (da_cons (de_var rfl (by first | exact .inl rfl | exact .inr (.inl rfl) | exact .inr (.inr rfl))) da_nil)) da_nil)) (da_cons (de_var rfl (by first | exact .inl rfl | exact .inr (.inl rfl) | exact .inr (.inr rfl))) da_nil))) de_bl rfl)))) (dss_one (ds_ret de_bl)) dss_nil)))))))) (dss_one (ds_ret (de_cmp od_is (de_call ((fg_dominates L).mono (by decide)) (run_len _ _) rfl hk L.g_dominates L.F_dominates.kp (b_dominates L.F_dominates) (da_cons de_str (da_cons de_str da_nil))) de_bl rfl))))
end
/-! ### the head -/
def dd_is_letters : He.DefD := ⟨("is_letters", none), "is_letters", "is_letters", defArgs st_is_letters, defBody st_is_letters, defScope st_is_letters, [], []⟩
def dd__law_pool : He.DefD := ⟨("_law_pool", none), "_law_pool", "_law_pool", defArgs st__law_pool, defBody st__law_pool, defScope st__law_pool, [], []⟩
def dd__law_take : He.DefD := ⟨("_law_take", none), "_law_take", "_law_take", defArgs st__law_take, defBody st__law_take, defScope st__law_take, [], []⟩
def dd__law_due : He.DefD := ⟨("_law_due", none), "_law_due", "_law_due", defArgs st__law_due, defBody st__law_due, defScope st__law_due, [], []⟩
def dd_dominates : He.DefD := ⟨("dominates", none), "dominates", "dominates", defArgs st_dominates, defBody st_dominates, defScope st_dominates, [], []⟩
def dd__law_turning : He.DefD := ⟨("_law_turning", none), "_law_turning", "_law_turning", defArgs st__law_turning, defBody st__law_turning, defScope st__law_turning, [], []⟩
def dd__law_letters : He.DefD := ⟨("_law_letters", none), "_law_letters", "_law_letters", defArgs st__law_letters, defBody st__law_letters, defScope st__law_letters, [], []⟩
def dd__law_second : He.DefD := ⟨("_law_second", none), "_law_second", "_law_second", defArgs st__law_second, defBody st__law_second, defScope st__law_second, [], []⟩
def dd_law : He.DefD := ⟨("law", none), "law", "law", defArgs st_law, defBody st_law, defScope st_law, [], []⟩
def fn : List He.DefD := [dd_is_letters, dd__law_pool, dd__law_take, dd__law_due, dd_dominates, dd__law_turning, dd__law_letters, dd__law_second, dd_law]
def fa : List He.Fa := [.glo "is_letters", .glo "_law_pool", .glo "_law_take", .glo "_law_due", .glo "dominates", .glo "_law_turning", .glo "_law_letters", .glo "_law_second", .glo "law", .free "abs", .free "all", .free "int", .free "isinstance", .free "len", .free "list", .free "max", .free "min", .free "range", .free "repr", .free "sorted", .free "str", .free "zip", .int "MAX_ITEMS" 40, .glo "PLAYERS"]
def ex (K : PySem.W.Frag) : Bool := true && He.tupB K "PLAYERS" [.str "A", .str "B"]
abbrev R : PySem.W.OpenRow := PySem.W.OpenLaw.row PySem.Challenge.rw_lastchoicefirst_k48_dominates
abbrev hook : PySem.W.Hook := He.hookX 4 fa fn [] [] ex
def ob (s : PySem.W.SharedT) : He.AlX := He.obsX 4 fa fn [] [] ex (HandSHeadRun.getT s)
theorem ob_eq (s : PySem.W.SharedT) : ob s = hook.obs s.abs := He.obsX_eq (HandSHeadRun.getT_eq s)
theorem runs (w : World) : HandSHeadRun.RunEq R (PySem.W.view R.prog [15]) hook ob 4000 ["PickingError", "InvalidTurns", "MAX_ITEMS", "PLAYERS", "is_letters", "dominates", "_law_pool", "_law_take", "_law_turning", "_law_letters", "_law_second", "_law_due"] w := by
  intro os
  kernel_rfl
theorem lw_of {w : World} {h : Heap} {K : PySem.W.Frag} {mg : Str → Option Value} (X : K.In h) (G : h.Ns mainGlobals mg) (c : He.SaysX fa fn [] [] ex w h K) : Nonempty (Lw K mg) := by
  have cd : He.SaysD fa fn K := c.t.d
  obtain ⟨fd_is_letters, F_is_letters⟩ := cd.def_ 0 (d := dd_is_letters) rfl
  obtain ⟨fd__law_pool, F__law_pool⟩ := cd.def_ 1 (d := dd__law_pool) rfl
  obtain ⟨fd__law_take, F__law_take⟩ := cd.def_ 2 (d := dd__law_take) rfl
  obtain ⟨fd__law_due, F__law_due⟩ := cd.def_ 3 (d := dd__law_due) rfl
  obtain ⟨fd_dominates, F_dominates⟩ := cd.def_ 4 (d := dd_dominates) rfl
  obtain ⟨fd__law_turning, F__law_turning⟩ := cd.def_ 5 (d := dd__law_turning) rfl
  obtain ⟨fd__law_letters, F__law_letters⟩ := cd.def_ 6 (d := dd__law_letters) rfl
  obtain ⟨fd__law_second, F__law_second⟩ := cd.def_ 7 (d := dd__law_second) rfl
  obtain ⟨fd_law, F_law⟩ := cd.def_ 8 (d := dd_law) rfl
  have e_PLAYERS : He.tupB K "PLAYERS" [.str "A", .str "B"] = true := by
    have h := c.more
    simp only [ex, Bool.and_eq_true] at h
    exact h.2
  obtain ⟨k_MAX_ITEMS, g_MAX_ITEMS⟩ := He.int_ok X G (cd.fact 22 (f := .int "MAX_ITEMS" 40) rfl)
  exact ⟨⟨fd_is_letters, F_is_letters, He.glo_ok X G (cd.fact 0 (f := .glo "is_letters") rfl), fd__law_pool, F__law_pool, He.glo_ok X G (cd.fact 1 (f := .glo "_law_pool") rfl), fd__law_take, F__law_take, He.glo_ok X G (cd.fact 2 (f := .glo "_law_take") rfl), fd__law_due, F__law_due, He.glo_ok X G (cd.fact 3 (f := .glo "_law_due") rfl), fd_dominates, F_dominates, He.glo_ok X G (cd.fact 4 (f := .glo "dominates") rfl), fd__law_turning, F__law_turning, He.glo_ok X G (cd.fact 5 (f := .glo "_law_turning") rfl), fd__law_letters, F__law_letters, He.glo_ok X G (cd.fact 6 (f := .glo "_law_letters") rfl), fd__law_second, F__law_second, He.glo_ok X G (cd.fact 7 (f := .glo "_law_second") rfl), fd_law, F_law, He.glo_ok X G (cd.fact 8 (f := .glo "law") rfl), He.free_ok X G (cd.fact 9 (f := .free "abs") rfl), He.free_ok X G (cd.fact 10 (f := .free "all") rfl), He.free_ok X G (cd.fact 11 (f := .free "int") rfl), He.free_ok X G (cd.fact 12 (f := .free "isinstance") rfl), He.free_ok X G (cd.fact 13 (f := .free "len") rfl), He.free_ok X G (cd.fact 14 (f := .free "list") rfl), He.free_ok X G (cd.fact 15 (f := .free "max") rfl), He.free_ok X G (cd.fact 16 (f := .free "min") rfl), He.free_ok X G (cd.fact 17 (f := .free "range") rfl), He.free_ok X G (cd.fact 18 (f := .free "repr") rfl), He.free_ok X G (cd.fact 19 (f := .free "sorted") rfl), He.free_ok X G (cd.fact 20 (f := .free "str") rfl), He.free_ok X G (cd.fact 21 (f := .free "zip") rfl), k_MAX_ITEMS, g_MAX_ITEMS, He.glo_ok X G (cd.fact 23 (f := .glo "PLAYERS") rfl), fun H => He.tupB_ok e_PLAYERS H⟩⟩
end K48

namespace K48
open PySem L2 DL
open PySem.Spec PyProof.Rows
/-- a pool -/
def Pool (c : C) : Prop := ∃ a b : Int, c = .lst [.int a, .int b] ∧ 0 ≤ a ∧ 0 ≤ b ∧ b < 2147483647
theorem take_spec {c : C} {n : Int} (hc : Pool c) (hn : 0 < n) (hn2 : n < 1000000) : ∃ c' r, Pool c' ∧ 0 ≤ r ∧ r < n ∧ sem__law_take [c] [.ptr 0, .int n] = .ok (.int r) ⟨[], [some c']⟩ := by
  obtain ⟨a, b, rfl, ha, hb, hb2⟩ := hc
  by_cases h : 0 < a
  · refine ⟨.lst [.int (a / n), .int b], a % n, ⟨_, _, rfl, Int.ediv_nonneg ha (by omega), hb, hb2⟩, Int.emod_nonneg _ (by omega), Int.emod_lt_of_pos _ hn, ?_⟩
    simp [sem__law_take, m__law_take, atI, ixN, h, hn, show n < 1073741824 by omega]
  · have e : (small64 b || small64 48271) = true := by rw [small64_of hb (by omega)]; rfl
    have hx : 0 ≤ (b * 48271 + 12345) % 2147483647 := Int.emod_nonneg _ (by decide)
    have hy : (b * 48271 + 12345) % 2147483647 < 2147483647 := Int.emod_lt_of_pos _ (by decide)
    have e2 : small64 ((b * 48271 + 12345) % 2147483647) = true := small64_of hx (by omega)
    refine ⟨.lst [.int a, .int ((b * 48271 + 12345) % 2147483647)], ((b * 48271 + 12345) % 2147483647) * ((b * 48271 + 12345) % 2147483647) % 2147483629 / 64 % n, ⟨_, _, rfl, ha, hx, hy⟩, Int.emod_nonneg _ (by omega), Int.emod_lt_of_pos _ hn, ?_⟩
    simp [sem__law_take, m__law_take, atI, ixN, h, hn, e, e2]
theorem pool_spec {ns : List Int} {k : Nat} (hk : k < 1000) : ∃ c, Pool c ∧ sem__law_pool [] [.slst (ns.map .int), .int k] = .ok (.ptr 0) ⟨[], [some c]⟩ := by
  obtain ⟨L, hp, hL⟩ : ∃ L : Int, dPowI (.int 10) (.int 18) = some (.int L) ∧ 0 < L := ⟨_, rfl, by decide⟩
  have s1 : small64 7919 = true := rfl
  have s2 : small64 31 = true := rfl
  have s3 : small64 48271 = true := rfl
  have sk : small64 (k : Int) = true := small64_of (by omega) (by omega)
  have key : ∀ c : Int, 0 ≤ c → ∃ x, 0 ≤ x ∧ x < 2147483647 ∧ (c % 2147483629 + 7919 * (k : Int) * (k : Int) + 31 * (k : Int) + 17) * 48271 % 2147483647 = x := fun c _ => ⟨_, Int.emod_nonneg _ (by decide), Int.emod_lt_of_pos _ (by decide), rfl⟩
  have fin : ∀ c : Int, 0 ≤ c → ∃ y : C, Pool y ∧ (.lst [.int (c * (if L ≤ c then 1 else 0)), .int ((c % 2147483629 + 7919 * (k : Int) * (k : Int) + 31 * (k : Int) + 17) * 48271 % 2147483647 * ((c % 2147483629 + 7919 * (k : Int) * (k : Int) + 31 * (k : Int) + 17) * 48271 % 2147483647) % 2147483629)]) = y := fun c hc => by
    refine ⟨_, ⟨_, _, rfl, ?_, Int.emod_nonneg _ (by decide), ?_⟩, rfl⟩
    · split
      · omega
      · omega
    · have := Int.emod_lt_of_pos ((c % 2147483629 + 7919 * (k : Int) * (k : Int) + 31 * (k : Int) + 17) * 48271 % 2147483647 * ((c % 2147483629 + 7919 * (k : Int) * (k : Int) + 31 * (k : Int) + 17) * 48271 % 2147483647)) (show (0 : Int) < 2147483629 by decide)
      omega
  have sm : ∀ c : Int, small64 ((c % 2147483629 + 7919 * (k : Int) * (k : Int) + 31 * (k : Int) + 17) * 48271 % 2147483647) = true := fun c => small64_of (Int.emod_nonneg _ (by decide)) (by have := Int.emod_lt_of_pos ((c % 2147483629 + 7919 * (k : Int) * (k : Int) + 31 * (k : Int) + 17) * 48271) (show (0 : Int) < 2147483647 by decide); omega)
  have si : ∀ c : Int, small64 (if L ≤ c then 1 else 0) = true := fun c => by split <;> rfl
  by_cases h : k < ns.length
  · have hat : atI (ns.map D.int) (k : Int) = some (.int ns[k]) := by rw [atI_nat (by simpa using h)]; simp [h]
    obtain ⟨y, hy, e⟩ := fin (if ns[k] < 0 then -ns[k] else ns[k]) (by split <;> omega)
    refine ⟨y, hy, ?_⟩
    subst e
    simp [sem__law_pool, m__law_pool, h, hat, hp, s1, s2, s3, sk, sm, si]
  · obtain ⟨y, hy, e⟩ := fin 0 (by omega)
    refine ⟨y, hy, ?_⟩
    subst e
    have sm0 := sm 0
    simp only [Int.zero_emod, Int.zero_add] at sm0
    have s0 : small64 0 = true := rfl
    simp [sem__law_pool, m__law_pool, h, hp, hL, show ¬ L ≤ 0 by omega, s0, s1, s2, s3, sk, sm0, si]

/-! ### letters -/
def lc (b : Bool) : Nat := if b then 65 else 66
def lt (b : Bool) : Str := ⟨#[lc b]⟩
def ltr (l : List Bool) : Str := ⟨(l.map lc).toArray⟩
theorem lt_A : ("A" : Str) = lt true := by decide +kernel
theorem lt_B : ("B" : Str) = lt false := by decide +kernel
theorem lt_inj {a b : Bool} (h : lt a = lt b) : a = b := by
  cases a <;> cases b <;> first | rfl | exact absurd h (by decide +kernel)
theorem lt_eq (a b : Bool) : decide (lt a = lt b) = (a == b) := by
  cases a <;> cases b <;> decide +kernel
theorem ltr_len (l : List Bool) : (ltr l).length = l.length := by simp [ltr, Str.length]
theorem ltr_cps (l : List Bool) : (ltr l).cps.toList = l.map lc := by simp [ltr]
theorem join_lt (l : List Bool) : Txt.join ("" : Str) (l.map lt) = ltr l := by
  have e0 : ("" : Str) = SX.S [] := by decide +kernel
  have e1 : l.map lt = (l.map fun b => [lc b]).map SX.S := by
    rw [List.map_map]; rfl
  rw [e0, e1, SX.join_S]
  have e2 : ∀ l : List Bool, TL.joinL [] (l.map fun b => [lc b]) = l.map lc := by
    intro l
    induction l with
    | nil => rfl
    | cons b l ih =>
      cases l with
      | nil => rfl
      | cons b2 l => exact congrArg (lc b :: ·) ih
  rw [e2]; rfl
theorem sum_lt (l : List Bool) : ((l.map lt).map (·.length)).sum = l.length := by
  induction l with
  | nil => rfl
  | cons b l ih =>
    rw [List.map_cons, List.map_cons, List.sum_cons, ih, List.length_cons, Nat.add_comm]
    rfl
/-- letters, as data -/
def lts (l : List Bool) : List D := (l.map lt).map D.str
theorem lts_len (l : List Bool) : (lts l).length = l.length := by simp [lts]
theorem lts_app (l m : List Bool) : lts (l ++ m) = lts l ++ lts m := by simp [lts]
theorem lts_at (l : List Bool) (i : Nat) : (lts l)[i]? = l[i]?.map fun b => D.str (lt b) := by simp [lts]; cases l[i]? <;> rfl
@[simp] theorem npL_lts (l : List Bool) : npL (lts l) = true := npL_strs _
@[simp] theorem nmL_lts (l : List Bool) : nmL (lts l) = true := nmL_strs _
@[simp] theorem strsD_lts (l : List Bool) : strsD (lts l) = some (l.map lt) := strsD_map _
theorem join_lts (l : List Bool) (h : l.length ≤ 1000000) : dJoin (.str "") (.lst (lts l)) = some (.str (ltr l)) := by
  have e0 : ("" : Str).length = 0 := by decide +kernel
  simp only [dJoin, seqD_lst, Option.bind_some, strsD_lts, sum_lt, e0, Nat.mul_zero, Nat.add_zero, join_lt]
  rw [if_pos (by omega)]
theorem letters_spec {c : C} {n : Nat} (hc : Pool c) (hn : n < 1000) : ∃ c' l, Pool c' ∧ l.length = n ∧ sem__law_letters [c] [.ptr 0, .int n] = .ok (.str (ltr l)) ⟨[], [some c']⟩ := by
  obtain ⟨acc, M', ⟨l, hl, rfl, c', hc', rfl⟩, _, h3⟩ := lcL_all (d := .tup [.int 0, .int n]) (M0 := [some c]) (env0 := [some (.ptr 0), some (.int n), none]) (g := gVar 2) (tt := tYesM) (fe := e1__law_letters) (ds := (List.range n).map fun (i : Nat) => D.int i)
    (fun i acc M => ∃ l : List Bool, l.length = i ∧ acc = lts l ∧ ∃ c', Pool c' ∧ M = [some c']) (M := [some c]) (fun i x acc M hx ⟨l, hl, e1, c1, hc1, e2⟩ => by
      subst e1 e2
      obtain ⟨c2, r, hc2, h0, h1, h2⟩ := take_spec (n := 2) hc1 (by decide) (by decide)
      obtain ⟨a, b, rfl, _⟩ := hc1
      obtain ⟨a2, b2, rfl, _⟩ := id hc2
      have hr : r = 0 ∨ r = 1 := by omega
      refine ⟨⟨[some (.ptr 0), some (.int n), some x], [some (.lst [.int a, .int b])]⟩, ⟨[some (.ptr 0), some (.int n), some x], [some (.lst [.int a, .int b])]⟩, .str (lt (decide (r = 0))), ⟨[some (.ptr 0), some (.int n), some x], [some (.lst [.int a2, .int b2])]⟩, by simp, by simp, ?_, by simp, l ++ [decide (r = 0)], by simp [hl], by rw [lts_app]; rfl, _, hc2, rfl⟩
      simp [e1__law_letters, callS, h2]
      rcases hr with rfl | rfl <;> simp [atI, ixN, lt_A, lt_B]) (by simp; omega) ⟨[], rfl, rfl, c, hc, rfl⟩
  have hlen : l.length = n := by simpa using hl
  refine ⟨c', l, hc', hlen, ?_⟩
  obtain ⟨a, b, rfl, _⟩ := hc
  obtain ⟨a2, b2, rfl, _⟩ := hc'
  have rng : rngOk (n : Int) = true := by simp [rngOk]; omega
  simp [sem__law_letters, m__law_letters, rng, h3, join_lts l (by omega)]

theorem perm_np {xs ys : List D} (h : ys.Perm xs) (hx : npL xs = true) : npL ys = true := npL_iff.mpr fun y hy => npL_iff.mp hx y (h.mem_iff.mp hy)
theorem erase_perm {α : Type} : ∀ {l : List α} {k : Nat} (h : k < l.length), (l[k] :: l.eraseIdx k).Perm l
  | x :: l, 0, _ => List.Perm.refl _
  | x :: l, k + 1, h => by
    have ih := erase_perm (l := l) (k := k) (by simpa using h)
    exact (List.Perm.swap _ _ _).trans (List.Perm.cons x ih)
theorem turning_spec {c : C} {xs : List D} (hc : Pool c) (hx : npL xs = true) (hl : xs.length < 1000000) : ∃ c' ys, Pool c' ∧ ys.Perm xs ∧ sem__law_turning [c] [.ptr 0, .lst xs] = .ok (.lst ys) ⟨[], [some c']⟩ := by
  obtain ⟨n, hn⟩ : ∃ n, n = xs.length := ⟨_, rfl⟩
  have rng : rngOk (xs.length : Int) = true := by simp [rngOk]; omega
  obtain ⟨s', ⟨c', left, found, o, hc', h1, h2, h3, rfl⟩, h⟩ := forL_inv (d := .tup [.int 0, .int xs.length]) (M0 := [some c, some (.lst xs), some (.lst [])]) (g := gVar 4) (body := b1__law_turning) (els := sNx) (ds := (List.range xs.length).map fun (i : Nat) => D.int i)
    (fun i s => ∃ (c' : C) (left found : List D) (o : Option D), Pool c' ∧ (found ++ left).Perm xs ∧ found.length = i ∧ left.length + i = xs.length ∧ s = ⟨[some (.ptr 0), some (.lst xs), some (.ptr 1), some (.ptr 2), o], [some c', some (.lst left), some (.lst found)]⟩)
    (fun i x s e ⟨c1, left, found, o, hc1, h1, h2, h3, e1⟩ => by
      subst e1
      have hi : i < xs.length := by have := (List.getElem?_eq_some_iff.mp e).1; simpa using this
      obtain ⟨c2, r, hc2, r0, r1, ht⟩ := take_spec (n := (left.length : Int)) hc1 (by omega) (by omega)
      obtain ⟨k, rfl⟩ : ∃ k : Nat, r = (k : Int) := ⟨r.toNat, by omega⟩
      have hk : k < left.length := by omega
      obtain ⟨a, b, rfl, _⟩ := hc1
      obtain ⟨a2, b2, rfl, _⟩ := id hc2
      have hp : (found ++ [left[k]] ++ left.eraseIdx k).Perm xs := by
        refine List.Perm.trans ?_ h1
        rw [List.append_assoc]
        exact List.Perm.append_left _ (erase_perm hk)
      have nl : npL left = true := npL_iff.mpr fun y hy => npL_iff.mp (perm_np h1 hx) y (List.mem_append_right _ hy)
      refine ⟨⟨[some (.ptr 0), some (.lst xs), some (.ptr 1), some (.ptr 2), some x], [some (.lst [.int a, .int b]), some (.lst left), some (.lst found)]⟩, _, by simp, .inl ?_, by simp, _, left.eraseIdx k, found ++ [left[k]], some x, hc2, hp, by simp [h2], ?_, rfl⟩
      · simp [b1__law_turning, callS, ht, cPopAt, ixN_nat hk, show left.length ≤ 1000000 by omega, hk, cAppend, show found.length < 1000000 by omega]
      · rw [List.length_eraseIdx, if_pos hk]; omega) (s := ⟨[some (.ptr 0), some (.lst xs), some (.ptr 1), some (.ptr 2), none], [some c, some (.lst xs), some (.lst [])]⟩) ⟨c, xs, [], none, hc, by simp, rfl, by simp, rfl⟩
  have hz : left = [] := by
    refine List.eq_nil_of_length_eq_zero ?_
    rw [List.length_map, List.length_range] at h3
    omega
  subst hz
  rw [List.append_nil] at h1
  obtain ⟨a, b, rfl, _⟩ := hc
  obtain ⟨a2, b2, rfl, _⟩ := id hc'
  refine ⟨_, found, hc', h1, ?_⟩
  simp [sem__law_turning, m__law_turning, lstOf, rng, h, outD, perm_np h1 hx]
  trace_state
end K48

namespace K48
open PySem L2 DL
open PySem.Spec PyProof.Rows
theorem map_perm {α β : Type} {f : α → β} : ∀ {ys zs : List β}, ys.Perm zs → ∀ {l : List α}, ys = l.map f → ∃ l', zs = l'.map f ∧ l.Perm l' := by
  intro ys zs h
  induction h with
  | nil => intro l e; exact ⟨[], rfl, by rw [List.map_eq_nil_iff.mp e.symm]⟩
  | cons x _ ih =>
    intro l e
    cases l with
    | nil => cases e
    | cons a l =>
      injection e with e1 e2
      obtain ⟨l', e3, p⟩ := ih e2
      exact ⟨a :: l', by rw [e3, e1]; rfl, p.cons a⟩
  | swap x y r =>
    intro l e
    match l, e with
    | a :: b :: l, e =>
      injection e with e1 e2
      injection e2 with e2 e3
      exact ⟨b :: a :: l, by rw [e1, e2, e3]; rfl, List.Perm.swap _ _ _⟩
  | trans _ _ ih1 ih2 =>
    intro l e
    obtain ⟨l1, e1, p1⟩ := ih1 e
    obtain ⟨l2, e2, p2⟩ := ih2 e1
    exact ⟨l2, e2, p1.trans p2⟩
theorem lts_perm {ys : List D} {l : List Bool} (h : ys.Perm (lts l)) : ∃ l', ys = lts l' ∧ l'.Perm l := by
  have e : lts l = l.map fun b => D.str (lt b) := by simp [lts]
  obtain ⟨l', e1, p⟩ := map_perm (f := fun b => D.str (lt b)) h.symm e
  exact ⟨l', by rw [e1]; simp [lts], p.symm⟩
theorem swap_perm {α : Type} : ∀ {l : List α} {i : Nat} (h : i + 1 < l.length), ((l.set i l[i + 1]).set (i + 1) l[i]).Perm l
  | a :: b :: l, 0, _ => List.Perm.swap _ _ _
  | a :: l, i + 1, h => (swap_perm (l := l) (i := i) (by simpa using h)).cons a
theorem signs_ltr (l : List Bool) : signs (ltr l) = l.map lt := by
  simp [signs, ltr, lt]
/-- the letters in their order -/
def sortB (l : List Bool) : List Bool := List.replicate (l.count true) true ++ List.replicate (l.count false) false
theorem sortB_perm (l : List Bool) : (sortB l).Perm l := by
  refine List.perm_iff_count.mpr fun b => ?_
  unfold sortB
  rw [List.count_append, List.count_replicate, List.count_replicate]
  cases b <;> simp
theorem sortB_len (l : List Bool) : (sortB l).length = l.length := (sortB_perm l).length_eq
theorem sort_lt (l : List Bool) : sortS (l.map lt) = (sortB l).map lt := by
  symm
  refine sortS_eq ((sortB_perm l).map lt) (sortedS_of_pairwise _ ?_)
  unfold sortB
  rw [List.map_append, List.map_replicate, List.map_replicate, List.pairwise_append]
  have key : ∀ a b : Bool, (a = true ∨ b = false) → ltCps (lt b).cps.toList (lt a).cps.toList = false := by
    intro a b h
    cases a <;> cases b <;> first | rfl | simp at h
  refine ⟨?_, ?_, ?_⟩
  · refine List.pairwise_replicate.mpr (.inr (key _ _ (.inl rfl)))
  · refine List.pairwise_replicate.mpr (.inr (key _ _ (.inr rfl)))
  · intro x hx y hy
    rw [List.eq_of_mem_replicate hx, List.eq_of_mem_replicate hy]
    exact key _ _ (.inl rfl)
theorem srt_ltr {l : List Bool} (h : l.length ≤ 1000000) : dSrt [.str (ltr l)] = some (.lst (lts (sortB l))) := by
  have e : le1m (ltr l).length = true := by rw [ltr_len]; exact decide_eq_true h
  simp [dSrt, orC, dSrtS, e, signs_ltr, sort_lt, lts]
theorem lst_ltr {l : List Bool} (h : l.length ≤ 1000000) : lstOf (.str (ltr l)) = some (lts l) := by
  have e : le1m (ltr l).length = true := by rw [ltr_len]; exact decide_eq_true h
  simp [lstOf, e, signs_ltr, lts]
theorem rev_ltr {l : List Bool} (h : l.length ≤ 1000000) : dRev (.str (ltr l)) = some (.str (ltr l.reverse)) := by
  have e : le1m (ltr l).length = true := by rw [ltr_len]; exact decide_eq_true h
  simp only [dRev, e, if_true]
  simp [revS, ltr]
theorem Pool.np {c : C} (h : Pool c) : c.np = true := by
  obtain ⟨_, _, rfl, _⟩ := h
  rfl
/-- a call that writes the first cell -/
theorem call_tf {sem : Sem} {c c' : C} {d r : D} (hs : sem [c] [.ptr 0, d] = .ok r ⟨[], [some c']⟩) (hc : c.np = true) (hd : DL.np d = true) (hr : DL.np r = true) (hc' : c'.np = true) (env : List (Option D)) (M : List (Option C)) :
    callS [true, false] sem [.ptr 0, d] ⟨env, some c :: M⟩ = .ok r ⟨env, some c' :: M⟩ := by
  have nd : ∀ k, d ≠ .ptr k := fun k e => by subst e; cases hd
  unfold callS
  rw [prep_t]
  dsimp only [List.getElem?_cons_zero]
  rw [if_pos hc, prep_fv nd, if_pos hd, prep_nil]
  dsimp only [Option.map_some]
  rw [if_pos ⟨by simp, by simp⟩, hs]
  simp [hr, hc', hc]
theorem second_spec {c : C} {l : List Bool} (hc : Pool c) (hl : l.length < 1000) : ∃ c' l', Pool c' ∧ l'.Perm l ∧ sem__law_second [c] [.ptr 0, .str (ltr l)] = .ok (.str (ltr l')) ⟨[], [some c']⟩ := by
  obtain ⟨c1, w, hc1, w0, w4, h1⟩ := take_spec (n := 4) hc (by decide) (by decide)
  have hlts : (lts l).length < 1000000 := by rw [lts_len]; omega
  by_cases e0 : w = 0
  · subst e0
    obtain ⟨c2, ys, hc2, p, h2⟩ := turning_spec (xs := lts l) hc1 (npL_lts l) hlts
    obtain ⟨l', rfl, p'⟩ := lts_perm p
    have hl' := p'.length_eq
    refine ⟨_, l', hc2, p', ?_⟩
    have t1 := call_tf h1 hc.np rfl rfl hc1.np
    have t2 := call_tf h2 hc1.np (by simp) (by simp) hc2.np
    simp [sem__law_second, m__law_second, t1, t2, hc2.np, lst_ltr (show l.length ≤ 1000000 by omega), join_lts l' (by omega)]
  · by_cases e1 : w = 1
    · subst e1
      have t1 := call_tf h1 hc.np rfl rfl hc1.np
      refine ⟨_, (sortB l).reverse, hc1, (List.reverse_perm _).trans (sortB_perm l), ?_⟩
      simp [sem__law_second, m__law_second, t1, hc1.np, srt_ltr (show l.length ≤ 1000000 by omega), join_lts (sortB l) (by rw [sortB_len]; omega), rev_ltr (l := sortB l) (by rw [sortB_len]; omega)]
    · have t1 := call_tf h1 hc.np rfl rfl hc1.np
      obtain ⟨n, hn⟩ : ∃ n : Nat, w * (if (1 : Int) < ((lts l).length : Int) then 1 else 0) = (n : Int) := ⟨(w * (if (1 : Int) < ((lts l).length : Int) then 1 else 0)).toNat, by split <;> omega⟩
      have hn4 : n < 4 ∧ (0 < n → 1 < l.length) := by
        rw [lts_len] at hn
        split at hn <;> omega
      have rng : rngOk (n : Int) = true := by simp [rngOk]; omega
      obtain ⟨s', ⟨c', l', o1, o2, hc', p', rfl⟩, h⟩ := forL_inv (d := .tup [.int 0, .int n]) (M0 := [some c1, some (.lst (lts l))]) (g := gVar 4) (body := b1__law_second) (els := sNx) (ds := (List.range n).map fun (i : Nat) => D.int i)
        (fun i s => ∃ (c' : C) (l' : List Bool) (o1 o2 : Option D), Pool c' ∧ l'.Perm l ∧ s = ⟨[some (.ptr 0), some (.str (ltr l)), some (.int w), some (.ptr 1), o1, o2], [some c', some (.lst (lts l'))]⟩)
        (fun i x s e ⟨c2, l', o1, o2, hc2, p, e1⟩ => by
          subst e1
          have hi : i < n := by have := (List.getElem?_eq_some_iff.mp e).1; simpa using this
          have hl' := p.length_eq
          obtain ⟨c3, r, hc3, r0, r1, ht⟩ := take_spec (n := (l'.length : Int) - 1) hc2 (by omega) (by omega)
          obtain ⟨k, rfl⟩ : ∃ k : Nat, r = (k : Int) := ⟨r.toNat, by omega⟩
          have hk : k + 1 < (lts l').length := by rw [lts_len]; omega
          have t2 := call_tf ht hc2.np rfl rfl hc3.np
          obtain ⟨l2, e2, p2⟩ := lts_perm (swap_perm hk)
          have a1 : atI (lts l') (k : Int) = some (lts l')[k] := by rw [DL.atI_nat (by omega)]; exact List.getElem?_eq_getElem _
          have a2 : atI (lts l') ((k : Int) + 1) = some (lts l')[k + 1] := by
            rw [show (k : Int) + 1 = ((k + 1 : Nat) : Int) by omega, DL.atI_nat hk]; exact List.getElem?_eq_getElem _
          have i1 : ixN (lts l').length (k : Int) = some k := ixN_nat (by omega)
          have i2 : ixN (lts l').length ((k : Int) + 1) = some (k + 1) := by
            rw [show (k : Int) + 1 = ((k + 1 : Nat) : Int) by omega]; exact ixN_nat hk
          have ll : ((lts l').length : Int) - 1 = (l'.length : Int) - 1 := by rw [lts_len]
          refine ⟨⟨[some (.ptr 0), some (.str (ltr l)), some (.int w), some (.ptr 1), some x, o2], [some c2, some (.lst (lts l'))]⟩, _, by simp, .inl ?_, by simp, c3, l2, some x, some (.int k), hc3, p2.trans p, by rw [← e2]⟩
          simp [b1__law_second, ll, t2, a1, a2, i1, i2]) (s := ⟨[some (.ptr 0), some (.str (ltr l)), some (.int w), some (.ptr 1), none, none], [some c1, some (.lst (lts l))]⟩) ⟨c1, l, none, none, hc1, List.Perm.refl _, rfl⟩
      have hl' := p'.length_eq
      refine ⟨c', l', hc', p', ?_⟩
      have sw : small64 w = true := small64_of w0 (by omega)
      simp [sem__law_second, m__law_second, t1, e0, e1, lst_ltr (show l.length ≤ 1000000 by omega), sw, hn, rng, h, join_lts l' (by omega), hc'.np]
end K48

namespace K48
open PySem L2 DL
open PySem.Spec PyProof.Rows
theorem cps_ltr (l : List Bool) : (ltr l).cps.toList.map (fun c => D.str ⟨#[c]⟩) = lts l := by
  simp [ltr, lt, lts]
theorem in_AB (b : Bool) : dIn (.str (lt b)) (.tup [.str "A", .str "B"]) = some (.bl true) := by
  cases b <;> rfl
theorem isi_ltr (l : List Bool) : dIsi (.str (ltr l)) (.raw (.ty "str")) = some (.bl true) := rfl
theorem all_true : ∀ (xs : List D), dAll (.lst (xs.map fun _ => D.bl true)) = some (.bl true) := by
  intro xs
  have key : ∀ xs : List D, blsD (xs.map fun _ => D.bl true) = some (xs.map fun _ => true) := by
    intro xs
    induction xs with
    | nil => rfl
    | cons x xs ih => simp only [List.map_cons, blsD, ih, Option.map_some]
  simp only [dAll, key, Option.map_some]
  congr 2
  simp
theorem is_letters_spec {l : List Bool} (hl : l.length ≤ 40) : sem_is_letters [] [.str (ltr l)] = .ok (.bl true) ⟨[], []⟩ := by
  have h := lcL_map (d := .str (ltr l)) (M0 := []) (M := []) (env0 := [some (.str (ltr l)), none]) (g := gVar 1) (tt := tYesM) (fe := e1_is_letters) (ds := lts l) (fun _ => D.bl true) rfl
    (fun x hx => by
      obtain ⟨z, hz, rfl⟩ := List.mem_map.mp hx
      obtain ⟨b, _, rfl⟩ := List.mem_map.mp hz
      refine ⟨⟨[some (.str (ltr l)), some (.str (lt b))], []⟩, ⟨[some (.str (ltr l)), some (.str (lt b))], []⟩, ⟨[some (.str (ltr l)), some (.str (lt b))], []⟩, by simp, by simp, ?_, rfl⟩
      simp [e1_is_letters, in_AB]) (by rw [lts_len]; omega)
  have h2 := all_true (lts l)
  have e1 : ((ltr l).length : Int) ≤ 40 := by rw [ltr_len]; omega
  have e2 : (ltr l).length ≤ 1000000 := by rw [ltr_len]; omega
  simp [sem_is_letters, m_is_letters, isi_ltr, e1, e2, cps_ltr, h, h2]
/-- one is never behind two -/
def Dom (l m : List Bool) : Bool := decide (∀ k, k < l.length → (m.take (k + 1)).count true ≤ (l.take (k + 1)).count true)
theorem count_ltr (l : List Bool) : Txt.count (ltr l) ("A" : Str) = (l.count true : Nat) := by
  rw [lt_A]
  have e : lt true = ⟨#[65]⟩ := rfl
  rw [e, count_cnt, ltr_cps]
  induction l with
  | nil => rfl
  | cons b l ih =>
    rw [List.map_cons, cnt_cons, ih]
    cases b
    · rw [if_neg (by decide), List.count_cons_of_ne (by decide)]; omega
    · rw [if_pos (by decide), List.count_cons_self]; omega
theorem cut_ltr (l : List Bool) (k : Nat) (hk : k < l.length) : dSl (.str (ltr l)) none (some ((k : Int) + 1)) = if l.length ≤ 1000000 then some (.str (ltr (l.take (k + 1)))) else none := by
  have h : cutS (ltr l) none (some ((k : Int) + 1)) = ltr (l.take (k + 1)) := by
    have e2 : HT.sIx (ltr l).length (ltr l).length (some ((k : Int) + 1)) = k + 1 := by
      rw [show (k : Int) + 1 = ((k + 1 : Nat) : Int) by omega, HT.sIx_nat, ltr_len]
      omega
    unfold cutS
    rw [e2, HT.sIx_none]
    simp [ltr]
  simp only [dSl, h, le1m, ltr_len, decide_eq_true_eq]
theorem due_spec {l m : List Bool} (hl : l.length < 1000) (hm : m.length = l.length) : sem__law_due [] [.str (ltr l), .str (ltr m)] = .ok (.bl (Dom l m)) ⟨[], []⟩ := by
  have key := forL_gen (d := .tup [.int 0, .int l.length]) (M0 := []) (g := gVar 2) (body := b1__law_due) (els := sNx) (ds := (List.range l.length).map fun (i : Nat) => D.int i)
    (fun i s => (∀ k, k < i → (m.take (k + 1)).count true ≤ (l.take (k + 1)).count true) ∧ ∃ o, s = ⟨[some (.str (ltr l)), some (.str (ltr m)), o], []⟩)
    (fun o => (Dom l m = true ∧ ∃ e, o = .ok .nx ⟨e, []⟩) ∨ (Dom l m = false ∧ ∃ e, o = .ok (.ret (.bl false)) ⟨e, []⟩))
    (fun i x s e ⟨h, o, e1⟩ => by
      subst e1
      have hi : i < l.length := by have := (List.getElem?_eq_some_iff.mp e).1; simpa using this
      have ex : x = .int i := by
        rw [List.getElem?_map, List.getElem?_range hi] at e
        exact (Option.some.inj e).symm
      subst ex
      have c1 := cut_ltr l i hi
      have c2 := cut_ltr m i (by omega)
      rw [if_pos (by omega)] at c1 c2
      refine ⟨⟨[some (.str (ltr l)), some (.str (ltr m)), some (.int i)], []⟩, by simp, ?_⟩
      by_cases hb : (l.take (i + 1)).count true < (m.take (i + 1)).count true
      · refine .inr ⟨.bl false, ⟨[some (.str (ltr l)), some (.str (ltr m)), some (.int i)], []⟩, ?_, .inr ⟨?_, _, rfl⟩⟩
        · simp [b1__law_due, c1, c2, dSS, count_ltr, hb]
        · refine decide_eq_false fun h2 => ?_
          have := h2 i hi
          omega
      · refine .inl ⟨⟨[some (.str (ltr l)), some (.str (ltr m)), some (.int i)], []⟩, .inl ?_, by simp, ?_, _, rfl⟩
        · simp [b1__law_due, c1, c2, dSS, count_ltr, hb]
        · intro k hk
          by_cases e : k = i
          · subst e; omega
          · exact h k (by omega)) (s := ⟨[some (.str (ltr l)), some (.str (ltr m)), none], []⟩) ⟨fun k hk => by omega, none, rfl⟩
    (fun s' ⟨h, o, e⟩ => by
      subst e
      refine .inl ⟨decide_eq_true fun k hk => h k (by simpa using hk), _, rfl⟩)
  have rng : rngOk ((ltr l).length : Int) = true := by rw [ltr_len]; simp [rngOk]; omega
  have e2 : (ltr l).length ≤ 1000000 := by rw [ltr_len]; omega
  rw [← ltr_len l] at key
  rcases key with ⟨h1, e, h2⟩ | ⟨h1, e, h2⟩ <;> simp [sem__law_due, m__law_due, rng, e2, h2, h1]
end K48

namespace K48
open PySem L2 DL
open PySem.Spec PyProof.Rows
theorem pdL_lts (l : List Bool) : pdL (lts l) = some (l.map fun b => PyData.str (lt b)) := by
  induction l with
  | nil => rfl
  | cons b l ih =>
    show (match pd (.str (lt b)) with | none => none | some p => (pdL (lts l)).map (p :: ·)) = _
    rw [ih]; rfl
theorem can_lts (l : List Bool) : PyData.canLayAll0 (l.map fun b => PyData.str (lt b)) = true := by
  induction l with
  | nil => rfl
  | cons b l ih =>
    rw [List.map_cons]
    simp only [PyData.canLayAll0, PyData.canLay0, ih, Bool.and_true]
    cases b <;> decide +kernel
theorem depth_lts (l : List Bool) : PyData.depthAll (l.map fun b => PyData.str (lt b)) ≤ 1 := by
  induction l with
  | nil => simp [PyData.depthAll]
  | cons b l ih =>
    rw [List.map_cons]
    simp only [PyData.depthAll, PyData.depth]
    omega
theorem ne_lts (l : List Bool) : dNe (.lst (lts l)) (.lst (lts l)) = some (.bl false) := by
  have h1 : PyData.canLay0 (.list (l.map fun b => PyData.str (lt b))) = true := by simp only [PyData.canLay0]; exact can_lts l
  have h2 : (PyData.list (l.map fun b => PyData.str (lt b))).depth ≤ 64 := by
    have := depth_lts l
    simp only [PyData.depth]
    omega
  have h3 : SeqAt.shaped (.list (l.map fun b => PyData.str (lt b))) = true := by
    unfold SeqAt.shaped
    rw [h1, decide_eq_true h2]; rfl
  have h4 := SeqAt.eqv_refl _ h1
  have e : eqP (.lst (lts l)) (.lst (lts l)) = some true := by
    simp only [eqP, pd, pdL_lts, Option.map_some, h3, h4, Bool.and_self, if_true]
  have e0 : dNeF (.lst (lts l)) (.lst (lts l)) = none := rfl
  simp only [dNe, orD, e0, dNeP, e, Option.map_some, Bool.not_true]
theorem zip_at : ∀ (l m : List Bool) (i : Nat) (a b : Bool), l[i]? = some a → m[i]? = some b → (zipL (lts l) (lts m))[i]? = some (.tup [.str (lt a), .str (lt b)])
  | x :: l, y :: m, 0, a, b, h1, h2 => by cases h1; cases h2; rfl
  | x :: l, y :: m, i + 1, a, b, h1, h2 => zip_at l m i a b (by simpa using h1) (by simpa using h2)
  | [], _, _, _, _, h1, _ => by simp at h1
  | _ :: _, [], _, _, _, _, h2 => by simp at h2
theorem zip_len : ∀ (l m : List Bool), m.length = l.length → (zipL (lts l) (lts m)).length = l.length
  | [], [], _ => rfl
  | x :: l, y :: m, h => by
    show (zipL (lts l) (lts m)).length + 1 = l.length + 1
    rw [zip_len l m (by simpa using h)]
theorem sortB_eq {l m : List Bool} (h : m.Perm l) : sortB m = sortB l := by
  unfold sortB
  rw [h.count_eq, h.count_eq]
theorem take_count {l : List Bool} {i : Nat} {a : Bool} (h : l[i]? = some a) : (l.take (i + 1)).count true = (l.take i).count true + (if a then 1 else 0) := by
  rw [List.take_add_one, h, List.count_append]
  cases a <;> rfl
/-- a call that writes no cell -/
theorem call_1 {sem : Sem} {d r : D} (hs : sem [] [d] = .ok r ⟨[], []⟩) (hd : DL.np d = true) (hr : DL.np r = true) (env : List (Option D)) (M : List (Option C)) : callS [false] sem [d] ⟨env, M⟩ = .ok r ⟨env, M⟩ := by
  have nd : ∀ k, d ≠ .ptr k := fun k e => by subst e; cases hd
  unfold callS
  rw [prep_fv nd, if_pos hd, prep_nil]
  dsimp only [Option.map_some]
  rw [if_pos ⟨by simp, by simp⟩, hs]
  simp [hr]
theorem call_2 {sem : Sem} {d e r : D} (hs : sem [] [d, e] = .ok r ⟨[], []⟩) (hd : DL.np d = true) (he : DL.np e = true) (hr : DL.np r = true) (env : List (Option D)) (M : List (Option C)) : callS [false, false] sem [d, e] ⟨env, M⟩ = .ok r ⟨env, M⟩ := by
  have nd : ∀ k, d ≠ .ptr k := fun k e => by subst e; cases hd
  have ne : ∀ k, e ≠ .ptr k := fun k q => by subst q; cases he
  unfold callS
  rw [prep_fv nd, if_pos hd, prep_fv ne, if_pos he, prep_nil]
  dsimp only [Option.map_some]
  rw [if_pos ⟨by simp, by simp⟩, hs]
  simp [hr]
theorem dominates_spec {l m : List Bool} (hl : l.length ≤ 40) (p : m.Perm l) : sem_dominates [] [.str (ltr l), .str (ltr m)] = .ok (.bl (Dom l m)) ⟨[], []⟩ := by
  have hm := p.length_eq
  have t1 := call_1 (is_letters_spec hl) rfl rfl
  have t2 := call_1 (is_letters_spec (l := m) (by omega)) rfl rfl
  have key := forL_gen (d := .tup [.str (ltr l), .str (ltr m)]) (M0 := []) (g := gTupD (gMore (gVar 3) (gMore (gVar 4) gNone))) (body := b1_dominates) (els := sNx) (ds := zipL (lts l) (lts m))
    (fun i s => (∀ k, k < i → (m.take (k + 1)).count true ≤ (l.take (k + 1)).count true) ∧ ∃ o1 o2, s = ⟨[some (.str (ltr l)), some (.str (ltr m)), some (.int (((l.take i).count true : Nat) - ((m.take i).count true : Nat))), o1, o2], []⟩)
    (fun o => (Dom l m = true ∧ ∃ e, o = .ok .nx ⟨e, []⟩) ∨ (Dom l m = false ∧ ∃ e, o = .ok (.ret (.bl false)) ⟨e, []⟩))
    (fun i x s e ⟨h, o1, o2, e1⟩ => by
      subst e1
      have hi : i < l.length := by have := (List.getElem?_eq_some_iff.mp e).1; rw [zip_len l m hm] at this; exact this
      obtain ⟨a, ha⟩ : ∃ a, l[i]? = some a := ⟨_, List.getElem?_eq_getElem hi⟩
      obtain ⟨b, hb⟩ : ∃ b, m[i]? = some b := ⟨_, List.getElem?_eq_getElem (by omega)⟩
      rw [zip_at l m i a b ha hb] at e
      cases e
      have ca := take_count ha
      have cb := take_count hb
      have e3 : (((l.take i).count true : Nat) : Int) - ((m.take i).count true : Nat) + ((if a = true then 1 else 0) - (if b = true then 1 else 0)) = ((l.take (i + 1)).count true : Nat) - ((m.take (i + 1)).count true : Nat) := by
        rw [ca, cb]
        cases a <;> cases b <;> simp <;> omega
      have d1 : ∀ c : Bool, decide (lt c = ("A" : Str)) = c := fun c => by rw [lt_A, lt_eq]; cases c <;> rfl
      refine ⟨⟨[some (.str (ltr l)), some (.str (ltr m)), some (.int (((l.take i).count true : Nat) - ((m.take i).count true : Nat))), some (.str (lt a)), some (.str (lt b))], []⟩, by simp, ?_⟩
      by_cases hlt : (l.take (i + 1)).count true < (m.take (i + 1)).count true
      · refine .inr ⟨.bl false, ⟨[some (.str (ltr l)), some (.str (ltr m)), some (.int (((l.take (i + 1)).count true : Nat) - ((m.take (i + 1)).count true : Nat))), some (.str (lt a)), some (.str (lt b))], []⟩, ?_, .inr ⟨?_, _, rfl⟩⟩
        · have hz : (((l.take (i + 1)).count true : Nat) : Int) - ((m.take (i + 1)).count true : Nat) < 0 := by omega
          simp only [b1_dominates]
          simp [d1, e3, hz]
        · refine decide_eq_false fun h2 => ?_
          have := h2 i hi
          omega
      · refine .inl ⟨⟨[some (.str (ltr l)), some (.str (ltr m)), some (.int (((l.take (i + 1)).count true : Nat) - ((m.take (i + 1)).count true : Nat))), some (.str (lt a)), some (.str (lt b))], []⟩, .inl ?_, by simp, ?_, _, _, rfl⟩
        · have hz : ¬ (((l.take (i + 1)).count true : Nat) : Int) - ((m.take (i + 1)).count true : Nat) < 0 := by omega
          simp only [b1_dominates]
          simp [d1, e3, hz]
        · intro k hk
          by_cases e : k = i
          · subst e; omega
          · exact h k (by omega)) (s := ⟨[some (.str (ltr l)), some (.str (ltr m)), some (.int 0), none, none], []⟩) ⟨fun k hk => by omega, none, none, by simp⟩
    (fun s' ⟨h, o1, o2, e⟩ => by
      subst e
      refine .inl ⟨decide_eq_true fun k hk => h k (by rw [zip_len l m hm]; exact hk), _, rfl⟩)
  have iz : itZip (.tup [.str (ltr l), .str (ltr m)]) = some (zipL (lts l) (lts m)) := by
    simp only [itZip, zipO, itSeq_str, cps_ltr, lts_len]
    rw [if_pos ⟨hm.symm, by omega⟩]
  have s1 := srt_ltr (l := l) (by omega)
  have s2 := srt_ltr (l := m) (by omega)
  rw [sortB_eq p] at s2
  rcases key with ⟨h1, e, h2⟩ | ⟨h1, e, h2⟩ <;> simp [sem_dominates, m_dominates, t1, t2, s1, s2, ne_lts, iz, h2, h1]
end K48

namespace K48
open PySem L2 DL
open PySem.Spec PyProof.Rows
/-- a call that writes the last cell -/
theorem call_last {sem : Sem} {c c' : C} {d r : D} (hs : sem [c] [.ptr 0, d] = .ok r ⟨[], [some c']⟩) (hc : c.np = true) (hd : DL.np d = true) (hr : DL.np r = true) (hc' : c'.np = true) (env : List (Option D)) (M : List (Option C)) :
    callS [true, false] sem [.ptr M.length, d] ⟨env, M ++ [some c]⟩ = .ok r ⟨env, M ++ [some c']⟩ := by
  have nd : ∀ k, d ≠ .ptr k := fun k e => by subst e; cases hd
  have e1 : (M ++ [some c])[M.length]? = some (some c) := List.getElem?_concat_length
  unfold callS
  rw [prep_t]
  dsimp only
  rw [e1]
  dsimp only
  rw [if_pos hc, prep_fv nd, if_pos hd, prep_nil]
  dsimp only [Option.map_some]
  rw [if_pos ⟨by simp, by simp⟩, hs]
  simp [hr, hc', hc]
theorem call_pool {sem : Sem} {c : C} {d e : D} (hs : sem [] [d, e] = .ok (.ptr 0) ⟨[], [some c]⟩) (hd : DL.np d = true) (he : DL.np e = true) (hc : c.np = true) (env : List (Option D)) (M : List (Option C)) :
    callSC [false, false] sem [d, e] ⟨env, M⟩ = .ok (.ptr M.length) ⟨env, M ++ [some c]⟩ := by
  have nd : ∀ k, d ≠ .ptr k := fun k e => by subst e; cases hd
  have ne : ∀ k, e ≠ .ptr k := fun k q => by subst q; cases he
  unfold callSC
  rw [prep_fv nd, if_pos hd, prep_fv ne, if_pos he, prep_nil]
  dsimp only [Option.map_some]
  rw [if_pos ⟨by simp, by simp⟩, hs]
  simp [hc]
theorem dom_self (l : List Bool) : Dom l l = true := decide_eq_true fun _ _ => Nat.le_refl _
theorem dom_sort {l m : List Bool} (p : m.Perm l) : Dom (sortB l) m = true := by
  refine decide_eq_true fun k hk => ?_
  have h1 : (m.take (k + 1)).count true ≤ l.count true := by
    rw [← p.count_eq]
    exact (List.take_sublist _ _).count_le _
  have h2 : (m.take (k + 1)).count true ≤ k + 1 := by
    have := List.count_le_length (a := true) (l := m.take (k + 1))
    rw [List.length_take] at this
    omega
  have h3 : ((sortB l).take (k + 1)).count true = min (k + 1) (l.count true) := by
    unfold sortB
    rw [List.take_append, List.take_replicate, List.take_replicate, List.count_append, List.count_replicate, List.count_replicate]
    simp
  rw [h3]
  omega
theorem repr_bls (x y : Bool) : ∃ z, dRepr (.lst [.bl x, .bl y]) = some (.str z) := by
  cases x <;> cases y <;> exact ⟨_, rfl⟩
theorem b1_spec (ns : List Int) (k : Nat) (hk : k < 1000) (o2 o3 o4 o5 : Option D) (M : List (Option C)) : ∃ p2 p3 p4 p5 M', b1_law ⟨[some (.slst (ns.map .int)), some (.int k), o2, o3, o4, o5], M⟩ = .ok .nx ⟨[some (.slst (ns.map .int)), some (.int k), p2, p3, p4, p5], M'⟩ := by
  obtain ⟨c, hc, h1⟩ := pool_spec (ns := ns) hk
  obtain ⟨c2, r, hc2, r0, r1, h2⟩ := take_spec (n := 41) hc (by decide) (by decide)
  obtain ⟨n, rfl⟩ : ∃ n : Nat, r = (n : Int) := ⟨r.toNat, by omega⟩
  obtain ⟨c3, l, hc3, hl, h3⟩ := letters_spec (n := n) hc2 (by omega)
  obtain ⟨c4, m, hc4, p, h4⟩ := second_spec (l := l) hc3 (by omega)
  have hm := p.length_eq
  have t1 := call_pool h1 (by simp) rfl hc.np
  have t2 := call_last h2 hc.np rfl rfl hc2.np
  have t3 := call_last h3 hc2.np rfl rfl hc3.np
  have t4 := call_last h4 hc3.np rfl rfl hc4.np
  have d1 := call_2 (dominates_spec (l := l) (m := m) (by omega) p) rfl rfl rfl
  have d2 := call_2 (dominates_spec (l := m) (m := l) (by omega) p.symm) rfl rfl rfl
  have u1 := call_2 (due_spec (l := l) (m := m) (by omega) hm) rfl rfl rfl
  have u2 := call_2 (due_spec (l := m) (m := l) (by omega) hm.symm) rfl rfl rfl
  have d3 := call_2 (dominates_spec (l := l) (m := l) (by omega) (List.Perm.refl _)) rfl rfl rfl
  have d4 := call_2 (dominates_spec (l := sortB l) (m := m) (by rw [sortB_len]; omega) (p.trans (sortB_perm l).symm)) rfl rfl rfl
  rw [dom_self] at d3
  rw [dom_sort p] at d4
  obtain ⟨z, hz⟩ := repr_bls (Dom l m) (Dom m l)
  have s1 := srt_ltr (l := l) (by omega)
  have j1 := join_lts (sortB l) (by rw [sortB_len]; omega)
  have nt : dNot (.bl true) (.bl true) = some (.bl false) := rfl
  refine ⟨some (.ptr M.length), some (.str (ltr l)), some (.str (ltr m)), some (.lst [.bl (Dom l m), .bl (Dom m l)]), M ++ [some c4], ?_⟩
  simp [b1_law, t1, t2, t3, t4, d1, d2, u1, u2, hz, pick, d3, nt, s1, j1, d4]
theorem law_spec (ns : List Int) : ∃ s', sem_law [] [.slst (ns.map .int)] = .ok (.bl true) s' := by
  obtain ⟨n, hn, hn2⟩ : ∃ n : Nat, (if (if (10 : Int) < (ns.length : Int) then (10 : Int) else (ns.length : Int)) > 1 then (if (10 : Int) < (ns.length : Int) then (10 : Int) else (ns.length : Int)) else 1) = (n : Int) ∧ n ≤ 10 := by
    refine ⟨(if (if (10 : Int) < (ns.length : Int) then (10 : Int) else (ns.length : Int)) > 1 then (if (10 : Int) < (ns.length : Int) then (10 : Int) else (ns.length : Int)) else 1).toNat, ?_, ?_⟩ <;> split <;> split <;> omega
  obtain ⟨s', ⟨o1, o2, o3, o4, o5, M, rfl⟩, h⟩ := forL_inv (d := .tup [.int 0, .int n]) (M0 := []) (g := gVar 1) (body := b1_law) (els := sNx) (ds := (List.range n).map fun (i : Nat) => D.int i)
    (fun i s => ∃ o1 o2 o3 o4 o5 M, s = ⟨[some (.slst (ns.map .int)), o1, o2, o3, o4, o5], M⟩)
    (fun i x s e ⟨o1, o2, o3, o4, o5, M, e1⟩ => by
      subst e1
      have hi : i < n := by have := (List.getElem?_eq_some_iff.mp e).1; simpa using this
      have ex : x = .int i := by
        rw [List.getElem?_map, List.getElem?_range hi] at e
        exact (Option.some.inj e).symm
      subst ex
      obtain ⟨p2, p3, p4, p5, M', hb⟩ := b1_spec ns i (by omega) o2 o3 o4 o5 M
      exact ⟨⟨[some (.slst (ns.map .int)), some (.int i), o2, o3, o4, o5], M⟩, _, by simp, .inl hb, by simp, _, _, _, _, _, M', rfl⟩) (s := ⟨[some (.slst (ns.map .int)), none, none, none, none, none], []⟩) ⟨_, _, _, _, _, _, rfl⟩
  have rng : rngOk (n : Int) = true := by simp [rngOk]; omega
  have e0 : ("" : Str) = ltr [] := by decide +kernel
  have d0 := call_2 (dominates_spec (l := []) (m := []) (by simp) (List.Perm.refl _)) rfl rfl rfl
  rw [dom_self, ← e0] at d0
  have it : dIs (.bl true) (.bl true) = some (.bl true) := rfl
  refine ⟨⟨[], []⟩, ?_⟩
  simp only [gt_iff_lt] at hn
  simp [sem_law, m_law, hn, rng, h, d0, it]
end K48

open PySem PySem.W PySem.Calls PyProof.Rows
theorem PySem.Challenge.cw_lastchoicefirst_k48_dominates_holds : PySem.Challenge.rw_lastchoicefirst_k48_dominates.Holds := by
  w_on; o_law
  refine HandSHeadRun.head_any (r := OpenLaw.row PySem.Challenge.rw_lastchoicefirst_k48_dominates) (q := view (OpenLaw.row PySem.Challenge.rw_lastchoicefirst_k48_dominates).prog [15]) (H := K48.hook) (ob := K48.ob) (M := 4000) (loose := ["PickingError", "InvalidTurns", "MAX_ITEMS", "PLAYERS", "is_letters", "dominates", "_law_pool", "_law_take", "_law_turning", "_law_letters", "_law_second", "_law_due"]) (d := HandSHeadRun.topDef (OpenLaw.row PySem.Challenge.rw_lastchoicefirst_k48_dominates).prog 15) (kwd := []) K48.ob_eq
    (by kernel_rfl) (fun s => by kernel_rfl) K48.runs (by kernel_rfl) (by kernel_rfl) (by kernel_rfl) (by rfl) (by first | assumption | decide +kernel) (by decide +kernel) ⟨rfl, rfl, rfl, rfl, rfl, by decide +kernel⟩ ?hw ?hc
  case hw => w_witness2
  case hc =>
    refine DL.walk_G (l := PySem.Challenge.rw_lastchoicefirst_k48_dominates) (n := 63) (k := 4) (x := "_law_script") rfl (by decide) (by kernel_rfl) ⟨rfl, by decide, by decide⟩ ?F
    intro w mg fa h Y G hmg0
    obtain ⟨K, KX, c⟩ := Y
    have hmg : mg ("law" : PySem.Str) = some (.ref fa) := by
      have e : (HandSHeadRun.topDef (OpenLaw.row PySem.Challenge.rw_lastchoicefirst_k48_dominates).prog 15).name = ("law" : PySem.Str) := by kernel_rfl
      rw [← e]
      exact hmg0
    obtain ⟨L⟩ := K48.lw_of KX G c
    have ef := hmg.symm.trans L.g_law
    cases ef
    exact ⟨K, fun _ => 0, L.fd_law, K48.sem_law, KX, fun s u => L.F_law.bindsA (ps := ["_law_script"]) (fun _ _ _ _ _ _ us hl => match us, hl with | [_], _ => rfl) s [u] rfl, fun ns _ => K48.law_spec ns, fun base _ _ => K48.fg_law L⟩
