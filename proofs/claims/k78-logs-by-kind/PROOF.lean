import PyProof.Rows.All
import Wide.All
import OpenK.AllK
import Wide.FinOn
import HandS.ForMost
import HandS.Exc
import HandS.ExcInit
import HandS.TryOnly
import HandS.IsInst
import HandS.TupAny
import HandS.TupMul
import HandS.Zip
import HandS.TupSets
import HandS.Walk
import HandS.WordsExc
import HandS.Deep
import HandS.Flow
import HandS.Style
import HandS.CallSlots
import HandS.Small
import HandS.More
import HandS.DictTup
import HandS.CallLocal
import KE.GoesEnum
import HandS.Strs
import HandS.SetFor
import PyProof.Rows.TupDisplay
import HandS.Conv
import PyProof.ReprRoads
import HandS.RaiseMore
import HandS.Ends
import HandS.HeadHook4
import HandS.Head2
import HandS.Head0
import HandS.Head1
import HandS.HeadEnd
import Wide.Once
import PySem.Challenge.RW_alwaysnew_k78_logs_by_kind
set_option Elab.async false
set_option linter.all false
set_option autoImplicit false
set_option maxRecDepth 100000
set_option maxHeartbeats 2000000
/-! Mi, part A: data, bindings, states, the mirror's monad, and how they lie in the abstract heap. -/
namespace Mi
open PySem L2

/-- data that never change (ntup: a tuple that a method may be called of); a def of the module by its name; a changing object by its number; scr: a list of ints that is given from outside -/
inductive D where
  | non | bl (b : Bool) | int (i : Int) | str (x : Str)
  | tup (xs : List D) | lst (xs : List D)
  | dK (ks : List Key) (vs : List D) | dT (ks : List (List Key)) (vs : List D)
  | fn (x : Str) | root (n : Nat)
  | ntup (xs : List D)
  | scr (ns : List Int)
/-- what a name holds: nothing, data, or an object of its own that may still change -/
inductive B where
  | unb | dat (d : D) | own (ds : List D) | ownK (ks : List Key) (vs : List D) | ownT (ks : List (List Int)) (vs : List D)
/-- a changing object that others see -/
inductive Cell where
  | lst (ds : List D)
abbrev Env := List B
abbrev S := List Cell
/-- an error: the class's name, its fields, the newest first -/
structure Exc where
  cls : Str
  fs : List (Str × D)
inductive R (α : Type) where
  | ok (a : α) (e : Env) (s : S)
  | exc (x : Exc) (e : Env) (s : S)
  | no
abbrev M (α : Type) := Env → S → R α
def ret {α : Type} (a : α) : M α := fun e s => .ok a e s
def bnd {α β : Type} (m : M α) (f : α → M β) : M β := fun e s => match m e s with
  | .ok a e' s' => f a e' s'
  | .exc x e' s' => .exc x e' s'
  | .no => .no
def lift {α : Type} (o : Option α) : M α := fun e s => match o with
  | some a => .ok a e s
  | none => .no
/-- what a name's binding is once it does not change any more -/
def B.frz : B → Option D
  | .unb => none
  | .dat d => some d
  | .own ds => some (.lst ds)
  | .ownK ks vs => some (.dK ks vs)
  | .ownT _ _ => none
def B.isOwn : B → Bool
  | .own _ => true
  | .ownK _ _ => true
  | .ownT _ _ => true
  | _ => false

/-! ### a dict whose keys are tuples of ints, each True -/
def rowsT (L : List (Addr × List Int)) : List (List Int × Addr × Value) := L.map fun p => (p.2, p.1, Value.bool true)
def TabT (a : Addr) (L : List (Addr × List Int)) (h : Heap) : Prop :=
  (a == sysModules) = false ∧ L.length ≤ sizeLine ∧ (L.map (·.2)).Nodup ∧ ∃ (o : Obj) (es : Array DictEntry) (ep : Nat), h.get? a = some o ∧ o.ExactDict ∧ o.data = .dict es ep ∧ ∀ (P : Program) (w : World), es.toList = (rowsT L).map (entryOfKey (tupleKind (intKind P w)))
def DTO (a : Addr) (L : List (Addr × List Int)) : HO := .ext (TabT a L)
/-! ### how data lie in the heap -/
section
variable (K : PySem.W.Frag) (mg : Str → Option Value) (ρ : List Addr)
mutual
inductive At (F : Hp) : V → D → Prop
  | non : At F .non .non
  | bl (b : Bool) : At F (.bl b) (.bl b)
  | int (i : Int) : At F (.int i) (.int i)
  | str {x : Str} : PyData.strOk x = true → At F (.str x) (.str x)
  | tup {a : Addr} {xs : List V} {ds : List D} : SqT K F a xs → AtAll F xs ds → At F (.ref a) (.tup ds)
  | lst {a : Addr} {xs : List V} {ds : List D} : F a = some (.lst xs) → AtAll F xs ds → At F (.ref a) (.lst ds)
  | dK {a : Addr} {kvs : List (Key × V)} {ds : List D} : F a = some (.dK kvs) → AtAll F (kvs.map (·.2)) ds → At F (.ref a) (.dK (kvs.map (·.1)) ds)
  | dT {a : Addr} {kvs : List (List Key × V)} {ds : List D} : F a = some (.dT kvs) → AtAll F (kvs.map (·.2)) ds → At F (.ref a) (.dT (kvs.map (·.1)) ds)
  | fn {x : Str} {a : Addr} : mg x = some (.ref a) → At F (.ref a) (.fn x)
  | root {n : Nat} {a : Addr} : ρ[n]? = some a → At F (.ref a) (.root n)
  | ntup {a : Addr} {xs : List V} {ds : List D} : SqT K F a xs → (∃ o u, F a = some (.frz o u) ∧ o.dict = none) → AtAll F xs ds → At F (.ref a) (.ntup ds)
  | scr {a : Addr} {ns : List Int} : SqL K F a (ns.map V.int) → At F (.ref a) (.scr ns)
inductive AtAll (F : Hp) : List V → List D → Prop
  | nil : AtAll F [] []
  | cons {v : V} {vs : List V} {d : D} {ds : List D} : At F v d → AtAll F vs ds → AtAll F (v :: vs) (d :: ds)
end
/-- a binding's object -/
def BAt (F H : Hp) (v : V) : B → Prop
  | .unb => False
  | .dat d => At K mg ρ F v d
  | .own ds => ∃ a xs, v = .ref a ∧ H a = some (.lst xs) ∧ F a = none ∧ a ∉ ρ ∧ AtAll K mg ρ F xs ds
  | .ownK ks vs => ∃ a kvs, v = .ref a ∧ H a = some (.dK kvs) ∧ F a = none ∧ a ∉ ρ ∧ kvs.map (·.1) = ks ∧ AtAll K mg ρ F (kvs.map (·.2)) vs
  | .ownT ks vs => ∃ a L, v = .ref a ∧ H a = some (DTO a L) ∧ F a = none ∧ a ∉ ρ ∧ L.map (·.2) = ks ∧ ∀ p ∈ L, SqT K F p.1 (p.2.map V.int)
def CellAt (F H : Hp) (a : Addr) : Cell → Prop
  | .lst ds => ∃ xs, H a = some (.lst xs) ∧ AtAll K mg ρ F xs ds
/-- the state's cells, all apart, none of them frozen; what is frozen stands -/
structure Roots (F H : Hp) (s : S) : Prop where
  ex : Same F H
  len : s.length = ρ.length
  nd : ρ.Nodup
  free : ∀ a ∈ ρ, F a = none
  cell : ∀ (n : Nat) (a : Addr) (c : Cell), ρ[n]? = some a → s[n]? = some c → CellAt K mg ρ F H a c
end

/-- where a body began: its cells, what was frozen, what was tracked -/
structure Bs where
  ρ : List Addr
  F : Hp
  H : Hp
/-- what has grown since -/
structure Grow (b : Bs) (ρ : List Addr) (F H : Hp) : Prop where
  pre : b.ρ <+: ρ
  frz : Same b.F F
  keep : ∀ a o, b.H a = some o → a ∉ b.ρ → H a = some o
  there : ∀ a, b.H a ≠ none → H a ≠ none
  old : ∀ a, b.H a ≠ none → F a = b.F a
  new : ∀ a, a ∈ ρ → a ∉ b.ρ → b.H a = none
/-- slot i holds an object of its own, at a -/
def OwnAt (σ : St) (e : Env) (a : Addr) : Prop := ∃ (i : Nat) (b : B), e[i]? = some b ∧ b.isOwn = true ∧ σ[i]? = some (some (.ref a))
section
variable (K : PySem.W.Frag) (mg : Str → Option Value)
/-- the frame's names, the state, the heap -/
structure Rel (b : Bs) (σ : St) (e : Env) (ρ : List Addr) (F H : Hp) (s : S) : Prop where
  grow : Grow b ρ F H
  roots : Roots K mg ρ F H s
  len : σ.length = e.length
  slot : ∀ (i : Nat) (x : B), e[i]? = some x → x ≠ .unb → ∃ v, σ[i]? = some (some v) ∧ BAt K mg ρ F H v x
  fresh : ∀ a, OwnAt σ e a → b.H a = none
  apart : ∀ (i j : Nat) (x y : B) (a : Addr), e[i]? = some x → e[j]? = some y → x.isOwn = true → y.isOwn = true → σ[i]? = some (some (.ref a)) → σ[j]? = some (some (.ref a)) → i = j
end
/-- from one state of an expression to the next: nothing that was tracked changes but the cells; what freezes is new or was a name's own -/
structure Ext (σ : St) (e e' : Env) (ρ : List Addr) (F H : Hp) (ρ' : List Addr) (F' H' : Hp) : Prop where
  pre : ρ <+: ρ'
  frz : Same F F'
  keep : ∀ a o, H a = some o → a ∉ ρ → H' a = some o
  there : ∀ a, H a ≠ none → H' a ≠ none
  old : ∀ a, H a ≠ none → F' a ≠ F a → OwnAt σ e a
  new : ∀ a, a ∈ ρ' → a ∉ ρ → H a = none
  sub : ∀ a, OwnAt σ e' a → OwnAt σ e a

section
variable {K : PySem.W.Frag} {mg : Str → Option Value} {ρ ρ' : List Addr} {F F' H H' : Hp} {v : V} {d : D} {vs : List V} {ds : List D}
theorem pre_get {ρ ρ' : List Addr} (h : ρ <+: ρ') {n : Nat} {a : Addr} (e : ρ[n]? = some a) : ρ'[n]? = some a := by
  obtain ⟨t, rfl⟩ := h
  rw [List.getElem?_append_left (List.getElem?_eq_some_iff.mp e).1]
  exact e
theorem sqL_same {a : Addr} {xs : List V} (e : Same F F') (h : SqL K F a xs) : SqL K F' a xs := by
  rcases h with (h | ⟨o, h⟩) | h
  · exact .inl (.inl (e _ _ h))
  · exact .inl (.inr ⟨o, e _ _ h⟩)
  · exact .inr h
theorem sqT_same {a : Addr} {xs : List V} (e : Same F F') (h : SqT K F a xs) : SqT K F' a xs := by
  rcases h with h | h
  · rcases h with h | ⟨o, h⟩
    · exact .inl (.inl (e _ _ h))
    · exact .inl (.inr ⟨o, e _ _ h⟩)
  · exact .inr h
theorem At.mono (e : Same F F') (p : ρ <+: ρ') (h : At K mg ρ F v d) : At K mg ρ' F' v d :=
  At.rec (K := K) (mg := mg) (ρ := ρ) (F := F) (motive_1 := fun v d _ => At K mg ρ' F' v d) (motive_2 := fun vs ds _ => AtAll K mg ρ' F' vs ds)
    .non .bl .int (fun h => .str h) (fun h _ ih => .tup (sqT_same e h) ih) (fun h _ ih => .lst (e _ _ h) ih) (fun h _ ih => .dK (e _ _ h) ih) (fun h _ ih => .dT (e _ _ h) ih)
    (fun h => .fn h) (fun h => .root (pre_get p h)) (fun h n _ ih => .ntup (sqT_same e h) (by obtain ⟨o, u, n1, n2⟩ := n; exact ⟨o, u, e _ _ n1, n2⟩) ih) (fun h => .scr (sqL_same e h)) .nil (fun _ _ i1 i2 => .cons i1 i2) h
theorem AtAll.mono (e : Same F F') (p : ρ <+: ρ') : ∀ {vs : List V} {ds : List D}, AtAll K mg ρ F vs ds → AtAll K mg ρ' F' vs ds
  | _, _, .nil => .nil
  | _, _, .cons h t => .cons (h.mono e p) (AtAll.mono e p t)
theorem AtAll.length : ∀ {vs : List V} {ds : List D}, AtAll K mg ρ F vs ds → vs.length = ds.length
  | _, _, .nil => rfl
  | _, _, .cons _ t => by rw [List.length_cons, List.length_cons, AtAll.length t]
theorem AtAll.get : ∀ {vs : List V} {ds : List D}, AtAll K mg ρ F vs ds → ∀ {i : Nat} {d : D}, ds[i]? = some d → ∃ v, vs[i]? = some v ∧ At K mg ρ F v d
  | _, _, .nil, i, d, e => by simp at e
  | _, _, .cons h t, 0, d, e => by
    simp at e
    subst e
    exact ⟨_, rfl, h⟩
  | _, _, .cons h t, i + 1, d, e => by
    obtain ⟨v, h1, h2⟩ := AtAll.get t (i := i) (d := d) (by simpa using e)
    exact ⟨v, by simpa using h1, h2⟩
theorem AtAll.append : ∀ {vs ws : List V} {ds es : List D}, AtAll K mg ρ F vs ds → AtAll K mg ρ F ws es → AtAll K mg ρ F (vs ++ ws) (ds ++ es)
  | _, _, _, _, .nil, s => s
  | _, _, _, _, .cons h t, s => .cons h (AtAll.append t s)
theorem AtAll.take : ∀ {vs : List V} {ds : List D} (n : Nat), AtAll K mg ρ F vs ds → AtAll K mg ρ F (vs.take n) (ds.take n)
  | _, _, 0, _ => by rw [List.take_zero, List.take_zero]; exact .nil
  | _, _, _ + 1, .nil => .nil
  | _, _, n + 1, .cons h t => .cons h (AtAll.take n t)
theorem AtAll.drop : ∀ {vs : List V} {ds : List D} (n : Nat), AtAll K mg ρ F vs ds → AtAll K mg ρ F (vs.drop n) (ds.drop n)
  | _, _, 0, h => h
  | _, _, _ + 1, .nil => .nil
  | _, _, n + 1, .cons h t => AtAll.drop n t
theorem AtAll.set : ∀ {vs : List V} {ds : List D} (n : Nat), AtAll K mg ρ F vs ds → At K mg ρ F v d → AtAll K mg ρ F (vs.set n v) (ds.set n d)
  | _, _, _, .nil, _ => .nil
  | _, _, 0, .cons _ t, h => .cons h t
  | _, _, n + 1, .cons q t, h => .cons q (AtAll.set n t h)
theorem AtAll.reverse : ∀ {vs : List V} {ds : List D}, AtAll K mg ρ F vs ds → AtAll K mg ρ F vs.reverse ds.reverse
  | _, _, .nil => .nil
  | _, _, .cons h t => by
    rw [List.reverse_cons, List.reverse_cons]
    exact AtAll.append (AtAll.reverse t) (.cons h .nil)
theorem AtAll.dropLast {vs : List V} {ds : List D} (h : AtAll K mg ρ F vs ds) : AtAll K mg ρ F vs.dropLast ds.dropLast := by
  rw [List.dropLast_eq_take, List.dropLast_eq_take, h.length]
  exact h.take _
theorem AtAll.rep {vs : List V} {ds : List D} (h : AtAll K mg ρ F vs ds) : ∀ k : Nat, AtAll K mg ρ F (List.replicate k vs).flatten (List.replicate k ds).flatten
  | 0 => .nil
  | k + 1 => by
    rw [List.replicate_succ, List.replicate_succ, List.flatten_cons, List.flatten_cons]
    exact h.append (AtAll.rep h k)
end
/-- a tuple is a tuple -/
def D.top : D → D
  | .ntup xs => .tup xs
  | d => d
theorem At.top {K : PySem.W.Frag} {mg : Str → Option Value} {ρ : List Addr} {F : Hp} {v : V} {d : D} (h : At K mg ρ F v d) : At K mg ρ F v d.top := by
  cases h with
  | ntup h1 _ h2 => exact .tup h1 h2
  | non => exact .non
  | bl b => exact .bl b
  | int i => exact .int i
  | str h => exact .str h
  | tup h1 h2 => exact .tup h1 h2
  | lst h1 h2 => exact .lst h1 h2
  | dK h1 h2 => exact .dK h1 h2
  | dT h1 h2 => exact .dT h1 h2
  | fn h => exact .fn h
  | root h => exact .root h
  | scr h => exact .scr h
end Mi

set_option Elab.async false
set_option linter.all false
set_option autoImplicit false
set_option maxRecDepth 100000
set_option maxHeartbeats 2000000
/-! Mi, part B: how states follow one another; the readings. -/
namespace Mi
open PySem L2
section
variable {K : PySem.W.Frag} {mg : Str → Option Value} {b : Bs} {σ : St} {e e' e'' : Env} {ρ ρ' ρ'' : List Addr} {F F' F'' H H' H'' : Hp} {s s' : S}

theorem ne_none_of {α : Type} {o : Option α} {a : α} (h : o = some a) : o ≠ none := by rw [h]; exact fun z => nomatch z
theorem some_of_ne {α : Type} {o : Option α} (h : o ≠ none) : ∃ a, o = some a := by
  cases o with
  | none => exact absurd rfl h
  | some a => exact ⟨a, rfl⟩

theorem same_there {H H' : Hp} (h : Same H H') {a : Addr} (n : H a ≠ none) : H' a ≠ none := by
  obtain ⟨u, q⟩ := some_of_ne n
  exact ne_none_of (h a u q)
theorem Grow.refl (ρ : List Addr) (F H : Hp) : Grow ⟨ρ, F, H⟩ ρ F H :=
  ⟨List.prefix_refl _, Same.refl _, fun _ _ h _ => h, fun _ h => h, fun _ _ => rfl, fun _ h n => absurd h n⟩
theorem Ext.refl : Ext σ e e ρ F H ρ F H :=
  ⟨List.prefix_refl _, Same.refl _, fun _ _ h _ => h, fun _ h => h, fun _ _ n => absurd rfl n, fun _ h n => absurd h n, fun _ h => h⟩
theorem Ext.trans (x : Ext σ e e' ρ F H ρ' F' H') (y : Ext σ e' e'' ρ' F' H' ρ'' F'' H'') : Ext σ e e'' ρ F H ρ'' F'' H'' where
  pre := List.IsPrefix.trans x.pre y.pre
  frz := x.frz.trans y.frz
  keep := fun a o h n => y.keep a o (x.keep a o h n) fun m => by
    have := x.new a m n
    rw [h] at this
    cases this
  there := fun a h => y.there a (x.there a h)
  old := fun a h n => by
    by_cases c : F' a = F a
    · exact x.sub a (y.old a (x.there a h) fun z => n (z.trans c))
    · exact x.old a h c
  new := fun a m n => by
    by_cases c : a ∈ ρ'
    · exact x.new a c n
    · cases q : H a with
      | none => rfl
      | some o => exact absurd (y.new a m c) (x.there a (ne_none_of q))
  sub := fun a h => x.sub a (y.sub a h)
theorem Grow.ext (g : Grow b ρ F H) (fr : ∀ a, OwnAt σ e a → b.H a = none) (x : Ext σ e e' ρ F H ρ' F' H') : Grow b ρ' F' H' where
  pre := List.IsPrefix.trans g.pre x.pre
  frz := g.frz.trans x.frz
  keep := fun a o h n => x.keep a o (g.keep a o h n) fun m => by
    have := g.new a m n
    rw [h] at this
    cases this
  there := fun a h => x.there a (g.there a h)
  old := fun a h => by
    by_cases c : F' a = F a
    · exact c.trans (g.old a h)
    · exact absurd (fr a (x.old a (g.there a h) c)) h
  new := fun a m n => by
    by_cases c : a ∈ ρ
    · exact g.new a c n
    · cases q : b.H a with
      | none => rfl
      | some o => exact absurd (x.new a m c) (g.there a (ne_none_of q))

theorem Rel.own_there (r : Rel K mg b σ e ρ F H s) {a : Addr} (o : OwnAt σ e a) : H a ≠ none ∧ F a = none ∧ a ∉ ρ := by
  obtain ⟨i, x, e1, e2, e3⟩ := o
  have hx : x ≠ .unb := fun z => by
    subst z
    cases e2
  obtain ⟨v, h1, h2⟩ := r.slot i x e1 hx
  rw [e3] at h1
  cases h1
  cases x with
  | unb => cases e2
  | dat d => cases e2
  | own ds =>
    obtain ⟨a', xs, q1, q2, q3, q4, _⟩ := h2
    cases q1
    exact ⟨ne_none_of q2, q3, q4⟩
  | ownK ks vs =>
    obtain ⟨a', xs, q1, q2, q3, q4, _⟩ := h2
    cases q1
    exact ⟨ne_none_of q2, q3, q4⟩
  | ownT ks vs =>
    obtain ⟨a', xs, q1, q2, q3, q4, _⟩ := h2
    cases q1
    exact ⟨ne_none_of q2, q3, q4⟩
theorem BAt.mono {v : V} {x : B} (h : BAt K mg ρ F H v x) (fz : Same F F') (p : ρ <+: ρ') (k : x.isOwn = true → ∀ a, v = .ref a → H' a = H a ∧ F' a = F a ∧ a ∉ ρ') : BAt K mg ρ' F' H' v x := by
  cases x with
  | unb => exact h
  | dat d => exact At.mono fz p h
  | own ds =>
    obtain ⟨a, xs, rfl, q2, q3, q4, q5⟩ := h
    obtain ⟨k1, k2, k3⟩ := k rfl a rfl
    exact ⟨a, xs, rfl, k1.trans q2, k2.trans q3, k3, q5.mono fz p⟩
  | ownK ks vs =>
    obtain ⟨a, xs, rfl, q2, q3, q4, q5, q6⟩ := h
    obtain ⟨k1, k2, k3⟩ := k rfl a rfl
    exact ⟨a, xs, rfl, k1.trans q2, k2.trans q3, k3, q5, q6.mono fz p⟩
  | ownT ks vs =>
    obtain ⟨a, L, rfl, q2, q3, q4, q5, q6⟩ := h
    obtain ⟨k1, k2, k3⟩ := k rfl a rfl
    exact ⟨a, L, rfl, k1.trans q2, k2.trans q3, k3, q5, fun p hp => sqT_same fz (q6 p hp)⟩
/-- the slots' bindings stand where the names' own objects are left alone -/
theorem Rel.slots (r : Rel K mg b σ e ρ F H s) (fz : Same F F') (p : ρ <+: ρ') (k : ∀ a, OwnAt σ e a → H' a = H a ∧ F' a = F a ∧ a ∉ ρ') :
    ∀ (i : Nat) (x : B), e[i]? = some x → x ≠ .unb → ∃ v, σ[i]? = some (some v) ∧ BAt K mg ρ' F' H' v x := fun i x h1 h2 => by
  obtain ⟨v, h3, h4⟩ := r.slot i x h1 h2
  exact ⟨v, h3, h4.mono fz p fun hx a ha => k a ⟨i, x, h1, hx, by rw [h3, ha]⟩⟩
theorem cells_mono {a : Addr} {c : Cell} (h : CellAt K mg ρ F H a c) (fz : Same F F') (p : ρ <+: ρ') (k : H' a = H a) : CellAt K mg ρ' F' H' a c := by
  cases c with
  | lst ds =>
    obtain ⟨xs, h1, h2⟩ := h
    exact ⟨xs, k.trans h1, h2.mono fz p⟩
/-- a fresh object, frozen at once -/
theorem Rel.laid (r : Rel K mg b σ e ρ F H s) {p : Addr} (hp : H p = none) (o : HO) : Ext σ e e ρ F H ρ (upd F p o) (upd H p o) ∧ Rel K mg b σ e ρ (upd F p o) (upd H p o) s := by
  have nF : F p = none := by
    cases q : F p with
    | none => rfl
    | some u =>
      rw [r.roots.ex p u q] at hp
      cases hp
  have sF : Same F (upd F p o) := fun a u h => by rw [upd_ne (ne_of_none h nF)]; exact h
  have sH : Same H (upd H p o) := fun a u h => by rw [upd_ne (ne_of_none h hp)]; exact h
  have nr : p ∉ ρ := fun m => by
    obtain ⟨n, hn⟩ := List.mem_iff_getElem?.mp m
    have hl : n < s.length := by rw [r.roots.len]; exact (List.getElem?_eq_some_iff.mp hn).1
    have hc := r.roots.cell n p s[n] hn (List.getElem?_eq_getElem hl)
    cases hk : s[n] with
    | lst ds =>
      rw [hk] at hc
      obtain ⟨xs, h1, _⟩ := hc
      rw [hp] at h1
      cases h1
  have ne : ∀ {a : Addr}, H a ≠ none → a ≠ p := fun {a} h z => h (by rw [z]; exact hp)
  have x : Ext σ e e ρ F H ρ (upd F p o) (upd H p o) := ⟨List.prefix_refl _, sF, fun a u h _ => sH a u h, fun a h => same_there sH h, fun a h n => absurd (upd_ne (ne h)) n, fun a h n => absurd h n, fun _ h => h⟩
  refine ⟨x, r.grow.ext r.fresh x, ⟨fun a u h => ?_, r.roots.len, r.roots.nd, fun a h => ?_, fun n a c h1 h2 => ?_⟩, r.len, r.slots sF (List.prefix_refl _) fun a h => ?_, r.fresh, r.apart⟩
  · by_cases q : a = p
    · subst q
      rw [upd_same] at h
      rw [upd_same]
      exact h
    · rw [upd_ne q] at h
      rw [upd_ne q]
      exact r.roots.ex a u h
  · have q : a ≠ p := fun z => nr (by rw [← z]; exact h)
    rw [upd_ne q]
    exact r.roots.free a h
  · exact cells_mono (r.roots.cell n a c h1 h2) sF (List.prefix_refl _) (upd_ne fun z => nr (by rw [← z]; exact List.mem_of_getElem? h1))
  · obtain ⟨k1, k2, k3⟩ := r.own_there h
    exact ⟨upd_ne (ne k1), upd_ne (ne k1), k3⟩
/-- a fresh object that may still change -/
theorem Rel.made (r : Rel K mg b σ e ρ F H s) {p : Addr} (hp : H p = none) (o : HO) : Ext σ e e ρ F H ρ F (upd H p o) ∧ Rel K mg b σ e ρ F (upd H p o) s ∧ F p = none ∧ p ∉ ρ := by
  have nF : F p = none := by
    cases q : F p with
    | none => rfl
    | some u =>
      rw [r.roots.ex p u q] at hp
      cases hp
  have sH : Same H (upd H p o) := fun a u h => by rw [upd_ne (ne_of_none h hp)]; exact h
  have nr : p ∉ ρ := fun m => by
    obtain ⟨n, hn⟩ := List.mem_iff_getElem?.mp m
    have hl : n < s.length := by rw [r.roots.len]; exact (List.getElem?_eq_some_iff.mp hn).1
    have hc := r.roots.cell n p s[n] hn (List.getElem?_eq_getElem hl)
    cases hk : s[n] with
    | lst ds =>
      rw [hk] at hc
      obtain ⟨xs, h1, _⟩ := hc
      rw [hp] at h1
      cases h1
  have ne : ∀ {a : Addr}, H a ≠ none → a ≠ p := fun {a} h z => h (by rw [z]; exact hp)
  have x : Ext σ e e ρ F H ρ F (upd H p o) := ⟨List.prefix_refl _, Same.refl _, fun a u h _ => sH a u h, fun a h => same_there sH h, fun a h n => absurd rfl n, fun a h n => absurd h n, fun _ h => h⟩
  refine ⟨x, ⟨r.grow.ext r.fresh x, ⟨fun a u h => sH a u (r.roots.ex a u h), r.roots.len, r.roots.nd, r.roots.free, fun n a c h1 h2 => ?_⟩, r.len, r.slots (Same.refl _) (List.prefix_refl _) fun a h => ?_, r.fresh, r.apart⟩, nF, nr⟩
  · exact cells_mono (r.roots.cell n a c h1 h2) (Same.refl _) (List.prefix_refl _) (upd_ne fun z => nr (by rw [← z]; exact List.mem_of_getElem? h1))
  · obtain ⟨k1, k2, k3⟩ := r.own_there h
    exact ⟨upd_ne (ne k1), rfl, k3⟩
theorem setG {α : Type} {l : List α} {i j : Nat} {x y : α} (h : (l.set i x)[j]? = some y) : (j = i ∧ y = x) ∨ (j ≠ i ∧ l[j]? = some y) := by
  by_cases c : i = j
  · subst c
    rw [List.getElem?_set] at h
    rw [if_pos rfl] at h
    by_cases c2 : i < l.length
    · rw [if_pos c2] at h
      exact .inl ⟨rfl, (Option.some.inj h).symm⟩
    · rw [if_neg c2] at h
      cases h
  · rw [List.getElem?_set_ne c] at h
    exact .inr ⟨fun z => c z.symm, h⟩
/-- a name's own object does not change any more: frozen as it stands -/
theorem Rel.freeze (r : Rel K mg b σ e ρ F H s) {i : Nat} {x : B} {d : D} (h : e[i]? = some x) (hd : x.frz = some d) :
    ∃ v F', σ[i]? = some (some v) ∧ Ext σ e (e.set i (.dat d)) ρ F H ρ F' H ∧ Rel K mg b σ (e.set i (.dat d)) ρ F' H s ∧ At K mg ρ F' v d := by
  have hx : x ≠ .unb := fun z => by
    subst z
    cases hd
  obtain ⟨v, h3, h4⟩ := r.slot i x h hx
  -- the frozen part behind it
  have core : ∀ F' : Hp, Same F F' → Same F' H → (∀ a, F' a ≠ F a → v = .ref a ∧ x.isOwn = true) → At K mg ρ F' v d →
      ∃ v F', σ[i]? = some (some v) ∧ Ext σ e (e.set i (.dat d)) ρ F H ρ F' H ∧ Rel K mg b σ (e.set i (.dat d)) ρ F' H s ∧ At K mg ρ F' v d := fun F' sF sH only hA => by
    have sub : ∀ a, OwnAt σ (e.set i (.dat d)) a → OwnAt σ e a ∧ ¬ (v = .ref a ∧ x.isOwn = true) := fun a ⟨j, y, e1, e2, e3⟩ => by
      rcases setG e1 with ⟨_, rfl⟩ | ⟨c, e1⟩
      · cases e2
      · exact ⟨⟨j, y, e1, e2, e3⟩, fun ⟨z1, z2⟩ => c (r.apart j i y x a e1 h e2 z2 e3 (by rw [h3, z1]))⟩
    have ex : Ext σ e (e.set i (.dat d)) ρ F H ρ F' H := ⟨List.prefix_refl _, sF, fun _ _ h _ => h, fun _ h => h, fun a _ n => by
      obtain ⟨z1, z2⟩ := only a n
      exact ⟨i, x, h, z2, by rw [h3, z1]⟩, fun a h n => absurd h n, fun a h => (sub a h).1⟩
    have nr : ∀ a, v = .ref a → x.isOwn = true → a ∉ ρ := fun a z1 z2 => (r.own_there ⟨i, x, h, z2, by rw [h3, z1]⟩).2.2
    refine ⟨v, F', h3, ex, ⟨r.grow.ext r.fresh ex, ⟨sH, r.roots.len, r.roots.nd, fun a m => ?_, fun n a c h1 h2 => cells_mono (r.roots.cell n a c h1 h2) sF (List.prefix_refl _) rfl⟩, by rw [List.length_set]; exact r.len, fun j y e1 ny => ?_,
      fun a h => r.fresh a (sub a h).1, fun j k y z a e1 e2 o1 o2 s1 s2 => ?_⟩, hA⟩
    · by_cases c : F' a = F a
      · rw [c]
        exact r.roots.free a m
      · obtain ⟨z1, z2⟩ := only a c
        exact absurd m (nr a z1 z2)
    · rcases setG e1 with ⟨rfl, rfl⟩ | ⟨c, e1⟩
      · exact ⟨v, h3, hA⟩
      · obtain ⟨v', g1, g2⟩ := r.slot j y e1 ny
        refine ⟨v', g1, g2.mono sF (List.prefix_refl _) fun oy a ha => ⟨rfl, ?_, ?_⟩⟩
        · by_cases c2 : F' a = F a
          · exact c2
          · obtain ⟨z1, z2⟩ := only a c2
            exact absurd (r.apart j i y x a e1 h oy z2 (by rw [g1, ha]) (by rw [h3, z1])) c
        · exact (r.own_there ⟨j, y, e1, oy, by rw [g1, ha]⟩).2.2
    · rcases setG e1 with ⟨_, rfl⟩ | ⟨_, e1⟩
      · cases o1
      rcases setG e2 with ⟨_, rfl⟩ | ⟨_, e2⟩
      · cases o2
      exact r.apart j k y z a e1 e2 o1 o2 s1 s2
  -- one object more is frozen
  have one : ∀ (a : Addr) (o : HO), v = .ref a → x.isOwn = true → H a = some o → F a = none → (Same F (upd F a o) → At K mg ρ (upd F a o) v d) →
      ∃ v F', σ[i]? = some (some v) ∧ Ext σ e (e.set i (.dat d)) ρ F H ρ F' H ∧ Rel K mg b σ (e.set i (.dat d)) ρ F' H s ∧ At K mg ρ F' v d := fun a o hv ho q2 q3 hA => by
    have sF : Same F (upd F a o) := fun c u hc => by rw [upd_ne (ne_of_none hc q3)]; exact hc
    refine core (upd F a o) sF (fun c u hc => ?_) (fun c hc => ?_) (hA sF)
    · by_cases z : c = a
      · subst z
        rw [upd_same] at hc
        rw [← hc]
        exact q2
      · rw [upd_ne z] at hc
        exact r.roots.ex c u hc
    · by_cases z : c = a
      · subst z
        exact ⟨hv, ho⟩
      · exact absurd (upd_ne z) hc
  cases x with
  | unb => cases hd
  | dat d' =>
    cases hd
    refine core F (Same.refl _) r.roots.ex (fun a n => absurd rfl n) h4
  | own ds =>
    cases hd
    obtain ⟨a, xs, rfl, q2, q3, q4, q5⟩ := h4
    exact one a _ rfl rfl q2 q3 fun sF => .lst upd_same (q5.mono sF (List.prefix_refl _))
  | ownK ks vs =>
    cases hd
    obtain ⟨a, xs, rfl, q2, q3, q4, q5, q6⟩ := h4
    subst q5
    exact one a _ rfl rfl q2 q3 fun sF => .dK upd_same (q6.mono sF (List.prefix_refl _))
  | ownT ks vs => cases hd
end
end Mi

set_option Elab.async false
set_option linter.all false
set_option autoImplicit false
set_option maxRecDepth 100000
set_option maxHeartbeats 2000000
/-! Mi, part C: the readings of expressions, tests, arguments. -/
namespace Mi
open PySem L2
/-- frozen and tracked grow together, by fresh objects alone -/
structure Gr (F H F' H' : Hp) : Prop where
  frz : Same F F'
  hp : Same H H'
  ex : Same F' H'
  old : ∀ a, H a ≠ none → F' a = F a
theorem Gr.refl {F H : Hp} (h : Same F H) : Gr F H F H := ⟨Same.refl _, Same.refl _, h, fun _ _ => rfl⟩
theorem Gr.trans {F H F' H' F'' H'' : Hp} (x : Gr F H F' H') (y : Gr F' H' F'' H'') : Gr F H F'' H'' :=
  ⟨x.frz.trans y.frz, x.hp.trans y.hp, y.ex, fun a h => (y.old a (same_there x.hp h)).trans (x.old a h)⟩
theorem Gr.laid {F H : Hp} (h : Same F H) {p : Addr} (hp : H p = none) (o : HO) : Gr F H (upd F p o) (upd H p o) := by
  have nF : F p = none := h.free hp
  refine ⟨fun a u q => by rw [upd_ne (ne_of_none q nF)]; exact q, fun a u q => by rw [upd_ne (ne_of_none q hp)]; exact q, fun a u q => ?_, fun a n => upd_ne fun z => n (by rw [z]; exact hp)⟩
  by_cases c : a = p
  · subst c
    rw [upd_same] at q
    rw [upd_same]
    exact q
  · rw [upd_ne c] at q
    rw [upd_ne c]
    exact h a u q
section
variable {K : PySem.W.Frag} {mg : Str → Option Value} {b : Bs} {σ : St} {e e' : Env} {ρ ρ' : List Addr} {F F' H H' : Hp} {s s' : S}
theorem Rel.notRoot (r : Rel K mg b σ e ρ F H s) {p : Addr} (hp : H p = none) : p ∉ ρ := fun m => by
  obtain ⟨n, hn⟩ := List.mem_iff_getElem?.mp m
  have hl : n < s.length := by rw [r.roots.len]; exact (List.getElem?_eq_some_iff.mp hn).1
  have hc := r.roots.cell n p s[n] hn (List.getElem?_eq_getElem hl)
  cases hk : s[n] with
  | lst ds =>
    rw [hk] at hc
    obtain ⟨xs, h1, _⟩ := hc
    rw [hp] at h1
    cases h1
theorem Rel.gr (r : Rel K mg b σ e ρ F H s) (g : Gr F H F' H') : Ext σ e e ρ F H ρ F' H' ∧ Rel K mg b σ e ρ F' H' s := by
  have x : Ext σ e e ρ F H ρ F' H' := ⟨List.prefix_refl _, g.frz, fun a u h _ => g.hp a u h, fun a h => same_there g.hp h, fun a h n => absurd (g.old a h) n, fun a h n => absurd h n, fun _ h => h⟩
  have rt : ∀ {a : Addr}, a ∈ ρ → H a ≠ none := fun {a} m q => r.notRoot q m
  have eq : ∀ {a : Addr}, H a ≠ none → H' a = H a := fun {a} h => by
    obtain ⟨u, q⟩ := some_of_ne h
    rw [q]
    exact g.hp a u q
  refine ⟨x, r.grow.ext r.fresh x, ⟨g.ex, r.roots.len, r.roots.nd, fun a m => (g.old a (rt m)).trans (r.roots.free a m), fun n a c h1 h2 => cells_mono (r.roots.cell n a c h1 h2) g.frz (List.prefix_refl _) (eq (rt (List.mem_of_getElem? h1)))⟩,
    r.len, r.slots g.frz (List.prefix_refl _) fun a h => ?_, r.fresh, r.apart⟩
  obtain ⟨k1, k2, k3⟩ := r.own_there h
  exact ⟨eq k1, g.old a k1, k3⟩
end

section
variable (K : PySem.W.Frag) (mg : Str → Option Value)
/-- an error that came: its class, its own dict -/
def ExAt (ρ : List Addr) (F H : Hp) (x : Exc) (cls : Value) (dd : Option Addr) : Prop :=
  ∃ (C dx : Addr) (fs : List (Str × V)), cls = .ref C ∧ mg x.cls = some (.ref C) ∧ dd = some dx ∧ H dx = some (.xd fs) ∧ fs.map (·.1) = x.fs.map (·.1) ∧ AtAll K mg ρ F (fs.map (·.2)) (x.fs.map (·.2))
abbrev AR (α β : Type) := Hp → Env → List Addr → Hp → Hp → β → α → Prop
def Pst {α β : Type} (W : WX) (A : AR α β) (b : Bs) (σ : St) (e : Env) (ρ : List Addr) (F H : Hp) (r : R α) (Q : β → Hp → Prop) : Prop := match r with
  | .ok a e' s' => ∀ y ρ' F' H', Ext σ e e' ρ F H ρ' F' H' → Rel K mg b σ e' ρ' F' H' s' → A H e' ρ' F' H' y a → Q y H'
  | .exc x e' s' => ∀ cls dd ρ' F' H', Ext σ e e' ρ F H ρ' F' H' → Rel K mg b σ e' ρ' F' H' s' → ExAt K mg ρ' F' H' x cls dd → W cls dd σ H'
  | .no => False
/-- the reading of what is worth m: results by A -/
def T {α β : Type} (W : WX) (A : AR α β) (m : M α) : St → Hp → (β → Hp → Prop) → Prop := fun σ H Q =>
  ∃ b ρ F e s, Rel K mg b σ e ρ F H s ∧ Pst K mg W A b σ e ρ F H (m e s) Q
abbrev aD : AR D V := fun _ _ ρ F _ v d => At K mg ρ F v d
abbrev aDs : AR (List D) (List V) := fun _ _ ρ F _ vs ds => AtAll K mg ρ F vs ds
abbrev aB : AR Bool Bool := fun _ _ _ _ _ y a => y = a
abbrev aI : AR (Option Int) (Option Int) := fun _ _ _ _ _ y a => y = a
abbrev aF : AR B V := fun H0 _ ρ F H v x => BAt K mg ρ F H v x ∧ (x.isOwn = true → ∀ a, v = .ref a → H0 a = none)
/-- several, those of their own all new and apart -/
inductive BAll (H0 : Hp) (ρ : List Addr) (F H : Hp) : List V → List B → Prop
  | nil : BAll H0 ρ F H [] []
  | cons {v : V} {x : B} {vs : List V} {xs : List B} : BAt K mg ρ F H v x → (x.isOwn = true → ∀ a, v = .ref a → H0 a = none ∧ ∀ (j : Nat) (y : B), xs[j]? = some y → y.isOwn = true → vs[j]? ≠ some (V.ref a)) → BAll H0 ρ F H vs xs → BAll H0 ρ F H (v :: vs) (x :: xs)
abbrev aBs : AR (List B) (List V) := fun H0 _ ρ F H vs xs => BAll K mg H0 ρ F H vs xs
/-- what is wanted behind a plain operation -/
def Kont (ρ : List Addr) (F H : Hp) (d : D) (Q : VK) : Prop := ∀ v F' H', Gr F H F' H' → At K mg ρ F' v d → Q v H'
/-- on the way: what has been reckoned so far (P), what is left (f) -/
def Then {α β γ : Type} (W : WX) (A : AR α β) (σ : St) (P : Env → List Addr → Hp → Hp → γ → Prop) (f : γ → M α) (Q : β → Hp → Prop) (H : Hp) : Prop :=
  ∃ c b ρ F e s, Rel K mg b σ e ρ F H s ∧ P e ρ F H c ∧ Pst K mg W A b σ e ρ F H (f c e s) Q
end
/-- what has been reckoned stays -/
def Stb {γ : Type} (σ : St) (P : Env → List Addr → Hp → Hp → γ → Prop) : Prop := ∀ e e' ρ F H ρ' F' H' c, Ext σ e e' ρ F H ρ' F' H' → P e ρ F H c → P e' ρ' F' H' c
/-- what is wanted of a result hangs on the start by what was new then -/
def Anti {α β : Type} (A : AR α β) : Prop := ∀ H0 H1 e ρ F H y a, (∀ x, H0 x ≠ none → H1 x ≠ none) → A H1 e ρ F H y a → A H0 e ρ F H y a
section
variable {K : PySem.W.Frag} {mg : Str → Option Value} {b : Bs} {σ : St} {e e' : Env} {ρ ρ' : List Addr} {F F' H H' : Hp} {s s' : S} {α β γ δ ε : Type} {W : WX} {A : AR α β} {Q : β → Hp → Prop}
theorem anti_D : Anti (aD K mg) := fun _ _ _ _ _ _ _ _ _ h => h
theorem anti_Ds : Anti (aDs K mg) := fun _ _ _ _ _ _ _ _ _ h => h
theorem anti_B : Anti aB := fun _ _ _ _ _ _ _ _ _ h => h
theorem anti_I : Anti aI := fun _ _ _ _ _ _ _ _ _ h => h
theorem none_back {H0 H1 : Hp} (k : ∀ x, H0 x ≠ none → H1 x ≠ none) {a : Addr} (h : H1 a = none) : H0 a = none := by
  cases q : H0 a with
  | none => rfl
  | some o => exact absurd h (k a (ne_none_of q))
theorem anti_F : Anti (aF K mg) := fun _ _ _ _ _ _ _ _ k h => ⟨h.1, fun o a z => none_back k (h.2 o a z)⟩
theorem BAll.anti {H0 H1 : Hp} (k : ∀ x, H0 x ≠ none → H1 x ≠ none) : ∀ {vs : List V} {xs : List B}, BAll K mg H1 ρ F H vs xs → BAll K mg H0 ρ F H vs xs
  | _, _, .nil => .nil
  | _, _, .cons h1 h2 t => .cons h1 (fun o a z => ⟨none_back k (h2 o a z).1, (h2 o a z).2⟩) (BAll.anti k t)
theorem anti_Bs : Anti (aBs K mg) := fun _ _ _ _ _ _ _ _ k h => h.anti k
theorem Pst.shift (hA : Anti A) {r : R α} (h : Pst K mg W A b σ e ρ F H r Q) (x : Ext σ e e' ρ F H ρ' F' H') : Pst K mg W A b σ e' ρ' F' H' r Q := by
  cases r with
  | ok a e2 s2 => exact fun y ρ2 F2 H2 x2 r2 a2 => h y ρ2 F2 H2 (x.trans x2) r2 (hA _ _ _ _ _ _ _ _ x.there a2)
  | exc ex e2 s2 => exact fun cls dd ρ2 F2 H2 x2 r2 a2 => h cls dd ρ2 F2 H2 (x.trans x2) r2 a2
  | no => exact h
theorem T.start {m : M α} (h : T K mg W A m σ H Q) : Then K mg W A σ (fun _ _ _ _ (_ : Unit) => True) (fun _ => m) Q H := by
  obtain ⟨b, ρ, F, e, s, r, p⟩ := h
  exact ⟨(), b, ρ, F, e, s, r, trivial, p⟩
theorem bnd_ok {m : M δ} {f : δ → M α} {a : δ} (h : m e s = .ok a e' s') : bnd m f e s = f a e' s' := by
  unfold bnd
  rw [h]
theorem bnd_exc {m : M δ} {f : δ → M α} {x : Exc} (h : m e s = .exc x e' s') : bnd m f e s = .exc x e' s' := by
  unfold bnd
  rw [h]
theorem bnd_no {m : M δ} {f : δ → M α} (h : m e s = .no) : bnd m f e s = .no := by
  unfold bnd
  rw [h]
/-- one part more -/
theorem Then.step {A1 : AR δ ε} {P : Env → List Addr → Hp → Hp → γ → Prop} {m : M δ} {f : γ → δ → M α} (hA : Anti A) (hP : Stb σ P) (h : Then K mg W A σ P (fun c => bnd m (f c)) Q H) :
    T K mg W A1 m σ H (fun y H1 => Then K mg W A σ (fun e ρ F H' (p : γ × δ) => P e ρ F H' p.1 ∧ ∃ e1 ρ1 F1 H1, Ext σ e1 e ρ1 F1 H1 ρ F H' ∧ A1 H e1 ρ1 F1 H1 y p.2) (fun p => f p.1 p.2) Q H1) := by
  obtain ⟨c, b, ρ, F, e, s, r, p, k⟩ := h
  refine ⟨b, ρ, F, e, s, r, ?_⟩
  change Pst K mg W A b σ e ρ F H (bnd m (f c) e s) Q at k
  cases hm : m e s with
  | ok a e' s' =>
    rw [bnd_ok hm] at k
    exact fun y ρ' F' H' x r' a1 => ⟨(c, a), b, ρ', F', e', s', r', ⟨hP _ _ _ _ _ _ _ _ _ x p, e', ρ', F', H', Ext.refl, a1⟩, Pst.shift hA k x⟩
  | exc ex e' s' =>
    rw [bnd_exc hm] at k
    exact k
  | no =>
    rw [bnd_no hm] at k
    exact k
theorem stb_unit : Stb σ (fun _ _ _ _ (_ : Unit) => True) := fun _ _ _ _ _ _ _ _ _ _ _ => trivial
theorem stb_and {P : Env → List Addr → Hp → Hp → γ → Prop} {A1 : AR δ ε} {H0 : Hp} {y : ε} (hP : Stb σ P) : Stb σ (fun e ρ F H' (p : γ × δ) => P e ρ F H' p.1 ∧ ∃ e1 ρ1 F1 H1, Ext σ e1 e ρ1 F1 H1 ρ F H' ∧ A1 H0 e1 ρ1 F1 H1 y p.2) :=
  fun _ _ _ _ _ _ _ _ _ x ⟨p, e1, ρ1, F1, H1, x1, a1⟩ => ⟨hP _ _ _ _ _ _ _ _ _ x p, e1, ρ1, F1, H1, x1.trans x, a1⟩
theorem at_ext {v : V} {d : D} {e1 : Env} {ρ1 : List Addr} {F1 H1 : Hp} (x : Ext σ e1 e ρ1 F1 H1 ρ F H) (h : At K mg ρ1 F1 v d) : At K mg ρ F v d := h.mono x.frz x.pre
theorem ats_ext {v : List V} {d : List D} {e1 : Env} {ρ1 : List Addr} {F1 H1 : Hp} (x : Ext σ e1 e ρ1 F1 H1 ρ F H) (h : AtAll K mg ρ1 F1 v d) : AtAll K mg ρ F v d := h.mono x.frz x.pre
theorem lift_ok {o : Option α} {a : α} (h : o = some a) : lift o e s = .ok a e s := by
  rw [h] <;> rfl
/-- the end of a plain operation -/
theorem Pst.kont {o : Option D} {Q : VK} (r : Rel K mg b σ e ρ F H s) (h : Pst K mg W (aD K mg) b σ e ρ F H (lift o e s) Q) : ∃ d, o = some d ∧ Kont K mg ρ F H d Q := by
  cases o with
  | none => exact h.elim
  | some d => exact ⟨d, rfl, fun v F' H' g a => h v ρ F' H' (r.gr g).1 (r.gr g).2 a⟩
theorem Pst.kontB {o : Option Bool} {Q : Bool → Hp → Prop} (r : Rel K mg b σ e ρ F H s) (h : Pst K mg W aB b σ e ρ F H (lift o e s) Q) : ∃ k, o = some k ∧ ∀ F' H', Gr F H F' H' → Q k H' := by
  cases o with
  | none => exact h.elim
  | some d => exact ⟨d, rfl, fun F' H' g => h d ρ F' H' (r.gr g).1 (r.gr g).2 rfl⟩
end
/-- weaker readings -/
theorem pe_weak {X : Cx} {x : Expr} {t t' : TE} (h : PE X x t) (w : ∀ σ H Q, t' σ H Q → t σ H Q) : PE X x t' := ⟨fun pins s σ H Q I q => h.run pins s σ H Q I (w σ H Q q)⟩
theorem pt_weak {X : Cx} {x : Expr} {t t' : TT} (h : PT X x t) (w : ∀ σ H Q, t' σ H Q → t σ H Q) : PT X x t' := ⟨fun pins s σ H Q I q => h.run pins s σ H Q I (w σ H Q q)⟩
theorem pw_weak {X : Cx} {x : Expr} {t t' : TT} (h : PW X x t) (w : ∀ σ H Q, t' σ H Q → t σ H Q) : PW X x t' := ⟨fun wh pins s σ H Q I q => h.run wh pins s σ H Q I (w σ H Q q)⟩
theorem pa_weak {X : Cx} {x : List Expr} {t t' : TA} (h : PA X x t) (w : ∀ σ H Q, t' σ H Q → t σ H Q) : PA X x t' := ⟨fun pos pins s σ H Q I q => h.run pos pins s σ H Q I (w σ H Q q)⟩
theorem po_weak {X : Cx} {x : Option Expr} {t t' : TO} (h : PO X x t) (w : ∀ σ H Q, t' σ H Q → t σ H Q) : PO X x t' := by
  refine ⟨?_⟩
  intros
  exact h.run _ _ _ _ _ (by assumption) (w _ _ _ (by assumption))
theorem ps_weak {X : Cx} {x : Stmt} {t t' : TS} (h : PS X x t) (w : ∀ D σ H, t' D σ H → t D σ H) : PS X x t' := ⟨fun pins s σ H D I q => h.run pins s σ H D I (w D σ H q)⟩
theorem pss_weak {X : Cx} {x : List Stmt} {t t' : TS} (h : PSs X x t) (w : ∀ D σ H, t' D σ H → t D σ H) : PSs X x t' := ⟨fun pins s σ H D I q => h.run pins s σ H D I (w D σ H q)⟩
theorem pg_weak {X : Cx} {x : Expr} {t t' : TG} (h : PG X x t) (w : ∀ v σ H Q, t' v σ H Q → t v σ H Q) : PG X x t' := ⟨fun pins s σ H v u Q I r q => h.run pins s σ H v u Q I r (w v σ H Q q)⟩
theorem pi_weak {X : Cx} {tg x : Expr} {t t' : TI} (h : PI X tg x t) (w : ∀ σ H R, t' σ H R → t σ H R) : PI X tg x t' := ⟨fun pins s σ H R I q => h.run pins s σ H R I (w σ H R q)⟩
end Mi

set_option Elab.async false
set_option linter.all false
set_option autoImplicit false
set_option maxRecDepth 100000
set_option maxHeartbeats 2000000
/-! Mi, part D: what operations are worth (plain functions of data), and that the machine's own give it. -/
namespace Mi
open PySem L2
/-! ### data as the library's -/
mutual
def D.py : D → PyData
  | .non => .none
  | .bl b => .bool b
  | .int i => .int i
  | .str x => .str x
  | .tup xs => .tuple (pys xs)
  | .lst xs => .list (pys xs)
  | .dK _ _ => .none
  | .dT _ _ => .none
  | .fn _ => .none
  | .root _ => .none
  | .scr _ => .none
  | .ntup xs => .tuple (pys xs)
def pys : List D → List PyData
  | [] => []
  | x :: xs => x.py :: pys xs
end
mutual
/-- no dict, no def, no changing object within -/
def D.plain : D → Bool
  | .tup xs => plains xs
  | .lst xs => plains xs
  | .dK _ _ => false
  | .dT _ _ => false
  | .fn _ => false
  | .root _ => false
  | .scr _ => false
  | .ntup xs => plains xs
  | .non => true
  | .bl _ => true
  | .int _ => true
  | .str _ => true
def plains : List D → Bool
  | [] => true
  | x :: xs => x.plain && plains xs
end
mutual
def D.dep : D → Nat
  | .tup xs => deps xs + 1
  | .lst xs => deps xs + 1
  | .non => 0
  | .bl _ => 0
  | .int _ => 0
  | .str _ => 0
  | .dK _ _ => 0
  | .dT _ _ => 0
  | .fn _ => 0
  | .root _ => 0
  | .scr _ => 0
  | .ntup xs => deps xs + 1
def deps : List D → Nat
  | [] => 0
  | x :: xs => max x.dep (deps xs)
end
mutual
theorem py_depth : ∀ d : D, d.py.depth = d.dep
  | .non => rfl
  | .bl _ => rfl
  | .int _ => rfl
  | .str _ => rfl
  | .dK _ _ => rfl
  | .dT _ _ => rfl
  | .fn _ => rfl
  | .root _ => rfl
  | .scr _ => rfl
  | .tup xs => by simp only [D.py, D.dep, PyData.depth, pys_depth xs]
  | .ntup xs => by simp only [D.py, D.dep, PyData.depth, pys_depth xs]
  | .lst xs => by simp only [D.py, D.dep, PyData.depth, pys_depth xs]
theorem pys_depth : ∀ xs : List D, PyData.depthAll (pys xs) = deps xs
  | [] => rfl
  | x :: xs => by simp only [pys, deps, PyData.depthAll, py_depth x, pys_depth xs]
end
section
variable {K : PySem.W.Frag} {mg : Str → Option Value} {ρ : List Addr} {F H : Hp}
mutual
theorem At.dp : ∀ {v : V} (d : D), At K mg ρ F v d → d.plain = true → Dp K F v d.py ∧ d.py.canLay0 = true
  | _, .non, h, _ => by cases h; exact ⟨.non, rfl⟩
  | _, .bl b, h, _ => by cases h; exact ⟨.bl b, rfl⟩
  | _, .int i, h, _ => by cases h; exact ⟨.int i, rfl⟩
  | _, .str x, h, _ => by cases h with | str k => exact ⟨.str x, k⟩
  | _, .tup xs, h, p => by
    cases h with
    | tup h1 h2 =>
      obtain ⟨q1, q2⟩ := AtAll.dp xs h2 p
      exact ⟨.tup h1 q1, q2⟩
  | _, .lst xs, h, p => by
    cases h with
    | lst h1 h2 =>
      obtain ⟨q1, q2⟩ := AtAll.dp xs h2 p
      exact ⟨.lst (SqL.of h1) q1, q2⟩
  | _, .dK _ _, _, p => by cases p
  | _, .dT _ _, _, p => by cases p
  | _, .fn _, _, p => by cases p
  | _, .root _, _, p => by cases p
  | _, .scr _, _, p => by cases p
  | _, .ntup xs, h, p => by
    cases h with
    | ntup h1 _ h2 =>
      obtain ⟨q1, q2⟩ := AtAll.dp xs h2 p
      exact ⟨.tup h1 q1, q2⟩
theorem AtAll.dp : ∀ {vs : List V} (ds : List D), AtAll K mg ρ F vs ds → plains ds = true → DpAll K F vs (pys ds) ∧ PyData.canLayAll0 (pys ds) = true
  | _, [], h, _ => by cases h; exact ⟨.nil, rfl⟩
  | _, d :: ds, h, p => by
    cases h with
    | cons h1 h2 =>
      have p' : (d.plain && plains ds) = true := p
      rw [Bool.and_eq_true] at p'
      obtain ⟨q1, q2⟩ := At.dp d h1 p'.1
      obtain ⟨q3, q4⟩ := AtAll.dp ds h2 p'.2
      exact ⟨.cons q1 q3, by show (d.py.canLay0 && PyData.canLayAll0 (pys ds)) = true; rw [q2, q4]; rfl⟩
end
mutual
theorem dp_same {F F' : Hp} (e : Same F F') : ∀ {v : V} (d : PyData), Dp K F v d → Dp K F' v d
  | _, .none, h => by cases h; exact .non
  | _, .bool b, h => by cases h; exact .bl b
  | _, .int i, h => by cases h; exact .int i
  | _, .str x, h => by cases h; exact .str x
  | _, .list xs, h => by cases h with | lst h1 h2 => exact .lst (e.seq h1) (dps_same e xs h2)
  | _, .tuple xs, h => by cases h with | tup h1 h2 => exact .tup (sqT_same e h1) (dps_same e xs h2)
  | _, .dict _, h => by cases h
theorem dps_same {F F' : Hp} (e : Same F F') : ∀ {vs : List V} (ds : List PyData), DpAll K F vs ds → DpAll K F' vs ds
  | _, [], h => by cases h; exact .nil
  | _, d :: ds, h => by cases h with | cons h1 h2 => exact .cons (dp_same e d h1) (dps_same e ds h2)
end
end

/-! ### two operands -/
section
variable (K : PySem.W.Frag) (mg : Str → Option Value)
/-- what r asks is met by g's worth -/
def Op2 (g : D → D → Option D) (r : R2) : Prop := ∀ (ρ : List Addr) (F H : Hp) (x y : V) (d1 d2 d : D) (Q : VK), Same F H → At K mg ρ F x d1 → At K mg ρ F y d2 → g d1 d2 = some d → Kont K mg ρ F H d Q → r x y H Q
def Op1 (g : D → Option D) (r : V → Hp → VK → Prop) : Prop := ∀ (ρ : List Addr) (F H : Hp) (x : V) (d1 d : D) (Q : VK), Same F H → At K mg ρ F x d1 → g d1 = some d → Kont K mg ρ F H d Q → r x H Q
def OpN (g : List D → Option D) (r : List V → Hp → VK → Prop) : Prop := ∀ (ρ : List Addr) (F H : Hp) (xs : List V) (ds : List D) (d : D) (Q : VK), Same F H → AtAll K mg ρ F xs ds → g ds = some d → Kont K mg ρ F H d Q → r xs H Q
def OpC (g : D → D → Option Bool) (r : R2) : Prop := ∀ (ρ : List Addr) (F H : Hp) (x y : V) (d1 d2 : D) (k : Bool) (Q : VK), Same F H → At K mg ρ F x d1 → At K mg ρ F y d2 → g d1 d2 = some k → Q (.bl k) H → r x y H Q
end
def tp2 {α : Type} (g : D → D → α) : D → D → α := fun a b => g a.top b.top
def tpN {α : Type} (g : List D → α) : List D → α := fun ds => g (ds.map D.top)
theorem Op2.tp {K : PySem.W.Frag} {mg : Str → Option Value} {g : D → D → Option D} {r : R2} (h : Op2 K mg g r) : Op2 K mg (tp2 g) r := fun ρ F H x y d1 d2 d Q sf a1 a2 hg k => h ρ F H x y _ _ d Q sf a1.top a2.top hg k
theorem OpC.tp {K : PySem.W.Frag} {mg : Str → Option Value} {g : D → D → Option Bool} {r : R2} (h : OpC K mg g r) : OpC K mg (tp2 g) r := fun ρ F H x y d1 d2 d Q sf a1 a2 hg k => h ρ F H x y _ _ d Q sf a1.top a2.top hg k
theorem ats_top {K : PySem.W.Frag} {mg : Str → Option Value} {ρ : List Addr} {F : Hp} : ∀ {vs : List V} {ds : List D}, AtAll K mg ρ F vs ds → AtAll K mg ρ F vs (ds.map D.top)
  | _, _, .nil => .nil
  | _, _, .cons h t => .cons h.top (ats_top t)
theorem OpN.tp {K : PySem.W.Frag} {mg : Str → Option Value} {g : List D → Option D} {r : List V → Hp → VK → Prop} (h : OpN K mg g r) : OpN K mg (tpN g) r := fun ρ F H xs ds d Q sf a hg k => h ρ F H xs _ d Q sf (ats_top a) hg k
def m2 (m1 m2 : M D) (g : D → D → Option D) : M D := bnd m1 fun a => bnd m2 fun b => lift (g a b)
def m1 (m1 : M D) (g : D → Option D) : M D := bnd m1 fun a => lift (g a)
def c2 (m1 m2 : M D) (g : D → D → Option Bool) : M Bool := bnd m1 fun a => bnd m2 fun b => lift (g a b)
section
variable {X : Cx} {W : WX} {a b : Expr} {ma mb : M D} {pos : Pos}
abbrev EM (X : Cx) (W : WX) (e : Expr) (m : M D) : Prop := PE X e (T X.K X.mg W (aD X.K X.mg) m)
abbrev TM (X : Cx) (W : WX) (e : Expr) (m : M Bool) : Prop := PT X e (T X.K X.mg W aB m)
abbrev WM (X : Cx) (W : WX) (e : Expr) (m : M Bool) : Prop := PW X e (T X.K X.mg W aB m)
/-- two operands in a row: their data, then what is left -/
theorem two {α β : Type} {A : AR α β} {σ : St} {H : Hp} {Q : β → Hp → Prop} {K : PySem.W.Frag} {mg : Str → Option Value} {f : D → D → M α} (hA : Anti A) (h : T K mg W A (bnd ma fun x => bnd mb fun y => f x y) σ H Q)
    {R : V → V → Hp → Prop} (k : ∀ x y d1 d2 b ρ F H e s, Rel K mg b σ e ρ F H s → At K mg ρ F x d1 → At K mg ρ F y d2 → Pst K mg W A b σ e ρ F H (f d1 d2 e s) Q → R x y H) :
    T K mg W (aD K mg) ma σ H fun x H1 => T K mg W (aD K mg) mb σ H1 fun y H2 => R x y H2 := by
  have h1 := Then.step (A1 := aD K mg) (P := fun _ _ _ _ (_ : Unit) => True) (f := fun _ x => bnd mb fun y => f x y) hA stb_unit h.start
  obtain ⟨b, ρ, F, e, s, r, p⟩ := h1
  refine ⟨b, ρ, F, e, s, r, ?_⟩
  cases hm : ma e s with
  | no => rw [hm] at p; exact p
  | exc x e' s' => rw [hm] at p; exact p
  | ok d e' s' =>
    rw [hm] at p
    intro x ρ' F' H' x1 r1 a1
    have h2 := p x ρ' F' H' x1 r1 a1
    have h3 := Then.step (A1 := aD K mg) (f := fun p y => f p.2 y) hA (stb_and (A1 := aD K mg) stb_unit) h2
    obtain ⟨b2, ρ2, F2, e2, s2, r2, p2⟩ := h3
    refine ⟨b2, ρ2, F2, e2, s2, r2, ?_⟩
    cases hm2 : mb e2 s2 with
    | no => rw [hm2] at p2; exact p2
    | exc x e' s' => rw [hm2] at p2; exact p2
    | ok d2 e3 s3 =>
      rw [hm2] at p2
      intro y ρ3 F3 H3 x3 r3 a3
      obtain ⟨c, b4, ρ4, F4, e4, s4, r4, ⟨⟨_, e5, ρ5, F5, H5, x5, q5⟩, e6, ρ6, F6, H6, x6, q6⟩, k4⟩ := p2 y ρ3 F3 H3 x3 r3 a3
      exact k x y c.1.2 c.2 b4 ρ4 F4 H3 e4 s4 r4 (at_ext x5 q5) (at_ext x6 q6) k4
theorem one {α β : Type} {A : AR α β} {σ : St} {H : Hp} {Q : β → Hp → Prop} {K : PySem.W.Frag} {mg : Str → Option Value} {f : D → M α} (hA : Anti A) (h : T K mg W A (bnd ma f) σ H Q)
    {R : V → Hp → Prop} (k : ∀ x d1 b ρ F H e s, Rel K mg b σ e ρ F H s → At K mg ρ F x d1 → Pst K mg W A b σ e ρ F H (f d1 e s) Q → R x H) :
    T K mg W (aD K mg) ma σ H R := by
  have h1 := Then.step (A1 := aD K mg) (P := fun _ _ _ _ (_ : Unit) => True) (f := fun _ x => f x) hA stb_unit h.start
  obtain ⟨b, ρ, F, e, s, r, p⟩ := h1
  refine ⟨b, ρ, F, e, s, r, ?_⟩
  cases hm : ma e s with
  | no => rw [hm] at p; exact p
  | exc x e' s' => rw [hm] at p; exact p
  | ok d e' s' =>
    rw [hm] at p
    intro x ρ' F' H' x1 r1 a1
    obtain ⟨c, b4, ρ4, F4, e4, s4, r4, ⟨_, e5, ρ5, F5, H5, x5, q5⟩, k4⟩ := p x ρ' F' H' x1 r1 a1
    exact k x c.2 b4 ρ4 F4 H' e4 s4 r4 (at_ext x5 q5) k4
/-- a op b -/
theorem x_bin {op : Operator} {r : R2} {g : D → D → Option D} (ho : OpR X (binaryOp op) r) (hs : Op2 X.K X.mg g r) (ha : EM X W a ma) (hb : EM X W b mb) : EM X W (.BinOp a op b pos) (m2 ma mb g) :=
  pe_weak (pe_op ho ha hb) fun σ H Q h => two anti_D h fun x y d1 d2 b ρ F H e s r a1 a2 p => by
    obtain ⟨d, hd, k⟩ := p.kont r
    exact hs ρ F H x y d1 d2 d Q r.roots.ex a1 a2 hd k
/-- a comparison as a value, as a test -/
theorem x_cmp {op : CmpOp} {r : R2} {g : D → D → Option Bool} (ho : OpR X (compareOp op) r) (hs : OpC X.K X.mg g r) (ha : EM X W a ma) (hb : EM X W b mb) (hm : behindInMarks op b = false) : EM X W (.Compare a [op] [b] pos) (m2 ma mb fun x y => (g x y).map .bl) :=
  pe_weak (pe_cmpR ho ha hb hm) fun σ H Q h => two anti_D h fun x y d1 d2 b ρ F H e s r a1 a2 p => by
    obtain ⟨d, hd, k⟩ := p.kont r
    obtain ⟨c, hc, rfl⟩ := Option.map_eq_some_iff.mp hd
    exact hs ρ F H x y d1 d2 c Q r.roots.ex a1 a2 hc (k _ F H (Gr.refl r.roots.ex) (.bl c))
theorem t_cmp {op : CmpOp} {r : R2} {g : D → D → Option Bool} (ho : OpR X (compareOp op) r) (hs : OpC X.K X.mg g r) (ha : EM X W a ma) (hb : EM X W b mb) (hm : behindInMarks op b = false) : TM X W (.Compare a [op] [b] pos) (c2 ma mb g) :=
  pt_weak (pt_cmpR ho ha hb hm) fun σ H Q h => two anti_B h fun x y d1 d2 b ρ F H e s r a1 a2 p => by
    obtain ⟨c, hc, k⟩ := p.kontB r
    exact hs ρ F H x y d1 d2 c _ r.roots.ex a1 a2 hc ⟨c, rfl, k F H (Gr.refl r.roots.ex)⟩
end
end Mi

set_option Elab.async false
set_option linter.all false
set_option autoImplicit false
set_option maxRecDepth 100000
set_option maxHeartbeats 2000000
/-! Mi, part E: names, constants, tests, and, or, not, conditional expressions, argument lists, displays. -/
namespace Mi
open PySem L2
def mVar (i : Nat) : M D := fun e s => match e[i]? with
  | some (.dat d) => .ok d e s
  | some (.own ds) => .ok (.lst ds) (e.set i (.dat (.lst ds))) s
  | some (.ownK ks vs) => .ok (.dK ks vs) (e.set i (.dat (.dK ks vs))) s
  | _ => .no
def asB (m : M D) : M Bool := bnd m fun d => match d with
  | .bl b => ret b
  | _ => lift none
def tNo (m : M Bool) : M Bool := bnd m fun b => ret (!b)
def tAn (m n : M Bool) : M Bool := bnd m fun b => if b = true then n else ret false
def tOrr (m n : M Bool) : M Bool := bnd m fun b => if b = true then ret true else n
def ofB (m : M Bool) : M D := bnd m fun b => ret (.bl b)
def mAn (m n : M D) : M D := bnd m fun d => match d with
  | .bl b => if b = true then n else ret (.bl false)
  | _ => lift none
def mOrr (m n : M D) : M D := bnd m fun d => match d with
  | .bl b => if b = true then ret (.bl true) else n
  | _ => lift none
def mNo (m : M D) : M D := bnd m fun d => match d with
  | .bl b => ret (.bl (!b))
  | _ => lift none
def mIf {α : Type} (t : M Bool) (m n : M α) : M α := bnd t fun b => if b = true then m else n
def c3 (ma mb mc : M D) (g g' : D → D → Option Bool) : M Bool := bnd ma fun x => bnd mb fun y => bnd (lift (g x y)) fun k => if k = true then bnd mc fun z => lift (g' y z) else ret false
def aNil : M (List D) := ret []
def aCons (m : M D) (n : M (List D)) : M (List D) := bnd m fun d => bnd n fun ds => ret (d :: ds)
def lim : Nat := 1000000
theorem lim_line {n : Nat} (h : n ≤ lim) : n ≤ sizeLine := by
  rw [sizeLine_eq]
  unfold lim at h
  omega
def mTup (m : M (List D)) : M D := bnd m fun ds => lift (if ds.length ≤ lim then some (.tup ds) else none)
def mLst (m : M (List D)) : M D := bnd m fun ds => lift (if ds.length ≤ lim then some (.lst ds) else none)
abbrev AM (X : Cx) (W : WX) (es : List Expr) (m : M (List D)) : Prop := PA X es (T X.K X.mg W (aDs X.K X.mg) m)

section
variable {K : PySem.W.Frag} {mg : Str → Option Value} {b : Bs} {σ : St} {e e' : Env} {ρ ρ' : List Addr} {F F' H H' : Hp} {s s' : S} {α β : Type} {W : WX}
theorem Pst.ret {A : AR α β} {a : α} {Q : β → Hp → Prop} (r : Rel K mg b σ e ρ F H s) (h : Pst K mg W A b σ e ρ F H (ret a e s) Q) {y : β} (q : A H e ρ F H y a) : Q y H :=
  h y ρ F H Ext.refl r q
theorem set_same {l : Env} {i : Nat} {x : B} (h : l[i]? = some x) : l.set i x = l := by
  apply List.ext_getElem?
  intro j
  by_cases c : i = j
  · subst c
    rw [List.getElem?_set, if_pos rfl, if_pos (List.getElem?_eq_some_iff.mp h).1, h]
  · rw [List.getElem?_set_ne c]
/-- a name is read: what it holds does not change any more -/
theorem T.var {i : Nat} {Q : VK} {H : Hp} (h : T K mg W (aD K mg) (mVar i) σ H Q) : ∃ v, σ[i]? = some (some v) ∧ Q v H := by
  obtain ⟨b, ρ, F, e, s, r, p⟩ := h
  have go : ∀ (x : B) (d : D), e[i]? = some x → x.frz = some d → mVar i e s = .ok d (e.set i (.dat d)) s → ∃ v, σ[i]? = some (some v) ∧ Q v H := fun x d hx hd hm => by
    rw [hm] at p
    obtain ⟨v, F', h1, h2, h3, h4⟩ := r.freeze hx hd
    exact ⟨v, h1, p v ρ F' H h2 h3 h4⟩
  unfold mVar at p go
  cases hx : e[i]? with
  | none =>
    rw [hx] at p
    exact p.elim
  | some x =>
    cases x with
    | unb =>
      rw [hx] at p
      exact p.elim
    | dat d => exact go _ d hx rfl (by rw [hx]; show R.ok d e s = _; rw [set_same hx])
    | own ds => exact go _ _ hx rfl (by rw [hx])
    | ownK ks vs => exact go _ _ hx rfl (by rw [hx])
    | ownT ks vs =>
      rw [hx] at p
      exact p.elim
theorem T.ret {A : AR α β} {a : α} {Q : β → Hp → Prop} {H : Hp} {y : β} (h : T K mg W A (ret a) σ H Q) (k : ∀ e ρ F, Same F H → A H e ρ F H y a) : Q y H := by
  obtain ⟨b, ρ, F, e, s, r, p⟩ := h
  exact p.ret r (k e ρ F r.roots.ex)
end

section
variable {X : Cx} {W : WX} {a b c : Expr} {ma mb mc : M D} {ta tb : M Bool} {pos : Pos} {rest : List Expr}
theorem x_var {i : Nat} {x : Str} (hN : X.N[i]? = some x) (hv : Vis X.env.scope x) (hd : (x == ("__debug__" : Str)) = false) (hcd : (x == ("__classdict__" : Str)) = false) : EM X W (.Name x pos) (mVar i) :=
  pe_weak (pe_var hN hv hd hcd) fun σ H Q h => h.var
theorem x_int {i : Int} {j : Nat} : EM X W (.Constant (.int i) j pos) (ret (.int i)) := pe_weak pe_int fun σ H Q h => h.ret fun _ _ _ _ => .int i
theorem x_bl {i : Bool} {j : Nat} : EM X W (.Constant (.bool i) j pos) (ret (.bl i)) := pe_weak pe_bl fun σ H Q h => h.ret fun _ _ _ _ => .bl i
theorem x_non {j : Nat} : EM X W (.Constant .none j pos) (ret .non) := pe_weak pe_non fun σ H Q h => h.ret fun _ _ _ _ => .non
theorem x_str {i : Str} {j : Nat} (ok : PyData.strOk i = true) : EM X W (.Constant (.str i) j pos) (ret (.str i)) := pe_weak pe_str fun σ H Q h => h.ret fun _ _ _ _ => .str ok
theorem x_glob {x : Str} {v : V} {u : Value} {d : D} (hg : Gl X x) (hm : X.mg x = some u) (r : RelV v u) (ha : ∀ ρ F, At X.K X.mg ρ F v d) (hd : (x == ("__debug__" : Str)) = false) : EM X W (.Name x pos) (ret d) :=
  pe_weak (pe_glob hg hm r hd) fun σ H Q h => h.ret fun _ ρ F _ => ha ρ F
/-- -n, written -/
theorem x_neg {i : Int} {j : Nat} {p : Pos} : EM X W (.UnaryOp .USub (.Constant (.int i) j p) pos) (ret (.int (-i))) :=
  pe_weak (pe_un un_neg pe_int) fun σ H Q h => ⟨i, rfl, h.ret fun _ _ _ _ => .int (-i)⟩

/-! ### tests -/
theorem t_val (ha : EM X W a ma) (he : ∀ whole, isTrue a X.env whole = (do let v ← whole; standAt a.pos; holding [v] (truthy v))) : TM X W a (asB ma) :=
  pt_weak (pt_val ha he) fun σ H Q h => one anti_B h fun x d1 b ρ F H e s r a1 p => by
    cases a1 with
    | bl k => exact ⟨k, rfl, p.ret r rfl⟩
    | _ => exact p.elim
/-- a test, then by its answer -/
theorem tst {α β : Type} {A : AR α β} {σ : St} {H : Hp} {Q : β → Hp → Prop} {K : PySem.W.Frag} {mg : Str → Option Value} {f : Bool → M α} (hA : Anti A) (h : T K mg W A (bnd ta f) σ H Q)
    {R : Bool → Hp → Prop} (k : ∀ y H, T K mg W A (f y) σ H Q → R y H) : T K mg W aB ta σ H R := by
  obtain ⟨b, ρ, F, e, s, r, p⟩ := h
  refine ⟨b, ρ, F, e, s, r, ?_⟩
  cases hm : ta e s with
  | no => rw [bnd_no hm] at p; exact p
  | exc x e' s' => rw [bnd_exc hm] at p; exact p
  | ok d e' s' =>
    rw [bnd_ok hm] at p
    intro y ρ' F' H' x1 r1 a1
    subst a1
    exact k y H' ⟨b, ρ', F', e', s', r1, Pst.shift hA p x1⟩
theorem t_not (ha : TM X W a ta) : TM X W (.UnaryOp .Not a pos) (tNo ta) := pt_weak (pt_not ha) fun σ H Q h => tst anti_B h fun y H h => h.ret fun _ _ _ _ => rfl
theorem w_and1 (ha : TM X W a ta) : WM X W (.BoolOp .And [a] pos) ta := pw_and1 ha
theorem w_or1 (ha : TM X W a ta) : WM X W (.BoolOp .Or [a] pos) ta := pw_or1 ha
theorem w_and (ha : TM X W a ta) (hb : WM X W (.BoolOp .And (b :: rest) pos) tb) : WM X W (.BoolOp .And (a :: b :: rest) pos) (tAn ta tb) :=
  pw_weak (pw_and ha hb) fun σ H Q h => tst anti_B h fun y H h => by
    cases y with
    | true => exact h
    | false => exact h.ret fun _ _ _ _ => rfl
theorem w_or (ha : TM X W a ta) (hb : WM X W (.BoolOp .Or (b :: rest) pos) tb) : WM X W (.BoolOp .Or (a :: b :: rest) pos) (tOrr ta tb) :=
  pw_weak (pw_or ha hb) fun σ H Q h => tst anti_B h fun y H h => by
    cases y with
    | true => exact h.ret fun _ _ _ _ => rfl
    | false => exact h
theorem t_w {e : Expr} (h : WM X W e ta) : TM X W e ta := h.pt
/-- .. as values -/
theorem x_one {op : BoolOp} (h : EM X W a ma) : EM X W (.BoolOp op [a] pos) ma := pe_one h
/-- an operand, then by it -/
theorem opd {α β : Type} {A : AR α β} {σ : St} {H : Hp} {Q : β → Hp → Prop} {K : PySem.W.Frag} {mg : Str → Option Value} {f : D → M α} (hA : Anti A) (h : T K mg W A (bnd ma f) σ H Q)
    {R : V → Hp → Prop} (k : ∀ v d ρ F H, Same F H → At K mg ρ F v d → T K mg W A (f d) σ H Q → R v H) : T K mg W (aD K mg) ma σ H R := by
  obtain ⟨b, ρ, F, e, s, r, p⟩ := h
  refine ⟨b, ρ, F, e, s, r, ?_⟩
  cases hm : ma e s with
  | no => rw [bnd_no hm] at p; exact p
  | exc x e' s' => rw [bnd_exc hm] at p; exact p
  | ok d e' s' =>
    rw [bnd_ok hm] at p
    intro y ρ' F' H' x1 r1 a1
    exact k y d ρ' F' H' r1.roots.ex a1 ⟨b, ρ', F', e', s', r1, Pst.shift hA p x1⟩
theorem T.no {α β : Type} {A : AR α β} {σ : St} {H : Hp} {Q : β → Hp → Prop} {K : PySem.W.Frag} {mg : Str → Option Value} (h : T K mg W A (lift (none : Option α)) σ H Q) : False := by
  obtain ⟨b, ρ, F, e, s, r, p⟩ := h
  exact p
theorem x_and (ha : EM X W a ma) (hb : EM X W (.BoolOp .And (b :: rest) pos) mb) : EM X W (.BoolOp .And (a :: b :: rest) pos) (mAn ma mb) :=
  pe_weak (pe_and ha hb) fun σ H Q h => opd anti_D h fun v d ρ F H sf a1 h => by
    cases a1 with
    | bl k =>
      cases k with
      | true => exact ⟨true, rfl, h⟩
      | false => exact ⟨false, rfl, h.ret fun _ _ _ _ => .bl false⟩
    | _ => exact h.no.elim
theorem x_or (ha : EM X W a ma) (hb : EM X W (.BoolOp .Or (b :: rest) pos) mb) : EM X W (.BoolOp .Or (a :: b :: rest) pos) (mOrr ma mb) :=
  pe_weak (pe_or ha hb) fun σ H Q h => opd anti_D h fun v d ρ F H sf a1 h => by
    cases a1 with
    | bl k =>
      cases k with
      | true => exact ⟨true, rfl, h.ret fun _ _ _ _ => .bl true⟩
      | false => exact ⟨false, rfl, h⟩
    | _ => exact h.no.elim
theorem x_not (ha : EM X W a ma) : EM X W (.UnaryOp .Not a pos) (mNo ma) :=
  pe_weak (pe_not ha) fun σ H Q h => opd anti_D h fun v d ρ F H sf a1 h => by
    cases a1 with
    | bl k => exact ⟨k, rfl, h.ret fun _ _ _ _ => .bl _⟩
    | _ => exact h.no.elim
theorem x_if (hc : TM X W c ta) (ha : EM X W a ma) (hb : EM X W b mb) : EM X W (.IfExp c a b pos) (mIf ta ma mb) :=
  pe_weak (pe_ifExp hc ha hb) fun σ H Q h => tst anti_D h fun y H h => by
    cases y with
    | true => exact h
    | false => exact h

/-! ### a < b < c -/
theorem bnd_assoc {α β γ : Type} (m : M α) (f : α → M β) (g : β → M γ) : bnd (bnd m f) g = bnd m fun x => bnd (f x) g := by
  funext e s
  unfold bnd
  cases m e s <;> rfl
theorem bnd_ret {α : Type} (m : M α) : bnd m ret = m := by
  funext e s
  unfold bnd
  cases m e s <;> rfl
theorem chain_core {α β : Type} {A : AR α β} {σ : St} {H : Hp} {Q : β → Hp → Prop} {K : PySem.W.Frag} {mg : Str → Option Value} {r r' : R2} {g g' : D → D → Option Bool} {f : Bool → M α} (hA : Anti A) (hs : OpC K mg g r) (hs' : OpC K mg g' r')
    (h : T K mg W A (bnd (c3 ma mb mc g g') f) σ H Q) {R : VK} (k : ∀ y H, T K mg W A (f y) σ H Q → R (.bl y) H) :
    T K mg W (aD K mg) ma σ H fun x H1 => T K mg W (aD K mg) mb σ H1 fun y H2 => r x y H2 fun z H3 => ∃ k, z = .bl k ∧ if k = true then T K mg W (aD K mg) mc σ H3 (fun w' H4 => r' y w' H4 R) else R (.bl false) H3 := by
  have e0 : bnd (c3 ma mb mc g g') f = bnd ma fun x => bnd mb fun y => bnd (lift (g x y)) fun k => bnd (if k = true then bnd mc fun z => lift (g' y z) else ret false) f := by
    simp only [c3, bnd_assoc]
  rw [e0] at h
  refine two hA h fun x y d1 d2 b ρ F H e s rl a1 a2 p => ?_
  cases hg : g d1 d2 with
  | none =>
    rw [hg] at p
    exact p.elim
  | some kk =>
    rw [hg] at p
    refine hs ρ F H x y d1 d2 kk _ rl.roots.ex a1 a2 hg ⟨kk, rfl, ?_⟩
    cases kk with
    | false => exact k false H ⟨b, ρ, F, e, s, rl, p⟩
    | true =>
      show T K mg W (aD K mg) mc σ H _
      -- the third operand, the second still at hand: from this very state
      refine ⟨b, ρ, F, e, s, rl, ?_⟩
      change Pst K mg W A b σ e ρ F H (bnd (bnd mc fun z => lift (g' d2 z)) f e s) Q at p
      rw [bnd_assoc] at p
      cases hm : mc e s with
      | no => rw [bnd_no hm] at p; exact p
      | exc x e' s' => rw [bnd_exc hm] at p; exact p
      | ok d3 e' s' =>
        rw [bnd_ok hm] at p
        intro w' ρ' F' H' x1 r1 a3
        cases hg' : g' d2 d3 with
        | none =>
          rw [hg'] at p
          exact p.elim
        | some k' =>
          rw [hg'] at p
          exact hs' ρ' F' H' y w' d2 d3 k' _ r1.roots.ex (at_ext x1 a2) a3 hg' (k k' H' ⟨b, ρ', F', e', s', r1, Pst.shift hA p x1⟩)
theorem t_chain {op op' : CmpOp} {r r' : R2} {g g' : D → D → Option Bool} (ho : OpR X (compareOp op) r) (ho' : OpR X (compareOp op') r') (hs : OpC X.K X.mg g r) (hs' : OpC X.K X.mg g' r') (ha : EM X W a ma) (hb : EM X W b mb) (hc : EM X W c mc)
    (h1 : lastMarks [op, op'] [b, c] = false) : TM X W (.Compare a [op, op'] [b, c] pos) (c3 ma mb mc g g') := by
  refine pt_weak (pt_chain ho ho' ha hb hc h1) fun σ H Q h => ?_
  rw [← bnd_ret (c3 ma mb mc g g')] at h
  exact chain_core anti_B hs hs' h (R := fun x H' => ∃ k, x = .bl k ∧ Q k H') fun y H h => ⟨y, rfl, h.ret fun _ _ _ _ => rfl⟩
theorem x_chain {op op' : CmpOp} {r r' : R2} {g g' : D → D → Option Bool} (ho : OpR X (compareOp op) r) (ho' : OpR X (compareOp op') r') (hs : OpC X.K X.mg g r) (hs' : OpC X.K X.mg g' r') (ha : EM X W a ma) (hb : EM X W b mb) (hc : EM X W c mc)
    (h1 : lastMarks [op, op'] [b, c] = false) : EM X W (.Compare a [op, op'] [b, c] pos) (ofB (c3 ma mb mc g g')) := by
  refine pe_weak (pe_chain ho ho' ha hb hc h1) fun σ H Q h => ?_
  exact chain_core anti_D hs hs' h (R := Q) fun y H h => h.ret fun _ _ _ _ => .bl y
/-! ### argument lists, displays -/
theorem a_nil : AM X W [] aNil := pa_weak pa_nil fun σ H Q h => h.ret fun _ _ _ _ => .nil
theorem a_cons {es : List Expr} {n : M (List D)} (ha : EM X W a ma) (hr : AM X W es n) (hs : starEach (a :: es) X.env = (false, eval a X.env) :: starEach es X.env) : AM X W (a :: es) (aCons ma n) :=
  pa_weak (pa_cons ha hr hs) fun σ H Q h => by
    obtain ⟨b, ρ, F, e, s, r, p⟩ := h
    refine ⟨b, ρ, F, e, s, r, ?_⟩
    unfold aCons at p
    cases hm : ma e s with
    | no => rw [bnd_no hm] at p; exact p
    | exc x e' s' => rw [bnd_exc hm] at p; exact p
    | ok d e' s' =>
      rw [bnd_ok hm] at p
      intro v ρ' F' H' x1 r1 a1
      refine ⟨b, ρ', F', e', s', r1, ?_⟩
      cases hn : n e' s' with
      | no => rw [bnd_no hn] at p; exact p
      | exc x e2 s2 => rw [bnd_exc hn] at p; exact Pst.shift (r := Mi.R.exc x e2 s2) anti_Ds p x1
      | ok ds e2 s2 =>
        rw [bnd_ok hn] at p
        intro vs ρ2 F2 H2 x2 r2 a2
        exact p _ ρ2 F2 H2 (x1.trans x2) r2 (.cons (at_ext x2 a1) a2)
/-- all arguments, then what is left -/
theorem alls {α β : Type} {A : AR α β} {σ : St} {H : Hp} {Q : β → Hp → Prop} {K : PySem.W.Frag} {mg : Str → Option Value} {n : M (List D)} {f : List D → M α} (hA : Anti A) (h : T K mg W A (bnd n f) σ H Q)
    {R : List V → Hp → Prop} (k : ∀ xs ds b ρ F H e s, Rel K mg b σ e ρ F H s → AtAll K mg ρ F xs ds → Pst K mg W A b σ e ρ F H (f ds e s) Q → R xs H) : T K mg W (aDs K mg) n σ H R := by
  obtain ⟨b, ρ, F, e, s, r, p⟩ := h
  refine ⟨b, ρ, F, e, s, r, ?_⟩
  cases hm : n e s with
  | no => rw [bnd_no hm] at p; exact p
  | exc x e' s' => rw [bnd_exc hm] at p; exact p
  | ok ds e' s' =>
    rw [bnd_ok hm] at p
    intro vs ρ' F' H' x1 r1 a1
    exact k vs ds b ρ' F' H' e' s' r1 a1 (Pst.shift hA p x1)
theorem x_tup {es : List Expr} {n : M (List D)} {kk : Nat} (h : AM X W es n) : EM X W (.Tuple es kk pos) (mTup n) :=
  pe_weak (pe_tup h) fun σ H Q h => alls anti_D h fun xs ds b ρ F H e s r a1 p => by
    obtain ⟨d, hd, k⟩ := p.kont r
    by_cases hl : ds.length ≤ lim
    · rw [if_pos hl] at hd
      cases hd
      refine ⟨by rw [a1.length]; exact lim_line hl, fun q hq => ?_⟩
      have g := Gr.laid r.roots.ex hq (.tup xs)
      exact k _ _ _ g (.tup (SqT.of upd_same) (a1.mono g.frz (List.prefix_refl _)))
    · rw [if_neg hl] at hd
      cases hd
theorem x_lst {es : List Expr} {n : M (List D)} (h : AM X W es n) : EM X W (.List es pos) (mLst n) :=
  pe_weak (pe_lst h) fun σ H Q h => alls anti_D h fun xs ds b ρ F H e s r a1 p => by
    obtain ⟨d, hd, k⟩ := p.kont r
    by_cases hl : ds.length ≤ lim
    · rw [if_pos hl] at hd
      cases hd
      refine ⟨by rw [a1.length]; exact lim_line hl, fun q hq => ?_⟩
      have g := Gr.laid r.roots.ex hq (.lst xs)
      exact k _ _ _ g (.lst upd_same (a1.mono g.frz (List.prefix_refl _)))
    · rw [if_neg hl] at hd
      cases hd
end
end Mi

set_option Elab.async false
set_option linter.all false
set_option autoImplicit false
set_option maxRecDepth 100000
set_option maxHeartbeats 4000000
/-! Mi, part F: what the operators, subscripts, slices and built-ins are worth. -/
namespace Mi
open PySem L2
/-! ### texts that can be written -/
theorem ok_iff {x : Str} : PyData.strOk x = true ↔ ∀ c ∈ x.cps.toList, c < 1114112 := by
  unfold PyData.strOk
  rw [← Array.all_toList, List.all_eq_true]
  exact ⟨fun h c m => of_decide_eq_true (h c m), fun h c m => decide_eq_true (h c m)⟩
theorem ok_append {x y : Str} (hx : PyData.strOk x = true) (hy : PyData.strOk y = true) : PyData.strOk (x ++ y) = true := by
  rw [ok_iff] at *
  intro c m
  rw [PyProof.Rows.cps_toList_append] at m
  rcases List.mem_append.mp m with m | m
  · exact hx c m
  · exact hy c m
theorem ok_one {x : Str} {c : Nat} (hx : PyData.strOk x = true) (m : c ∈ x.cps.toList) : PyData.strOk ⟨#[c]⟩ = true := by
  rw [ok_iff] at *
  intro d hd
  have e : d = c := by simpa using hd
  rw [e]
  exact hx c m

/-! ### operators -/
def gAdd : D → D → Option D
  | .int i, .int j => some (.int (i + j))
  | .str x, .str y => if x.length + y.length ≤ lim then some (.str (x ++ y)) else none
  | .tup xs, .tup ys => if xs.length + ys.length ≤ lim then some (.tup (xs ++ ys)) else none
  | .lst xs, .lst ys => if xs.length + ys.length ≤ lim then some (.lst (xs ++ ys)) else none
  | _, _ => none
def gSub : D → D → Option D
  | .int i, .int j => some (.int (i - j))
  | _, _ => none
def gMul : D → D → Option D
  | .int i, .int j => if i.natAbs < 2 ^ 63 ∨ j.natAbs < 2 ^ 63 then some (.int (i * j)) else none
  | .tup xs, .int k => if xs ≠ [] ∧ 2 ≤ k ∧ k ≤ 1000 ∧ xs.length ≤ 1000 then some (.tup (List.replicate k.toNat xs).flatten) else if k = 1 then some (.tup xs) else none
  | _, _ => none
def gMod : D → D → Option D
  | .int i, .int j => if j ≠ 0 then some (.int (i.fmod j)) else none
  | _, _ => none
def gFdv : D → D → Option D
  | .int i, .int j => if j ≠ 0 ∧ j.natAbs < 1073741824 then some (.int (i.fdiv j)) else none
  | _, _ => none
def gPow : D → D → Option D
  | .int i, .int j => if 0 ≤ j ∧ j ≤ 1000000 ∧ i.natAbs < 2 ^ 64 then some (.int (i ^ j.toNat)) else none
  | _, _ => none
theorem pow63 : (2 : Nat) ^ 63 = 9223372036854775808 := by decide +kernel
section
variable {K : PySem.W.Frag} {mg : Str → Option Value} {X : Cx}
theorem op2_add : Op2 K mg gAdd (fun x y H Q => rI0 (fun i j => .int (i + j)) x y H Q ∨ rCatA K x y H Q ∨ rCat x y H Q ∨ ∃ i j, x = .str i ∧ y = .str j ∧ i.length + j.length ≤ sizeLine ∧ Q (.str (i ++ j)) H) := by
  intro ρ F H x y d1 d2 d Q sf a1 a2 hg k
  cases a1 with
  | int i =>
    cases a2 with
    | int j =>
      cases hg
      exact .inl ⟨i, j, rfl, rfl, k _ _ _ (Gr.refl sf) (.int _)⟩
    | _ => cases hg
  | str okx =>
    cases a2 with
    | str oky =>
      rename_i x y
      have hg' : (if x.length + y.length ≤ lim then some (D.str (x ++ y)) else none) = some d := hg
      by_cases hl : x.length + y.length ≤ lim
      · rw [if_pos hl] at hg'
        cases hg'
        exact .inr (.inr (.inr ⟨x, y, rfl, rfl, lim_line hl, k _ _ _ (Gr.refl sf) (.str (ok_append okx oky))⟩))
      · rw [if_neg hl] at hg'
        cases hg'
    | _ => cases hg
  | tup s1 t1 =>
    cases a2 with
    | tup s2 t2 =>
      rename_i a xs ds b ys es
      have hg' : (if ds.length + es.length ≤ lim then some (D.tup (ds ++ es)) else none) = some d := hg
      by_cases hl : ds.length + es.length ≤ lim
      · rw [if_pos hl] at hg'
        cases hg'
        refine .inr (.inl ⟨a, b, xs, ys, rfl, rfl, sqT_same sf s1, sqT_same sf s2, by rw [t1.length, t2.length]; exact lim_line hl, fun e => ?_, fun n e => ?_, fun n1 n2 p hp => ?_⟩)
        · subst e
          cases t1
          exact k _ _ _ (Gr.refl sf) (.tup s2 t2)
        · subst e
          cases t2
          rw [List.append_nil] at k
          exact k _ _ _ (Gr.refl sf) (.tup s1 t1)
        · have g := Gr.laid sf hp (.tup (xs ++ ys))
          exact k _ _ _ g (.tup (SqT.of upd_same) ((t1.append t2).mono g.frz (List.prefix_refl _)))
      · rw [if_neg hl] at hg'
        cases hg'
    | _ => cases hg
  | lst s1 t1 =>
    cases a2 with
    | lst s2 t2 =>
      rename_i a xs ds b ys es
      have hg' : (if ds.length + es.length ≤ lim then some (D.lst (ds ++ es)) else none) = some d := hg
      by_cases hl : ds.length + es.length ≤ lim
      · rw [if_pos hl] at hg'
        cases hg'
        refine .inr (.inr (.inl ⟨a, b, xs, ys, rfl, rfl, sf _ _ s1, sf _ _ s2, by rw [t1.length, t2.length]; exact lim_line hl, fun p hp => ?_⟩))
        have g := Gr.laid sf hp (.lst (xs ++ ys))
        exact k _ _ _ g (.lst upd_same ((t1.append t2).mono g.frz (List.prefix_refl _)))
      · rw [if_neg hl] at hg'
        cases hg'
    | _ => cases hg
  | _ => cases hg
theorem or_add : OpR X (binaryOp .Add) (fun x y H Q => rI0 (fun i j => .int (i + j)) x y H Q ∨ rCatA X.K x y H Q ∨ rCat x y H Q ∨ ∃ i j, x = .str i ∧ y = .str j ∧ i.length + j.length ≤ sizeLine ∧ Q (.str (i ++ j)) H) :=
  op_add.or (op_catA.or (op_cat.or op_add_str))
/-- an operator of two ints -/
theorem op2_int {g : D → D → Option D} {C : Int → Int → Prop} {f : Int → Int → Int} (hi : ∀ i j d, g (.int i) (.int j) = some d → C i j ∧ d = .int (f i j)) (hn : ∀ a b d, g a b = some d → ∃ i j, a = .int i ∧ b = .int j) : Op2 K mg g (rI C fun i j => .int (f i j)) := by
  intro ρ F H x y d1 d2 d Q sf a1 a2 hg k
  obtain ⟨i, j, rfl, rfl⟩ := hn _ _ _ hg
  obtain ⟨hc, rfl⟩ := hi _ _ _ hg
  cases a1
  cases a2
  exact ⟨i, j, rfl, rfl, hc, k _ _ _ (Gr.refl sf) (.int _)⟩
theorem op2_sub : Op2 K mg gSub (rI0 fun i j => .int (i - j)) := by
  intro ρ F H x y d1 d2 d Q sf a1 a2 hg k
  cases a1 with
  | int i =>
    cases a2 with
    | int j =>
      cases hg
      exact ⟨i, j, rfl, rfl, k _ _ _ (Gr.refl sf) (.int _)⟩
    | _ => cases hg
  | _ => cases hg
theorem op2_mod : Op2 K mg gMod (rI (fun _ j => j ≠ 0) fun i j => .int (i.fmod j)) := by
  intro ρ F H x y d1 d2 d Q sf a1 a2 hg k
  cases a1 with
  | int i =>
    cases a2 with
    | int j =>
      have hg' : (if j ≠ 0 then some (D.int (i.fmod j)) else none) = some d := hg
      by_cases c : j ≠ 0
      · rw [if_pos c] at hg'
        cases hg'
        exact ⟨i, j, rfl, rfl, c, k _ _ _ (Gr.refl sf) (.int _)⟩
      · rw [if_neg c] at hg'
        cases hg'
    | _ => cases hg
  | _ => cases hg
theorem op2_fdv : Op2 K mg gFdv (rI CDivN fun i j => .int (i.fdiv j)) := by
  intro ρ F H x y d1 d2 d Q sf a1 a2 hg k
  cases a1 with
  | int i =>
    cases a2 with
    | int j =>
      have hg' : (if j ≠ 0 ∧ j.natAbs < 1073741824 then some (D.int (i.fdiv j)) else none) = some d := hg
      by_cases c : j ≠ 0 ∧ j.natAbs < 1073741824
      · rw [if_pos c] at hg'
        cases hg'
        exact ⟨i, j, rfl, rfl, c, k _ _ _ (Gr.refl sf) (.int _)⟩
      · rw [if_neg c] at hg'
        cases hg'
    | _ => cases hg
  | _ => cases hg
theorem op2_pow : Op2 K mg gPow (rI CPow fun i j => .int (i ^ j.toNat)) := by
  intro ρ F H x y d1 d2 d Q sf a1 a2 hg k
  cases a1 with
  | int i =>
    cases a2 with
    | int j =>
      have hg' : (if 0 ≤ j ∧ j ≤ 1000000 ∧ i.natAbs < 2 ^ 64 then some (D.int (i ^ j.toNat)) else none) = some d := hg
      by_cases c : 0 ≤ j ∧ j ≤ 1000000 ∧ i.natAbs < 2 ^ 64
      · rw [if_pos c] at hg'
        cases hg'
        exact ⟨i, j, rfl, rfl, c, k _ _ _ (Gr.refl sf) (.int _)⟩
      · rw [if_neg c] at hg'
        cases hg'
    | _ => cases hg
  | _ => cases hg
end
section
open PySem.Spec PyProof.Rows
/-- tuple * 1 is the tuple itself -/
theorem tup_mul_one (l : Addr) (items : Array Value) (n : Nat) (dd : Option Addr) (sl : Array (Option Value)) (u : Tok) :
    Meets (Builtin.«tuple.__mul__» ⟨[.ref l, .int 1 u], []⟩) (fun _ R s => s.heap.get? l = some { cls := .type "tuple", dict := dd, data := .seq items n, slots := sl } ∧ R (.ok (.ret (Value.ref l))) s) :=
  .of_wp fun prog w A R s h => by
    obtain ⟨hp, g, d, tk, os⟩ := s
    obtain ⟨hl, h⟩ := h
    have f1 := AutoSeq1.idx_int
    have c0 : (decide ((1 : Int) < -(2 ^ 63)) || decide ((1 : Int) ≥ 2 ^ 63)) = false := by decide +kernel
    have c1 : (items.isEmpty || (1 : Int) == 1) = true := by rw [show ((1 : Int) == 1) = true from rfl, Bool.or_true]
    wp_walk using wpAny_loadPart' hl
    repeat (first
      | (refine wpAny_ite_false (decide_eq_false (by rw [c0]; exact Bool.false_ne_true)) ?_; wp_walk using wpAny_loadPart' hl)
      | (refine wpAny_ite_true (decide_eq_true c1) ?_; wp_walk using wpAny_loadPart' hl))
    exact ⟨_, rfl, h⟩
def rRep1 (K : PySem.W.Frag) : R2 := fun x y H Q => ∃ l xs, x = .ref l ∧ y = .int 1 ∧ SqT K H l xs ∧ Q (.ref l) H
theorem or_rep1 {X : Cx} : OpR X (binaryOp .Mult) (rRep1 X.K) := by
  intro pins s σ H x y v u Q I rx ry h
  obtain ⟨l, xs, rfl, rfl, hT, q⟩ := h
  cases rx
  obtain ⟨t, rfl⟩ := ry
  obtain ⟨its, r, ⟨⟨cls, dd, data, sl⟩, ho, hc, n, hd⟩, hs⟩ := I.tuple hT
  simp only at hc hd
  subst hc hd
  exact wpAny_binaryOp_repeat_ref (T := "tuple") (U := "int") (by decide) ⟨_, ho, rfl⟩ (fun s' => typeIs_int s' 1 t) noFill_tuple_mul F.fills_int_mul F.slot_int_rmul repeat_tuple F.slot_int_index.lookup
    (call_meets F.slot_int_rmul (typeIs_int s 1 t) F.entry_int_rmul (F.args_int_rmul_2 _ _) (int_rmul_tuple 1 t l its.toArray n dd sl)
      ⟨ho, rfl, ⟨_, ho, rfl⟩, call_meets F.slot_tuple_mul ⟨_, ho, rfl⟩ F.entry_tuple_mul (F.args_tuple_mul_2 _ _) (tup_mul_one l its.toArray n dd sl t) ⟨ho, ⟨.ref l, H, I, rfl, q⟩⟩⟩)
end
section
variable {K : PySem.W.Frag} {mg : Str → Option Value} {X : Cx}
theorem natAbs64 {i : Int} (h : i.natAbs < 2 ^ 63) : -(2 ^ 64) < i ∧ i < 2 ^ 64 := by
  have e : (2 : Nat) ^ 63 = 9223372036854775808 := pow63
  rw [e] at h
  constructor <;> omega
theorem op2_mul : Op2 K mg gMul (fun x y H Q => rI CMul (fun i j => .int (i * j)) x y H Q ∨ rRepT K x y H Q ∨ rRep1 K x y H Q) := by
  intro ρ F H x y d1 d2 d Q sf a1 a2 hg k
  cases a1 with
  | int i =>
    cases a2 with
    | int j =>
      have hg' : (if i.natAbs < 2 ^ 63 ∨ j.natAbs < 2 ^ 63 then some (D.int (i * j)) else none) = some d := hg
      by_cases c : i.natAbs < 2 ^ 63 ∨ j.natAbs < 2 ^ 63
      · rw [if_pos c] at hg'
        cases hg'
        refine .inl ⟨i, j, rfl, rfl, ?_, k _ _ _ (Gr.refl sf) (.int _)⟩
        rcases c with c | c
        · exact .inl (natAbs64 c)
        · exact .inr (natAbs64 c)
      · rw [if_neg c] at hg'
        cases hg'
    | _ => cases hg
  | tup s1 t1 =>
    cases a2 with
    | int n =>
      rename_i a xs ds
      have hg' : (if ds ≠ [] ∧ 2 ≤ n ∧ n ≤ 1000 ∧ ds.length ≤ 1000 then some (D.tup (List.replicate n.toNat ds).flatten) else if n = 1 then some (.tup ds) else none) = some d := hg
      by_cases c : ds ≠ [] ∧ 2 ≤ n ∧ n ≤ 1000 ∧ ds.length ≤ 1000
      · rw [if_pos c] at hg'
        cases hg'
        refine .inr (.inl ⟨a, n, xs, rfl, rfl, sqT_same sf s1, fun e => c.1 ?_, c.2.1, c.2.2.1, by rw [t1.length]; exact c.2.2.2, fun p hp => ?_⟩)
        · subst e
          cases t1
          rfl
        · have g := Gr.laid sf hp (.tup (List.replicate n.toNat xs).flatten)
          exact k _ _ _ g (.tup (SqT.of upd_same) ((t1.rep n.toNat).mono g.frz (List.prefix_refl _)))
      · rw [if_neg c] at hg'
        by_cases c1 : n = 1
        · rw [if_pos c1] at hg'
          cases hg'
          subst c1
          exact .inr (.inr ⟨a, xs, rfl, rfl, sqT_same sf s1, k _ _ _ (Gr.refl sf) (.tup s1 t1)⟩)
        · rw [if_neg c1] at hg'
          cases hg'
    | _ => cases hg
  | _ => cases hg
theorem or_mul : OpR X (binaryOp .Mult) (fun x y H Q => rI CMul (fun i j => .int (i * j)) x y H Q ∨ rRepT X.K x y H Q ∨ rRep1 X.K x y H Q) := op_mul.or (op_repT.or or_rep1)
end

/-! ### comparisons -/
def dEq (a b : D) : Bool := PyData.eqv a.py b.py
def eqable (a b : D) : Bool := a.plain && b.plain && decide (min a.dep b.dep ≤ 60)
def cEq (a b : D) : Option Bool := if eqable a b = true then some (dEq a b) else none
def cNe (a b : D) : Option Bool := if eqable a b = true then some (!dEq a b) else none
def cInt (f : Int → Int → Bool) : D → D → Option Bool
  | .int i, .int j => some (f i j)
  | _, _ => none
def cLt : D → D → Option Bool
  | .int i, .int j => some (decide (i < j))
  | .str x, .str y => some (decide (x.cps.toList < y.cps.toList))
  | _, _ => none
def cLe : D → D → Option Bool := cInt fun i j => decide (i ≤ j)
def cGt : D → D → Option Bool := cInt fun i j => decide (j < i)
def cGe : D → D → Option Bool := cInt fun i j => decide (j ≤ i)
def inOk (d : D) (ds : List D) : Bool := d.plain && plains ds && decide (d.dep ≤ 60)
def cIn : D → D → Option Bool
  | .str x, .str z => match x.cps.toList with
    | [c] => some (decide (c ∈ z.cps.toList))
    | _ => none
  | d, .tup ds => if inOk d ds = true then some (ds.any fun z => dEq z d) else none
  | d, .lst ds => if inOk d ds = true then some (ds.any fun z => dEq z d) else none
  | _, _ => none
def cNi (a b : D) : Option Bool := (cIn a b).map (!·)
def D.isNon : D → Bool
  | .non => true
  | _ => false
def cIs : D → D → Option Bool
  | .bl a, .bl b => some (decide (a = b))
  | d, .non => some d.isNon
  | _, _ => none
def cIsn (a b : D) : Option Bool := (cIs a b).map (!·)
section
variable {K : PySem.W.Frag} {mg : Str → Option Value} {X : Cx}
/-- == of data, however deep on one side -/
def rEqM (K : PySem.W.Frag) (n : Bool) : R2 := fun x y H Q => ∃ d e, Dp K H x d ∧ Dp K H y e ∧ d.canLay0 = true ∧ e.canLay0 = true ∧ min d.depth e.depth ≤ 60 ∧ Q (.bl (if n then !PyData.eqv d e else PyData.eqv d e)) H
theorem or_eq (hu : X.A.units + 64 < cLine) : OpR X (compareOp .Eq) (rEqM X.K false) := by
  intro pins s σ H x y v u Q I rx ry h
  obtain ⟨d, e, hd, he, sd, se, hm, q⟩ := h
  obtain ⟨as, r1⟩ := Dp.reads I d x v hd rx
  obtain ⟨bs, r2⟩ := Dp.reads I e y u he ry
  exact SeqAt.compareEq_reads r1 r2 sd se (by omega) ⟨.bl _, H, I, rfl, q⟩
theorem or_ne (hu : X.A.units + 64 < cLine) : OpR X (compareOp .NotEq) (rEqM X.K true) := by
  intro pins s σ H x y v u Q I rx ry h
  obtain ⟨d, e, hd, he, sd, se, hm, q⟩ := h
  obtain ⟨as, r1⟩ := Dp.reads I d x v hd rx
  obtain ⟨bs, r2⟩ := Dp.reads I e y u he ry
  exact SeqAt.compareNe_reads r1 r2 sd se (by omega) ⟨.bl _, H, I, rfl, q⟩
theorem eqable_iff {a b : D} : eqable a b = true ↔ a.plain = true ∧ b.plain = true ∧ min a.dep b.dep ≤ 60 := by
  unfold eqable
  rw [Bool.and_eq_true, Bool.and_eq_true, decide_eq_true_eq, and_assoc]
theorem opc_eq : OpC K mg cEq (rEqM K false) := by
  intro ρ F H x y d1 d2 k Q sf a1 a2 hg q
  unfold cEq at hg
  by_cases c : eqable d1 d2 = true
  · rw [if_pos c] at hg
    cases hg
    obtain ⟨p1, p2, hm⟩ := eqable_iff.mp c
    obtain ⟨q1, l1⟩ := At.dp d1 a1 p1
    obtain ⟨q2, l2⟩ := At.dp d2 a2 p2
    exact ⟨d1.py, d2.py, dp_same sf _ q1, dp_same sf _ q2, l1, l2, by rw [py_depth, py_depth]; exact hm, q⟩
  · rw [if_neg c] at hg
    cases hg
theorem opc_ne : OpC K mg cNe (rEqM K true) := by
  intro ρ F H x y d1 d2 k Q sf a1 a2 hg q
  unfold cNe at hg
  by_cases c : eqable d1 d2 = true
  · rw [if_pos c] at hg
    cases hg
    obtain ⟨p1, p2, hm⟩ := eqable_iff.mp c
    obtain ⟨q1, l1⟩ := At.dp d1 a1 p1
    obtain ⟨q2, l2⟩ := At.dp d2 a2 p2
    exact ⟨d1.py, d2.py, dp_same sf _ q1, dp_same sf _ q2, l1, l2, by rw [py_depth, py_depth]; exact hm, q⟩
  · rw [if_neg c] at hg
    cases hg
theorem opc_int {f : Int → Int → Bool} : OpC K mg (cInt f) (rI0 fun i j => .bl (f i j)) := by
  intro ρ F H x y d1 d2 k Q sf a1 a2 hg q
  cases a1 with
  | int i =>
    cases a2 with
    | int j =>
      cases hg
      exact ⟨i, j, rfl, rfl, q⟩
    | _ => cases hg
  | _ => cases hg
theorem opc_lt : OpC K mg cLt (fun x y H Q => rI0 (fun i j => .bl (decide (i < j))) x y H Q ∨ ∃ i j, x = .str i ∧ y = .str j ∧ Q (.bl (decide (i.cps.toList < j.cps.toList))) H) := by
  intro ρ F H x y d1 d2 k Q sf a1 a2 hg q
  cases a1 with
  | int i =>
    cases a2 with
    | int j =>
      cases hg
      exact .inl ⟨i, j, rfl, rfl, q⟩
    | _ => cases hg
  | str _ =>
    cases a2 with
    | str _ =>
      cases hg
      exact .inr ⟨_, _, rfl, rfl, q⟩
    | _ => cases hg
  | _ => cases hg
theorem or_lt : OpR X (compareOp .Lt) (fun x y H Q => rI0 (fun i j => .bl (decide (i < j))) x y H Q ∨ ∃ i j, x = .str i ∧ y = .str j ∧ Q (.bl (decide (i.cps.toList < j.cps.toList))) H) := op_lt.or op_lt_str
/-- in, not in: a sign of a text; of a tuple or a list of data -/
def rInM (K : PySem.W.Frag) (n : Bool) : R2 := fun x y H Q => (∃ (c : Nat) (z : Str), x = .str ⟨#[c]⟩ ∧ y = .str z ∧ Q (.bl (if n then !decide (c ∈ z.cps.toList) else decide (c ∈ z.cps.toList))) H) ∨
  ∃ d ds, Dp K H x d ∧ (Dp K H y (.list ds) ∨ Dp K H y (.tuple ds)) ∧ d.canLay0 = true ∧ PyData.canLayAll0 ds = true ∧ d.depth ≤ 60 ∧ Q (.bl (if n then !(ds.any fun z => PyData.eqv z d) else ds.any fun z => PyData.eqv z d)) H
theorem or_in (hu : X.A.units + 64 < cLine) : OpR X (compareOp .In) (rInM X.K false) := by
  intro pins s σ H x y v u Q I rx ry h
  rcases h with h | ⟨d, ds, hd, he, sd, se, hm, q⟩
  · exact op_in_sign pins s σ H x y v u Q I rx ry h
  · obtain ⟨as, r1⟩ := Dp.reads I d x v hd rx
    rcases he with he | he
    · obtain ⟨bs, r2⟩ := Dp.reads I (.list ds) y u he ry
      exact SeqAt.in_list_reads r2 r1 se sd (by have := Nat.min_le_right (PyData.depthAll ds) d.depth; omega) ⟨.bl _, H, I, rfl, q⟩
    · obtain ⟨bs, r2⟩ := Dp.reads I (.tuple ds) y u he ry
      exact SeqAt.in_tuple_reads r2 r1 se sd (by have := Nat.min_le_right (PyData.depthAll ds) d.depth; omega) ⟨.bl _, H, I, rfl, q⟩
theorem or_ni (hu : X.A.units + 64 < cLine) : OpR X (compareOp .NotIn) (rInM X.K true) := by
  intro pins s σ H x y v u Q I rx ry h
  rcases h with h | ⟨d, ds, hd, he, sd, se, hm, q⟩
  · exact op_notIn_sign pins s σ H x y v u Q I rx ry h
  · obtain ⟨as, r1⟩ := Dp.reads I d x v hd rx
    rcases he with he | he
    · obtain ⟨bs, r2⟩ := Dp.reads I (.list ds) y u he ry
      exact SeqAt.notIn_list_reads r2 r1 se sd (by have := Nat.min_le_right (PyData.depthAll ds) d.depth; omega) ⟨.bl _, H, I, rfl, q⟩
    · obtain ⟨bs, r2⟩ := Dp.reads I (.tuple ds) y u he ry
      exact SeqAt.notIn_tuple_reads r2 r1 se sd (by have := Nat.min_le_right (PyData.depthAll ds) d.depth; omega) ⟨.bl _, H, I, rfl, q⟩
theorem pys_any (d : D) : ∀ ds : List D, ((pys ds).any fun z => PyData.eqv z d.py) = ds.any fun z => dEq z d
  | [] => rfl
  | x :: xs => by
    show (PyData.eqv x.py d.py || (pys xs).any fun z => PyData.eqv z d.py) = (dEq x d || xs.any fun z => dEq z d)
    rw [pys_any d xs]
    rfl
theorem inOk_iff {d : D} {ds : List D} : inOk d ds = true ↔ d.plain = true ∧ plains ds = true ∧ d.dep ≤ 60 := by
  unfold inOk
  rw [Bool.and_eq_true, Bool.and_eq_true, decide_eq_true_eq, and_assoc]
theorem in_core {n : Bool} {ρ : List Addr} {F H : Hp} {x y : V} {d1 d2 : D} {k : Bool} {Q : VK} (sf : Same F H) (a1 : At K mg ρ F x d1) (a2 : At K mg ρ F y d2) (hg : cIn d1 d2 = some k) (q : Q (.bl (if n then !k else k)) H) : rInM K n x y H Q := by
  have seq : ∀ ds : List D, (d2 = .tup ds ∨ d2 = .lst ds) → inOk d1 ds = true → k = (ds.any fun z => dEq z d1) → rInM K n x y H Q := fun ds hd c hk => by
    obtain ⟨p1, p2, hm⟩ := inOk_iff.mp c
    obtain ⟨q1, l1⟩ := At.dp d1 a1 p1
    refine .inr ⟨d1.py, pys ds, dp_same sf _ q1, ?_, l1, ?_, by rw [py_depth]; exact hm, ?_⟩
    · rcases hd with rfl | rfl
      · exact .inr (dp_same sf _ (At.dp (.tup ds) a2 p2).1)
      · exact .inl (dp_same sf _ (At.dp (.lst ds) a2 p2).1)
    · rcases hd with rfl | rfl
      · exact (At.dp (.tup ds) a2 p2).2
      · exact (At.dp (.lst ds) a2 p2).2
    · rw [pys_any, ← hk]
      exact q
  have one : ∀ (x0 z : Str), d1 = .str x0 → d2 = .str z → (match x0.cps.toList with | [c] => some (decide (c ∈ z.cps.toList)) | _ => none) = some k → rInM K n x y H Q := fun x0 z e1 e2 hg => by
    subst e1 e2
    cases a1
    cases a2
    obtain ⟨⟨l⟩⟩ := x0
    match l, hg with
    | [c], hg =>
      have hk : decide (c ∈ z.cps.toList) = k := Option.some.inj hg
      exact .inl ⟨c, z, rfl, rfl, by rw [hk]; exact q⟩
  unfold cIn at hg
  split at hg
  · rename_i x0 z
    exact one x0 z rfl rfl hg
  · rename_i ds
    by_cases c : inOk d1 ds = true
    · rw [if_pos c] at hg
      exact seq ds (.inl rfl) c (Option.some.inj hg).symm
    · rw [if_neg c] at hg
      cases hg
  · rename_i ds
    by_cases c : inOk d1 ds = true
    · rw [if_pos c] at hg
      exact seq ds (.inr rfl) c (Option.some.inj hg).symm
    · rw [if_neg c] at hg
      cases hg
  · cases hg
theorem opc_in : OpC K mg cIn (rInM K false) := fun ρ F H x y d1 d2 k Q sf a1 a2 hg q => in_core sf a1 a2 hg q
theorem opc_ni : OpC K mg cNi (rInM K true) := fun ρ F H x y d1 d2 k Q sf a1 a2 hg q => by
  obtain ⟨k', hk, rfl⟩ := Option.map_eq_some_iff.mp hg
  exact in_core sf a1 a2 hk q
def rIsM : R2 := fun x y H Q => rIsB x y H Q ∨ (y = .non ∧ Q (.bl (decide (x = .non))) H)
def rIsnM : R2 := fun x y H Q => rNotB x y H Q ∨ (y = .non ∧ Q (.bl (!decide (x = .non))) H)
theorem or_is : OpR X (compareOp .Is) rIsM := op_isBl.or op_isN
theorem or_isn : OpR X (compareOp .IsNot) rIsnM := op_notBl.or op_notN
theorem isNon_at {ρ : List Addr} {F : Hp} {x : V} {d : D} (a : At K mg ρ F x d) : d.isNon = decide (x = .non) := by
  cases a <;> simp [D.isNon]
theorem opc_is : OpC K mg cIs rIsM := by
  intro ρ F H x y d1 d2 k Q sf a1 a2 hg q
  unfold cIs at hg
  split at hg
  · cases a1
    cases a2
    cases hg
    exact .inl ⟨_, _, rfl, rfl, q⟩
  · cases a2
    cases hg
    exact .inr ⟨rfl, by rw [← isNon_at a1]; exact q⟩
  · cases hg
theorem opc_isn : OpC K mg cIsn rIsnM := by
  intro ρ F H x y d1 d2 k Q sf a1 a2 hg q
  obtain ⟨k', hk, rfl⟩ := Option.map_eq_some_iff.mp hg
  unfold cIs at hk
  split at hk
  · cases a1
    cases a2
    cases hk
    exact .inl ⟨_, _, rfl, rfl, q⟩
  · cases a2
    cases hk
    exact .inr ⟨rfl, by rw [← isNon_at a1]; exact q⟩
  · cases hk
end

/-! ### subscripts, slices -/
def gIx : D → D → Option D
  | .tup xs, .int i => atI xs i
  | .lst xs, .int i => atI xs i
  | .str z, .int i => if z.length ≤ lim then (atI z.cps.toList i).map fun c => .str ⟨#[c]⟩ else none
  | _, _ => none
def cutD {α : Type} (xs : List α) (lo hi : Option Int) : List α := (xs.drop (HT.sIx xs.length 0 lo)).take (HT.sIx xs.length xs.length hi - HT.sIx xs.length 0 lo)
def gSl (d : D) (lo hi : Option Int) : Option D := match d with
  | .tup xs => some (.tup (cutD xs lo hi))
  | .lst xs => some (.lst (cutD xs lo hi))
  | .scr ns => some (.lst (cutD (ns.map D.int) lo hi))
  | .str z => if z.length ≤ lim then some (.str (cutS z lo hi)) else none
  | _ => none
section
variable {K : PySem.W.Frag} {mg : Str → Option Value} {X : Cx}
theorem ats_atI {ρ : List Addr} {F : Hp} {vs : List V} {ds : List D} (h : AtAll K mg ρ F vs ds) {i : Int} {d : D} (e : atI ds i = some d) : ∃ v, atI vs i = some v ∧ At K mg ρ F v d := by
  unfold atI at e
  obtain ⟨j, hj, e⟩ := Option.bind_eq_some_iff.mp e
  obtain ⟨v, h1, h2⟩ := h.get e
  refine ⟨v, ?_, h2⟩
  unfold atI
  rw [h.length, hj]
  exact h1
theorem atI_mem {α : Type} {l : List α} {i : Int} {c : α} (e : atI l i = some c) : c ∈ l := by
  unfold atI at e
  obtain ⟨j, hj, e⟩ := Option.bind_eq_some_iff.mp e
  exact List.mem_of_getElem? e
theorem op2_ix : Op2 K mg gIx (rIx K) := by
  intro ρ F H x y d1 d2 d Q sf a1 a2 hg k
  cases a1 with
  | tup s1 t1 =>
    cases a2 with
    | int i =>
      obtain ⟨v, h1, h2⟩ := ats_atI t1 hg
      exact .inr (.inl ⟨_, _, i, v, rfl, rfl, sqT_same sf s1, h1, k _ _ _ (Gr.refl sf) h2⟩)
    | _ => cases hg
  | lst s1 t1 =>
    cases a2 with
    | int i =>
      obtain ⟨v, h1, h2⟩ := ats_atI t1 hg
      exact .inl ⟨_, _, i, v, rfl, rfl, SqL.of (sf _ _ s1), h1, k _ _ _ (Gr.refl sf) h2⟩
    | _ => cases hg
  | str okx =>
    cases a2 with
    | int i =>
      rename_i z
      have hg' : (if z.length ≤ lim then (atI z.cps.toList i).map fun c => D.str ⟨#[c]⟩ else none) = some d := hg
      by_cases hl : z.length ≤ lim
      · rw [if_pos hl] at hg'
        obtain ⟨c, hc, rfl⟩ := Option.map_eq_some_iff.mp hg'
        exact .inr (.inr ⟨z, i, c, rfl, rfl, lim_line hl, hc, k _ _ _ (Gr.refl sf) (.str (ok_one okx (atI_mem hc)))⟩)
      · rw [if_neg hl] at hg'
        cases hg'
    | _ => cases hg
  | _ => cases hg
theorem cut_ats {ρ : List Addr} {F : Hp} {vs : List V} {ds : List D} (h : AtAll K mg ρ F vs ds) (lo hi : Option Int) : AtAll K mg ρ F (cutV vs lo hi) (cutD ds lo hi) := by
  unfold cutV cutD
  rw [h.length]
  exact (h.drop _).take _
theorem cut_whole {α : Type} {xs : List α} {lo hi : Option Int} (h : HT.sIx xs.length 0 lo = 0 ∧ HT.sIx xs.length xs.length hi = xs.length) : cutD xs lo hi = xs := by
  unfold cutD
  rw [h.1, h.2, List.drop_zero, Nat.sub_zero, List.take_length]
def rSlM (K : PySem.W.Frag) : V → Option Int → Option Int → Hp → VK → Prop := fun x lo hi H Q => rSlA K x lo hi H Q ∨ rSlL K x lo hi H Q ∨ rSlS x lo hi H Q
theorem sl_m : SlR X (rSlM X.K) := sl_tupA.or (sl_list.or sl_str)
theorem cutS_mem {z : Str} {lo hi : Option Int} {c : Nat} (h : c ∈ (cutS z lo hi).cps.toList) : c ∈ z.cps.toList := by
  exact List.mem_of_mem_drop (List.mem_of_mem_take h)
end
end Mi

set_option Elab.async false
set_option linter.all false
set_option autoImplicit false
set_option maxRecDepth 100000
set_option maxHeartbeats 4000000
/-! Mi, part G: slices, built-in functions. -/
namespace Mi
open PySem L2
theorem at_nums {K : PySem.W.Frag} {mg : Str → Option Value} {ρ : List Addr} {F : Hp} : ∀ ns : List Int, AtAll K mg ρ F (ns.map V.int) (ns.map D.int)
  | [] => .nil
  | n :: ns => .cons (.int n) (at_nums ns)
def pNone : M (Option Int) := ret none
def pSome (m : M D) : M (Option Int) := bnd m fun d => match d with
  | .int i => ret (some i)
  | _ => lift none
def mSl (m : M D) (lo hi : M (Option Int)) : M D := bnd m fun d => bnd lo fun l => bnd hi fun h => lift (gSl d.top l h)
section
variable {X : Cx} {W : WX} {a b : Expr} {ma mb : M D} {pos p2 : Pos} {lo hi : Option Expr} {ml mh : M (Option Int)}
abbrev OM (X : Cx) (W : WX) (e : Option Expr) (m : M (Option Int)) : Prop := PO X e (T X.K X.mg W aI m)
theorem p_none : OM X W none pNone := po_weak po_none fun σ H Q h => h.ret fun _ _ _ _ => rfl
theorem p_some (ha : EM X W a ma) : OM X W (some a) (pSome ma) := po_weak (po_some ha) fun σ H Q h => opd anti_I h fun v d ρ F H sf a1 h => by
  cases a1 with
  | int i => exact ⟨i, rfl, h.ret fun _ _ _ _ => rfl⟩
  | _ => exact h.no.elim
theorem ok_cut {z : Str} {lo hi : Option Int} (h : PyData.strOk z = true) : PyData.strOk (cutS z lo hi) = true := by
  rw [ok_iff] at *
  exact fun c m => h c (cutS_mem m)
theorem x_sl (ha : EM X W a ma) (hl : OM X W lo ml) (hh : OM X W hi mh) : EM X W (.Subscript a (.Slice lo hi none p2) pos) (mSl ma ml mh) :=
  pe_weak (pe_slice sl_m ha hl hh) fun σ H Q h => by
    obtain ⟨b, ρ, F, e, s, r, p⟩ := h
    refine ⟨b, ρ, F, e, s, r, ?_⟩
    unfold mSl at p
    cases hm : ma e s with
    | no => rw [bnd_no hm] at p; exact p
    | exc x e' s' => rw [bnd_exc hm] at p; exact p
    | ok d e1 s1 =>
      rw [bnd_ok hm] at p
      intro v ρ1 F1 H1 x1 r1 a1
      refine ⟨b, ρ1, F1, e1, s1, r1, ?_⟩
      replace p := Pst.shift anti_D p x1
      cases hm1 : ml e1 s1 with
      | no => rw [bnd_no hm1] at p; exact p
      | exc x e' s' => rw [bnd_exc hm1] at p; exact p
      | ok l e2 s2 =>
        rw [bnd_ok hm1] at p
        intro l' ρ2 F2 H2 x2 r2 a2
        subst a2
        refine ⟨b, ρ2, F2, e2, s2, r2, ?_⟩
        replace p := Pst.shift anti_D p x2
        cases hm2 : mh e2 s2 with
        | no => rw [bnd_no hm2] at p; exact p
        | exc x e' s' => rw [bnd_exc hm2] at p; exact p
        | ok h e3 s3 =>
          rw [bnd_ok hm2] at p
          intro h' ρ3 F3 H3 x3 r3 a3
          subst a3
          replace p := Pst.shift anti_D p x3
          replace a1 := (at_ext x3 (at_ext x2 a1)).top
          generalize d.top = d at a1 p
          obtain ⟨d', hd, k⟩ := p.kont r3
          have sf := r3.roots.ex
          cases a1 with
          | tup s1 t1 =>
            rename_i aa xs ds
            cases hd
            refine .inl ⟨aa, xs, rfl, sqT_same sf s1, fun hw => ?_, fun hw p hp => ?_⟩
            · rw [t1.length] at hw
              rw [cut_whole hw] at k
              exact k _ _ _ (Gr.refl sf) (.tup s1 t1)
            · have g := Gr.laid sf hp (.tup (cutV xs l' h'))
              exact k _ _ _ g (.tup (SqT.of upd_same) ((cut_ats t1 l' h').mono g.frz (List.prefix_refl _)))
          | lst s1 t1 =>
            rename_i aa xs ds
            cases hd
            refine .inr (.inl ⟨aa, xs, rfl, SqL.of (sf _ _ s1), fun p hp => ?_⟩)
            have g := Gr.laid sf hp (.lst (cutV xs l' h'))
            exact k _ _ _ g (.lst upd_same ((cut_ats t1 l' h').mono g.frz (List.prefix_refl _)))
          | scr s1 =>
            rename_i aa ns
            cases hd
            refine .inr (.inl ⟨aa, ns.map V.int, rfl, sqL_same sf s1, fun p hp => ?_⟩)
            have g := Gr.laid sf hp (.lst (cutV (ns.map V.int) l' h'))
            exact k _ _ _ g (.lst upd_same (cut_ats (at_nums ns) l' h'))
          | str okx =>
            rename_i z
            have hd' : (if z.length ≤ lim then some (D.str (cutS z l' h')) else none) = some d' := hd
            by_cases hz : z.length ≤ lim
            · rw [if_pos hz] at hd'
              cases hd'
              exact .inr (.inr ⟨z, rfl, lim_line hz, k _ _ _ (Gr.refl sf) (.str (ok_cut okx))⟩)
            · rw [if_neg hz] at hd'
              cases hd'
          | _ => cases hd
/-- a[i] -/
theorem x_ix (ha : EM X W a ma) (hb : EM X W b mb) (hs : PlainIx b) : EM X W (.Subscript a b pos) (m2 ma mb gIx) :=
  pe_weak (pe_ix ix_seq ha hb hs) fun σ H Q h => two anti_D h fun x y d1 d2 b ρ F H e s r a1 a2 p => by
    obtain ⟨d, hd, k⟩ := p.kont r
    exact op2_ix ρ F H x y d1 d2 d Q r.roots.ex a1 a2 hd k
end

/-! ### built-in functions -/
theorem x_ixt {X : Cx} {W : WX} {a b : Expr} {ma mb : M D} {pos : Pos} (ha : EM X W a ma) (hb : EM X W b mb) (hs : PlainIx b) : EM X W (.Subscript a b pos) (m2 ma mb (tp2 gIx)) :=
  pe_weak (pe_ix ix_seq ha hb hs) fun σ H Q h => two anti_D h fun x y d1 d2 b ρ F H e s r a1 a2 p => by
    obtain ⟨d, hd, k⟩ := p.kont r
    exact op2_ix.tp ρ F H x y d1 d2 d Q r.roots.ex a1 a2 hd k
def mCall (n : M (List D)) (g : List D → Option D) : M D := bnd n fun ds => lift (g ds)
section
variable {X : Cx} {W : WX} {x : Str} {p pos : Pos} {e : Expr} {es : List Expr} {n : M (List D)} {id ty : String} {r : List V → Hp → VK → Prop} {g : List D → Option D}
theorem x_blt (hc : CallR X (.builtin id) r) (hs : OpN X.K X.mg g r) (hg : Gl X x) (hm : X.mg x = none) (hv : bootBuiltins x = some (.builtin id)) (ha : AM X W (e :: es) n) (hn : x ≠ "__name__") (hdb : (x == ("__debug__" : Str)) = false)
    (he : starEach (e :: es) X.env = (false, eval e X.env) :: starEach es X.env) (hpl : (backTo pos (starEach es X.env)).any (·.1) = false) : EM X W (.Call (.Name x p) (e :: es) [] pos) (mCall n g) :=
  pe_weak (pe_callB hc hg hm hv ha hn hdb he hpl) fun σ H Q h => alls anti_D h fun xs ds b ρ F H e s r a1 p => by
    obtain ⟨d, hd, k⟩ := p.kont r
    exact hs ρ F H xs ds d Q r.roots.ex a1 hd k
theorem x_bty (hc : CallR X (.type ty) r) (hs : OpN X.K X.mg g r) (hg : Gl X x) (hm : X.mg x = none) (hv : bootBuiltins x = some (.type ty)) (ha : AM X W (e :: es) n) (hn : x ≠ "__name__") (hdb : (x == ("__debug__" : Str)) = false)
    (he : starEach (e :: es) X.env = (false, eval e X.env) :: starEach es X.env) (hpl : (backTo pos (starEach es X.env)).any (·.1) = false) : EM X W (.Call (.Name x p) (e :: es) [] pos) (mCall n g) :=
  pe_weak (pe_callTy hc hg hm hv ha hn hdb he hpl) fun σ H Q h => alls anti_D h fun xs ds b ρ F H e s r a1 p => by
    obtain ⟨d, hd, k⟩ := p.kont r
    exact hs ρ F H xs ds d Q r.roots.ex a1 hd k
end
def gLen : List D → Option D
  | [.tup xs] => some (.int xs.length)
  | [.lst xs] => some (.int xs.length)
  | [.str z] => if z.length ≤ lim then some (.int z.length) else none
  | _ => none
def boolsOf : List D → Option (List Bool)
  | [] => some []
  | .bl b :: r => (boolsOf r).map (b :: ·)
  | _ :: _ => none
def gAll : List D → Option D
  | [.lst xs] => (boolsOf xs).map fun bs => .bl (bs.all id)
  | _ => none
def gAny : List D → Option D
  | [.lst xs] => (boolsOf xs).map fun bs => .bl (bs.any id)
  | _ => none
def gInt : List D → Option D
  | [.int i] => some (.int i)
  | [.bl b] => some (.int (if b then 1 else 0))
  | _ => none
def gTuple : List D → Option D
  | [.tup xs] => some (.tup xs)
  | [.lst xs] => some (.tup xs)
  | _ => none
def gList : List D → Option D
  | [.tup xs] => some (.lst xs)
  | [.lst xs] => some (.lst xs)
  | _ => none
section
variable {K : PySem.W.Frag} {mg : Str → Option Value} {X : Cx} {ρ : List Addr} {F H : Hp}
theorem ats_one {P : V → D → Prop} {xs : List V} {d : D} (h : AtAll K mg ρ F xs [d]) (k : ∀ x, xs = [x] → At K mg ρ F x d → P x d) : ∃ x, xs = [x] ∧ P x d := by
  cases h with
  | cons h1 h2 =>
    cases h2
    exact ⟨_, rfl, k _ rfl h1⟩
theorem ats_inv1 {xs : List V} {d : D} (h : AtAll K mg ρ F xs [d]) : ∃ x, xs = [x] ∧ At K mg ρ F x d := ats_one h fun _ _ h => h
theorem opN_len : OpN K mg gLen (fun xs H Q => (∃ p ys, xs = [.ref p] ∧ (SqL K H p ys ∨ SqT K H p ys) ∧ Q (.int ys.length) H) ∨ ∃ z, xs = [.str z] ∧ z.length ≤ sizeLine ∧ Q (.int z.length) H) := by
  intro ρ F H xs ds d Q sf ha hg k
  unfold gLen at hg
  split at hg
  · obtain ⟨x, rfl, a1⟩ := ats_inv1 ha
    cases a1 with
    | tup s1 t1 =>
      cases hg
      exact .inl ⟨_, _, rfl, .inr (sqT_same sf s1), by rw [t1.length]; exact k _ _ _ (Gr.refl sf) (.int _)⟩
  · obtain ⟨x, rfl, a1⟩ := ats_inv1 ha
    cases a1 with
    | lst s1 t1 =>
      cases hg
      exact .inl ⟨_, _, rfl, .inl (SqL.of (sf _ _ s1)), by rw [t1.length]; exact k _ _ _ (Gr.refl sf) (.int _)⟩
  · rename_i z
    obtain ⟨x, rfl, a1⟩ := ats_inv1 ha
    cases a1
    by_cases hl : z.length ≤ lim
    · rw [if_pos hl] at hg
      cases hg
      exact .inr ⟨_, rfl, lim_line hl, k _ _ _ (Gr.refl sf) (.int _)⟩
    · rw [if_neg hl] at hg
      cases hg
  · cases hg
theorem cr_len : CallR X (.builtin "len") (fun xs H Q => (∃ p ys, xs = [.ref p] ∧ (SqL X.K H p ys ∨ SqT X.K H p ys) ∧ Q (.int ys.length) H) ∨ ∃ z, xs = [.str z] ∧ z.length ≤ sizeLine ∧ Q (.int z.length) H) := call_len_seq.or call_len_str
theorem bools_at : ∀ {vs : List V} {ds : List D} {bs : List Bool}, AtAll K mg ρ F vs ds → boolsOf ds = some bs → vs = bs.map V.bl
  | _, [], bs, h, e => by
    cases h
    cases e
    rfl
  | _, d :: ds, bs, h, e => by
    cases h with
    | cons h1 h2 =>
      cases h1 with
      | bl b =>
        obtain ⟨bs', hb, rfl⟩ := Option.map_eq_some_iff.mp e
        rw [bools_at h2 hb]
        rfl
      | _ => cases e
theorem opN_all : OpN K mg gAll (rAll K) := by
  intro ρ F H xs ds d Q sf ha hg k
  unfold gAll at hg
  split at hg
  · obtain ⟨x, rfl, a1⟩ := ats_inv1 ha
    cases a1 with
    | lst s1 t1 =>
      obtain ⟨bs, hb, rfl⟩ := Option.map_eq_some_iff.mp hg
      exact ⟨_, bs, rfl, SqL.of (by rw [← bools_at t1 hb]; exact sf _ _ s1), k _ _ _ (Gr.refl sf) (.bl _)⟩
  · cases hg
theorem opN_any : OpN K mg gAny (rAny K) := by
  intro ρ F H xs ds d Q sf ha hg k
  unfold gAny at hg
  split at hg
  · obtain ⟨x, rfl, a1⟩ := ats_inv1 ha
    cases a1 with
    | lst s1 t1 =>
      obtain ⟨bs, hb, rfl⟩ := Option.map_eq_some_iff.mp hg
      exact ⟨_, bs, rfl, SqL.of (by rw [← bools_at t1 hb]; exact sf _ _ s1), k _ _ _ (Gr.refl sf) (.bl _)⟩
  · cases hg
theorem opN_int : OpN K mg gInt (fun xs H Q => (∃ i, xs = [.int i] ∧ Q (.int i) H) ∨ ∃ k, xs = [.bl k] ∧ Q (.int (if k then 1 else 0)) H) := by
  intro ρ F H xs ds d Q sf ha hg k
  unfold gInt at hg
  split at hg
  · obtain ⟨x, rfl, a1⟩ := ats_inv1 ha
    cases a1
    cases hg
    exact .inl ⟨_, rfl, k _ _ _ (Gr.refl sf) (.int _)⟩
  · obtain ⟨x, rfl, a1⟩ := ats_inv1 ha
    cases a1
    cases hg
    exact .inr ⟨_, rfl, k _ _ _ (Gr.refl sf) (.int _)⟩
  · cases hg
theorem opN_tuple : OpN K mg gTuple (fun xs H Q => ∃ p ys, xs = [.ref p] ∧ ((SqL K H p ys ∧ ∀ l, H l = none → Q (.ref l) (upd H l (.tup ys))) ∨ (SqT K H p ys ∧ Q (.ref p) H))) := by
  intro ρ F H xs ds d Q sf ha hg k
  unfold gTuple at hg
  split at hg
  · obtain ⟨x, rfl, a1⟩ := ats_inv1 ha
    cases hg
    cases a1 with
    | tup s1 t1 => exact ⟨_, _, rfl, .inr ⟨sqT_same sf s1, k _ _ _ (Gr.refl sf) (.tup s1 t1)⟩⟩
  · obtain ⟨x, rfl, a1⟩ := ats_inv1 ha
    cases hg
    cases a1 with
    | lst s1 t1 =>
      rename_i xs
      refine ⟨_, _, rfl, .inl ⟨SqL.of (sf _ _ s1), fun l hl => ?_⟩⟩
      have g := Gr.laid sf hl (.tup xs)
      exact k _ _ _ g (.tup (SqT.of upd_same) (t1.mono g.frz (List.prefix_refl _)))
  · cases hg
theorem opN_list : OpN K mg gList (fun xs H Q => ∃ p ys, xs = [.ref p] ∧ (SqL K H p ys ∨ SqT K H p ys) ∧ ∀ l, H l = none → Q (.ref l) (upd H l (.lst ys))) := by
  intro ρ F H xs ds d Q sf ha hg k
  unfold gList at hg
  split at hg
  · obtain ⟨x, rfl, a1⟩ := ats_inv1 ha
    cases hg
    cases a1 with
    | tup s1 t1 =>
      rename_i xs
      refine ⟨_, _, rfl, .inr (sqT_same sf s1), fun l hl => ?_⟩
      have g := Gr.laid sf hl (.lst xs)
      exact k _ _ _ g (.lst upd_same (t1.mono g.frz (List.prefix_refl _)))
  · obtain ⟨x, rfl, a1⟩ := ats_inv1 ha
    cases hg
    cases a1 with
    | lst s1 t1 =>
      rename_i xs
      refine ⟨_, _, rfl, .inl (SqL.of (sf _ _ s1)), fun l hl => ?_⟩
      have g := Gr.laid sf hl (.lst xs)
      exact k _ _ _ g (.lst upd_same (t1.mono g.frz (List.prefix_refl _)))
  · cases hg
end

/-! ### isinstance of a built-in type by its name -/
/-- the built-in type of data -/
def D.ty : D → Option String
  | .non => some "NoneType"
  | .bl _ => some "bool"
  | .int _ => some "int"
  | .str _ => some "str"
  | .tup _ => some "tuple"
  | .ntup _ => some "tuple"
  | .lst _ => some "list"
  | _ => none
def tyIs (T : String) (t : String) : Bool := t == T || (t == "bool" && T == "int")
def cIsi (T : String) (d : D) : Option Bool := d.ty.map (tyIs T)
def tIsi (m : M D) (T : String) : M D := bnd m fun d => lift ((cIsi T d).map .bl)
section
variable {X : Cx} {W : WX} {pa pt p pos : Pos} {a : Expr} {ma : M D}
theorem sqT_ty {K : PySem.W.Frag} {H : Hp} {a : Addr} {xs : List V} (h : SqT K H a xs) : TyX K H (.ref a) (.type "tuple") := by
  rcases h with h | ⟨o, its, n, h1, h2, _⟩
  · rcases h with h | ⟨o, h⟩
    · exact .base (.tup h)
    · exact .fTuple h
  · exact .kTuple h1 h2
theorem ty_at {K : PySem.W.Frag} {mg : Str → Option Value} {ρ : List Addr} {F H : Hp} {v : V} {d : D} {t : String} (sf : Same F H) (h : At K mg ρ F v d) (e : d.ty = some t) : TyX K H v (.type t) := by
  cases h with
  | non => cases e; exact .base .non
  | bl b => cases e; exact .base (.bl b)
  | int i => cases e; exact .base (.int i)
  | str k => cases e; exact .base (.str _)
  | tup s _ => cases e; exact sqT_ty (sqT_same sf s)
  | ntup s _ _ => cases e; exact sqT_ty (sqT_same sf s)
  | lst s _ => cases e; exact .base (.lst (sf _ _ s))
  | _ => cases e
/-- what isinstance answers of the six types -/
def KitT (T : String) : Prop := ∀ t, t ∈ ["NoneType", "bool", "int", "str", "tuple", "list"] → kitB t T = some (tyIs T t)
theorem ty_mem {d : D} {t : String} (e : d.ty = some t) : t ∈ ["NoneType", "bool", "int", "str", "tuple", "list"] := by
  cases d <;> (first | (cases e; decide) | cases e)
theorem x_isi {T : String} {xT : Str} (hg : Gl X "isinstance") (hm : X.mg "isinstance" = none) (hgT : Gl X xT) (hmT : X.mg xT = none) (hvT : bootBuiltins xT = some (.type T)) (hn : xT ≠ "__name__") (hdb : (xT == ("__debug__" : Str)) = false) (hk : KitT T)
    (ha : EM X W a ma) (hs : starEach [a, .Name xT pt] X.env = (false, eval a X.env) :: starEach [.Name xT pt] X.env) (hs2 : starEach [.Name xT pt] X.env = (false, eval (.Name xT pt) X.env) :: starEach [] X.env)
    (hpl : (backTo pos (starEach [.Name xT pt] X.env)).any (·.1) = false) :
    EM X W (.Call (.Name "isinstance" p) [a, .Name xT pt] [] pos) (tIsi ma T) :=
  pe_weak (pe_callB call_isi hg hm PyProof.Rows.boot_isinstance (pa_cons ha (pa_cons (pe_bltn (v := .ty T) hgT hmT hvT rfl hn hdb) pa_nil hs2) hs) (by decide) (by decide) hs hpl) fun σ H Q h =>
    one anti_D h fun x d1 b ρ F H e s r a1 p => by
      obtain ⟨d, hd, k⟩ := p.kont r
      obtain ⟨c, hc, rfl⟩ := Option.map_eq_some_iff.mp hd
      obtain ⟨t, ht, rfl⟩ := Option.map_eq_some_iff.mp hc
      exact ⟨x, .ty T, .type t, .type T, tyIs T t, rfl, .ty T, ty_at r.roots.ex a1 ht, kit_ty (hk t (ty_mem ht)), k _ _ _ (Gr.refl r.roots.ex) (.bl _)⟩
theorem kit_int : KitT "int" := by intro t h; revert t; decide +kernel
theorem kit_bool : KitT "bool" := by intro t h; revert t; decide +kernel
theorem kit_str : KitT "str" := by intro t h; revert t; decide +kernel
theorem kit_tuple : KitT "tuple" := by intro t h; revert t; decide +kernel
theorem kit_list : KitT "list" := by intro t h; revert t; decide +kernel
end
end Mi

set_option Elab.async false
set_option linter.all false
set_option autoImplicit false
set_option maxRecDepth 100000
set_option maxHeartbeats 4000000
/-! Mi, part H: fresh results, statements, defs and their calls. -/
namespace Mi
open PySem L2
section
variable {K : PySem.W.Frag} {mg : Str → Option Value} {b : Bs} {σ : St} {e e' : Env} {ρ ρ' : List Addr} {F F' H H' : Hp} {s s' : S} {W : WX}
/-! ### a slot is stored -/
theorem Rel.put (r : Rel K mg b σ e ρ F H s) {i : Nat} {v : V} {x : B} (hb : BAt K mg ρ F H v x) (hx : x.isOwn = true → ∀ a, v = .ref a → b.H a = none ∧ ¬ OwnAt σ e a) : Rel K mg b (σ.set i (some v)) (e.set i x) ρ F H s := by
  have own : ∀ a, OwnAt (σ.set i (some v)) (e.set i x) a → (x.isOwn = true ∧ v = .ref a) ∨ OwnAt σ e a := fun a ⟨j, y, e1, e2, e3⟩ => by
    rcases setG e1 with ⟨rfl, rfl⟩ | ⟨c, e1⟩
    · rcases setG e3 with ⟨_, q⟩ | ⟨c, _⟩
      · exact .inl ⟨e2, (Option.some.inj q).symm⟩
      · exact absurd rfl c
    · rcases setG e3 with ⟨q, _⟩ | ⟨_, e3⟩
      · exact absurd q c
      · exact .inr ⟨j, y, e1, e2, e3⟩
  refine ⟨r.grow, r.roots, by rw [List.length_set, List.length_set]; exact r.len, fun j y e1 ny => ?_, fun a h => ?_, fun j k y z a e1 e2 o1 o2 s1 s2 => ?_⟩
  · rcases setG e1 with ⟨rfl, rfl⟩ | ⟨c, e1⟩
    · have hl : j < σ.length := by
        have := (List.getElem?_eq_some_iff.mp e1).1
        rw [List.length_set] at this
        rw [r.len]
        exact this
      exact ⟨v, List.getElem?_set_self hl, hb⟩
    · obtain ⟨v', h1, h2⟩ := r.slot j y e1 ny
      exact ⟨v', by rw [List.getElem?_set_ne (fun z => c z.symm)]; exact h1, h2⟩
  · rcases own a h with ⟨o, z⟩ | h
    · exact (hx o a z).1
    · exact r.fresh a h
  · rcases setG e1 with ⟨rfl, rfl⟩ | ⟨c1, f1⟩
    · rcases setG e2 with ⟨rfl, rfl⟩ | ⟨c2, e2⟩
      · rfl
      · rcases setG s1 with ⟨_, q⟩ | ⟨c, _⟩
        · rcases setG s2 with ⟨q2, _⟩ | ⟨_, s2⟩
          · exact absurd q2 c2
          · exact absurd ⟨k, z, e2, o2, s2⟩ (hx o1 a (Option.some.inj q).symm).2
        · exact absurd rfl c
    · rcases setG s1 with ⟨q, _⟩ | ⟨_, t1⟩
      · exact absurd q c1
      rcases setG e2 with ⟨rfl, rfl⟩ | ⟨c2, f2⟩
      · rcases setG s2 with ⟨_, q⟩ | ⟨c, _⟩
        · exact absurd ⟨j, y, f1, o1, t1⟩ (hx o2 a (Option.some.inj q).symm).2
        · exact absurd rfl c
      · rcases setG s2 with ⟨q, _⟩ | ⟨_, t2⟩
        · exact absurd q c2
        exact r.apart j k y z a f1 f2 o1 o2 t1 t2
/-- a slot is forgotten -/
theorem Rel.drop (r : Rel K mg b σ e ρ F H s) (i : Nat) : Rel K mg b σ (e.set i .unb) ρ F H s := by
  have own : ∀ {a : Addr}, OwnAt σ (e.set i .unb) a → OwnAt σ e a := fun {a} ⟨j, y, e1, e2, e3⟩ => by
    rcases setG e1 with ⟨_, rfl⟩ | ⟨_, e1⟩
    · cases e2
    · exact ⟨j, y, e1, e2, e3⟩
  refine ⟨r.grow, r.roots, by rw [List.length_set]; exact r.len, fun j y e1 ny => ?_, fun a h => r.fresh a (own h), fun j k y z a e1 e2 o1 o2 s1 s2 => ?_⟩
  · rcases setG e1 with ⟨_, rfl⟩ | ⟨_, e1⟩
    · exact absurd rfl ny
    · exact r.slot j y e1 ny
  · rcases setG e1 with ⟨_, rfl⟩ | ⟨_, e1⟩
    · cases o1
    rcases setG e2 with ⟨_, rfl⟩ | ⟨_, e2⟩
    · cases o2
    exact r.apart j k y z a e1 e2 o1 o2 s1 s2
/-- the values' slots may be changed where the names hold nothing -/
theorem Rel.blank (r : Rel K mg b σ e ρ F H s) {σ' : St} (hl : σ'.length = σ.length) (h : ∀ i : Nat, e[i]? ≠ some .unb → σ'[i]? = σ[i]?) : Rel K mg b σ' e ρ F H s := by
  have at_ : ∀ {i : Nat} {x : B}, e[i]? = some x → x ≠ .unb → σ'[i]? = σ[i]? := fun {i x} h1 h2 => h i fun z => h2 (by rw [h1] at z; exact Option.some.inj z)
  have nu : ∀ {x : B}, x.isOwn = true → x ≠ .unb := fun {x} o z => by
    subst z
    cases o
  refine ⟨r.grow, r.roots, hl.trans r.len, fun i x h1 h2 => ?_, fun a ⟨i, x, e1, e2, e3⟩ => r.fresh a ⟨i, x, e1, e2, by rw [← at_ e1 (nu e2)]; exact e3⟩, fun i j x y a e1 e2 o1 o2 s1 s2 => r.apart i j x y a e1 e2 o1 o2 (by rw [← at_ e1 (nu o1)]; exact s1) (by rw [← at_ e2 (nu o2)]; exact s2)⟩
  obtain ⟨v, h3, h4⟩ := r.slot i x h1 h2
  exact ⟨v, by rw [at_ h1 h2]; exact h3, h4⟩
/-- an object that no name holds yet does not change any more -/
theorem Rel.freezeAt (r : Rel K mg b σ e ρ F H s) {a : Addr} {o : HO} (ho : H a = some o) (hF : F a = none) (hr : a ∉ ρ) (hn : ¬ OwnAt σ e a) (hb : b.H a = none) : Rel K mg b σ e ρ (upd F a o) H s ∧ Same F (upd F a o) := by
  have sF : Same F (upd F a o) := fun c u hc => by rw [upd_ne (ne_of_none hc hF)]; exact hc
  have ne : ∀ {c : Addr}, c ≠ a → upd F a o c = F c := fun {c} h => upd_ne h
  refine ⟨⟨⟨r.grow.pre, r.grow.frz.trans sF, r.grow.keep, r.grow.there, fun c hc => ?_, r.grow.new⟩, ⟨fun c u hc => ?_, r.roots.len, r.roots.nd, fun c m => ?_, fun n c x h1 h2 => cells_mono (r.roots.cell n c x h1 h2) sF (List.prefix_refl _) rfl⟩, r.len,
    r.slots sF (List.prefix_refl _) fun c h => ?_, r.fresh, r.apart⟩, sF⟩
  · rw [ne fun z => hc (by rw [z]; exact hb)]
    exact r.grow.old c hc
  · by_cases z : c = a
    · subst z
      rw [upd_same] at hc
      rw [← hc]
      exact ho
    · rw [upd_ne z] at hc
      exact r.roots.ex c u hc
  · rw [ne fun z => hr (by rw [← z]; exact m)]
    exact r.roots.free c m
  · have := (r.own_there h).2.2
    exact ⟨rfl, ne fun z => hn (by rw [← z]; exact h), this⟩
theorem none_base (r : Rel K mg b σ e ρ F H s) {a : Addr} (h : H a = none) : b.H a = none := none_back r.grow.there h
theorem not_own (r : Rel K mg b σ e ρ F H s) {a : Addr} (h : H a = none) : ¬ OwnAt σ e a := fun o => (r.own_there o).1 h
end
def frzM (m : M B) : M D := bnd m fun x => lift x.frz
abbrev FM (X : Cx) (W : WX) (e : Expr) (m : M B) : Prop := PE X e (T X.K X.mg W (aF X.K X.mg) m)
section
variable {X : Cx} {W : WX} {a : Expr} {m : M B} {ma mb : M D} {pos : Pos}
theorem frz_core {K : PySem.W.Frag} {mg : Str → Option Value} {σ : St} {H : Hp} {Q : VK} (h : T K mg W (aD K mg) (frzM m) σ H Q) : T K mg W (aF K mg) m σ H Q := by
  obtain ⟨b, ρ, F, e, s, r, p⟩ := h
  refine ⟨b, ρ, F, e, s, r, ?_⟩
  unfold frzM at p
  cases hm : m e s with
  | no => rw [bnd_no hm] at p; exact p
  | exc x e' s' => rw [bnd_exc hm] at p; exact p
  | ok x e' s' =>
    rw [bnd_ok hm] at p
    intro v ρ' F' H' x1 r1 ⟨a1, fr⟩
    have go : ∀ (d : D) (c : Addr) (o : HO), x.frz = some d → v = .ref c → x.isOwn = true → H' c = some o → F' c = none → c ∉ ρ' → (Same F' (upd F' c o) → At K mg ρ' (upd F' c o) v d) → Q v H' := fun d c o hd hv hx ho hF hr hA => by
      have hc : H c = none := fr hx c hv
      have nown : ¬ OwnAt σ e' c := fun z => not_own r hc (x1.sub c z)
      obtain ⟨r2, sF⟩ := r1.freezeAt ho hF hr nown (none_base r hc)
      rw [hd] at p
      refine p v ρ' (upd F' c o) H' ⟨x1.pre, x1.frz.trans sF, x1.keep, x1.there, fun y hy hn => ?_, x1.new, x1.sub⟩ r2 (hA sF)
      have ny : y ≠ c := fun z => hy (by rw [z]; exact hc)
      rw [upd_ne ny] at hn
      exact x1.old y hy hn
    cases x with
    | unb => exact a1.elim
    | dat d => exact p v ρ' F' H' x1 r1 a1
    | own ds =>
      obtain ⟨c, xs, rfl, q2, q3, q4, q5⟩ := a1
      exact go _ c _ rfl rfl rfl q2 q3 q4 fun sF => .lst upd_same (q5.mono sF (List.prefix_refl _))
    | ownK ks vs =>
      obtain ⟨c, xs, rfl, q2, q3, q4, q5, q6⟩ := a1
      subst q5
      exact go _ c _ rfl rfl rfl q2 q3 q4 fun sF => .dK upd_same (q6.mono sF (List.prefix_refl _))
    | ownT ks vs => exact p.elim
/-- a fresh result, used as data -/
theorem x_frz (h : FM X W a m) : EM X W a (frzM m) := pe_weak h fun σ H Q h => frz_core h
/-- data as a result -/
def datM (m : M D) : M B := bnd m fun d => ret (.dat d)
theorem f_dat (h : EM X W a ma) : FM X W a (datM ma) := pe_weak h fun σ H Q h => by
  obtain ⟨b, ρ, F, e, s, r, p⟩ := h
  refine ⟨b, ρ, F, e, s, r, ?_⟩
  unfold datM at p
  cases hm : ma e s with
  | no => rw [bnd_no hm] at p; exact p
  | exc x e' s' => rw [bnd_exc hm] at p; exact p
  | ok x e' s' =>
    rw [bnd_ok hm] at p
    exact fun v ρ' F' H' x1 r1 a1 => p v ρ' F' H' x1 r1 ⟨a1, fun z => nomatch z⟩
/-- fresh lists: [a, b, ..] -/
def mLstF (n : M (List D)) : M B := bnd n fun ds => lift (if ds.length ≤ lim then some (.own ds) else none)
theorem Pst.fresh {K : PySem.W.Frag} {mg : Str → Option Value} {b : Bs} {σ : St} {e : Env} {ρ : List Addr} {F H : Hp} {s : S} {x : B} {Q : VK} (r : Rel K mg b σ e ρ F H s) (h : Pst K mg W (aF K mg) b σ e ρ F H (.ok x e s) Q)
    {p : Addr} {o : HO} (hp : H p = none) (hx : F p = none → p ∉ ρ → BAt K mg ρ F (upd H p o) (.ref p) x) : Q (.ref p) (upd H p o) := by
  obtain ⟨x1, r1, nF, nr⟩ := r.made hp o
  exact h _ ρ F _ x1 r1 ⟨hx nF nr, fun _ a z => by cases z; exact hp⟩
theorem f_lst {es : List Expr} {n : M (List D)} (h : AM X W es n) : FM X W (.List es pos) (mLstF n) :=
  pe_weak (pe_lst h) fun σ H Q h => alls anti_F h fun xs ds b ρ F H e s r a1 p => by
    by_cases hl : ds.length ≤ lim
    · rw [if_pos hl] at p
      exact ⟨by rw [a1.length]; exact lim_line hl, fun q hq => Pst.fresh r p hq fun nF nr => ⟨q, xs, rfl, upd_same, nF, nr, a1⟩⟩
    · rw [if_neg hl] at p
      exact p.elim
end

/-! ### statements -/
inductive Fl where
  | nx | rt (x : B) | bk | ct
section
variable (K : PySem.W.Frag) (mg : Str → Option Value)
def PstS (W : WX) (D : Ends) (b : Bs) (r : R Fl) : Prop := match r with
  | .ok .nx e' s' => ∀ σ' ρ' F' H', Rel K mg b σ' e' ρ' F' H' s' → D.nx σ' H'
  | .ok .bk e' s' => ∀ σ' ρ' F' H', Rel K mg b σ' e' ρ' F' H' s' → D.bk σ' H'
  | .ok .ct e' s' => ∀ σ' ρ' F' H', Rel K mg b σ' e' ρ' F' H' s' → D.ct σ' H'
  | .ok (.rt x) e' s' => ∀ v ρ' F' H', Grow b ρ' F' H' → Roots K mg ρ' F' H' s' → BAt K mg ρ' F' H' v x → (x.isOwn = true → ∀ a, v = .ref a → b.H a = none) → D.rt v H'
  | .exc x e' s' => ∀ cls dd σ' ρ' F' H', Rel K mg b σ' e' ρ' F' H' s' → ExAt K mg ρ' F' H' x cls dd → W cls dd σ' H'
  | .no => False
def TS' (W : WX) (m : M Fl) : TS := fun D σ H => ∃ b ρ F e s, Rel K mg b σ e ρ F H s ∧ PstS K mg W D b (m e s)
end
def sNx : M Fl := ret .nx
def sSeq (m n : M Fl) : M Fl := bnd m fun f => match f with
  | .nx => n
  | f => ret f
def sDrop (m : M D) : M Fl := bnd m fun _ => ret .nx
def sRet (m : M B) : M Fl := bnd m fun x => ret (.rt x)
def sSet (i : Nat) (m : M B) : M Fl := bnd m fun x e s => .ok .nx (e.set i x) s
def sIf (t : M Bool) (m n : M Fl) : M Fl := bnd t fun k => if k = true then m else n
/-- names are forgotten, ahead of what follows -/
def clr (l : List Nat) (e : Env) : Env := l.foldl (fun e i => e.set i .unb) e
def sClr (l : List Nat) (m : M Fl) : M Fl := fun e s => m (clr l e) s
abbrev SM (X : Cx) (W : WX) (st : Stmt) (m : M Fl) : Prop := PS X st (TS' X.K X.mg W m)
abbrev SMs (X : Cx) (W : WX) (st : List Stmt) (m : M Fl) : Prop := PSs X st (TS' X.K X.mg W m)
section
variable {X : Cx} {W : WX} {a : Expr} {st : Stmt} {rest : List Stmt} {m n : M Fl} {ma : M D} {mx : M B} {mt : M Bool} {pos : Pos}
theorem ss_nil : SMs X W [] sNx := pss_weak pss_nil fun D σ H ⟨b, ρ, F, e, s, r, p⟩ => p σ ρ F H r
theorem ss_cons (h1 : SM X W st m) (h2 : SMs X W rest n) : SMs X W (st :: rest) (sSeq m n) := pss_weak (pss_cons h1 h2) fun D σ H ⟨b, ρ, F, e, s, r, p⟩ => by
  refine ⟨b, ρ, F, e, s, r, ?_⟩
  unfold sSeq at p
  cases hm : m e s with
  | no => rw [bnd_no hm] at p; exact p
  | exc x e' s' => rw [bnd_exc hm] at p; exact p
  | ok f e' s' =>
    rw [bnd_ok hm] at p
    cases f with
    | nx => exact fun σ' ρ' F' H' r' => ⟨b, ρ', F', e', s', r', p⟩
    | rt x => exact p
    | bk => exact p
    | ct => exact p
theorem ss_one (h1 : SM X W st m) : SMs X W [st] m := pss_one h1
theorem ss_clr (l : List Nat) (h : SMs X W rest m) : SMs X W rest (sClr l m) := pss_weak h fun D σ H ⟨b, ρ, F, e, s, r, p⟩ => by
  have go : ∀ (l : List Nat) (e : Env), Rel X.K X.mg b σ e ρ F H s → Rel X.K X.mg b σ (clr l e) ρ F H s := fun l => by
    induction l with
    | nil => exact fun e r => r
    | cons i l ih => exact fun e r => ih _ (r.drop i)
  exact ⟨b, ρ, F, clr l e, s, go l e r, p⟩
/-- a result, then what is left -/
theorem exS {A : AR B V} {σ : St} {H : Hp} {K : PySem.W.Frag} {mg : Str → Option Value} {D : Ends} {f : B → M Fl} (h : TS' K mg W (bnd mx f) D σ H)
    {R : V → Hp → Prop} (k : ∀ v x b ρ F H1 e e0 ρ0 F0 s, Ext σ e0 e ρ0 F0 H ρ F H1 → Rel K mg b σ e ρ F H1 s → BAt K mg ρ F H1 v x → (x.isOwn = true → ∀ a, v = .ref a → b.H a = none ∧ ¬ OwnAt σ e a) → PstS K mg W D b (f x e s) → R v H1) :
    T K mg W (aF K mg) mx σ H R := by
  obtain ⟨b, ρ, F, e, s, r, p⟩ := h
  refine ⟨b, ρ, F, e, s, r, ?_⟩
  cases hm : mx e s with
  | no => rw [bnd_no hm] at p; exact p
  | exc x e' s' => rw [bnd_exc hm] at p; exact fun cls dd ρ' F' H' x1 r1 a1 => p cls dd σ ρ' F' H' r1 a1
  | ok x e' s' =>
    rw [bnd_ok hm] at p
    intro v ρ' F' H' x1 r1 ⟨a1, fr⟩
    exact k v x b ρ' F' H' e' e ρ F s' x1 r1 a1 (fun o c z => ⟨none_base r (fr o c z), fun w => not_own r (fr o c z) (x1.sub c w)⟩) p
theorem s_drop (ha : EM X W a ma) (hs : swapsWith a none pos.line X.env = pure false) : SM X W (.Expr a pos) (sDrop ma) := ps_weak (ps_expr ha hs) fun D σ H ⟨b, ρ, F, e, s, r, p⟩ => by
  refine ⟨b, ρ, F, e, s, r, ?_⟩
  unfold sDrop at p
  cases hm : ma e s with
  | no => rw [bnd_no hm] at p; exact p
  | exc x e' s' => rw [bnd_exc hm] at p; exact fun cls dd ρ' F' H' x1 r1 a1 => p cls dd σ ρ' F' H' r1 a1
  | ok x e' s' => rw [bnd_ok hm] at p; exact fun v ρ' F' H' x1 r1 a1 => p σ ρ' F' H' r1
theorem s_ret (ha : FM X W a mx) : SM X W (.Return (some a) pos) (sRet mx) := ps_weak (ps_ret ha) fun D σ H h =>
  exS (A := aF X.K X.mg) h fun v x b ρ F H1 e e0 ρ0 F0 s x1 r a1 fr p => p v ρ F H1 r.grow r.roots a1 fun o c z => (fr o c z).1
theorem s_set {i : Nat} {x : Str} {pos' : Pos} (hN : X.N.Nodup) (hi : X.N[i]? = some x) (hx : Loc X.env.scope x) (ha : FM X W a mx) (hs : swapsWith a (some (.Name x pos')) pos.line X.env = pure false) (hf : X.fn x = true ∨ X.env.scope.names.lookup x = some .local) :
    SM X W (.Assign [.Name x pos'] a pos) (sSet i mx) := ps_weak (ps_set hN hi hx ha hs hf) fun D σ H h =>
  exS (A := aF X.K X.mg) h fun v x b ρ F H1 e e0 ρ0 F0 s x1 r a1 fr p => p _ ρ F H1 (r.put a1 fr)
theorem s_if {c : Expr} {l1 l2 : List Stmt} (hc : TM X W c mt) (h1 : SMs X W l1 m) (h2 : SMs X W l2 n) : SM X W (.If c l1 l2 pos) (sIf mt m n) := ps_weak (ps_if hc h1 h2) fun D σ H ⟨b, ρ, F, e, s, r, p⟩ => by
  refine ⟨b, ρ, F, e, s, r, ?_⟩
  unfold sIf at p
  cases hm : mt e s with
  | no => rw [bnd_no hm] at p; exact p
  | exc x e' s' => rw [bnd_exc hm] at p; exact fun cls dd ρ' F' H' x1 r1 a1 => p cls dd σ ρ' F' H' r1 a1
  | ok k e' s' =>
    rw [bnd_ok hm] at p
    intro y ρ' F' H' x1 r1 a1
    subst a1
    cases y with
    | true => exact ⟨b, ρ', F', e', s', r1, p⟩
    | false => exact ⟨b, ρ', F', e', s', r1, p⟩
theorem s_pass : SM X W (.Pass pos) sNx := ps_weak ps_pass fun D σ H ⟨b, ρ, F, e, s, r, p⟩ => p σ ρ F H r
theorem s_break : SM X W (.Break pos) (ret .bk) := ps_weak ps_break fun D σ H ⟨b, ρ, F, e, s, r, p⟩ => p σ ρ F H r
theorem s_continue : SM X W (.Continue pos) (ret .ct) := ps_weak ps_continue fun D σ H ⟨b, ρ, F, e, s, r, p⟩ => p σ ρ F H r
end

/-! ### defs -/
/-- a def's worth: k parameters, n names -/
abbrev Fn := List D → S → R B
def fnM (k n : Nat) (m : M Fl) : Fn := fun ds s => if ds.length = k then (match m (ds.map .dat ++ List.replicate (n - k) .unb) s with
  | .ok (.rt x) _ s' => .ok x [] s'
  | .ok .nx _ s' => .ok (.dat .non) [] s'
  | .ok _ _ _ => .no
  | .exc x _ s' => .exc x [] s'
  | .no => .no) else .no
section
variable (K : PySem.W.Frag) (mg : Str → Option Value)
def PstF (b : Bs) (r : R B) (Q : VK) (E : XK) : Prop := match r with
  | .ok x _ s' => ∀ v ρ' F' H', Grow b ρ' F' H' → Roots K mg ρ' F' H' s' → BAt K mg ρ' F' H' v x → (x.isOwn = true → ∀ a, v = .ref a → b.H a = none) → Q v H'
  | .exc x _ s' => ∀ cls dd ρ' F' H', Grow b ρ' F' H' → Roots K mg ρ' F' H' s' → ExAt K mg ρ' F' H' x cls dd → E cls dd H'
  | .no => False
/-- the promise: what f is worth; k arguments -/
def SpF (k : Nat) (f : Fn) : Sp := fun vs H Q E => vs.length = k ∧ ∃ ρ F s ds, Roots K mg ρ F H s ∧ AtAll K mg ρ F vs ds ∧ PstF K mg ⟨ρ, F, H⟩ (f ds s) Q E
def SpF0 (k : Nat) (f : Fn) : Sp := fun vs H Q _ => SpF K mg k f vs H Q fun _ _ _ => False
end
theorem start_get {N : List Str} {vs : List V} {i : Nat} : (L2.start N vs)[i]? = if i < vs.length then (vs[i]?).map some else (List.replicate (N.length - vs.length) (none : Option V))[i - vs.length]? := by
  unfold L2.start
  by_cases h : i < vs.length
  · rw [if_pos h, List.getElem?_append_left (by rw [List.length_map]; exact h), List.getElem?_map]
  · rw [if_neg h, List.getElem?_append_right (by rw [List.length_map]; omega), List.length_map]
section
variable {K : PySem.W.Frag} {mg : Str → Option Value}
theorem rel_start {N : List Str} {ρ : List Addr} {F H : Hp} {s : S} {vs : List V} {ds : List D} (hN : vs.length ≤ N.length) (r : Roots K mg ρ F H s) (h : AtAll K mg ρ F vs ds) : Rel K mg ⟨ρ, F, H⟩ (L2.start N vs) (ds.map .dat ++ List.replicate (N.length - vs.length) .unb) ρ F H s := by
  have hl := h.length
  have get : ∀ {i : Nat} {x : B}, (ds.map B.dat ++ List.replicate (N.length - vs.length) .unb)[i]? = some x → x = .unb ∨ ∃ d, ds[i]? = some d ∧ x = .dat d := fun {i x} e => by
    by_cases c : i < ds.length
    · rw [List.getElem?_append_left (by rw [List.length_map]; exact c), List.getElem?_map] at e
      obtain ⟨d, h1, h2⟩ := Option.map_eq_some_iff.mp e
      exact .inr ⟨d, h1, h2.symm⟩
    · rw [List.getElem?_append_right (by rw [List.length_map]; omega)] at e
      exact .inl (List.eq_of_mem_replicate (List.mem_of_getElem? e))
  have nown : ∀ {i : Nat} {x : B}, (ds.map B.dat ++ List.replicate (N.length - vs.length) .unb)[i]? = some x → x.isOwn = true → False := fun {i x} e o => by
    rcases get e with rfl | ⟨d, _, rfl⟩
    · cases o
    · cases o
  refine ⟨Grow.refl _ _ _, r, ?_, fun i x e nx => ?_, fun a ⟨i, x, e1, e2, _⟩ => (nown e1 e2).elim, fun i j x y a e1 e2 o1 o2 _ _ => (nown e1 o1).elim⟩
  · unfold L2.start
    rw [List.length_append, List.length_append, List.length_map, List.length_map, List.length_replicate, List.length_replicate, hl]
  · rcases get e with rfl | ⟨d, h1, rfl⟩
    · exact absurd rfl nx
    · obtain ⟨v, h2, h3⟩ := h.get h1
      refine ⟨v, ?_, h3⟩
      rw [start_get, if_pos (List.getElem?_eq_some_iff.mp h2).1, h2]
      rfl
/-- the body's end as a def's -/
theorem fn_post {N : List Str} {k : Nat} {m : M Fl} {vs : List V} {H : Hp} {Q : VK} {E : XK} {W : WX} (hk : k ≤ N.length) (h : SpF K mg k (fnM k N.length m) vs H Q E) (hW : ∀ cls d σ H', E cls d H' → W cls d σ H') :
    TS' K mg W m { nx := fun _ H' => Q .non H', rt := Q } (L2.start N vs) H := by
  obtain ⟨hl, ρ, F, s, ds, r, a, p⟩ := h
  have h1 := a.length
  refine ⟨⟨ρ, F, H⟩, ρ, F, _, s, rel_start (by omega) r a, ?_⟩
  unfold fnM at p
  rw [if_pos (by omega)] at p
  rw [hl]
  cases hm : m (ds.map .dat ++ List.replicate (N.length - k) .unb) s with
  | no => rw [hm] at p; exact p
  | exc x e' s' => rw [hm] at p; exact fun cls dd σ' ρ' F' H' r1 a1 => hW _ _ _ _ (p cls dd ρ' F' H' r1.grow r1.roots a1)
  | ok f e' s' =>
    rw [hm] at p
    cases f with
    | nx => exact fun σ' ρ' F' H' r1 => p .non ρ' F' H' r1.grow r1.roots .non fun z => nomatch z
    | rt x => exact p
    | bk => exact p.elim
    | ct => exact p.elim
end
section
variable {P : Program} {w : World} {K : PySem.W.Frag} {mg : Str → Option Value} {base : Heap}
/-- a def that lets nothing out -/
theorem fn_ok {x qual : Str} {st : Stmt} {f : Addr} {fd : FuncData} {N ps : List Str} {k : Nat} {m : M Fl} (F : Fun K x qual st f fd) (S : FnScope N ps (defScope st)) (hl : ps.length ≤ N.length)
    (body : ∀ X : Cx, X.K = K → X.mg = mg → X.prog = P → X.w = w → X.base = base → X.N = N → X.calm = true → X.env.scope = defScope st → X.env.scope.kind = .function → (∀ y, X.fn y = true) → Room k X.A →
      (∃ (q : Str) (a b : Addr) (c : Value), X.env = PyProof.Rows.envOfC q (defScope st) a b c) → SMs X (fun _ _ _ _ => False) (defBody st) m) :
    FnOk P w K mg base CX0 (k + 1) f fd ps (SpF0 K mg ps.length (fnM ps.length N.length m)) := by
  refine F.ok S (fun vs H Q E h => h.1) (fun cdv A outer s H vs Q E hr h => ⟨_, body _ rfl rfl rfl rfl rfl rfl rfl rfl S.kind (fun _ => rfl) hr ⟨_, _, _, _, rfl⟩, ?_⟩)
  exact fn_post hl h fun _ _ _ _ z => z
/-- a def that may let errors out -/
theorem fn_okX {x qual : Str} {st : Stmt} {f : Addr} {fd : FuncData} {N ps : List Str} {k : Nat} {m : M Fl} (F : Fun K x qual st f fd) (S : FnScope N ps (defScope st)) (hl : ps.length ≤ N.length)
    (body : ∀ (X : Cx) (E : XK), X.K = K → X.mg = mg → X.prog = P → X.w = w → X.base = base → X.N = N → X.env.scope = defScope st → X.env.scope.kind = .function → (∀ y, X.fn y = true) → Room k X.A →
      Takes X (fun cls d _ H => E cls d H) →
      (∃ (q : Str) (a b : Addr) (c : Value), X.env = PyProof.Rows.envOfC q (defScope st) a b c) → SMs X (fun cls d _ H => E cls d H) (defBody st) m) :
    FnOk P w K mg base (L2.CX P w) (k + 1) f fd ps (SpF K mg ps.length (fnM ps.length N.length m)) := by
  refine F.okX S (fun vs H Q E h => h.1) (fun cdv A outer s H vs Q E hr h => ⟨_, body _ E rfl rfl rfl rfl rfl rfl rfl S.kind (fun _ => rfl) hr (takes_of rfl rfl rfl rfl) ⟨_, _, _, _, rfl⟩, ?_⟩)
  exact fn_post hl h fun _ _ _ _ z => z
end
end Mi

set_option Elab.async false
set_option linter.all false
set_option autoImplicit false
set_option maxRecDepth 100000
set_option maxHeartbeats 4000000
/-! Mi, part I: calls; targets; what is walked; for, while; list comprehensions. -/
namespace Mi
open PySem L2
section
variable {K : PySem.W.Frag} {mg : Str → Option Value} {b : Bs} {σ : St} {e e' : Env} {ρ ρ' : List Addr} {F F' H H' : Hp} {s s' : S} {W : WX}
/-- a call's own growth, seen by its caller -/
theorem Rel.grown (r : Rel K mg b σ e ρ F H s) (g : Grow ⟨ρ, F, H⟩ ρ' F' H') (rt : Roots K mg ρ' F' H' s') : Ext σ e e ρ F H ρ' F' H' ∧ Rel K mg b σ e ρ' F' H' s' := by
  have x : Ext σ e e ρ F H ρ' F' H' := ⟨g.pre, g.frz, g.keep, g.there, fun a h n => absurd (g.old a h) n, g.new, fun _ h => h⟩
  refine ⟨x, r.grow.ext r.fresh x, rt, r.len, r.slots g.frz g.pre fun a h => ?_, r.fresh, r.apart⟩
  obtain ⟨k1, k2, k3⟩ := r.own_there h
  obtain ⟨u, q⟩ := some_of_ne k1
  refine ⟨?_, g.old a k1, fun m => k1 (g.new a m k3)⟩
  rw [q]
  exact g.keep a u q k3
end
/-- f(e, ..) -/
def mCF (f : Fn) (n : M (List D)) : M B := bnd n fun ds e s => match f ds s with
  | .ok x _ s' => .ok x e s'
  | .exc x _ s' => .exc x e s'
  | .no => .no
/-- a def by its name: what it is worth -/
structure Cal (P : Program) (w : World) (K : PySem.W.Frag) (mg : Str → Option Value) (base : Heap) (k : Nat) (x : Str) (np : Nat) (fm : Fn) : Prop where
  ex : ∃ (f : Addr) (fd : FuncData) (ps : List Str), ps.length = np ∧ FnOk P w K mg base CX0 k f fd ps (SpF0 K mg np fm) ∧ mg x = some (.ref f) ∧ PySem.W.keepIn K (.ref f) = true ∧ Binds K fd ps []
structure CalX (P : Program) (w : World) (K : PySem.W.Frag) (mg : Str → Option Value) (base : Heap) (k : Nat) (x : Str) (np : Nat) (fm : Fn) : Prop where
  ex : ∃ (f : Addr) (fd : FuncData) (ps : List Str), ps.length = np ∧ FnOk P w K mg base (L2.CX P w) k f fd ps (SpF K mg np fm) ∧ mg x = some (.ref f) ∧ PySem.W.keepIn K (.ref f) = true ∧ Binds K fd ps []
/-- the promise is met -/
theorem call_core {K : PySem.W.Frag} {mg : Str → Option Value} {W : WX} {σ : St} {H : Hp} {Q : VK} {np : Nat} {fm : Fn} {n : M (List D)} (hn : ∀ ds s, ds.length ≠ np → fm ds s = .no) (h : T K mg W (aF K mg) (mCF fm n) σ H Q)
    (E : XK) (hE : ∀ c d H', W c d σ H' → E c d H') : T K mg W (aDs K mg) n σ H (fun vs H1 => SpF K mg np fm vs H1 Q E) :=
  alls anti_F h fun vs ds b ρ F H e s r a p => by
    by_cases hl : ds.length = np
    · refine ⟨a.length.trans hl, ρ, F, s, ds, r.roots, a, ?_⟩
      cases hm : fm ds s with
      | no =>
        have p' : Pst K mg W (aF K mg) b σ e ρ F H (match fm ds s with | .ok x _ s' => .ok x e s' | .exc x _ s' => .exc x e s' | .no => .no) Q := p
        rw [hm] at p'
        exact p'
      | ok x e' s' =>
        have p' : Pst K mg W (aF K mg) b σ e ρ F H (match fm ds s with | .ok x _ s' => .ok x e s' | .exc x _ s' => .exc x e s' | .no => .no) Q := p
        rw [hm] at p'
        intro v ρ' F' H' g rt ba fr
        obtain ⟨x1, r1⟩ := r.grown g rt
        exact p' v ρ' F' H' x1 r1 ⟨ba, fr⟩
      | exc x e' s' =>
        have p' : Pst K mg W (aF K mg) b σ e ρ F H (match fm ds s with | .ok x _ s' => .ok x e s' | .exc x _ s' => .exc x e s' | .no => .no) Q := p
        rw [hm] at p'
        intro cls dd ρ' F' H' g rt ea
        obtain ⟨x1, r1⟩ := r.grown g rt
        exact hE _ _ _ (p' cls dd ρ' F' H' x1 r1 ea)
    · have p' : Pst K mg W (aF K mg) b σ e ρ F H (match fm ds s with | .ok x _ s' => .ok x e s' | .exc x _ s' => .exc x e s' | .no => .no) Q := p
      rw [hn ds s hl] at p'
      exact p'.elim
/-- where no error comes, none is wished for -/
def noX {α : Type} (m : M α) : M α := fun e s => match m e s with
  | .exc _ _ _ => .no
  | r => r
theorem noX_pst {K : PySem.W.Frag} {mg : Str → Option Value} {α β : Type} {W W' : WX} {A : AR α β} {b : Bs} {σ : St} {e e0 : Env} {ρ : List Addr} {F H : Hp} {s0 : S} {m : M α} {Q : β → Hp → Prop} (h : Pst K mg W A b σ e ρ F H (noX m e0 s0) Q) : Pst K mg W' A b σ e ρ F H (m e0 s0) Q := by
  unfold noX at h
  cases hm : m e0 s0 with
  | no => rw [hm] at h; exact h
  | exc x e' s' => rw [hm] at h; exact h.elim
  | ok a e' s' => rw [hm] at h; exact h
theorem noX_T {K : PySem.W.Frag} {mg : Str → Option Value} {α β : Type} {W W' : WX} {A : AR α β} {σ : St} {H : Hp} {m : M α} {Q : β → Hp → Prop} (h : T K mg W A (noX m) σ H Q) : T K mg W' A m σ H Q := by
  obtain ⟨b, ρ, F, e, s, r, p⟩ := h
  exact ⟨b, ρ, F, e, s, r, noX_pst p⟩
def noXF (f : Fn) : Fn := fun ds s => match f ds s with
  | .exc _ _ _ => .no
  | r => r
theorem noXF_sp {K : PySem.W.Frag} {mg : Str → Option Value} {np : Nat} {f : Fn} {vs : List V} {H : Hp} {Q : VK} {E E' : XK} (h : SpF K mg np (noXF f) vs H Q E) : SpF K mg np f vs H Q E' := by
  obtain ⟨hl, ρ, F, s, ds, r, a, p⟩ := h
  refine ⟨hl, ρ, F, s, ds, r, a, ?_⟩
  unfold noXF at p
  cases hm : f ds s with
  | no => rw [hm] at p; exact p
  | exc x e' s' => rw [hm] at p; exact p.elim
  | ok a e' s' => rw [hm] at p; exact p
section
variable {X : Cx} {W : WX} {x : Str} {p pos : Pos} {a : Expr} {es : List Expr} {n : M (List D)} {np k : Nat} {fm : Fn}
theorem f_call (c : Cal X.prog X.w X.K X.mg X.base k x np fm) (hn : ∀ ds s, ds.length ≠ np → fm ds s = .no) (hr : Room k X.A) (hg : Gl X x) (ha : AM X W (a :: es) n)
    (hdb : (x == ("__debug__" : Str)) = false := by decide) (he : starEach (a :: es) X.env = (false, eval a X.env) :: starEach es X.env := by rfl) (hpl : (backTo pos (starEach es X.env)).any (·.1) = false := by rfl) :
    FM X W (.Call (.Name x p) (a :: es) [] pos) (mCF (noXF fm) n) := by
  obtain ⟨f, fd, ps, hp, Fk, hm, hk, hb⟩ := c.ex
  refine pe_weak (pe_call Fk hr hg hm hk hb .nil pass0 ha hdb he hpl) fun σ H Q h => ?_
  have h2 := call_core (np := np) (fun ds s q => by unfold noXF; rw [hn ds s q]) h (fun c d H' => W c d σ H') fun _ _ _ z => z
  have e0 : (fun (vs : List V) (H1 : Hp) => SpF X.K X.mg np (noXF fm) vs H1 Q fun c d H' => W c d σ H') = fun vs H1 => SpF X.K X.mg np (noXF fm) (vs ++ []) H1 Q fun c d H' => W c d σ H' := by
    funext vs H1
    rw [List.append_nil]
  rw [e0] at h2
  obtain ⟨b, ρ, F, e, s, r, q⟩ := h2
  refine ⟨b, ρ, F, e, s, r, ?_⟩
  cases hm : n e s with
  | no => rw [hm] at q; exact q
  | exc y e' s' => rw [hm] at q; exact q
  | ok ds e' s' =>
    rw [hm] at q
    exact fun vs ρ' F' H' x1 r1 a1 => noXF_sp (q vs ρ' F' H' x1 r1 a1)
theorem f_call0 (c : Cal X.prog X.w X.K X.mg X.base k x 0 fm) (hn : ∀ ds s, ds.length ≠ 0 → fm ds s = .no) (hr : Room k X.A) (hg : Gl X x)
    (hdb : (x == ("__debug__" : Str)) = false := by decide) : FM X W (.Call (.Name x p) [] [] pos) (mCF (noXF fm) aNil) := by
  obtain ⟨f, fd, ps, hp, Fk, hm, hk, hb⟩ := c.ex
  refine pe_weak (pe_call0 Fk hr hg hm hk hb .nil pass0 hdb) fun σ H Q h => ?_
  have h2 := call_core (np := 0) (fun ds s q => by unfold noXF; rw [hn ds s q]) h (fun c d H' => W c d σ H') fun _ _ _ z => z
  obtain ⟨b, ρ, F, e, s, r, q⟩ := h2
  exact noXF_sp (q [] ρ F H Ext.refl r .nil)
/-- .. that may raise -/
theorem f_callX (c : CalX X.prog X.w X.K X.mg X.base k x np fm) (hn : ∀ ds s, ds.length ≠ np → fm ds s = .no) (tk : Takes X W) (hr : Room k X.A) (hg : Gl X x) (ha : AM X W (a :: es) n)
    (hdb : (x == ("__debug__" : Str)) = false := by decide) (he : starEach (a :: es) X.env = (false, eval a X.env) :: starEach es X.env := by rfl) (hpl : (backTo pos (starEach es X.env)).any (·.1) = false := by rfl) :
    FM X W (.Call (.Name x p) (a :: es) [] pos) (mCF fm n) := by
  obtain ⟨f, fd, ps, hp, Fk, hm, hk, hb⟩ := c.ex
  refine pe_weak (pe_callSD Fk hr hg hm hk hb .nil (fun σ => passAt tk σ) ha hdb he hpl) fun σ H Q h => ?_
  have h2 := call_core (np := np) hn h (WE W σ) fun _ _ _ z => z
  have e0 : (fun (vs : List V) (H1 : Hp) => SpF X.K X.mg np fm vs H1 Q (WE W σ)) = fun vs H1 => SpF X.K X.mg np fm (vs ++ []) H1 Q (WE W σ) := by
    funext vs H1
    rw [List.append_nil]
  rw [e0] at h2
  exact h2
end
/-- where a callee's own error cannot come -/
theorem fnM_len {k n : Nat} {m : M Fl} : ∀ ds s, ds.length ≠ k → fnM k n m ds s = .no := fun ds s h => by
  unfold fnM
  rw [if_neg h]

/-! ### targets -/
abbrev Tg := D → Env → Option Env
def tgN (i : Nat) : Tg := fun d e => some (e.set i (.dat d))
abbrev Tgs := List D → Env → Option Env
def tgsNil : Tgs := fun ds e => match ds with
  | [] => some e
  | _ => none
def tgsCons (g : Tg) (r : Tgs) : Tgs := fun ds e => match ds with
  | d :: ds => match g d e with
    | some e' => r ds e'
    | none => none
  | [] => none
def tgT (n : Nat) (g : Tgs) : Tg := fun d e => match d with
  | .tup ds => if ds.length = n then g ds e else none
  | .ntup ds => if ds.length = n then g ds e else none
  | _ => none
section
variable (K : PySem.W.Frag) (mg : Str → Option Value)
def TgEnd (b : Bs) (ks : List Nat) (σ : St) (e : Env) (ρ : List Addr) (F H : Hp) (s : S) (r : Option Env) (Q : St → Hp → Prop) : Prop := match r with
  | some e' => ∀ σ', Rel K mg b σ' e' ρ F H s → (∀ a, OwnAt σ' e' a → OwnAt σ e a) → (∀ j, j ∉ ks → σ'[j]? = σ[j]?) → σ'.length = σ.length → Q σ' H
  | none => False
def TGm (ks : List Nat) (g : Tg) : TG := fun v σ H Q => ∃ b ρ F e s d, Rel K mg b σ e ρ F H s ∧ At K mg ρ F v d ∧ TgEnd K mg b ks σ e ρ F H s (g d e) Q
def TGsm (ks : List Nat) (g : Tgs) : TGs := fun vs σ H Q => ∃ b ρ F e s ds, Rel K mg b σ e ρ F H s ∧ AtAll K mg ρ F vs ds ∧ TgEnd K mg b ks σ e ρ F H s (g ds e) Q
end
abbrev GM (X : Cx) (tg : Expr) (ks : List Nat) (g : Tg) : Prop := PG X tg (TGm X.K X.mg ks g)
abbrev GMs (X : Cx) (tgs : List Expr) (ks : List Nat) (g : Tgs) : Prop := PGs X tgs (TGsm X.K X.mg ks g)
theorem pgs_weak {X : Cx} {x : List Expr} {t t' : TGs} (h : PGs X x t) (w : ∀ v σ H Q, t' v σ H Q → t v σ H Q) : PGs X x t' := ⟨fun pins s σ H vs us Q I r q => h.run pins s σ H vs us Q I r (w vs σ H Q q)⟩
section
variable {X : Cx} {pos : Pos}
theorem put_own {K : PySem.W.Frag} {mg : Str → Option Value} {σ : St} {e : Env} {i : Nat} {v : V} {d : D} {a : Addr} (h : OwnAt (σ.set i (some v)) (e.set i (.dat d)) a) : OwnAt σ e a := by
  obtain ⟨j, x, e1, e2, e3⟩ := h
  rcases setG e1 with ⟨_, rfl⟩ | ⟨c, e1⟩
  · cases e2
  · rcases setG e3 with ⟨q, _⟩ | ⟨_, e3⟩
    · exact absurd q c
    · exact ⟨j, x, e1, e2, e3⟩
theorem g_name {i : Nat} {x : Str} (hN : X.N.Nodup) (hi : X.N[i]? = some x) (hx : Loc X.env.scope x) (hf : X.fn x = true ∨ X.env.scope.names.lookup x = some .local) : GM X (.Name x pos) [i] (tgN i) :=
  pg_weak (pg_name hN hi hx hf) fun v σ H Q ⟨b, ρ, F, e, s, d, r, a, q⟩ => q _ (r.put (x := .dat d) a fun z => nomatch z) (fun a h => put_own (K := X.K) (mg := X.mg) h) (fun j hj => List.getElem?_set_ne fun z => hj (by rw [z]; simp)) List.length_set
theorem g_nil : GMs X [] [] tgsNil := pgs_weak pgs_nil fun vs σ H Q ⟨b, ρ, F, e, s, ds, r, a, q⟩ => by
  cases a with
  | nil => exact ⟨rfl, q σ r (fun _ h => h) (fun _ _ => rfl) rfl⟩
  | cons _ _ => exact q.elim
theorem g_cons {t : Expr} {ts : List Expr} {k1 k2 : List Nat} {g : Tg} {u : Tgs} (h1 : GM X t k1 g) (h2 : GMs X ts k2 u) (hs : (assignEach (t :: ts) X.env).map (·.2) = assign t X.env :: (assignEach ts X.env).map (·.2) := by rfl) : GMs X (t :: ts) (k1 ++ k2) (tgsCons g u) :=
  pgs_weak (pgs_cons h1 h2 hs) fun vs σ H Q ⟨b, ρ, F, e, s, ds, r, a, q⟩ => by
    cases a with
    | nil => exact q.elim
    | @cons v vs d ds a1 a2 =>
      refine ⟨v, vs, rfl, b, ρ, F, e, s, d, r, a1, ?_⟩
      unfold tgsCons at q
      cases hg : g d e with
      | none =>
        simp only [hg] at q
        exact q.elim
      | some e' =>
        simp only [hg] at q
        refine fun σ' r' o k l => ⟨b, ρ, F, e', s, ds, r', a2, ?_⟩
        cases hu : u ds e' with
        | none => rw [hu] at q; exact q.elim
        | some e2 =>
          rw [hu] at q
          exact fun σ2 r2 o2 k2 l2 => q σ2 r2 (fun a h => o a (o2 a h)) (fun j hj => (k2 j fun m => hj (List.mem_append_right _ m)).trans (k j fun m => hj (List.mem_append_left _ m))) (l2.trans l)
theorem g_tup {ts : List Expr} {kk : Nat} {ks : List Nat} {g : Tgs} {n : Nat} (hc : X.calm = true) (h : GMs X ts ks g) (hn : (assignEach ts X.env).length = n := by rfl) (hst : (assignEach ts X.env).findIdx? (·.1) = none := by rfl) : GM X (.Tuple ts kk pos) ks (tgT n g) :=
  pg_weak (pg_tup hc h hn hst) fun v σ H Q ⟨b, ρ, F, e, s, d, r, a, q⟩ => by
    cases a with
    | @tup a xs ds h1 h2 =>
      unfold tgT at q
      by_cases hl : ds.length = n
      · simp only [hl, if_true] at q
        exact ⟨a, xs, rfl, sqT_same r.roots.ex h1, h2.length.trans hl, b, ρ, F, e, s, ds, r, h2, q⟩
      · simp only [hl, if_false] at q
        exact q.elim
    | @ntup a xs ds h1 _ h2 =>
      unfold tgT at q
      by_cases hl : ds.length = n
      · simp only [hl, if_true] at q
        exact ⟨a, xs, rfl, sqT_same r.roots.ex h1, h2.length.trans hl, b, ρ, F, e, s, ds, r, h2, q⟩
      · simp only [hl, if_false] at q
        exact q.elim
    | _ => exact q.elim
end
end Mi

set_option Elab.async false
set_option linter.all false
set_option autoImplicit false
set_option maxRecDepth 100000
set_option maxHeartbeats 4000000
/-! Mi, part J: what is walked; for, while. -/
namespace Mi
open PySem L2
section
variable (K : PySem.W.Frag) (mg : Str → Option Value)
/-- what turn i gives: the i-th of ds; the heap may grow -/
def YD (ρ : List Addr) (F : Hp) (ds : List D) : Nat → Hp → V → Hp → Prop := fun i H x H' => ∃ d, ds[i]? = some d ∧ ∀ ρ2 F2, ρ <+: ρ2 → Same F F2 → Same F2 H → ∃ F3, Gr F2 H F3 H' ∧ At K mg ρ2 F3 x d
def Wk (ρ : List Addr) (F : Hp) (J : It) (ds : List D) : Prop := Walk J ds.length (fun H => Same F H) (YD K mg ρ F ds)
end
abbrev aIt (K : PySem.W.Frag) (mg : Str → Option Value) : AR (List D) It := fun _ _ ρ F _ J ds => Wk K mg ρ F J ds
theorem anti_It {K : PySem.W.Frag} {mg : Str → Option Value} : Anti (aIt K mg) := fun _ _ _ _ _ _ _ _ _ h => h
abbrev IM (X : Cx) (W : WX) (tg it : Expr) (m : M (List D)) : Prop := PI X tg it (T X.K X.mg W (aIt X.K X.mg) m)
section
variable {K : PySem.W.Frag} {mg : Str → Option Value} {ρ : List Addr} {F : Hp}
/-- the i-th of what lies there -/
theorem yd_at {vs : List V} {ds : List D} (h : AtAll K mg ρ F vs ds) {i : Nat} {H : Hp} {x : V} {H' : Hp} (hi : i < ds.length) (y : YAt vs i H x H') : YD K mg ρ F ds i H x H' := by
  obtain ⟨rfl, hx⟩ := y
  obtain ⟨v, h1, h2⟩ := h.get (List.getElem?_eq_getElem hi)
  rw [hx] at h1
  cases h1
  exact ⟨_, List.getElem?_eq_getElem hi, fun ρ2 F2 p f g => ⟨F2, Gr.refl g, h2.mono f p⟩⟩
theorem wk_lst {a : Addr} {vs : List V} {ds : List D} (h : F a = some (.lst vs)) (k : AtAll K mg ρ F vs ds) : Wk K mg ρ F (Itl K a) ds := by
  unfold Wk
  rw [← k.length]
  exact (walk_list (K := K) (a := a) (xs := vs)).mono (fun H g => .inl (.inl (g _ _ h))) fun i H x H' hi g y => yd_at k (by rw [← k.length]; exact hi) y
theorem wk_tup {a : Addr} {vs : List V} {ds : List D} (h : SqT K F a vs) (k : AtAll K mg ρ F vs ds) : Wk K mg ρ F (Itt K a) ds := by
  unfold Wk
  rw [← k.length]
  exact (walk_tup (K := K) (a := a) (xs := vs)).mono (fun H g => sqT_same g h) fun i H x H' hi g y => yd_at k (by rw [← k.length]; exact hi) y
/-- a text's signs -/
def signs (x : Str) : List D := x.cps.toList.map fun c => .str ⟨#[c]⟩
theorem wk_str {x : Str} (ok : PyData.strOk x = true) : Wk K mg ρ F (Its x) (signs x) := by
  unfold Wk
  have e : (signs x).length = x.cps.size := by unfold signs; rw [List.length_map, Array.length_toList]
  rw [e]
  refine (walk_str (z := x)).mono (fun H g => trivial) fun i H v H' hi g ⟨e1, c, h1, h2⟩ => ?_
  subst e1 h2
  have hc : c ∈ x.cps.toList := by
    rw [Array.mem_toList_iff]
    exact Array.mem_of_getElem? h1
  refine ⟨.str ⟨#[c]⟩, ?_, fun ρ2 F2 p f g => ⟨F2, Gr.refl g, .str (ok_one ok hc)⟩⟩
  unfold signs
  rw [List.getElem?_map, Array.getElem?_toList, h1]
  rfl
/-- 0, 1, .. -/
def upto (n : Nat) : List D := (List.range n).map fun i => .int (i : Nat)
theorem wk_range {n : Nat} : Wk K mg ρ F (Itr 0 n) (upto n) := by
  unfold Wk
  have e : (upto n).length = n := by unfold upto; rw [List.length_map, List.length_range]
  rw [e]
  refine (walk_range (lo := 0) (n := n)).mono (fun H g => trivial) fun i H v H' hi g ⟨e1, h2⟩ => ?_
  subst e1
  refine ⟨.int (i : Nat), ?_, fun ρ2 F2 p f g => ⟨F2, Gr.refl g, ?_⟩⟩
  · unfold upto
    rw [List.getElem?_map, List.getElem?_range hi]
    rfl
  · rw [h2]
    show At K mg ρ2 F2 (V.int (0 + (i : Int))) _
    rw [Int.zero_add]
    exact .int _
/-- pairs, each laid anew -/
theorem yd_pair {xs ys : Nat → Option V} {ds : List D} {i : Nat} {H : Hp} {v : V} {H' : Hp} {d1 d2 : D} (hd : ds[i]? = some (.tup [d1, d2])) (h1 : ∀ x, xs i = some x → At K mg ρ F x d1) (h2 : ∀ x, ys i = some x → At K mg ρ F x d2)
    (y : YPair xs ys i H v H') : YD K mg ρ F ds i H v H' := by
  obtain ⟨a, x, z, rfl, hT, rfl, e1, e2⟩ := y
  refine ⟨_, hd, fun ρ2 F2 p f g => ?_⟩
  have g2 := Gr.laid g hT (.tup [x, z])
  exact ⟨_, g2, .tup (SqT.of upd_same) (.cons ((h1 x e1).mono (f.trans g2.frz) p) (.cons ((h2 z e2).mono (f.trans g2.frz) p) .nil))⟩
def zipD (ds es : List D) : List D := (ds.zip es).map fun p => .tup [p.1, p.2]
theorem zipD_at {ds es : List D} {i : Nat} (hi : i < (zipD ds es).length) : ∃ d1 d2, ds[i]? = some d1 ∧ es[i]? = some d2 ∧ (zipD ds es)[i]? = some (.tup [d1, d2]) := by
  unfold zipD at *
  rw [List.length_map, List.length_zip] at hi
  have h1 : i < ds.length := by omega
  have h2 : i < es.length := by omega
  refine ⟨_, _, List.getElem?_eq_getElem h1, List.getElem?_eq_getElem h2, ?_⟩
  rw [List.getElem?_map, (List.getElem?_zip_eq_some (z := (ds[i], es[i]))).mpr ⟨List.getElem?_eq_getElem h1, List.getElem?_eq_getElem h2⟩] <;> rfl
theorem zip_len {ds es : List D} {vs ws : List V} (h1 : AtAll K mg ρ F vs ds) (h2 : AtAll K mg ρ F ws es) : (zipD ds es).length = min vs.length ws.length := by
  unfold zipD
  rw [List.length_map, List.length_zip, h1.length, h2.length]
theorem wk_zipL {a b : Addr} {vs ws : List V} {ds es : List D} (q1 : F a = some (.lst vs)) (h1 : AtAll K mg ρ F vs ds) (q2 : F b = some (.lst ws)) (h2 : AtAll K mg ρ F ws es) : Wk K mg ρ F (Itz K a b) (zipD ds es) := by
  unfold Wk
  refine (walk_zip (K := K) (a := a) (b := b) (xs := vs) (ys := ws) (zip_len h1 h2)).mono (fun H g => ⟨.inl (.inl (g _ _ q1)), .inl (.inl (g _ _ q2))⟩) fun i H x H' hi g y => ?_
  obtain ⟨d1, d2, e1, e2, e3⟩ := zipD_at hi
  obtain ⟨v1, k1, k2⟩ := h1.get e1
  obtain ⟨v2, k3, k4⟩ := h2.get e2
  exact yd_pair e3 (fun x e => by rw [k1] at e; cases e; exact k2) (fun x e => by rw [k3] at e; cases e; exact k4) y
theorem walk_zipT {a b : Addr} {xs ys : List V} {n : Nat} (hn : n = min xs.length ys.length) : Walk (RZ.ItzT K a b) n (fun H => SqT K H a xs ∧ SqT K H b ys) (YPair (fun i => xs[i]?) (fun i => ys[i]?)) := by
  subst hn
  refine ⟨fun i H hi q => ?_, fun H q => ?_, fun i H v H' hi q y => ?_⟩
  · refine ⟨xs, ys, xs[i]'(by omega), ys[i]'(by omega), q.1, q.2, ?_, ?_⟩
    · exact List.getElem?_eq_getElem _
    · exact List.getElem?_eq_getElem _
  · refine ⟨xs, ys, q.1, q.2, ?_⟩
    omega
  · obtain ⟨t, x, z, r1, r2, r3, r4, r5⟩ := y
    exact ⟨t, x, z, r1, r2, r3, r4 xs q.1, r5 ys q.2⟩
theorem wk_zipT {a b : Addr} {vs ws : List V} {ds es : List D} (q1 : SqT K F a vs) (h1 : AtAll K mg ρ F vs ds) (q2 : SqT K F b ws) (h2 : AtAll K mg ρ F ws es) : Wk K mg ρ F (RZ.ItzT K a b) (zipD ds es) := by
  unfold Wk
  refine (walk_zipT (K := K) (a := a) (b := b) (xs := vs) (ys := ws) (zip_len h1 h2)).mono (fun H g => ⟨sqT_same g q1, sqT_same g q2⟩) fun i H x H' hi g y => ?_
  obtain ⟨d1, d2, e1, e2, e3⟩ := zipD_at hi
  obtain ⟨v1, k1, k2⟩ := h1.get e1
  obtain ⟨v2, k3, k4⟩ := h2.get e2
  exact yd_pair e3 (fun x e => by rw [k1] at e; cases e; exact k2) (fun x e => by rw [k3] at e; cases e; exact k4) y
end
/-! ### iterables -/
def gIt : D → Option (List D)
  | .tup xs => some xs
  | .ntup xs => some xs
  | .lst xs => some xs
  | .str x => some (signs x)
  | _ => none
def iSeq (m : M D) : M (List D) := bnd m fun d => lift (gIt d)
def iRng (m : M D) : M (List D) := bnd m fun d => lift (match d with
  | .int j => if -(lim : Int) ≤ j ∧ j ≤ lim then some (upto j.toNat) else none
  | _ => none)
def gZip : List D → Option (List D)
  | [.tup xs, .tup ys] => some (zipD xs ys)
  | [.lst xs, .lst ys] => some (zipD xs ys)
  | _ => none
def iZip (n : M (List D)) : M (List D) := bnd n fun ds => lift (gZip (ds.map D.top))
theorem pi_or {X : Cx} {tg x : Expr} {t u : TI} (h1 : PI X tg x t) (h2 : PI X tg x u) : PI X tg x (fun σ H R => t σ H R ∨ u σ H R) := ⟨fun pins s σ H R I q => q.elim (h1.run pins s σ H R I) (h2.run pins s σ H R I)⟩
section
variable {X : Cx} {W : WX} {a c : Expr} {tg : Expr} {ma mc : M D} {p pos tpos : Pos} {elts : List Expr} {kk : Nat}
/-- the first part's worth by cases -/
theorem T.ok {K : PySem.W.Frag} {mg : Str → Option Value} {α β : Type} {A : AR α β} {b : Bs} {σ : St} {e e' : Env} {ρ : List Addr} {F H : Hp} {s s' : S} {Q : β → Hp → Prop} {m : M α} {d : α} (r : Rel K mg b σ e ρ F H s) (hm : m e s = .ok d e' s')
    (k : ∀ y ρ' F' H', Ext σ e e' ρ F H ρ' F' H' → Rel K mg b σ e' ρ' F' H' s' → A H e' ρ' F' H' y d → Q y H') : T K mg W A m σ H Q := ⟨b, ρ, F, e, s, r, by rw [hm]; exact k⟩
theorem i_seq (h : EM X W a ma) : IM X W tg a (iSeq ma) :=
  pi_weak (pi_or (pi_list h) (pi_or (pi_tup h) (pi_str h))) fun σ H R ⟨b, ρ, F, e, s, r, q⟩ => by
    unfold iSeq at q
    cases hm : ma e s with
    | no => rw [bnd_no hm] at q; exact q.elim
    | exc y e' s' =>
      rw [bnd_exc hm] at q
      exact .inl ⟨b, ρ, F, e, s, r, by rw [hm]; exact q⟩
    | ok d e' s' =>
      rw [bnd_ok hm] at q
      cases d with
      | tup xs =>
        refine .inr (.inl (T.ok r hm fun y ρ' F' H' x1 r1 a1 => ?_))
        cases a1 with
        | tup k1 k2 => exact ⟨_, rfl, ⟨_, sqT_same r1.roots.ex k1⟩, q _ ρ' F' H' x1 r1 (wk_tup k1 k2)⟩
      | ntup xs =>
        refine .inr (.inl (T.ok r hm fun y ρ' F' H' x1 r1 a1 => ?_))
        cases a1 with
        | ntup k1 _ k2 => exact ⟨_, rfl, ⟨_, sqT_same r1.roots.ex k1⟩, q _ ρ' F' H' x1 r1 (wk_tup k1 k2)⟩
      | lst xs =>
        refine .inl (T.ok r hm fun y ρ' F' H' x1 r1 a1 => ?_)
        cases a1 with
        | lst k1 k2 => exact ⟨_, rfl, ⟨_, .inl (.inl (r1.roots.ex _ _ k1))⟩, q _ ρ' F' H' x1 r1 (wk_lst k1 k2)⟩
      | str x =>
        refine .inr (.inr (T.ok r hm fun y ρ' F' H' x1 r1 a1 => ?_))
        cases a1 with
        | str k1 => exact ⟨_, rfl, q _ ρ' F' H' x1 r1 (wk_str k1)⟩
      | _ => exact q.elim
theorem i_range (hg : Gl X "range") (hm : X.mg "range" = none) (h : EM X W a ma) (hs : starEach [a] X.env = [(false, eval a X.env)] := by rfl) (hs2 : starEach [a] X.env = (false, eval a X.env) :: starEach [] X.env := by rfl) : IM X W tg (.Call (.Name "range" p) [a] [] pos) (iRng ma) :=
  pi_weak (pi_range1 hg hm (a_cons h a_nil hs2) hs) fun σ H R h => by
    have e0 : iRng ma = bnd (aCons ma aNil) fun ds => lift (match ds with
      | [.int j] => if -(lim : Int) ≤ j ∧ j ≤ lim then some (upto j.toNat) else none
      | _ => none) := by
      unfold iRng aCons aNil
      funext e s
      cases hm : ma e s with
      | no => rw [bnd_no hm, bnd_no (bnd_no hm)]
      | exc y e' s' => rw [bnd_exc hm, bnd_exc (bnd_exc hm)]
      | ok d e' s' =>
        rw [bnd_ok hm]
        have : bnd ma (fun d => bnd (ret []) fun ds => ret (d :: ds)) e s = .ok [d] e' s' := by rw [bnd_ok hm] <;> rfl
        rw [bnd_ok this]
        cases d <;> rfl
    rw [e0] at h
    refine alls anti_It h fun xs ds b ρ F H e s r at1 q => ?_
    cases at1 with
    | nil => exact q.elim
    | @cons v vs d ds a1 a2 =>
      cases a2 with
      | cons _ _ => cases d <;> exact q.elim
      | nil =>
        cases a1 with
        | int j =>
          have hl : (lim : Int) = 1000000 := rfl
          by_cases hj : -(lim : Int) ≤ j ∧ j ≤ lim
          · simp only [hj, and_self, if_true] at q
            exact ⟨j, rfl, by omega, by omega, q _ ρ F H Ext.refl r wk_range⟩
          · simp only [hj, if_false] at q
            exact q.elim
        | _ => exact q.elim
theorem i_zip {n : M (List D)} (hg : Gl X "zip") (hm : X.mg "zip" = none) (ha : AM X W [a, c] n) (hs : starEach [a, c] X.env = (false, eval a X.env) :: starEach [c] X.env := by rfl) (hpl : (backTo pos (starEach [c] X.env)).any (·.1) = false := by rfl) :
    IM X W (.Tuple elts kk tpos) (.Call (.Name "zip" p) [a, c] [] pos) (iZip n) :=
  pi_weak (RZ.pi_zipA hg hm ha hs hpl) fun σ H R h => alls anti_It h fun xs ds b ρ F H e s r at1 q => by
    replace at1 := ats_top at1
    generalize ds.map D.top = ds at at1 q
    cases at1 with
    | nil => exact q.elim
    | @cons v vs d ds a1 a2 =>
      cases a2 with
      | nil => cases d <;> exact q.elim
      | @cons v2 vs d2 ds a2 a3 =>
        cases a3 with
        | cons _ _ => cases d <;> cases d2 <;> exact q.elim
        | nil =>
          cases a1 with
          | tup q1 h1 =>
            cases a2 with
            | tup q2 h2 => exact ⟨_, _, _, _, rfl, .inr ⟨sqT_same r.roots.ex q1, sqT_same r.roots.ex q2, q _ ρ F H Ext.refl r (wk_zipT q1 h1 q2 h2)⟩⟩
            | _ => exact q.elim
          | lst q1 h1 =>
            cases a2 with
            | lst q2 h2 => exact ⟨_, _, _, _, rfl, .inl ⟨.inl (.inl (r.roots.ex _ _ q1)), .inl (.inl (r.roots.ex _ _ q2)), q _ ρ F H Ext.refl r (wk_zipL q1 h1 q2 h2)⟩⟩
            | _ => exact q.elim
          | _ => cases d2 <;> exact q.elim
end
end Mi

set_option Elab.async false
set_option linter.all false
set_option autoImplicit false
set_option maxRecDepth 100000
set_option maxHeartbeats 4000000
/-! Mi, part K: for, while, list comprehensions. -/
namespace Mi
open PySem L2
def forL (g : Tg) (m : M Fl) : List D → M Fl
  | [] => ret .nx
  | d :: ds => fun e s => match g d e with
    | none => .no
    | some e' => bnd m (fun f => match f with
      | .nx => forL g m ds
      | .ct => forL g m ds
      | .bk => ret .nx
      | .rt x => ret (.rt x)) e' s
def sFor (it : M (List D)) (g : Tg) (m : M Fl) : M Fl := bnd it fun ds => forL g m ds
def whileL (t : M Bool) (m : M Fl) : Nat → M Fl
  | 0 => lift none
  | n + 1 => bnd t fun k => if k = true then bnd m (fun f => match f with
      | .nx => whileL t m n
      | .ct => whileL t m n
      | .bk => ret .nx
      | .rt x => ret (.rt x)) else ret .nx
/-! ### what stood when a part began is remembered -/
open Classical in
noncomputable def bnow (σ : St) (e : Env) (ρ : List Addr) (F H : Hp) : Bs := ⟨ρ, F, fun a => if OwnAt σ e a then none else H a⟩
section
variable {K : PySem.W.Frag} {mg : Str → Option Value} {b : Bs} {σ σ' : St} {e e' : Env} {ρ ρ' : List Addr} {F F' H H' : Hp} {s s' : S} {W : WX}
theorem bnow_none {a : Addr} (h : (bnow σ e ρ F H).H a = none) : OwnAt σ e a ∨ H a = none := by
  unfold bnow at h
  by_cases c : OwnAt σ e a
  · exact .inl c
  · simp only [c, if_false] at h
    exact .inr h
theorem bnow_ne {a : Addr} (c : ¬ OwnAt σ e a) : (bnow σ e ρ F H).H a = H a := by
  unfold bnow
  simp only [c, if_false]
theorem bnow_some {a : Addr} {o : HO} (h : (bnow σ e ρ F H).H a = some o) : ¬ OwnAt σ e a ∧ H a = some o := by
  unfold bnow at h
  by_cases c : OwnAt σ e a
  · simp only [c, if_true] at h
    cases h
  · simp only [c, if_false] at h
    exact ⟨c, h⟩
theorem Rel.rebase (r : Rel K mg b σ e ρ F H s) : Rel K mg (bnow σ e ρ F H) σ e ρ F H s := by
  refine ⟨⟨List.prefix_refl _, Same.refl _, fun a o h _ => (bnow_some h).2, fun a h => ?_, fun _ _ => rfl, fun a h n => absurd h n⟩, r.roots, r.len, r.slot, fun a h => ?_, r.apart⟩
  · obtain ⟨o, q⟩ := some_of_ne h
    exact ne_none_of (bnow_some q).2
  · unfold bnow
    simp only [h, if_true]
theorem Rel.grow_then (r : Rel K mg b σ e ρ F H s) (g : Grow (bnow σ e ρ F H) ρ' F' H') : Grow b ρ' F' H' := by
  have nown : ∀ {a : Addr}, b.H a ≠ none → ¬ OwnAt σ e a := fun {a} h o => h (r.fresh a o)
  refine ⟨List.IsPrefix.trans r.grow.pre g.pre, r.grow.frz.trans g.frz, fun a o h n => ?_, fun a h => ?_, fun a h => ?_, fun a h n => ?_⟩
  · have h0 := nown (ne_none_of h)
    have h1 := r.grow.keep a o h n
    exact g.keep a o ((bnow_ne h0).trans h1) fun m => by
      have z := r.grow.new a m n
      rw [h] at z
      cases z
  · exact g.there a (by rw [bnow_ne (nown h)]; exact r.grow.there a h)
  · exact (g.old a (by rw [bnow_ne (nown h)]; exact r.grow.there a h)).trans (r.grow.old a h)
  · by_cases c : a ∈ ρ
    · exact r.grow.new a c n
    · rcases bnow_none (g.new a h c) with z | z
      · exact r.fresh a z
      · exact none_back r.grow.there z
theorem Rel.back_none (r : Rel K mg b σ e ρ F H s) {a : Addr} (h : (bnow σ e ρ F H).H a = none) : b.H a = none := by
  rcases bnow_none h with z | z
  · exact r.fresh a z
  · exact none_back r.grow.there z
theorem Rel.unbase (r : Rel K mg b σ e ρ F H s) (r2 : Rel K mg (bnow σ e ρ F H) σ' e' ρ' F' H' s') : Rel K mg b σ' e' ρ' F' H' s' :=
  ⟨r.grow_then r2.grow, r2.roots, r2.len, r2.slot, fun a h => r.back_none (r2.fresh a h), r2.apart⟩
variable (K mg) in
def PstM (W : WX) (D : Ends) (b : Bs) (ρ : List Addr) (F : Hp) (r : R Fl) : Prop := match r with
  | .ok .nx e' s' => ∀ σ' ρ' F' H', Rel K mg b σ' e' ρ' F' H' s' → ρ <+: ρ' → Same F F' → D.nx σ' H'
  | .ok .bk e' s' => ∀ σ' ρ' F' H', Rel K mg b σ' e' ρ' F' H' s' → ρ <+: ρ' → Same F F' → D.bk σ' H'
  | .ok .ct e' s' => ∀ σ' ρ' F' H', Rel K mg b σ' e' ρ' F' H' s' → ρ <+: ρ' → Same F F' → D.ct σ' H'
  | .ok (.rt x) e' s' => ∀ v ρ' F' H', Grow b ρ' F' H' → Roots K mg ρ' F' H' s' → BAt K mg ρ' F' H' v x → (x.isOwn = true → ∀ a, v = .ref a → b.H a = none) → D.rt v H'
  | .exc x e' s' => ∀ cls dd σ' ρ' F' H', Rel K mg b σ' e' ρ' F' H' s' → ExAt K mg ρ' F' H' x cls dd → W cls dd σ' H'
  | .no => False
theorem ts_mem {m : M Fl} {D : Ends} (r : Rel K mg b σ e ρ F H s) (h : PstM K mg W D b ρ F (m e s)) : TS' K mg W m D σ H := by
  refine ⟨_, ρ, F, e, s, r.rebase, ?_⟩
  cases hm : m e s with
  | no => rw [hm] at h; exact h
  | exc x e' s' => rw [hm] at h; exact fun cls dd σ' ρ' F' H' r2 a2 => h cls dd σ' ρ' F' H' (r.unbase r2) a2
  | ok f e' s' =>
    rw [hm] at h
    cases f with
    | nx => exact fun σ' ρ' F' H' r2 => h σ' ρ' F' H' (r.unbase r2) r2.grow.pre r2.grow.frz
    | bk => exact fun σ' ρ' F' H' r2 => h σ' ρ' F' H' (r.unbase r2) r2.grow.pre r2.grow.frz
    | ct => exact fun σ' ρ' F' H' r2 => h σ' ρ' F' H' (r.unbase r2) r2.grow.pre r2.grow.frz
    | rt x => exact fun v ρ' F' H' g rt ba fr => h v ρ' F' H' (r.grow_then g) rt ba fun o a z => r.back_none (fr o a z)
end
section
variable {X : Cx} {W : WX} {tg iter c : Expr} {body : List Stmt} {pos : Pos} {mi : M (List D)} {ks : List Nat} {g : Tg} {m : M Fl} {t : M Bool}
theorem s_for (hp : PassesOwn (model X.prog X.w) X.A X.env X.xe) (hc : X.calm = true) (hi : IM X W tg iter mi) (hg : GM X tg ks g) (hb : SMs X W body m)
    (hs : ∀ x, foldedSetIterable iter X.env x = pure x := by intro _; rfl) : SM X W (.For tg iter body [] pos) (sFor mi g m) :=
  ps_weak (ps_for hp hc hi hg hb hs) fun D σ H ⟨b, ρ, F, e, s, r, p⟩ => by
    refine ⟨b, ρ, F, e, s, r, ?_⟩
    unfold sFor at p
    cases hm : mi e s with
    | no => rw [bnd_no hm] at p; exact p
    | exc y e' s' => rw [bnd_exc hm] at p; exact fun cls dd ρ' F' H' x1 r1 a1 => p cls dd σ ρ' F' H' r1 a1
    | ok ds e' s' =>
      rw [bnd_ok hm] at p
      intro J ρ1 F1 H1 x1 r1 wk
      refine for_it wk (fun i σ H => ∃ ρ2 F2 e2 s2, Rel X.K X.mg b σ e2 ρ2 F2 H s2 ∧ ρ1 <+: ρ2 ∧ Same F1 F2 ∧ PstS X.K X.mg W D b (forL g m (ds.drop i) e2 s2)) ⟨ρ1, F1, e', s', r1, List.prefix_refl _, Same.refl _, p⟩
        (fun i σ H _ ⟨ρ2, F2, e2, s2, r2, _, sf, _⟩ => sf.trans r2.roots.ex) ?_ ?_
      · rintro i v σ H H' hi ⟨ρ2, F2, e2, s2, r2, pf, sf, q⟩ ⟨d, hd, k⟩
        obtain ⟨F3, gr, at1⟩ := k ρ2 F2 pf sf r2.roots.ex
        have r3 := (r2.gr gr).2
        refine ⟨b, ρ2, F3, e2, s2, d, r3, at1, ?_⟩
        have ed : ds.drop i = d :: ds.drop (i + 1) := by
          rw [List.drop_eq_getElem_cons hi]
          rw [List.getElem?_eq_getElem hi] at hd
          cases hd
          rfl
        rw [ed] at q
        unfold forL at q
        cases hg' : g d e2 with
        | none => simp only [hg'] at q; exact q.elim
        | some e3 =>
          simp only [hg'] at q
          refine fun σ' r4 _ _ _ => ts_mem r4 ?_
          have sf3 := sf.trans gr.frz
          cases hb' : m e3 s2 with
          | no => rw [bnd_no hb'] at q; exact q
          | exc y e4 s4 => rw [bnd_exc hb'] at q; exact q
          | ok f e4 s4 =>
            rw [bnd_ok hb'] at q
            cases f with
            | nx => exact fun σ5 ρ5 F5 H5 r5 p5 s5 => ⟨ρ5, F5, e4, s4, r5, List.IsPrefix.trans pf p5, sf3.trans s5, q⟩
            | ct => exact fun σ5 ρ5 F5 H5 r5 p5 s5 => ⟨ρ5, F5, e4, s4, r5, List.IsPrefix.trans pf p5, sf3.trans s5, q⟩
            | bk => exact fun σ5 ρ5 F5 H5 r5 _ _ => q σ5 ρ5 F5 H5 r5
            | rt x => exact q
      · rintro σ H ⟨ρ2, F2, e2, s2, r2, pf, sf, q⟩
        rw [List.drop_length] at q
        exact q σ ρ2 F2 H r2
theorem s_while {n : Nat} (hp : PassesOwn (model X.prog X.w) X.A X.env X.xe) (hc : TM X W c t) (hb : SMs X W body m) : SM X W (.While c body [] pos) (whileL t m n) :=
  ps_weak (ps_while hp hc hb) fun D σ H ⟨b, ρ, F, e, s, r, p⟩ => by
    refine ⟨fun n σ H => ∃ ρ F e s, Rel X.K X.mg b σ e ρ F H s ∧ PstS X.K X.mg W D b (whileL t m n e s), ⟨n, ρ, F, e, s, r, p⟩, ?_⟩
    rintro n σ H ⟨ρ, F, e, s, r, p⟩
    cases n with
    | zero => exact p.elim
    | succ n =>
      refine ⟨b, ρ, F, e, s, r, ?_⟩
      unfold whileL at p
      cases hm : t e s with
      | no => rw [bnd_no hm] at p; exact p
      | exc y e' s' => rw [bnd_exc hm] at p; exact fun cls dd ρ' F' H' x1 r1 a1 => p cls dd σ ρ' F' H' r1 a1
      | ok k e' s' =>
        rw [bnd_ok hm] at p
        intro y ρ' F' H' x1 r1 a1
        subst a1
        cases y with
        | false => exact p σ ρ' F' H' r1
        | true =>
          refine ⟨fun σ' H' => ∃ ρ F e s, Rel X.K X.mg b σ' e ρ F H' s ∧ PstS X.K X.mg W D b (whileL t m n e s), fun σ' H' h => ⟨n, Nat.lt_succ_self n, h⟩, b, ρ', F', e', s', r1, ?_⟩
          have p : PstS X.K X.mg W D b (bnd m (fun f => match f with | .nx => whileL t m n | .ct => whileL t m n | .bk => ret .nx | .rt x => ret (.rt x)) e' s') := p
          cases hb' : m e' s' with
          | no => rw [bnd_no hb'] at p; exact p
          | exc y e4 s4 => rw [bnd_exc hb'] at p; exact p
          | ok f e4 s4 =>
            rw [bnd_ok hb'] at p
            cases f with
            | nx => exact fun σ5 ρ5 F5 H5 r5 => ⟨ρ5, F5, e4, s4, r5, p⟩
            | ct => exact fun σ5 ρ5 F5 H5 r5 => ⟨ρ5, F5, e4, s4, r5, p⟩
            | bk => exact p
            | rt x => exact p
end
end Mi

set_option Elab.async false
set_option linter.all false
set_option autoImplicit false
set_option maxRecDepth 100000
set_option maxHeartbeats 4000000
/-! Mi, part L: list comprehensions. -/
namespace Mi
open PySem L2
def lcA (vs : List Nat) (g : Tg) (t : M Bool) (m : M D) : List D → List D → M B
  | [], acc => fun e s => .ok (.own acc) (clr vs e) s
  | d :: ds, acc => fun e s => match g d (clr vs e) with
    | none => .no
    | some e' => bnd t (fun k => if k = true then bnd m fun y => lcA vs g t m ds (acc ++ [y]) else lcA vs g t m ds acc) e' s
def mLcA (it : M (List D)) (vs : List Nat) (g : Tg) (t : M Bool) (m : M D) : M B := bnd it fun ds => if ds.length ≤ lim then lcA vs g (noX t) (noX m) ds [] else lift none
/-- the same, the results in a row -/
def lcL (vs : List Nat) (g : Tg) (t : M Bool) (m : M D) : List D → M (List D)
  | [] => fun e s => .ok [] (clr vs e) s
  | d :: ds => fun e s => match g d (clr vs e) with
    | none => .no
    | some e' => bnd t (fun k => if k = true then bnd m fun y => bnd (lcL vs g t m ds) fun ys => ret (y :: ys) else lcL vs g t m ds) e' s
def mLc (it : M (List D)) (vs : List Nat) (g : Tg) (t : M Bool) (m : M D) : M B := bnd it fun ds => if ds.length ≤ lim then bnd (lcL vs g (noX t) (noX m) ds) fun ys => ret (.own ys) else lift none
theorem bnd_congr {α β : Type} {m : M α} {f g : α → M β} (h : ∀ a, f a = g a) : bnd m f = bnd m g := by
  have e : f = g := funext h
  rw [e]
theorem lcA_eq (vs : List Nat) (g : Tg) (t : M Bool) (m : M D) : ∀ (ds acc : List D), lcA vs g t m ds acc = bnd (lcL vs g t m ds) fun ys => ret (.own (acc ++ ys))
  | [], acc => by
    funext e s
    have e1 : acc ++ [] = acc := List.append_nil acc
    show R.ok (B.own acc) (clr vs e) s = R.ok (B.own (acc ++ [])) (clr vs e) s
    rw [e1]
  | d :: ds, acc => by
    funext e s
    unfold lcA lcL
    cases hg : g d (clr vs e) with
    | none =>
      unfold bnd
      simp only [hg]
    | some e' =>
      have h1 : ∀ k : Bool, (if k = true then bnd m fun y => lcA vs g t m ds (acc ++ [y]) else lcA vs g t m ds acc) = bnd (if k = true then bnd m fun y => bnd (lcL vs g t m ds) fun ys => ret (y :: ys) else lcL vs g t m ds) fun ys => ret (.own (acc ++ ys)) := fun k => by
        cases k with
        | false => exact lcA_eq vs g t m ds acc
        | true =>
          show (bnd m fun y => lcA vs g t m ds (acc ++ [y])) = bnd (bnd m fun y => bnd (lcL vs g t m ds) fun ys => ret (y :: ys)) fun ys => ret (.own (acc ++ ys))
          rw [bnd_assoc]
          refine bnd_congr fun y => ?_
          rw [bnd_assoc, lcA_eq vs g t m ds (acc ++ [y])]
          refine bnd_congr fun ys => ?_
          funext e s
          unfold bnd ret
          rw [List.append_assoc]
          rfl
      simp only [hg]
      rw [bnd_congr h1, ← bnd_assoc]
      unfold bnd
      simp only [hg]
theorem mLc_eq (it : M (List D)) (vs : List Nat) (g : Tg) (t : M Bool) (m : M D) : mLc it vs g t m = mLcA it vs g t m := by
  unfold mLc mLcA
  refine bnd_congr fun ds => ?_
  by_cases h : ds.length ≤ lim
  · rw [if_pos h, if_pos h, lcA_eq] <;> rfl
  · rw [if_neg h, if_neg h]

/-! ### slots forgotten -/
theorem clr_len : ∀ (vs : List Nat) (e : Env), (clr vs e).length = e.length
  | [], e => rfl
  | v :: vs, e => by
    show (clr vs (e.set v .unb)).length = _
    rw [clr_len vs, List.length_set]
theorem clr_get : ∀ (vs : List Nat) (e : Env) (i : Nat), (clr vs e)[i]? = if i ∈ vs ∧ i < e.length then some .unb else e[i]?
  | [], e, i => by simp [clr]
  | v :: vs, e, i => by
    show (clr vs (e.set v .unb))[i]? = _
    rw [clr_get vs, List.length_set]
    by_cases h : i ∈ vs ∧ i < e.length
    · rw [if_pos h, if_pos ⟨List.mem_cons_of_mem _ h.1, h.2⟩]
    · rw [if_neg h]
      by_cases c : v = i
      · subst c
        by_cases hl : v < e.length
        · rw [if_pos ⟨List.mem_cons_self, hl⟩, List.getElem?_set_self hl]
        · rw [if_neg fun z => hl z.2, List.getElem?_eq_none (by rw [List.length_set]; omega), List.getElem?_eq_none (by omega)]
      · rw [List.getElem?_set_ne c, if_neg]
        exact fun z => h ⟨(List.mem_cons.mp z.1).resolve_left fun q => c q.symm, z.2⟩
theorem wipe_ne (σ : St) {i : Nat} : ∀ (vs : List Nat), i ∉ vs → (wipe σ vs)[i]? = σ[i]?
  | [], _ => rfl
  | v :: vs, h => by
    unfold wipe
    rw [List.getElem?_set_ne fun z => h (by rw [z]; exact List.mem_cons_self)]
    exact wipe_ne σ vs fun m => h (List.mem_cons_of_mem _ m)
theorem wipe_mem (σ : St) {i : Nat} : ∀ (vs : List Nat), i ∈ vs → i < σ.length → (wipe σ vs)[i]? = some none
  | [], h, _ => by simp at h
  | v :: vs, h, hl => by
    unfold wipe
    by_cases c : v = i
    · subst c
      rw [List.getElem?_set_self (by rw [wipe_length]; exact hl)]
    · rw [List.getElem?_set_ne c]
      exact wipe_mem σ vs ((List.mem_cons.mp h).resolve_left fun z => c z.symm) hl
theorem wipe_same {σ σ' : St} {vs : List Nat} (hl : σ'.length = σ.length) (h : ∀ j, j ∉ vs → σ'[j]? = (wipe σ vs)[j]?) : wipe σ' vs = wipe σ vs := by
  apply List.ext_getElem?
  intro j
  by_cases c : j ∈ vs
  · by_cases k : j < σ.length
    · rw [wipe_mem σ vs c k, wipe_mem σ' vs c (by omega)]
    · rw [List.getElem?_eq_none (by rw [wipe_length]; omega), List.getElem?_eq_none (by rw [wipe_length]; omega)]
  · rw [wipe_ne σ' vs c]
    exact h j c
section
variable {K : PySem.W.Frag} {mg : Str → Option Value} {b : Bs} {σ σ' σ1 σ2 : St} {e e' e0 e1 e2 e3 : Env} {ρ ρ' : List Addr} {F F' H H' H0 F0 : Hp} {ρ0 : List Addr} {s s' : S} {vs : List Nat}
theorem own_clr {a : Addr} (h : OwnAt σ (clr vs e) a) : OwnAt σ e a := by
  obtain ⟨i, x, h1, h2, h3⟩ := h
  rw [clr_get] at h1
  by_cases c : i ∈ vs ∧ i < e.length
  · rw [if_pos c] at h1
    cases h1
    cases h2
  · rw [if_neg c] at h1
    exact ⟨i, x, h1, h2, h3⟩
theorem own_not {i : Nat} {x : B} (h : (clr vs e)[i]? = some x) (o : x.isOwn = true) : i ∉ vs := fun m => by
  rw [clr_get] at h
  by_cases c : i ∈ vs ∧ i < e.length
  · rw [if_pos c] at h
    cases h
    cases o
  · rw [if_neg c] at h
    exact c ⟨m, (List.getElem?_eq_some_iff.mp h).1⟩
/-- own objects are seen alike where the values agree outside the forgotten slots -/
theorem own_agree {a : Addr} (k : ∀ j, j ∉ vs → σ[j]? = σ'[j]?) (h : OwnAt σ (clr vs e) a) : OwnAt σ' (clr vs e) a := by
  obtain ⟨i, x, h1, h2, h3⟩ := h
  exact ⟨i, x, h1, h2, by rw [← k i (own_not h1 h2)]; exact h3⟩
theorem Rel.dropAll (r : Rel K mg b σ e ρ F H s) (l : List Nat) : Rel K mg b σ (clr l e) ρ F H s := by
  induction l generalizing e with
  | nil => exact r
  | cons i l ih => exact ih (r.drop i)
theorem Rel.agree (r : Rel K mg b σ (clr vs e) ρ F H s) (hl : σ'.length = σ.length) (k : ∀ j, j ∉ vs → σ'[j]? = σ[j]?) : Rel K mg b σ' (clr vs e) ρ F H s := by
  refine r.blank hl fun i hi => ?_
  by_cases c : i ∈ vs
  · by_cases h : i < e.length
    · exact absurd (by rw [clr_get, if_pos ⟨c, h⟩]) hi
    · have h2 := r.len
      rw [clr_len] at h2
      rw [List.getElem?_eq_none (by omega), List.getElem?_eq_none (by omega)]
  · exact k i c
theorem Ext.move (x : Ext σ2 e3 e2 ρ F H ρ' F' H') (h1 : ∀ a, OwnAt σ2 e3 a → OwnAt σ1 e1 a) (h2 : ∀ a, OwnAt σ1 e' a → OwnAt σ2 e2 a) : Ext σ1 e1 e' ρ F H ρ' F' H' :=
  ⟨x.pre, x.frz, x.keep, x.there, fun a h n => h1 a (x.old a h n), x.new, fun a h => h1 a (x.sub a (h2 a h))⟩
/-- an object that no name holds is written -/
theorem Rel.poke (r : Rel K mg b σ e ρ F H s) {c : Addr} (o : HO) (h0 : b.H c = none) (hF : F c = none) (hr : c ∉ ρ) (hn : ¬ OwnAt σ e c) : Rel K mg b σ e ρ F (upd H c o) s := by
  have ne : ∀ {a : Addr}, a ≠ c → upd H c o a = H a := fun h => upd_ne h
  refine ⟨⟨r.grow.pre, r.grow.frz, fun a u h n => ?_, fun a h => ?_, r.grow.old, r.grow.new⟩, ⟨fun a u h => ?_, r.roots.len, r.roots.nd, r.roots.free, fun n a x h1 h2 => cells_mono (r.roots.cell n a x h1 h2) (Same.refl _) (List.prefix_refl _) (ne fun z => hr (by rw [← z]; exact List.mem_of_getElem? h1))⟩, r.len,
    r.slots (Same.refl _) (List.prefix_refl _) fun a h => ⟨ne fun z => hn (by rw [← z]; exact h), rfl, (r.own_there h).2.2⟩, r.fresh, r.apart⟩
  · rw [ne (ne_of_none h h0)]
    exact r.grow.keep a u h n
  · rw [ne fun z => h (by rw [z]; exact h0)]
    exact r.grow.there a h
  · rw [ne (ne_of_none h hF)]
    exact r.roots.ex a u h
theorem Ext.poke (x : Ext σ e e' ρ F H ρ' F' H') {c : Addr} (o : HO) (h0 : H c = none) : Ext σ e e' ρ F H ρ' F' (upd H' c o) :=
  ⟨x.pre, x.frz, fun a u h n => by rw [upd_ne (ne_of_none h h0)]; exact x.keep a u h n, fun a h => by rw [upd_ne fun z => h (by rw [z]; exact h0)]; exact x.there a h, x.old, x.new, x.sub⟩
/-- an object that no name holds stays -/
theorem Ext.stay (x : Ext σ e e' ρ F H ρ' F' H') {c : Addr} {o : HO} (h : H c = some o) (hF : F c = none) (hr : c ∉ ρ) (hn : ¬ OwnAt σ e c) : H' c = some o ∧ F' c = none ∧ c ∉ ρ' ∧ ¬ OwnAt σ e' c := by
  refine ⟨x.keep c o h hr, ?_, fun m => ?_, fun z => hn (x.sub c z)⟩
  · by_cases q : F' c = F c
    · rw [q]
      exact hF
    · exact absurd (x.old c (ne_none_of h) q) hn
  · have := x.new c m hr
    rw [h] at this
    cases this
end
theorem pts_weak {X : Cx} {x : List Expr} {t t' : TT} (h : PTs X x t) (w : ∀ σ H Q, t' σ H Q → t σ H Q) : PTs X x t' := ⟨fun pins s σ H Q I q => h.run pins s σ H Q I (w σ H Q q)⟩
abbrev TMs (X : Cx) (W : WX) (ifs : List Expr) (m : M Bool) : Prop := PTs X ifs (T X.K X.mg W aB m)
section
variable {X : Cx} {W : WX} {t : M Bool} {c : Expr}
theorem ts_nil : TMs X W [] (ret true) := pts_weak pts_nil fun σ H Q h => h.ret fun _ _ _ _ => rfl
theorem ts_one (h : TM X W c t) : TMs X W [c] t := pts_one h
end
theorem noX_ok {α : Type} {m : M α} {e e' : Env} {s s' : S} {a : α} (h : m e s = .ok a e' s') : noX m e s = .ok a e' s' := by
  unfold noX
  rw [h]
theorem noX_no {α : Type} {m : M α} {e : Env} {s : S} (h : m e s = .no) : noX m e s = .no := by
  unfold noX
  rw [h]
theorem noX_exc {α : Type} {m : M α} {e e' : Env} {s s' : S} {a : Exc} (h : m e s = .exc a e' s') : noX m e s = .no := by
  unfold noX
  rw [h]
abbrev W0 : WX := fun _ _ _ _ => False
section
variable {X : Cx} {W : WX} {elt tg iter : Expr} {ifs : List Expr} {scope : Scope} {own : List (Str × Nat)} {pos : Pos} {mi : M (List D)} {ks : List Nat} {g : Tg} {t : M Bool} {m : M D}
theorem lc_core {σ : St} {H : Hp} {Q : VK} (hks : ∀ k ∈ ks, k ∈ own.map (·.2)) (h : T X.K X.mg W (aF X.K X.mg) (mLcA mi (own.map (·.2)) g t m) σ H Q) :
    tLc (T X.K X.mg W (aIt X.K X.mg) mi) (TGm X.K X.mg ks g) (T X.K X.mg W0 aB t) (T X.K X.mg W0 (aD X.K X.mg) m) (own.map (·.2)) σ H Q := by
  obtain ⟨b, ρ, F, e, s, r, p⟩ := h
  refine ⟨b, ρ, F, e, s, r, ?_⟩
  unfold mLcA at p
  cases hm : mi e s with
  | no => rw [bnd_no hm] at p; exact p
  | exc y e' s' => rw [bnd_exc hm] at p; exact p
  | ok ds e0 s0 =>
    rw [bnd_ok hm] at p
    intro J ρ1 F1 H1 x1 r1 wk c hc
    by_cases hl : ds.length ≤ lim
    · rw [if_pos hl] at p
      generalize hvs : own.map (·.2) = vs at p hks ⊢
      have hc0 : H c = none := none_back x1.there hc
      have hbc : b.H c = none := none_base r1 hc
      have r1' : Rel X.K X.mg b (wipe σ vs) (clr vs e0) ρ1 F1 H1 s0 := (r1.dropAll vs).agree (wipe_length σ vs) fun j hj => wipe_ne σ vs hj
      obtain ⟨x2, r2, nF, nr⟩ := r1'.made hc (.lst [])
      refine lc_it (vs := vs) wk (fun i H2 => ∃ ρ2 F2 e2 s2 acc ads, Rel X.K X.mg b (wipe σ vs) (clr vs e2) ρ2 F2 H2 s2 ∧ Ext (wipe σ vs) (clr vs e0) (clr vs e2) ρ1 F1 H1 ρ2 F2 H2 ∧ H2 c = some (.lst acc) ∧ F2 c = none ∧ c ∉ ρ2 ∧ AtAll X.K X.mg ρ2 F2 acc ads ∧ acc.length ≤ i ∧
        Pst X.K X.mg W (aF X.K X.mg) b σ e ρ F H (lcA vs g (noX t) (noX m) (ds.drop i) ads e2 s2) Q) ⟨ρ1, F1, e0, s0, [], [], r2, x2, upd_same, nF, nr, .nil, Nat.le_refl _, p⟩
        (fun i H2 _ ⟨ρ2, F2, e2, s2, acc, ads, r2, x2, _⟩ => x2.frz.trans r2.roots.ex) ?_ ?_
      · rintro i v H2 H3 hi ⟨ρ2, F2, e2, s2, acc, ads, r2, x2, c1, c2, c3, at1, ha, q⟩ ⟨d, hd, k⟩
        have nown : ¬ OwnAt (wipe σ vs) (clr vs e2) c := fun z => (r1'.own_there (x2.sub c z)).1 hc
        obtain ⟨F3, gr, at2⟩ := k ρ2 F2 x2.pre x2.frz r2.roots.ex
        obtain ⟨x3, r3⟩ := r2.gr gr
        obtain ⟨c1, c2, c3, nown3⟩ := x3.stay c1 c2 c3 nown
        refine ⟨b, ρ2, F3, clr vs e2, s2, d, r3, at2, ?_⟩
        have ed : ds.drop i = d :: ds.drop (i + 1) := by
          rw [List.drop_eq_getElem_cons hi]
          rw [List.getElem?_eq_getElem hi] at hd
          cases hd
          rfl
        rw [ed] at q
        unfold lcA at q
        cases hg' : g d (clr vs e2) with
        | none => simp only [hg'] at q; exact q.elim
        | some e3 =>
          simp only [hg'] at q
          intro σ3 r4 o4 k4 l4
          have k4' : ∀ j, j ∉ vs → σ3[j]? = (wipe σ vs)[j]? := fun j hj => k4 j fun z => hj (hks j z)
          have hlen : σ3.length = σ.length := l4.trans (wipe_length σ vs)
          -- the turn's end
          have fin : ∀ {e6 ρ6 F6 H6 s6}, Rel X.K X.mg b σ3 e6 ρ6 F6 H6 s6 → Ext σ3 e3 e6 ρ2 F3 H3 ρ6 F6 H6 → Rel X.K X.mg b (wipe σ vs) (clr vs e6) ρ6 F6 H6 s6 ∧ Ext (wipe σ vs) (clr vs e0) (clr vs e6) ρ1 F1 H1 ρ6 F6 H6 := fun {e6 ρ6 F6 H6 s6} r6 x6 =>
            ⟨(r6.dropAll vs).agree ((wipe_length σ vs).trans hlen.symm) fun j hj => (k4' j hj).symm, x2.trans (x3.trans (x6.move o4 fun a h => own_clr (own_agree (fun j hj => (k4' j hj).symm) h)))⟩
          refine ⟨wipe_same hlen k4', b, ρ2, F3, e3, s2, r4, ?_⟩
          have nown4 : ¬ OwnAt σ3 e3 c := fun z => nown3 (o4 c z)
          cases ht : t e3 s2 with
          | no => rw [bnd_no (noX_no ht)] at q; exact q
          | exc y e' s' => rw [bnd_no (noX_exc ht)] at q; exact q.elim
          | ok kk e4 s4 =>
            rw [bnd_ok (noX_ok ht)] at q
            intro y ρ4 F4 H4 x4 r5 a4
            subst a4
            obtain ⟨d1, d2, d3, nown5⟩ := x4.stay c1 c2 c3 nown4
            cases y with
            | false =>
              obtain ⟨z1, z2⟩ := fin r5 x4
              exact ⟨ρ4, F4, e4, s4, acc, ads, z1, z2, d1, d2, d3, at1.mono (gr.frz.trans x4.frz) x4.pre, by omega, q⟩
            | true =>
              refine ⟨b, ρ4, F4, e4, s4, r5, ?_⟩
              have q : Pst X.K X.mg W (aF X.K X.mg) b σ e ρ F H (bnd (noX m) (fun y => lcA vs g (noX t) (noX m) (ds.drop (i + 1)) (ads ++ [y])) e4 s4) Q := q
              cases hmm : m e4 s4 with
              | no => rw [bnd_no (noX_no hmm)] at q; exact q
              | exc y e' s' => rw [bnd_no (noX_exc hmm)] at q; exact q.elim
              | ok dd e5 s5 =>
                rw [bnd_ok (noX_ok hmm)] at q
                intro yv ρ5 F5 H5 x5 r6 ay
                obtain ⟨f1, f2, f3, nown6⟩ := x5.stay d1 d2 d3 nown5
                obtain ⟨z1, z2⟩ := fin r6 (x4.trans x5)
                have nown7 : ¬ OwnAt (wipe σ vs) (clr vs e5) c := fun z => nown6 (own_clr (own_agree (fun j hj => (k4' j hj).symm) z))
                refine ⟨acc, f1, Nat.lt_of_lt_of_le (show acc.length < lim by omega) (lim_line (Nat.le_refl _)), ρ5, F5, e5, s5, acc ++ [yv], ads ++ [dd], z1.poke _ hbc f2 f3 nown7, z2.poke _ hc, upd_same, f2, f3, ?_, ?_, q⟩
                · exact (at1.mono (gr.frz.trans (x4.frz.trans x5.frz)) (List.IsPrefix.trans x4.pre x5.pre)).append (.cons ay .nil)
                · rw [List.length_append]
                  simp only [List.length_cons, List.length_nil]
                  omega
      · rintro H2 ⟨ρ2, F2, e2, s2, acc, ads, r2, x2, c1, c2, c3, at1, ha, q⟩
        rw [List.drop_length] at q
        have ag : ∀ j, j ∉ vs → σ[j]? = (wipe σ vs)[j]? := fun j hj => (wipe_ne σ vs hj).symm
        refine q (.ref c) ρ2 F2 H2 (x1.trans (x2.move (fun a h => own_clr (own_agree (fun j hj => (ag j hj).symm) h)) fun a h => own_agree ag h)) (r2.agree (wipe_length σ vs).symm ag) ⟨⟨c, acc, rfl, c1, c2, c3, at1⟩, fun _ a z => ?_⟩
        cases z
        exact hc0
    · rw [if_neg hl] at p
      exact p.elim
end
end Mi

set_option Elab.async false
set_option linter.all false
set_option autoImplicit false
set_option maxRecDepth 100000
set_option maxHeartbeats 4000000
/-! Mi, part M: list comprehensions as results; own lists; the shared list. -/
namespace Mi
open PySem L2
section
variable {X : Cx} {W : WX} {elt tg iter : Expr} {ifs : List Expr} {scope : Scope} {own : List (Str × Nat)} {pos : Pos} {mi : M (List D)} {ks : List Nat} {g : Tg} {t : M Bool} {m : M D}
theorem f_lc (hc : X.calm = true) (hN : X.N.Nodup) (hi : IM X W tg iter mi) (ok : BlkOk X.N X.env.scope scope own) (hks : ∀ k ∈ ks, k ∈ own.map (·.2))
    (hg : ∀ (s : Shared) (H : Hp) (C : Addr) (cl : List (Str × Addr)) (fp : List Addr), GM (X.blk s H scope (compEnvC scope cl C X.env) fp) tg ks g)
    (ht : ∀ (s : Shared) (H : Hp) (C : Addr) (cl : List (Str × Addr)) (fp : List Addr), TMs (X.blk s H scope (compEnvC scope cl C X.env) fp) W0 ifs t)
    (he : ∀ (s : Shared) (H : Hp) (C : Addr) (cl : List (Str × Addr)) (fp : List Addr), EM (X.blk s H scope (compEnvC scope cl C X.env) fp) W0 elt m) (hs : ∀ x, foldedSetIterable iter X.env x = pure x := by intro _; rfl) :
    FM X W (.ListComp elt [⟨tg, iter, ifs, 0⟩] scope pos) (mLc mi (own.map (·.2)) g t m) :=
  pe_weak (pe_lc hc hN hi ok hg ht he hs) fun σ H Q h => lc_core hks (by rw [← mLc_eq]; exact h)
theorem s_setLc {i : Nat} {y : Str} {py spos : Pos} (hc : X.calm = true) (hN : X.N.Nodup) (hy : X.N[i]? = some y) (hyl : X.env.scope.names.lookup y = some .local)
    (hsw : swapsWith (.ListComp elt [⟨tg, iter, ifs, 0⟩] scope pos) (some (.Name y py)) spos.line X.env = pure true) (hi : IM X W tg iter mi) (ok : BlkOk X.N X.env.scope scope own) (hks : ∀ k ∈ ks, k ∈ own.map (·.2))
    (hg : ∀ (s : Shared) (H : Hp) (C : Addr) (cl : List (Str × Addr)) (fp : List Addr), GM (X.blk s H scope (compEnvC scope cl C X.env) fp) tg ks g)
    (ht : ∀ (s : Shared) (H : Hp) (C : Addr) (cl : List (Str × Addr)) (fp : List Addr), TMs (X.blk s H scope (compEnvC scope cl C X.env) fp) W0 ifs t)
    (he : ∀ (s : Shared) (H : Hp) (C : Addr) (cl : List (Str × Addr)) (fp : List Addr), EM (X.blk s H scope (compEnvC scope cl C X.env) fp) W0 elt m) (hs : ∀ x, foldedSetIterable iter X.env x = pure x := by intro _; rfl) :
    SM X W (.Assign [.Name y py] (.ListComp elt [⟨tg, iter, ifs, 0⟩] scope pos) spos) (sSet i (mLc mi (own.map (·.2)) g t m)) :=
  ps_weak (ps_setLc hc hN hy hyl hsw hi ok hg ht he hs) fun D σ H h => lc_core hks (by
    rw [← mLc_eq]
    exact exS (A := aF X.K X.mg) h fun v x b ρ F H1 e e0 ρ0 F0 s x1 r a1 fr p => p _ ρ F H1 (r.put a1 fr))
end
end Mi

set_option Elab.async false
set_option linter.all false
set_option autoImplicit false
set_option maxRecDepth 100000
set_option maxHeartbeats 4000000
/-! Mi, part N: own lists written; the shared list read and written. -/
namespace Mi
open PySem L2
section
variable {K : PySem.W.Frag} {mg : Str → Option Value} {b : Bs} {σ : St} {e e' : Env} {ρ ρ' : List Addr} {F F' H H' : Hp} {s s' : S} {W : WX}
/-- a name's own object is written -/
theorem Rel.write (r : Rel K mg b σ e ρ F H s) {i : Nat} {x y : B} {a : Addr} (h : e[i]? = some x) (hx : x.isOwn = true) (hs : σ[i]? = some (some (.ref a))) (o : HO) (hy : y.isOwn = true) (hb : F a = none → a ∉ ρ → BAt K mg ρ F (upd H a o) (.ref a) y) :
    Rel K mg b σ (e.set i y) ρ F (upd H a o) s := by
  have oa : OwnAt σ e a := ⟨i, x, h, hx, hs⟩
  obtain ⟨k1, k2, k3⟩ := r.own_there oa
  have h0 : b.H a = none := r.fresh a oa
  have ne : ∀ {c : Addr}, c ≠ a → upd H a o c = H c := fun h => upd_ne h
  have own : ∀ {c : Addr}, OwnAt σ (e.set i y) c → OwnAt σ e c := fun {c} ⟨j, z, e1, e2, e3⟩ => by
    rcases setG e1 with ⟨rfl, rfl⟩ | ⟨q, e1⟩
    · rw [hs] at e3
      cases e3
      exact oa
    · exact ⟨j, z, e1, e2, e3⟩
  refine ⟨⟨r.grow.pre, r.grow.frz, fun c u h n => ?_, fun c h => ?_, r.grow.old, r.grow.new⟩, ⟨fun c u h => ?_, r.roots.len, r.roots.nd, r.roots.free, fun n c x h1 h2 => cells_mono (r.roots.cell n c x h1 h2) (Same.refl _) (List.prefix_refl _) (ne fun z => k3 (by rw [← z]; exact List.mem_of_getElem? h1))⟩, by rw [List.length_set]; exact r.len,
    fun j z e1 nz => ?_, fun c h => r.fresh c (own h), fun j k z w c e1 e2 o1 o2 s1 s2 => ?_⟩
  · rw [ne (ne_of_none h h0)]
    exact r.grow.keep c u h n
  · rw [ne fun z => h (by rw [z]; exact h0)]
    exact r.grow.there c h
  · rw [ne (ne_of_none h k2)]
    exact r.roots.ex c u h
  · rcases setG e1 with ⟨rfl, rfl⟩ | ⟨q, e1⟩
    · exact ⟨_, hs, hb k2 k3⟩
    · obtain ⟨v, h3, h4⟩ := r.slot j z e1 nz
      refine ⟨v, h3, h4.mono (Same.refl _) (List.prefix_refl _) fun oz c hc => ⟨ne fun w => ?_, rfl, ?_⟩⟩
      · subst w
        exact q (r.apart j i z x c e1 h oz hx (by rw [h3, hc]) hs)
      · exact (r.own_there ⟨j, z, e1, oz, by rw [h3, hc]⟩).2.2
  · rcases setG e1 with ⟨rfl, rfl⟩ | ⟨q1, f1⟩
    · rcases setG e2 with ⟨rfl, rfl⟩ | ⟨q2, f2⟩
      · rfl
      · exact r.apart j k x w c h f2 hx o2 s1 s2
    · rcases setG e2 with ⟨rfl, rfl⟩ | ⟨q2, f2⟩
      · exact r.apart j k z x c f1 h o1 hx s1 s2
      · exact r.apart j k z w c f1 f2 o1 o2 s1 s2
/-- a shared object is written -/
theorem Rel.wroot (r : Rel K mg b σ e ρ F H s) {n : Nat} {a : Addr} (h : ρ[n]? = some a) {ds : List D} {xs : List V} (hv : AtAll K mg ρ F xs ds) : Rel K mg b σ e ρ F (upd H a (.lst xs)) (s.set n (.lst ds)) := by
  have m : a ∈ ρ := List.mem_of_getElem? h
  have k2 : F a = none := r.roots.free a m
  have ne : ∀ {c : Addr}, c ≠ a → upd H a (.lst xs) c = H c := fun h => upd_ne h
  refine ⟨⟨r.grow.pre, r.grow.frz, fun c u hc hn => ?_, fun c h => ?_, r.grow.old, r.grow.new⟩, ⟨fun c u h => ?_, by rw [List.length_set]; exact r.roots.len, r.roots.nd, r.roots.free, fun n' c x h1 h2 => ?_⟩, r.len, r.slots (Same.refl _) (List.prefix_refl _) fun c ho => ⟨ne fun z => (r.own_there ho).2.2 (by rw [z]; exact m), rfl, (r.own_there ho).2.2⟩, r.fresh, r.apart⟩
  · rw [ne]
    · exact r.grow.keep c u hc hn
    · intro z
      subst z
      have q := r.grow.new c m hn
      rw [hc] at q
      cases q
  · by_cases z : c = a
    · rw [z, upd_same]
      exact fun w => nomatch w
    · rw [ne z]
      exact r.grow.there c h
  · rw [ne (ne_of_none h k2)]
    exact r.roots.ex c u h
  · by_cases q : n' = n
    · subst q
      rw [h] at h1
      cases h1
      have hl : n' < s.length := by
        have := (List.getElem?_eq_some_iff.mp h2).1
        rw [List.length_set] at this
        exact this
      rw [List.getElem?_set_self hl] at h2
      cases h2
      exact ⟨xs, upd_same, hv⟩
    · rw [List.getElem?_set_ne (fun z => q z.symm)] at h2
      refine cells_mono (r.roots.cell n' c x h1 h2) (Same.refl _) (List.prefix_refl _) (ne fun z => ?_)
      subst z
      obtain ⟨l1, g1⟩ := List.getElem?_eq_some_iff.mp h1
      obtain ⟨l2, g2⟩ := List.getElem?_eq_some_iff.mp h
      rcases Nat.lt_trichotomy n' n with z | z | z
      · exact List.pairwise_iff_getElem.mp r.roots.nd n' n l1 l2 z (g1.trans g2.symm)
      · exact q z
      · exact List.pairwise_iff_getElem.mp r.roots.nd n n' l2 l1 z (g2.trans g1.symm)
/-- a fresh list is shared from now on -/
theorem Rel.share (r : Rel K mg b σ e ρ F H s) {a : Addr} {xs : List V} {ds : List D} (ha : H a = some (.lst xs)) (hF : F a = none) (hr : a ∉ ρ) (hb : b.H a = none) (hn : ¬ OwnAt σ e a) (hv : AtAll K mg ρ F xs ds) :
    Rel K mg b σ e (ρ ++ [a]) F H (s ++ [.lst ds]) ∧ (ρ ++ [a])[s.length]? = some a := by
  have pf : ρ <+: ρ ++ [a] := List.prefix_append _ _
  have ll := r.roots.len
  have e1 : (ρ ++ [a])[s.length]? = some a := by
    rw [ll, List.getElem?_append_right (Nat.le_refl _), Nat.sub_self]
    rfl
  refine ⟨⟨⟨List.IsPrefix.trans r.grow.pre pf, r.grow.frz, r.grow.keep, r.grow.there, r.grow.old, fun c m n => ?_⟩, ⟨r.roots.ex, by rw [List.length_append, List.length_append, ll] <;> rfl, ?_, fun c m => ?_, fun n c x h1 h2 => ?_⟩, r.len, r.slots (Same.refl _) pf fun c h => ⟨rfl, rfl, fun m => ?_⟩, r.fresh, r.apart⟩, e1⟩
  · rcases List.mem_append.mp m with m | m
    · exact r.grow.new c m n
    · have : c = a := by simpa using m
      rw [this]
      exact hb
  · refine List.nodup_append.mpr ⟨r.roots.nd, by simp, fun c m d m2 => ?_⟩
    have : d = a := by simpa using m2
    subst this
    intro z
    subst z
    exact hr m
  · rcases List.mem_append.mp m with m | m
    · exact r.roots.free c m
    · have : c = a := by simpa using m
      rw [this]
      exact hF
  · by_cases q : n < s.length
    · rw [List.getElem?_append_left (by omega)] at h1
      rw [List.getElem?_append_left q] at h2
      exact cells_mono (r.roots.cell n c x h1 h2) (Same.refl _) pf rfl
    · have hl : n < (s ++ [Cell.lst ds]).length := (List.getElem?_eq_some_iff.mp h2).1
      rw [List.length_append] at hl
      have hn : n = s.length := by
        simp only [List.length_cons, List.length_nil] at hl
        omega
      subst hn
      rw [e1] at h1
      cases h1
      rw [List.getElem?_append_right (Nat.le_refl _), Nat.sub_self] at h2
      cases h2
      exact ⟨xs, ha, hv.mono (Same.refl _) pf⟩
  · rcases List.mem_append.mp m with m | m
    · exact (r.own_there h).2.2 m
    · have : c = a := by simpa using m
      rw [this] at h
      exact hn h
end
/-! ### statements on own lists -/
def sApp (i : Nat) (m : M D) : M Fl := fun e s => match e[i]? with
  | some (.own _) => bnd m (fun d e s => match e[i]? with
    | some (.own ds) => if ds.length < lim then .ok .nx (e.set i (.own (ds ++ [d]))) s else .no
    | _ => .no) e s
  | _ => .no
def sPop (j i : Nat) : M Fl := fun e s => match e[i]? with
  | some (.own ds) => match ds[ds.length - 1]? with
    | some d => .ok .nx ((e.set i (.own ds.dropLast)).set j (.dat d)) s
    | none => .no
  | _ => .no
/-- a name's value, nothing frozen -/
def sRetV (i : Nat) : M Fl := fun e s => match e[i]? with
  | some .unb => .no
  | some x => .ok (.rt x) e s
  | none => .no
/-- the shared list's c-th -/
def mRix (i c : Nat) : M D := fun e s => match e[i]? with
  | some (.dat (.root n)) => match s[n]? with
    | some (.lst ds) => match ds[c]? with
      | some d => .ok d e s
      | none => .no
    | none => .no
  | _ => .no
def sRset (i c : Nat) (m : M D) : M Fl := bnd m fun d e s => match e[i]? with
  | some (.dat (.root n)) => match s[n]? with
    | some (.lst ds) => if c < ds.length then .ok .nx e (s.set n (.lst (ds.set c d))) else .no
    | none => .no
  | _ => .no
/-- a fresh list is bound and shared -/
def sRoot (i : Nat) (m : M B) : M Fl := bnd m fun x e s => match x with
  | .own ds => .ok .nx (e.set i (.dat (.root s.length))) (s ++ [.lst ds])
  | _ => .no
section
variable {X : Cx} {W : WX} {a : Expr} {ma : M D} {mx : M B} {pos p pos' : Pos} {x : Str} {i : Nat}
theorem s_app {apos cpos : Pos} (hN : X.N[i]? = some x) (hv : Vis X.env.scope x) (ha : EM X W a ma) (hd : (x == ("__debug__" : Str)) = false) (hcd : (x == ("__classdict__" : Str)) = false) (hs : swapsWith (.Call (.Attribute (.Name x p) "append" apos) [a] [] cpos) none pos.line X.env = pure false)
    (hbase : attributeBase (.Name x p) "append" X.env (eval (.Name x p) X.env) = eval (.Name x p) X.env)
    (hfew : ((backTo cpos (starEach [a] X.env)).all (fun x => !x.1) && (backToKw cpos (keywordEach [] X.env)).all (fun x => x.1.isSome)
      && decide (([a] : List Expr).length + ([] : List Keyword).length + (if ([] : List Keyword).isEmpty then 0 else 1) < 30)) = true)
    (hline : (apos.endLine == cpos.line) = true) (hs1 : starEach [a] X.env = (false, eval a X.env) :: starEach [] X.env) :
    SM X W (.Expr (.Call (.Attribute (.Name x p) "append" apos) [a] [] cpos) pos) (sApp i ma) :=
  ps_weak (ps_expr (pe_bm PySem.F.plainAttrs_list PySem.F.slot_list_append PySem.F.type_list_append mt_append (pe_var hN hv hd hcd) (a_cons (W := W) ha a_nil hs1) hbase hfew hline hs1 rfl) hs) fun D σ H ⟨b, ρ, F, e, s, r, q⟩ => by
    unfold sApp at q
    cases he : e[i]? with
    | none => rw [he] at q; exact q.elim
    | some y =>
      rw [he] at q
      cases y with
      | own ds0 =>
        obtain ⟨v, h1, a0, xs0, rfl, h2, h3, h4, h5⟩ := r.slot i _ he (fun z => nomatch z)
        refine ⟨_, h1, .inl ⟨rfl, _, SqL.of h2⟩, ?_⟩
        have q : PstS X.K X.mg W D b (bnd ma (fun d e s => match e[i]? with | some (.own ds) => if ds.length < lim then R.ok .nx (e.set i (.own (ds ++ [d]))) s else .no | _ => .no) e s) := q
        refine ⟨b, ρ, F, e, s, r, ?_⟩
        unfold aCons
        cases hm : ma e s with
        | no => rw [bnd_no hm] at q; exact q.elim
        | exc y e' s' =>
          rw [bnd_exc hm] at q
          rw [bnd_exc hm]
          exact fun cls dd ρ' F' H' x1 r1 a1 => q cls dd σ ρ' F' H' r1 a1
        | ok d e' s' =>
          rw [bnd_ok hm] at q
          rw [bnd_ok hm]
          intro vs ρ' F' H' x1 r1 a1
          cases a1 with
          | cons ad an =>
            cases an
            cases he' : e'[i]? with
            | none => simp only [he'] at q; exact q.elim
            | some y =>
              simp only [he'] at q
              cases y with
              | own ds =>
                simp only [] at q
                by_cases hl : ds.length < lim
                · rw [if_pos hl] at q
                  obtain ⟨v2, g1, c, xs, rfl, g2, g3, g4, g5⟩ := r1.slot i _ he' (fun z => nomatch z)
                  rw [h1] at g1
                  cases g1
                  refine ⟨a0, xs, _, rfl, rfl, g2, Nat.lt_of_lt_of_le (by rw [g5.length]; exact hl) (lim_line (Nat.le_refl _)), ?_⟩
                  exact q σ ρ' F' _ (r1.write he' rfl h1 _ rfl fun k1 k2 => ⟨a0, _, rfl, upd_same, k1, k2, g5.append (.cons ad .nil)⟩)
                · rw [if_neg hl] at q
                  exact q.elim
              | _ => exact q.elim
      | _ => exact q.elim
theorem s_pop {j : Nat} {y : Str} {apos cpos : Pos} (hNd : X.N.Nodup) (hj : X.N[j]? = some y) (hl : Loc X.env.scope y) (hN : X.N[i]? = some x) (hv : Vis X.env.scope x) (hd : (x == ("__debug__" : Str)) = false) (hcd : (x == ("__classdict__" : Str)) = false)
    (hs : swapsWith (.Call (.Attribute (.Name x p) "pop" apos) [] [] cpos) (some (.Name y pos')) pos.line X.env = pure false) (hf : X.fn y = true ∨ X.env.scope.names.lookup y = some .local) (hij : i ≠ j)
    (hbase : attributeBase (.Name x p) "pop" X.env (eval (.Name x p) X.env) = eval (.Name x p) X.env) (hline : (apos.endLine == cpos.line) = true) :
    SM X W (.Assign [.Name y pos'] (.Call (.Attribute (.Name x p) "pop" apos) [] [] cpos) pos) (sPop j i) :=
  ps_weak (ps_set hNd hj hl (pe_bm0 PySem.F.plainAttrs_list PySem.F.slot_list_pop PySem.F.type_list_pop mt_pop (pe_var hN hv hd hcd) hbase hline) hs hf) fun D σ H ⟨b, ρ, F, e, s, r, q⟩ => by
    unfold sPop at q
    cases he : e[i]? with
    | none => rw [he] at q; exact q.elim
    | some z =>
      rw [he] at q
      cases z with
      | own ds =>
        obtain ⟨v, h1, a0, xs, rfl, h2, h3, h4, h5⟩ := r.slot i _ he (fun z => nomatch z)
        refine ⟨_, h1, .inl ⟨rfl, _, SqL.of h2⟩, ?_⟩
        cases hd : ds[ds.length - 1]? with
        | none => simp only [hd] at q; exact q.elim
        | some d =>
          simp only [hd] at q
          obtain ⟨v, k1, k2⟩ := h5.get hd
          refine ⟨a0, xs, v, rfl, rfl, h2, by rw [h5.length]; exact k1, ?_⟩
          have r2 := r.write (y := .own ds.dropLast) he rfl h1 (.lst xs.dropLast) rfl fun k1 k2 => ⟨a0, _, rfl, upd_same, k1, k2, h5.dropLast⟩
          exact q _ ρ F _ (r2.put (x := .dat d) k2 fun z => nomatch z)
      | _ => exact q.elim
theorem s_retv (hN : X.N[i]? = some x) (hv : Vis X.env.scope x) (hd : (x == ("__debug__" : Str)) = false) (hcd : (x == ("__classdict__" : Str)) = false) : SM X W (.Return (some (.Name x p)) pos) (sRetV i) :=
  ps_weak (ps_ret (pe_var hN hv hd hcd)) fun D σ H ⟨b, ρ, F, e, s, r, q⟩ => by
    unfold sRetV at q
    cases he : e[i]? with
    | none => rw [he] at q; exact q.elim
    | some z =>
      rw [he] at q
      cases z with
      | unb => exact q.elim
      | _ =>
        obtain ⟨v, h1, h2⟩ := r.slot i _ he (fun z => nomatch z)
        exact ⟨v, h1, q v ρ F H r.grow r.roots h2 fun o a z => r.fresh a ⟨i, _, he, o, by rw [h1, z]⟩⟩
theorem x_rix {c : Nat} {k : Nat} {cp : Pos} (hN : X.N[i]? = some x) (hv : Vis X.env.scope x) (hd : (x == ("__debug__" : Str)) = false) (hcd : (x == ("__classdict__" : Str)) = false) (hs : PlainIx (.Constant (.int c) k cp)) : EM X W (.Subscript (.Name x p) (.Constant (.int c) k cp) pos) (mRix i c) :=
  pe_weak (pe_ix ix_seq (pe_var hN hv hd hcd) pe_int hs) fun σ H Q ⟨b, ρ, F, e, s, r, q⟩ => by
    unfold mRix at q
    cases he : e[i]? with
    | none => rw [he] at q; exact q.elim
    | some z =>
      rw [he] at q
      cases z with
      | dat d =>
        cases d with
        | root n =>
          simp only [] at q
          cases hs : s[n]? with
          | none => simp only [hs] at q; exact q.elim
          | some cl =>
            simp only [hs] at q
            cases cl with
            | lst ds =>
              simp only [] at q
              cases hc : ds[c]? with
              | none => simp only [hc] at q; exact q.elim
              | some d =>
                simp only [hc] at q
                obtain ⟨v, h1, h2⟩ := r.slot i _ he (fun z => nomatch z)
                cases h2 with
                | root hr =>
                  obtain ⟨xs, g1, g2⟩ := r.roots.cell n _ _ hr hs
                  obtain ⟨w, k1, k2⟩ := g2.get hc
                  have hlt := (List.getElem?_eq_some_iff.mp k1).1
                  refine ⟨_, h1, .inl ⟨_, xs, (c : Int), w, rfl, rfl, SqL.of g1, ?_, q w ρ F H Ext.refl r k2⟩⟩
                  unfold atI ixN
                  rw [if_pos (by omega), if_pos (by omega)]
                  exact k1
        | _ => exact q.elim
      | _ => exact q.elim
theorem s_rset {c : Nat} {k : Nat} {cp tp : Pos} (hN : X.N[i]? = some x) (hv : Vis X.env.scope x) (hd : (x == ("__debug__" : Str)) = false) (hcd : (x == ("__classdict__" : Str)) = false) (ha : EM X W a ma)
    (hs : swapsWithSole [.Subscript (.Name x p) (.Constant (.int c) k cp) tp] a pos.line X.env = pure false := by rfl) (hw : swappedStores [.Subscript (.Name x p) (.Constant (.int c) k cp) tp] a X.env = pure none := by rfl)
    (h1 : (assignEach [.Subscript (.Name x p) (.Constant (.int c) k cp) tp] X.env).map (·.2) = [assign (.Subscript (.Name x p) (.Constant (.int c) k cp) tp) X.env] := by rfl) :
    SM X W (.Assign [.Subscript (.Name x p) (.Constant (.int c) k cp) tp] a pos) (sRset i c ma) :=
  ps_weak (ps_asg ha (pg_sub (pe_var hN hv hd hcd) pe_int set_list) hs hw h1) fun D σ H ⟨b, ρ, F, e, s, r, q⟩ => by
    refine ⟨b, ρ, F, e, s, r, ?_⟩
    unfold sRset at q
    cases hm : ma e s with
    | no => rw [bnd_no hm] at q; exact q.elim
    | exc y e' s' =>
      rw [bnd_exc hm] at q
      exact fun cls dd ρ' F' H' x1 r1 a1 => q cls dd σ ρ' F' H' r1 a1
    | ok d e' s' =>
      rw [bnd_ok hm] at q
      intro v ρ' F' H' x1 r1 a1
      cases he : e'[i]? with
      | none => simp only [he] at q; exact q.elim
      | some z =>
        simp only [he] at q
        cases z with
        | dat d2 =>
          cases d2 with
          | root n =>
            simp only [] at q
            cases hs : s'[n]? with
            | none => simp only [hs] at q; exact q.elim
            | some cl =>
              simp only [hs] at q
              cases cl with
              | lst ds =>
                simp only [] at q
                by_cases hc : c < ds.length
                · rw [if_pos hc] at q
                  obtain ⟨w, g1, g2⟩ := r1.slot i _ he (fun z => nomatch z)
                  cases g2 with
                  | root hr =>
                    obtain ⟨xs, k1, k2⟩ := r1.roots.cell n _ _ hr hs
                    have hl := k2.length
                    refine ⟨_, g1, _, xs, (c : Int), c, rfl, rfl, k1, ?_, ?_⟩
                    · unfold ixN
                      rw [if_pos (by omega), if_pos (by omega)] <;> rfl
                    · exact q σ ρ' F' _ (r1.wroot hr (k2.set c a1))
                · rw [if_neg hc] at q
                  exact q.elim
          | _ => exact q.elim
        | _ => exact q.elim
theorem s_root (hN : X.N.Nodup) (hi : X.N[i]? = some x) (hx : Loc X.env.scope x) (ha : FM X W a mx) (hs : swapsWith a (some (.Name x pos')) pos.line X.env = pure false) (hf : X.fn x = true ∨ X.env.scope.names.lookup x = some .local) :
    SM X W (.Assign [.Name x pos'] a pos) (sRoot i mx) := ps_weak (ps_set hN hi hx ha hs hf) fun D σ H h =>
  exS (A := aF X.K X.mg) h fun v x b ρ F H1 e e0 ρ0 F0 s x1 r a1 fr p => by
    cases x with
    | own ds =>
      obtain ⟨a0, xs, rfl, h2, h3, h4, h5⟩ := a1
      obtain ⟨q1, q2⟩ := fr rfl a0 rfl
      obtain ⟨r2, h6⟩ := r.share h2 h3 h4 q1 q2 h5
      exact p _ _ F H1 (r2.put (x := .dat (.root s.length)) (.root h6) fun z => nomatch z)
    | _ => exact p.elim
end
end Mi

set_option Elab.async false
set_option linter.all false
set_option autoImplicit false
set_option maxRecDepth 100000
set_option maxHeartbeats 4000000
/-! Mi, part P: short words for derivations; a def of the text as a callee. -/
namespace Mi
open PySem L2
/-- a def of the module as the top has left it -/
structure Df (K : PySem.W.Frag) (mg : Str → Option Value) (x : Str) (st : Stmt) (ps : List Str) : Prop where
  ex : ∃ (f : Addr) (fd : FuncData), Fun K x x st f fd ∧ mg x = some (.ref f) ∧ Binds K fd ps []
section
variable {P : Program} {w : World} {K : PySem.W.Frag} {mg : Str → Option Value} {base : Heap}
theorem Cal.mono {j k : Nat} {x : Str} {np : Nat} {fm : Fn} (c : Cal P w K mg base j x np fm) (h : j ≤ k) : Cal P w K mg base k x np fm := by
  obtain ⟨f, fd, ps, h1, h2, h3⟩ := c.ex
  exact ⟨f, fd, ps, h1, h2.mono h, h3⟩
theorem Df.cal {x : Str} {st : Stmt} {N ps : List Str} {k : Nat} {m : M Fl} (F : Df K mg x st ps) (S : FnScope N ps (defScope st)) (hl : ps.length ≤ N.length)
    (body : ∀ (f : Addr) (cdv : Value) (A : Around) (outer : List PySem.Env) (s : Shared) (H : Hp) (E : XK), Room k (cxOf CX0 P w K mg base N x (defScope st) f cdv A outer s H E).A →
      SMs (cxOf CX0 P w K mg base N x (defScope st) f cdv A outer s H E).nox W0 (defBody st) m) :
    Cal P w K mg base (k + 1) x ps.length (fnM ps.length N.length m) := by
  obtain ⟨f, fd, h1, h2, h3⟩ := F.ex
  refine ⟨f, fd, ps, rfl, ?_, h2, h1.kp, h3⟩
  refine h1.ok S (fun vs H Q E h => h.1) fun cdv A outer s H vs Q E hr h => ⟨_, body f cdv A outer s H E hr, ?_⟩
  exact fn_post hl h fun _ _ _ _ z => z
theorem Df.calX {x : Str} {st : Stmt} {N ps : List Str} {k : Nat} {m : M Fl} (F : Df K mg x st ps) (S : FnScope N ps (defScope st)) (hl : ps.length ≤ N.length)
    (body : ∀ (f : Addr) (cdv : Value) (A : Around) (outer : List PySem.Env) (s : Shared) (H : Hp) (E : XK), Room k (cxOf (L2.CX P w) P w K mg base N x (defScope st) f cdv A outer s H E).A →
      SMs (cxOf (L2.CX P w) P w K mg base N x (defScope st) f cdv A outer s H E) (fun cls d _ H => E cls d H) (defBody st) m) :
    CalX P w K mg base (k + 1) x ps.length (fnM ps.length N.length m) := by
  obtain ⟨f, fd, h1, h2, h3⟩ := F.ex
  refine ⟨f, fd, ps, rfl, ?_, h2, h1.kp, h3⟩
  refine h1.okX S (fun vs H Q E h => h.1) fun cdv A outer s H vs Q E hr h => ⟨_, body f cdv A outer s H E hr, ?_⟩
  exact fn_post hl h fun _ _ _ _ z => z
end
theorem hu64 {k : Nat} {A : Around} (hr : Room k A) : A.units + 64 < cLine := by
  have := hr.un
  omega
def mC (g : D → D → Option Bool) (ma mb : M D) : M D := m2 ma mb fun x y => (g x y).map .bl
def mGt (ma mb : M D) : M D := mC cGt ma mb
section
variable {X : Cx} {W : WX} {a b c : Expr} {ma mb mc : M D} {pos p pt : Pos} {k : Nat} {x : Str} {es : List Expr} {n : M (List D)}
theorem xv (i : Nat) (hN : X.N[i]? = some x := by rfl) (hv : Vis X.env.scope x := by first | exact Or.inl rfl | exact Or.inr (Or.inl rfl) | exact Or.inr (Or.inr rfl)) (hd : (x == ("__debug__" : Str)) = false := by decide +kernel) (hcd : (x == ("__classdict__" : Str)) = false := by decide +kernel) : EM X W (.Name x pos) (mVar i) := x_var hN hv hd hcd
theorem xs_ {i : Str} {j : Nat} (ok : PyData.strOk i = true := by decide +kernel) : EM X W (.Constant (.str i) j pos) (ret (.str i)) := x_str ok
theorem xadd (ha : EM X W a ma) (hb : EM X W b mb) : EM X W (.BinOp a .Add b pos) (m2 ma mb (tp2 gAdd)) := x_bin or_add op2_add.tp ha hb
theorem xsub (ha : EM X W a ma) (hb : EM X W b mb) : EM X W (.BinOp a .Sub b pos) (m2 ma mb (tp2 gSub)) := x_bin op_sub op2_sub.tp ha hb
theorem xmul (ha : EM X W a ma) (hb : EM X W b mb) : EM X W (.BinOp a .Mult b pos) (m2 ma mb (tp2 gMul)) := x_bin or_mul op2_mul.tp ha hb
theorem xmod (ha : EM X W a ma) (hb : EM X W b mb) : EM X W (.BinOp a .Mod b pos) (m2 ma mb (tp2 gMod)) := x_bin op_modN op2_mod.tp ha hb
theorem xfdv (ha : EM X W a ma) (hb : EM X W b mb) : EM X W (.BinOp a .FloorDiv b pos) (m2 ma mb (tp2 gFdv)) := x_bin op_fdivN op2_fdv.tp ha hb
theorem xpow (ha : EM X W a ma) (hb : EM X W b mb) : EM X W (.BinOp a .Pow b pos) (m2 ma mb (tp2 gPow)) := x_bin op_pow op2_pow.tp ha hb
theorem xc_eq (ha : EM X W a ma) (hb : EM X W b mb) (hr : Room k X.A := by assumption) (hm : behindInMarks .Eq b = false := by rfl) : EM X W (.Compare a [.Eq] [b] pos) (mC (tp2 cEq) ma mb) := x_cmp (or_eq (hu64 hr)) opc_eq.tp ha hb hm
theorem xc_ne (ha : EM X W a ma) (hb : EM X W b mb) (hr : Room k X.A := by assumption) (hm : behindInMarks .NotEq b = false := by rfl) : EM X W (.Compare a [.NotEq] [b] pos) (mC (tp2 cNe) ma mb) := x_cmp (or_ne (hu64 hr)) opc_ne.tp ha hb hm
theorem xc_lt (ha : EM X W a ma) (hb : EM X W b mb) (hr : Room k X.A := by assumption) (hm : behindInMarks .Lt b = false := by rfl) : EM X W (.Compare a [.Lt] [b] pos) (mC (tp2 cLt) ma mb) := x_cmp or_lt opc_lt.tp ha hb hm
theorem xc_le (ha : EM X W a ma) (hb : EM X W b mb) (hr : Room k X.A := by assumption) (hm : behindInMarks .LtE b = false := by rfl) : EM X W (.Compare a [.LtE] [b] pos) (mC (tp2 cLe) ma mb) := x_cmp op_le opc_int.tp ha hb hm
theorem xc_gt (ha : EM X W a ma) (hb : EM X W b mb) (hr : Room k X.A := by assumption) (hm : behindInMarks .Gt b = false := by rfl) : EM X W (.Compare a [.Gt] [b] pos) (mC (tp2 cGt) ma mb) := x_cmp op_gt opc_int.tp ha hb hm
theorem xc_ge (ha : EM X W a ma) (hb : EM X W b mb) (hr : Room k X.A := by assumption) (hm : behindInMarks .GtE b = false := by rfl) : EM X W (.Compare a [.GtE] [b] pos) (mC (tp2 cGe) ma mb) := x_cmp op_ge opc_int.tp ha hb hm
theorem xc_in (ha : EM X W a ma) (hb : EM X W b mb) (hr : Room k X.A := by assumption) (hm : behindInMarks .In b = false := by rfl) : EM X W (.Compare a [.In] [b] pos) (mC (tp2 cIn) ma mb) := x_cmp (or_in (hu64 hr)) opc_in.tp ha hb hm
theorem xc_ni (ha : EM X W a ma) (hb : EM X W b mb) (hr : Room k X.A := by assumption) (hm : behindInMarks .NotIn b = false := by rfl) : EM X W (.Compare a [.NotIn] [b] pos) (mC (tp2 cNi) ma mb) := x_cmp (or_ni (hu64 hr)) opc_ni.tp ha hb hm
theorem xc_is (ha : EM X W a ma) (hb : EM X W b mb) (hr : Room k X.A := by assumption) (hm : behindInMarks .Is b = false := by rfl) : EM X W (.Compare a [.Is] [b] pos) (mC (tp2 cIs) ma mb) := x_cmp or_is opc_is.tp ha hb hm
theorem xc_isn (ha : EM X W a ma) (hb : EM X W b mb) (hr : Room k X.A := by assumption) (hm : behindInMarks .IsNot b = false := by rfl) : EM X W (.Compare a [.IsNot] [b] pos) (mC (tp2 cIsn) ma mb) := x_cmp or_isn opc_isn.tp ha hb hm
theorem tc_eq (ha : EM X W a ma) (hb : EM X W b mb) (hr : Room k X.A := by assumption) (hm : behindInMarks .Eq b = false := by rfl) : TM X W (.Compare a [.Eq] [b] pos) (c2 ma mb (tp2 cEq)) := t_cmp (or_eq (hu64 hr)) opc_eq.tp ha hb hm
theorem tc_ne (ha : EM X W a ma) (hb : EM X W b mb) (hr : Room k X.A := by assumption) (hm : behindInMarks .NotEq b = false := by rfl) : TM X W (.Compare a [.NotEq] [b] pos) (c2 ma mb (tp2 cNe)) := t_cmp (or_ne (hu64 hr)) opc_ne.tp ha hb hm
theorem tc_lt (ha : EM X W a ma) (hb : EM X W b mb) (hr : Room k X.A := by assumption) (hm : behindInMarks .Lt b = false := by rfl) : TM X W (.Compare a [.Lt] [b] pos) (c2 ma mb (tp2 cLt)) := t_cmp or_lt opc_lt.tp ha hb hm
theorem tc_le (ha : EM X W a ma) (hb : EM X W b mb) (hr : Room k X.A := by assumption) (hm : behindInMarks .LtE b = false := by rfl) : TM X W (.Compare a [.LtE] [b] pos) (c2 ma mb (tp2 cLe)) := t_cmp op_le opc_int.tp ha hb hm
theorem tc_gt (ha : EM X W a ma) (hb : EM X W b mb) (hr : Room k X.A := by assumption) (hm : behindInMarks .Gt b = false := by rfl) : TM X W (.Compare a [.Gt] [b] pos) (c2 ma mb (tp2 cGt)) := t_cmp op_gt opc_int.tp ha hb hm
theorem tc_ge (ha : EM X W a ma) (hb : EM X W b mb) (hr : Room k X.A := by assumption) (hm : behindInMarks .GtE b = false := by rfl) : TM X W (.Compare a [.GtE] [b] pos) (c2 ma mb (tp2 cGe)) := t_cmp op_ge opc_int.tp ha hb hm
theorem tc_in (ha : EM X W a ma) (hb : EM X W b mb) (hr : Room k X.A := by assumption) (hm : behindInMarks .In b = false := by rfl) : TM X W (.Compare a [.In] [b] pos) (c2 ma mb (tp2 cIn)) := t_cmp (or_in (hu64 hr)) opc_in.tp ha hb hm
theorem tc_ni (ha : EM X W a ma) (hb : EM X W b mb) (hr : Room k X.A := by assumption) (hm : behindInMarks .NotIn b = false := by rfl) : TM X W (.Compare a [.NotIn] [b] pos) (c2 ma mb (tp2 cNi)) := t_cmp (or_ni (hu64 hr)) opc_ni.tp ha hb hm
theorem tc_is (ha : EM X W a ma) (hb : EM X W b mb) (hr : Room k X.A := by assumption) (hm : behindInMarks .Is b = false := by rfl) : TM X W (.Compare a [.Is] [b] pos) (c2 ma mb (tp2 cIs)) := t_cmp or_is opc_is.tp ha hb hm
theorem tc_isn (ha : EM X W a ma) (hb : EM X W b mb) (hr : Room k X.A := by assumption) (hm : behindInMarks .IsNot b = false := by rfl) : TM X W (.Compare a [.IsNot] [b] pos) (c2 ma mb (tp2 cIsn)) := t_cmp or_isn opc_isn.tp ha hb hm
theorem xch_lele (ha : EM X W a ma) (hb : EM X W b mb) (hc : EM X W c mc) (h1 : lastMarks [.LtE, .LtE] [b, c] = false := by rfl) : EM X W (.Compare a [.LtE, .LtE] [b, c] pos) (ofB (c3 ma mb mc cLe cLe)) := x_chain op_le op_le opc_int opc_int ha hb hc h1
theorem tch_lele (ha : EM X W a ma) (hb : EM X W b mb) (hc : EM X W c mc) (h1 : lastMarks [.LtE, .LtE] [b, c] = false := by rfl) : TM X W (.Compare a [.LtE, .LtE] [b, c] pos) (c3 ma mb mc cLe cLe) := t_chain op_le op_le opc_int opc_int ha hb hc h1
theorem xch_lelt (ha : EM X W a ma) (hb : EM X W b mb) (hc : EM X W c mc) (h1 : lastMarks [.LtE, .Lt] [b, c] = false := by rfl) : EM X W (.Compare a [.LtE, .Lt] [b, c] pos) (ofB (c3 ma mb mc cLe cLt)) := x_chain op_le or_lt opc_int opc_lt ha hb hc h1
theorem tv (ha : EM X W a ma) (he : ∀ whole, isTrue a X.env whole = (do let v ← whole; standAt a.pos; holding [v] (truthy v)) := by intro _; rfl) : TM X W a (asB ma) := t_val ha he
theorem ac (ha : EM X W a ma) (hr : AM X W es n) (hs : starEach (a :: es) X.env = (false, eval a X.env) :: starEach es X.env := by rfl) : AM X W (a :: es) (aCons ma n) := a_cons ha hr hs
theorem xlen (hm : X.mg "len" = none) (ha : EM X W a ma) (hg : Gl X "len" := by rfl) (he : starEach [a] X.env = (false, eval a X.env) :: starEach [] X.env := by rfl) : EM X W (.Call (.Name "len" p) [a] [] pos) (mCall (aCons ma aNil) (tpN gLen)) :=
  x_blt cr_len opN_len.tp hg hm (by decide +kernel) (a_cons ha a_nil he) (by decide) (by decide +kernel) he rfl
theorem xall (hc : X.calm = true) (hm : X.mg "all" = none) (ha : EM X W a ma) (hg : Gl X "all" := by rfl) (he : starEach [a] X.env = (false, eval a X.env) :: starEach [] X.env := by rfl) : EM X W (.Call (.Name "all" p) [a] [] pos) (mCall (aCons ma aNil) (tpN gAll)) :=
  x_blt (cr_all hc) opN_all.tp hg hm (by decide +kernel) (a_cons ha a_nil he) (by decide) (by decide +kernel) he rfl
theorem xint (hm : X.mg "int" = none) (ha : EM X W a ma) (hg : Gl X "int" := by rfl) (he : starEach [a] X.env = (false, eval a X.env) :: starEach [] X.env := by rfl) : EM X W (.Call (.Name "int" p) [a] [] pos) (mCall (aCons ma aNil) (tpN gInt)) :=
  x_bty call_int1 opN_int.tp hg hm (by decide +kernel) (a_cons ha a_nil he) (by decide) (by decide +kernel) he rfl
theorem xtuple (hm : X.mg "tuple" = none) (ha : EM X W a ma) (hg : Gl X "tuple" := by rfl) (he : starEach [a] X.env = (false, eval a X.env) :: starEach [] X.env := by rfl) : EM X W (.Call (.Name "tuple" p) [a] [] pos) (mCall (aCons ma aNil) (tpN gTuple)) :=
  x_bty call_tuple_of opN_tuple.tp hg hm (by decide +kernel) (a_cons ha a_nil he) (by decide) (by decide +kernel) he rfl
theorem xlist (hm : X.mg "list" = none) (ha : EM X W a ma) (hg : Gl X "list" := by rfl) (he : starEach [a] X.env = (false, eval a X.env) :: starEach [] X.env := by rfl) : EM X W (.Call (.Name "list" p) [a] [] pos) (mCall (aCons ma aNil) (tpN gList)) :=
  x_bty call_list_of opN_list.tp hg hm (by decide +kernel) (a_cons ha a_nil he) (by decide) (by decide +kernel) he rfl
theorem xisi {T : String} {xT : Str} (hk : KitT T) (hm : X.mg "isinstance" = none) (hmT : X.mg xT = none) (ha : EM X W a ma) (hvT : bootBuiltins xT = some (.type T) := by decide +kernel) (hg : Gl X "isinstance" := by rfl) (hgT : Gl X xT := by rfl) (hn : xT ≠ "__name__" := by decide) (hdb : (xT == ("__debug__" : Str)) = false := by decide +kernel)
    (hs : starEach [a, .Name xT pt] X.env = (false, eval a X.env) :: starEach [.Name xT pt] X.env := by rfl) (hs2 : starEach [.Name xT pt] X.env = (false, eval (.Name xT pt) X.env) :: starEach [] X.env := by rfl)
    (hpl : (backTo pos (starEach [.Name xT pt] X.env)).any (·.1) = false := by rfl) : EM X W (.Call (.Name "isinstance" p) [a, .Name xT pt] [] pos) (tIsi ma T) := x_isi hg hm hgT hmT hvT hn hdb hk ha hs hs2 hpl
theorem xix (ha : EM X W a ma) (hb : EM X W b mb) (hs : PlainIx b := by exact fun _ _ => rfl) : EM X W (.Subscript a b pos) (m2 ma mb (tp2 gIx)) := x_ixt ha hb hs
theorem xcall {np : Nat} {m : M Fl} {nn : Nat} {j : Nat} (c : Cal X.prog X.w X.K X.mg X.base j x np (fnM np nn m)) (ha : AM X W (a :: es) n) (hr : Room k X.A := by assumption) (hj : j ≤ k := by omega) (hg : Gl X x := by rfl)
    (hdb : (x == ("__debug__" : Str)) = false := by decide +kernel) (he : starEach (a :: es) X.env = (false, eval a X.env) :: starEach es X.env := by rfl) (hpl : (backTo pos (starEach es X.env)).any (·.1) = false := by rfl) :
    FM X W (.Call (.Name x p) (a :: es) [] pos) (mCF (noXF (fnM np nn m)) n) := f_call c fnM_len (hr.mono hj) hg ha hdb he hpl
theorem xcall0 {m : M Fl} {nn : Nat} {j : Nat} (c : Cal X.prog X.w X.K X.mg X.base j x 0 (fnM 0 nn m)) (hr : Room k X.A := by assumption) (hj : j ≤ k := by omega) (hg : Gl X x := by rfl)
    (hdb : (x == ("__debug__" : Str)) = false := by decide +kernel) : FM X W (.Call (.Name x p) [] [] pos) (mCF (noXF (fnM 0 nn m)) aNil) := f_call0 c fnM_len (hr.mono hj) hg hdb
end
end Mi

set_option Elab.async false
set_option linter.all false
set_option autoImplicit false
set_option maxRecDepth 100000
set_option maxHeartbeats 4000000
/-! Mi, part Q: short words for statements. -/
namespace Mi
open PySem L2
def fAdd (ma mb : M D) : M B := bnd ma fun x => bnd mb fun y => match x.top, y.top with
  | .lst xs, .lst ys => lift (if xs.length + ys.length ≤ lim then some (.own (xs ++ ys)) else none)
  | x, y => lift ((gAdd x y).map .dat)
section
variable {X : Cx} {W : WX} {a b c : Expr} {ma mb mc : M D} {fa fb : M B} {mt : M Bool} {pos p pt : Pos} {k : Nat} {x : Str} {es : List Expr} {n : M (List D)}
theorem f_if (hc : TM X W c mt) (ha : FM X W a fa) (hb : FM X W b fb) : FM X W (.IfExp c a b pos) (mIf mt fa fb) :=
  pe_weak (pe_ifExp hc ha hb) fun σ H Q h => tst anti_F h fun y H h => by
    cases y with
    | true => exact h
    | false => exact h
theorem f_add (ha : EM X W a ma) (hb : EM X W b mb) : FM X W (.BinOp a .Add b pos) (fAdd ma mb) :=
  pe_weak (pe_op or_add ha hb) fun σ H Q h => two anti_F h fun x y d1 d2 b ρ F H e s r a1 a2 p => by
    replace a1 := a1.top
    replace a2 := a2.top
    generalize d1.top = d1 at a1 p
    generalize d2.top = d2 at a2 p
    have dat : (∀ xs ys, d1 = .lst xs → d2 = .lst ys → False) → Pst X.K X.mg W (aF X.K X.mg) b σ e ρ F H (lift ((gAdd d1 d2).map B.dat) e s) Q → (rI0 (fun i j => .int (i + j)) x y H Q ∨ rCatA X.K x y H Q ∨ rCat x y H Q ∨ ∃ i j, x = .str i ∧ y = .str j ∧ i.length + j.length ≤ sizeLine ∧ Q (.str (i ++ j)) H) := fun _ q => by
      cases hg : gAdd d1 d2 with
      | none =>
        rw [hg] at q
        exact q.elim
      | some d =>
        rw [hg] at q
        exact op2_add ρ F H x y d1 d2 d Q r.roots.ex a1 a2 hg fun v F' H' g at1 => q v ρ F' H' (r.gr g).1 (r.gr g).2 ⟨at1, fun z => nomatch z⟩
    cases d1 with
    | lst xs =>
      cases d2 with
      | lst ys =>
        cases a1 with
        | @lst c vs _ k1 k2 =>
          cases a2 with
          | @lst c2 ws _ k3 k4 =>
            by_cases hl : xs.length + ys.length ≤ lim
            · simp only [hl, if_true] at p
              refine .inr (.inr (.inl ⟨c, c2, vs, ws, rfl, rfl, r.roots.ex _ _ k1, r.roots.ex _ _ k3, by rw [k2.length, k4.length]; exact lim_line hl, fun q hq => ?_⟩))
              exact Pst.fresh r p hq fun nF nr => ⟨q, _, rfl, upd_same, nF, nr, k2.append k4⟩
            · simp only [hl, if_false] at p
              exact p.elim
      | _ => exact dat (fun _ _ _ z => nomatch z) p
    | _ => exact dat (fun _ _ z _ => nomatch z) p
theorem gn (i : Nat) (hN : X.N.Nodup) (hi : X.N[i]? = some x := by rfl) (hx : Loc X.env.scope x := by first | exact Or.inl rfl | exact Or.inr rfl) (hf : X.fn x = true ∨ X.env.scope.names.lookup x = some .local := by first | exact Or.inl rfl | exact Or.inr rfl) : GM X (.Name x pos) [i] (tgN i) := g_name hN hi hx hf
theorem sset (i : Nat) (hN : X.N.Nodup) (ha : FM X W a fa) (hi : X.N[i]? = some x := by rfl) (hx : Loc X.env.scope x := by first | exact Or.inl rfl | exact Or.inr rfl) (hs : swapsWith a (some (.Name x p)) pos.line X.env = pure false := by rfl) (hf : X.fn x = true ∨ X.env.scope.names.lookup x = some .local := by first | exact Or.inl rfl | exact Or.inr rfl) :
    SM X W (.Assign [.Name x p] a pos) (sSet i fa) := s_set hN hi hx ha hs hf
theorem sroot (i : Nat) (hN : X.N.Nodup) (ha : FM X W a fa) (hi : X.N[i]? = some x := by rfl) (hx : Loc X.env.scope x := by first | exact Or.inl rfl | exact Or.inr rfl) (hs : swapsWith a (some (.Name x p)) pos.line X.env = pure false := by rfl) (hf : X.fn x = true ∨ X.env.scope.names.lookup x = some .local := by first | exact Or.inl rfl | exact Or.inr rfl) :
    SM X W (.Assign [.Name x p] a pos) (sRoot i fa) := s_root hN hi hx ha hs hf
theorem sretv (i : Nat) (hN : X.N[i]? = some x := by rfl) (hv : Vis X.env.scope x := by first | exact Or.inl rfl | exact Or.inr (Or.inl rfl) | exact Or.inr (Or.inr rfl)) (hd : (x == ("__debug__" : Str)) = false := by decide +kernel) (hcd : (x == ("__classdict__" : Str)) = false := by decide +kernel) : SM X W (.Return (some (.Name x p)) pos) (sRetV i) := s_retv hN hv hd hcd
theorem xrix (i c : Nat) {kk : Nat} {cp : Pos} (hN : X.N[i]? = some x := by rfl) (hv : Vis X.env.scope x := by first | exact Or.inl rfl | exact Or.inr (Or.inl rfl) | exact Or.inr (Or.inr rfl)) (hd : (x == ("__debug__" : Str)) = false := by decide +kernel) (hcd : (x == ("__classdict__" : Str)) = false := by decide +kernel) (hs : PlainIx (.Constant (.int (c : Nat)) kk cp) := by exact fun _ _ => rfl) :
    EM X W (.Subscript (.Name x p) (.Constant (.int (c : Nat)) kk cp) pos) (mRix i c) := x_rix hN hv hd hcd hs
theorem srset (i c : Nat) {kk : Nat} {cp tp : Pos} (ha : EM X W a ma) (hN : X.N[i]? = some x := by rfl) (hv : Vis X.env.scope x := by first | exact Or.inl rfl | exact Or.inr (Or.inl rfl) | exact Or.inr (Or.inr rfl)) (hd : (x == ("__debug__" : Str)) = false := by decide +kernel) (hcd : (x == ("__classdict__" : Str)) = false := by decide +kernel)
    (hs : swapsWithSole [.Subscript (.Name x p) (.Constant (.int (c : Nat)) kk cp) tp] a pos.line X.env = pure false := by rfl) (hw : swappedStores [.Subscript (.Name x p) (.Constant (.int (c : Nat)) kk cp) tp] a X.env = pure none := by rfl)
    (h1 : (assignEach [.Subscript (.Name x p) (.Constant (.int (c : Nat)) kk cp) tp] X.env).map (·.2) = [assign (.Subscript (.Name x p) (.Constant (.int (c : Nat)) kk cp) tp) X.env] := by rfl) :
    SM X W (.Assign [.Subscript (.Name x p) (.Constant (.int (c : Nat)) kk cp) tp] a pos) (sRset i c ma) := s_rset hN hv hd hcd ha hs hw h1
theorem sapp (i : Nat) {apos cpos : Pos} (ha : EM X W a ma) (hN : X.N[i]? = some x := by rfl) (hv : Vis X.env.scope x := by first | exact Or.inl rfl | exact Or.inr (Or.inl rfl) | exact Or.inr (Or.inr rfl)) (hd : (x == ("__debug__" : Str)) = false := by decide +kernel) (hcd : (x == ("__classdict__" : Str)) = false := by decide +kernel)
    (hs : swapsWith (.Call (.Attribute (.Name x p) "append" apos) [a] [] cpos) none pos.line X.env = pure false := by rfl)
    (hbase : attributeBase (.Name x p) "append" X.env (eval (.Name x p) X.env) = eval (.Name x p) X.env := by rfl)
    (hfew : ((backTo cpos (starEach [a] X.env)).all (fun x => !x.1) && (backToKw cpos (keywordEach [] X.env)).all (fun x => x.1.isSome)
      && decide (([a] : List Expr).length + ([] : List Keyword).length + (if ([] : List Keyword).isEmpty then 0 else 1) < 30)) = true := by rfl)
    (hline : (apos.endLine == cpos.line) = true := by rfl) (hs1 : starEach [a] X.env = (false, eval a X.env) :: starEach [] X.env := by rfl) :
    SM X W (.Expr (.Call (.Attribute (.Name x p) "append" apos) [a] [] cpos) pos) (sApp i ma) := s_app hN hv ha hd hcd hs hbase hfew hline hs1
theorem spop (j i : Nat) {y : Str} {apos cpos pos' : Pos} (hNd : X.N.Nodup) (hij : i ≠ j := by decide) (hj : X.N[j]? = some y := by rfl) (hl : Loc X.env.scope y := by first | exact Or.inl rfl | exact Or.inr rfl) (hN : X.N[i]? = some x := by rfl) (hv : Vis X.env.scope x := by first | exact Or.inl rfl | exact Or.inr (Or.inl rfl) | exact Or.inr (Or.inr rfl)) (hd : (x == ("__debug__" : Str)) = false := by decide +kernel) (hcd : (x == ("__classdict__" : Str)) = false := by decide +kernel)
    (hs : swapsWith (.Call (.Attribute (.Name x p) "pop" apos) [] [] cpos) (some (.Name y pos')) pos.line X.env = pure false := by rfl) (hf : X.fn y = true ∨ X.env.scope.names.lookup y = some .local := by first | exact Or.inl rfl | exact Or.inr rfl)
    (hbase : attributeBase (.Name x p) "pop" X.env (eval (.Name x p) X.env) = eval (.Name x p) X.env := by rfl) (hline : (apos.endLine == cpos.line) = true := by rfl) :
    SM X W (.Assign [.Name y pos'] (.Call (.Attribute (.Name x p) "pop" apos) [] [] cpos) pos) (sPop j i) := s_pop hNd hj hl hN hv hd hcd hs hf hij hbase hline
theorem sexpr (ha : EM X W a ma) (hs : swapsWith a none pos.line X.env = pure false := by rfl) : SM X W (.Expr a pos) (sDrop ma) := s_drop ha hs
/-- a constant of the module -/
structure Gc (mg : Str → Option Value) (x : Str) (d : D) : Prop where
  ex : ∃ (v : V) (u : Value), mg x = some u ∧ RelV v u ∧ ∀ (K : PySem.W.Frag) (ρ : List Addr) (F : Hp), At K mg ρ F v d
theorem Gc.xg {d : D} (g : Gc X.mg x d) (hg : Gl X x := by rfl) (hd : (x == ("__debug__" : Str)) = false := by decide +kernel) : EM X W (.Name x pos) (ret d) := by
  obtain ⟨v, u, h1, h2, h3⟩ := g.ex
  exact x_glob hg h1 h2 (fun ρ F => h3 X.K ρ F) hd
theorem gc_str {mg : Str → Option Value} {z : Str} {t : Tok} (h : mg x = some (.str z t)) (ok : PyData.strOk z = true) : Gc mg x (.str z) := ⟨.str z, _, h, ⟨t, rfl⟩, fun _ _ _ => .str ok⟩
theorem gc_int {mg : Str → Option Value} {z : Int} {t : Tok} (h : mg x = some (.int z t)) : Gc mg x (.int z) := ⟨.int z, _, h, ⟨t, rfl⟩, fun _ _ _ => .int z⟩
theorem irange {tg : Expr} (hm : X.mg "range" = none) (h : EM X W a ma) (hg : Gl X "range" := by rfl) (hs : starEach [a] X.env = [(false, eval a X.env)] := by rfl) (hs2 : starEach [a] X.env = (false, eval a X.env) :: starEach [] X.env := by rfl) : IM X W tg (.Call (.Name "range" p) [a] [] pos) (iRng ma) := i_range hg hm h hs hs2
theorem izip {elts : List Expr} {kk : Nat} (hm : X.mg "zip" = none) (ha : AM X W [a, c] n) (hg : Gl X "zip" := by rfl) (hs : starEach [a, c] X.env = (false, eval a X.env) :: starEach [c] X.env := by rfl) (hpl : (backTo pos (starEach [c] X.env)).any (·.1) = false := by rfl) :
    IM X W (.Tuple elts kk pt) (.Call (.Name "zip" p) [a, c] [] pos) (iZip n) := i_zip hg hm ha hs hpl
theorem bok {N : List Str} {sc scope : Scope} (own : List (Str × Nat)) (h : blkC N sc scope own = true) : BlkOk N sc scope own := blkOk_by h
end
end Mi

set_option Elab.async false
set_option linter.all false
set_option autoImplicit false
set_option maxRecDepth 100000
set_option maxHeartbeats 4000000
/-! Mi, part R: a, b = x, y. -/
namespace Mi
open PySem L2
def bNil : M (List B) := ret []
def bCons (m : M B) (n : M (List B)) : M (List B) := bnd m fun x => bnd n fun xs => ret (x :: xs)
abbrev BM (X : Cx) (W : WX) (es : List Expr) (m : M (List B)) : Prop := PA X es (T X.K X.mg W (aBs X.K X.mg) m)
def putAll : List Nat → List B → Env → Env
  | k :: ks, x :: xs, e => putAll ks xs (e.set k x)
  | _, _, e => e
def stAll : List Nat → List V → St → St
  | k :: ks, x :: xs, e => stAll ks xs (e.set k (some x))
  | _, _, e => e
def sPar (ks : List Nat) (m : M (List B)) : M Fl := bnd m fun xs e s => if xs.length = ks.length then .ok .nx (putAll ks xs e) s else .no
section
variable {X : Cx} {W : WX} {a : Expr} {es : List Expr} {m : M B} {n : M (List B)} {pos : Pos}
theorem b_nil : BM X W [] bNil := pa_weak pa_nil fun σ H Q h => h.ret fun _ _ _ _ => .nil
theorem b_cons (ha : FM X W a m) (hr : BM X W es n) (hs : starEach (a :: es) X.env = (false, eval a X.env) :: starEach es X.env := by rfl) : BM X W (a :: es) (bCons m n) :=
  pa_weak (pa_cons ha hr hs) fun σ H Q ⟨b, ρ, F, e, s, r, p⟩ => by
    refine ⟨b, ρ, F, e, s, r, ?_⟩
    unfold bCons at p
    cases hm : m e s with
    | no => rw [bnd_no hm] at p; exact p
    | exc x e' s' => rw [bnd_exc hm] at p; exact p
    | ok x e1 s1 =>
      rw [bnd_ok hm] at p
      intro v ρ1 F1 H1 x1 r1 ⟨a1, fr⟩
      refine ⟨b, ρ1, F1, e1, s1, r1, ?_⟩
      cases hn : n e1 s1 with
      | no => rw [bnd_no hn] at p; exact p
      | exc y e' s' => rw [bnd_exc hn] at p; exact Pst.shift (r := Mi.R.exc y e' s') anti_Bs p x1
      | ok xs e2 s2 =>
        rw [bnd_ok hn] at p
        intro vs ρ2 F2 H2 x2 r2 a2
        have keep : x.isOwn = true → ∀ c, v = .ref c → H1 c ≠ none := fun o c z => by
          cases x with
          | unb => cases o
          | dat d => cases o
          | own ds =>
            obtain ⟨c', _, z2, h, _⟩ := a1
            rw [z] at z2
            cases z2
            exact ne_none_of h
          | ownK ks vs =>
            obtain ⟨c', _, z2, h, _⟩ := a1
            rw [z] at z2
            cases z2
            exact ne_none_of h
          | ownT ks vs =>
            obtain ⟨c', _, z2, h, _⟩ := a1
            rw [z] at z2
            cases z2
            exact ne_none_of h
        have nown : x.isOwn = true → ∀ c, v = .ref c → ¬ OwnAt σ e1 c := fun o c z w => (r.own_there (x1.sub c w)).1 (fr o c z)
        have frz0 : x.isOwn = true → ∀ c, v = .ref c → F1 c = none ∧ c ∉ ρ1 := fun o c z => by
          cases x with
          | unb => cases o
          | dat d => cases o
          | own ds =>
            obtain ⟨c', _, z2, _, h, h3, _⟩ := a1
            rw [z] at z2
            cases z2
            exact ⟨h, h3⟩
          | ownK ks vs =>
            obtain ⟨c', _, z2, _, h, h3, _⟩ := a1
            rw [z] at z2
            cases z2
            exact ⟨h, h3⟩
          | ownT ks vs =>
            obtain ⟨c', _, z2, _, h, h3, _⟩ := a1
            rw [z] at z2
            cases z2
            exact ⟨h, h3⟩
        have hb : BAt X.K X.mg ρ2 F2 H2 v x := a1.mono x2.frz x2.pre fun o c z => by
          obtain ⟨u, hu⟩ := some_of_ne (keep o c z)
          obtain ⟨q1, q2⟩ := frz0 o c z
          obtain ⟨k1, k2, k3, _⟩ := x2.stay hu q1 q2 (nown o c z)
          exact ⟨by rw [k1, hu], by rw [k2, q1], k3⟩
        have later : ∀ (vs : List V) (xs : List B), BAll X.K X.mg H1 ρ2 F2 H2 vs xs → ∀ (j : Nat) (y : B), xs[j]? = some y → y.isOwn = true → ∀ c, vs[j]? = some (V.ref c) → H1 c = none := fun vs xs h => by
          induction h with
          | nil => exact fun j y z => by simp at z
          | cons g1 g2 g3 ih =>
            intro j y hj oy c hc
            cases j with
            | zero =>
              simp at hj hc
              subst hj
              exact (g2 oy c hc).1
            | succ j => exact ih j y (by simpa using hj) oy c (by simpa using hc)
        exact p _ ρ2 F2 H2 (x1.trans x2) r2 (.cons hb (fun o c z => ⟨fr o c z, fun j y hj oy hc => keep o c z (later vs xs a2 j y hj oy c hc)⟩) (a2.anti x1.there))
theorem puts {K : PySem.W.Frag} {mg : Str → Option Value} {b : Bs} {ρ : List Addr} {F H H0 : Hp} {s : S} : ∀ (ks : List Nat) {vs : List V} {xs : List B} {σ : St} {e : Env}, Rel K mg b σ e ρ F H s → BAll K mg H0 ρ F H vs xs → (∀ c, H0 c = none → b.H c = none) →
    (∀ (j : Nat) (y : B) (c : Addr), xs[j]? = some y → y.isOwn = true → vs[j]? = some (V.ref c) → ¬ OwnAt σ e c) → Rel K mg b (stAll ks vs σ) (putAll ks xs e) ρ F H s
  | [], _, _, _, _, r, _, _, _ => r
  | k :: ks, _, _, _, _, r, .nil, _, _ => r
  | k :: ks, _, _, σ, e, r, .cons (v := v) (x := x) (vs := vs) (xs := xs) h1 h2 h3, hb, hn => by
    show Rel K mg b (stAll ks vs (σ.set k (some v))) (putAll ks xs (e.set k x)) ρ F H s
    refine puts ks (r.put h1 fun o c z => ⟨hb c (h2 o c z).1, hn 0 x c rfl o (by rw [z]; rfl)⟩) h3 hb fun j y c hj oy hc ⟨i, w, e1, e2, e3⟩ => ?_
    rcases setG e1 with ⟨rfl, rfl⟩ | ⟨q, e1⟩
    · rcases setG e3 with ⟨_, z⟩ | ⟨q, _⟩
      · exact (h2 e2 c (Option.some.inj z).symm).2 j y hj oy hc
      · exact absurd rfl q
    · rcases setG e3 with ⟨z, _⟩ | ⟨_, e3⟩
      · exact absurd z q
      · exact hn (j + 1) y c (by simpa using hj) oy (by simpa using hc) ⟨i, w, e1, e2, e3⟩
theorem ball_len {K : PySem.W.Frag} {mg : Str → Option Value} {ρ : List Addr} {F H H0 : Hp} : ∀ {vs : List V} {xs : List B}, BAll K mg H0 ρ F H vs xs → vs.length = xs.length
  | _, _, .nil => rfl
  | _, _, .cons _ _ t => by rw [List.length_cons, List.length_cons, ball_len t]
theorem ball_later {K : PySem.W.Frag} {mg : Str → Option Value} {ρ : List Addr} {F H H0 : Hp} : ∀ {vs : List V} {xs : List B}, BAll K mg H0 ρ F H vs xs → ∀ (j : Nat) (y : B), xs[j]? = some y → y.isOwn = true → ∀ c, vs[j]? = some (V.ref c) → H0 c = none
  | _, _, .nil, j, y, z, _, _, _ => by simp at z
  | _, _, .cons g1 g2 g3, 0, y, hj, oy, c, hc => by
    simp at hj hc
    subst hj
    exact (g2 oy c hc).1
  | _, _, .cons g1 g2 g3, j + 1, y, hj, oy, c, hc => ball_later g3 j y (by simpa using hj) oy c (by simpa using hc)
theorem par_core {ks : List Nat} {D : Ends} {σ : St} {H : Hp} (h : TS' X.K X.mg W (sPar ks n) D σ H) : T X.K X.mg W (aBs X.K X.mg) n σ H fun vs H1 => vs.length = ks.length ∧ D.nx (stAll ks vs σ) H1 := by
  obtain ⟨b, ρ, F, e, s, r, p⟩ := h
  refine ⟨b, ρ, F, e, s, r, ?_⟩
  unfold sPar at p
  cases hm : n e s with
  | no => rw [bnd_no hm] at p; exact p
  | exc y e' s' => rw [bnd_exc hm] at p; exact fun cls dd ρ' F' H' x1 r1 a1 => p cls dd σ ρ' F' H' r1 a1
  | ok xs e1 s1 =>
    rw [bnd_ok hm] at p
    intro vs ρ1 F1 H1 x1 r1 a1
    by_cases hl : xs.length = ks.length
    · simp only [hl, if_true] at p
      exact ⟨(ball_len a1).trans hl, p _ ρ1 F1 H1 (puts ks r1 a1 (fun c hc => none_base r hc) fun j y c hj oy hc w => (r.own_there (x1.sub c w)).1 (ball_later a1 j y hj oy c hc))⟩
    · simp only [hl, if_false] at p
      exact p.elim
theorem spar2 (i j : Nat) {x y : Str} {a b : Expr} {px py pt : Pos} {kt k2 pt2} (hN : X.N.Nodup) (ha : BM X W [a, b] n) (hc : X.calm = true := by rfl) (hi : X.N[i]? = some x := by rfl) (hj : X.N[j]? = some y := by rfl) (hij : i ≠ j := by decide)
    (hx : X.env.scope.names.lookup x = some .local := by rfl) (hy : X.env.scope.names.lookup y = some .local := by rfl)
    (hw : swappedStores [.Tuple [.Name x px, .Name y py] kt pt] (.Tuple [a, b] k2 pt2) X.env = pure (some [x, y]) := by rfl)
    (hs : swapsWithSole [.Tuple [.Name x px, .Name y py] kt pt] (.Tuple [a, b] k2 pt2) pos.line X.env = pure false := by rfl) :
    SM X W (.Assign [.Tuple [.Name x px, .Name y py] kt pt] (.Tuple [a, b] k2 pt2) pos) (sPar [i, j] n) :=
  ps_weak (ps_par hc hN hi hj hij hx hy ha hw hs) fun D σ H h => by
    obtain ⟨b, ρ, F, e, s, r, p⟩ := par_core h
    refine ⟨b, ρ, F, e, s, r, ?_⟩
    cases hm : n e s with
    | no => rw [hm] at p; exact p
    | exc y e' s' => rw [hm] at p; exact p
    | ok xs e1 s1 =>
      rw [hm] at p
      intro vs ρ1 F1 H1 x1 r1 a1
      obtain ⟨l, q⟩ := p vs ρ1 F1 H1 x1 r1 a1
      match vs, l with
      | [v, w], _ => exact ⟨v, w, rfl, q⟩
theorem spar3 (i j l : Nat) {x y z : Str} {a b c : Expr} {px py pz pt : Pos} {kt k2 pt2} (hN : X.N.Nodup) (ha : BM X W [a, b, c] n) (hc : X.calm = true := by rfl) (hi : X.N[i]? = some x := by rfl) (hj : X.N[j]? = some y := by rfl) (hl : X.N[l]? = some z := by rfl) (hij : i ≠ j := by decide) (hil : i ≠ l := by decide) (hjl : j ≠ l := by decide)
    (hx : X.env.scope.names.lookup x = some .local := by rfl) (hy : X.env.scope.names.lookup y = some .local := by rfl) (hz : X.env.scope.names.lookup z = some .local := by rfl)
    (hw : swappedStores [.Tuple [.Name x px, .Name y py, .Name z pz] kt pt] (.Tuple [a, b, c] k2 pt2) X.env = pure (some [x, y, z]) := by rfl)
    (hs : swapsWithSole [.Tuple [.Name x px, .Name y py, .Name z pz] kt pt] (.Tuple [a, b, c] k2 pt2) pos.line X.env = pure false := by rfl) :
    SM X W (.Assign [.Tuple [.Name x px, .Name y py, .Name z pz] kt pt] (.Tuple [a, b, c] k2 pt2) pos) (sPar [i, j, l] n) :=
  ps_weak (ps_par3 hc hN hi hj hl hij hil hjl hx hy hz ha hw hs) fun D σ H h => by
    obtain ⟨b, ρ, F, e, s, r, p⟩ := par_core h
    refine ⟨b, ρ, F, e, s, r, ?_⟩
    cases hm : n e s with
    | no => rw [hm] at p; exact p
    | exc y e' s' => rw [hm] at p; exact p
    | ok xs e1 s1 =>
      rw [hm] at p
      intro vs ρ1 F1 H1 x1 r1 a1
      obtain ⟨l, q⟩ := p vs ρ1 F1 H1 x1 r1 a1
      match vs, l with
      | [v, w, u], _ => exact ⟨v, w, u, rfl, q⟩
end
end Mi

set_option Elab.async false
set_option linter.all false
set_option autoImplicit false
set_option maxRecDepth 100000
set_option maxHeartbeats 4000000
/-! Mi, part S: dicts of one's own, keys ints and texts; targets that write. -/
namespace Mi
open PySem L2
def lookK : List Key → List D → Key → Option D
  | k :: ks, v :: vs, x => if k = x then some v else lookK ks vs x
  | _, _, _ => none
def setK (x : Key) (y : D) : List Key → List D → List D
  | k :: ks, v :: vs => (if k = x then y else v) :: setK x y ks vs
  | _, _ => []
def hasK (ks : List Key) (x : Key) : Bool := ks.any fun k => decide (k = x)
def putKs (ks : List Key) (x : Key) : List Key := if hasK ks x = true then ks else ks ++ [x]
def putVs (ks : List Key) (vs : List D) (x : Key) (y : D) : List D := if hasK ks x = true then setK x y ks vs else vs ++ [y]
section
variable {K : PySem.W.Frag} {mg : Str → Option Value} {ρ : List Addr} {F : Hp}
theorem look_at : ∀ {kvs : List (Key × V)} {vs : List D} {k : Key} {d : D}, AtAll K mg ρ F (kvs.map (·.2)) vs → lookK (kvs.map (·.1)) vs k = some d → ∃ v, valV kvs k = some v ∧ At K mg ρ F v d
  | [], vs, k, d, _, h => by cases h
  | p :: r, vs, k, d, a, h => by
    cases a with
    | cons a1 a2 =>
      unfold lookK at h
      by_cases e : p.1 = k
      · simp only [List.map_cons, e, if_true] at h
        cases h
        exact ⟨p.2, valV_pos e, a1⟩
      · simp only [List.map_cons, e, if_false] at h
        rw [valV_neg e]
        exact look_at a2 h
theorem set_at {x : Key} {v : V} {y : D} (hv : At K mg ρ F v y) : ∀ {kvs : List (Key × V)} {vs : List D}, AtAll K mg ρ F (kvs.map (·.2)) vs → AtAll K mg ρ F ((kvs.map fun kv => if kv.1 = x then (kv.1, v) else kv).map (·.2)) (setK x y (kvs.map (·.1)) vs)
  | [], _, .nil => .nil
  | p :: r, _, .cons a1 a2 => by
    simp only [List.map_cons, setK]
    by_cases e : p.1 = x
    · simp only [e, if_true]
      exact .cons hv (set_at hv a2)
    · simp only [e, if_false]
      exact .cons a1 (set_at hv a2)
theorem any_mem {x : Key} (kvs : List (Key × V)) : (kvs.any fun kv => decide (kv.1 = x)) = hasK (kvs.map (·.1)) x := by
  unfold hasK
  rw [List.any_map]
  rfl
theorem put_keys {kvs : List (Key × V)} {x : Key} {v : V} : (putK kvs x v).map (·.1) = putKs (kvs.map (·.1)) x := by
  unfold putK putKs
  rw [any_mem]
  by_cases h : hasK (kvs.map (·.1)) x = true
  · rw [if_pos h, if_pos h, List.map_map]
    refine List.map_congr_left fun p _ => ?_
    show (if p.1 = x then (p.1, v) else p).1 = p.1
    by_cases e : p.1 = x
    · rw [if_pos e]
    · rw [if_neg e]
  · rw [if_neg h, if_neg h, List.map_append] <;> rfl
theorem put_at {kvs : List (Key × V)} {vs : List D} {x : Key} {v : V} {y : D} (hv : At K mg ρ F v y) (a : AtAll K mg ρ F (kvs.map (·.2)) vs) : AtAll K mg ρ F ((putK kvs x v).map (·.2)) (putVs (kvs.map (·.1)) vs x y) := by
  unfold putK putVs
  rw [any_mem]
  by_cases h : hasK (kvs.map (·.1)) x = true
  · rw [if_pos h, if_pos h]
    exact set_at hv a
  · rw [if_neg h, if_neg h, List.map_append]
    exact a.append (.cons hv .nil)
end
def mergeD : List Key → List D → List Key → List D → List Key × List D
  | ks, vs, k :: ks2, v :: vs2 => mergeD (putKs ks k) (putVs ks vs k v) ks2 vs2
  | ks, vs, _, _ => (ks, vs)
theorem merge_at {K : PySem.W.Frag} {mg : Str → Option Value} {ρ : List Addr} {F : Hp} : ∀ {more kvs : List (Key × V)} {vs ws : List D}, AtAll K mg ρ F (kvs.map (·.2)) vs → AtAll K mg ρ F (more.map (·.2)) ws →
    (mergeK kvs more).map (·.1) = (mergeD (kvs.map (·.1)) vs (more.map (·.1)) ws).1 ∧ AtAll K mg ρ F ((mergeK kvs more).map (·.2)) (mergeD (kvs.map (·.1)) vs (more.map (·.1)) ws).2
  | [], kvs, vs, ws, a, b => by
    cases b
    exact ⟨rfl, a⟩
  | p :: r, kvs, vs, _, a, .cons b1 b2 => by
    have h := merge_at (more := r) (kvs := putK kvs p.1 p.2) (put_at (x := p.1) b1 a) b2
    rw [put_keys] at h
    exact h

def mDix (i : Nat) (x : Str) : M D := fun e s => match e[i]? with
  | some (.ownK ks vs) => match lookK ks vs (.inr x) with
    | some d => .ok d e s
    | none => .no
  | some (.dat (.dK ks vs)) => match lookK ks vs (.inr x) with
    | some d => .ok d e s
    | none => .no
  | _ => .no
def tgD (i : Nat) (x : Str) : Tg := fun d e => match e[i]? with
  | some (.ownK ks vs) => if vs.length < lim then some (e.set i (.ownK (putKs ks (.inr x)) (putVs ks vs (.inr x) d))) else none
  | _ => none
def sDst (i : Nat) (x : Str) (m : M D) : M Fl := bnd m fun d e s => match tgD i x d e with
  | some e' => .ok .nx e' s
  | none => .no
def mDcp (m : M D) : M B := bnd m fun d => match d with
  | .dK ks vs => ret (.ownK ks vs)
  | _ => lift none
def pNil : M (List (Str × D)) := ret []
def pCons (x : Str) (m : M D) (n : M (List (Str × D))) : M (List (Str × D)) := bnd m fun d => bnd n fun ds => ret ((x, d) :: ds)
def dispD (ps : List (Str × D)) : List Key × List D := mergeD [] [] (ps.map fun p => .inr p.1) (ps.map (·.2))
def mDisp (n : M (List (Str × D))) : M B := bnd n fun ps => lift (if ps.length ≤ 15 then some (.ownK (dispD ps).1 (dispD ps).2) else none)
def sUpd (i : Nat) (m : M B) : M Fl := fun e s => match e[i]? with
  | some (.ownK _ _) => bnd m (fun x e s => match e[i]?, x with
    | some (.ownK ks vs), .ownK ks2 vs2 => if vs.length + vs2.length ≤ lim then .ok .nx (e.set i (.ownK (mergeD ks vs ks2 vs2).1 (mergeD ks vs ks2 vs2).2)) s else .no
    | _, _ => .no) e s
  | _ => .no
def sUnp (g : Tg) (m : M D) : M Fl := bnd m fun d e s => match g d e with
  | some e' => .ok .nx e' s
  | none => .no
section
variable (K : PySem.W.Frag) (mg : Str → Option Value)
def TG2 (g : Tg) : TG := fun v σ H Q => ∃ b ρ F e s d, Rel K mg b σ e ρ F H s ∧ At K mg ρ F v d ∧ (match g d e with
  | some e' => ∀ σ' H', Rel K mg b σ' e' ρ F H' s → Q σ' H'
  | none => False)
def TGs2 (g : Tgs) : TGs := fun vs σ H Q => ∃ b ρ F e s ds, Rel K mg b σ e ρ F H s ∧ AtAll K mg ρ F vs ds ∧ (match g ds e with
  | some e' => ∀ σ' H', Rel K mg b σ' e' ρ F H' s → Q σ' H'
  | none => False)
end
abbrev HM (X : Cx) (tg : Expr) (g : Tg) : Prop := PG X tg (TG2 X.K X.mg g)
abbrev HMs (X : Cx) (tgs : List Expr) (g : Tgs) : Prop := PGs X tgs (TGs2 X.K X.mg g)
section
variable {X : Cx} {W : WX} {a : Expr} {ma : M D} {fa : M B} {pos p tp : Pos} {x : Str} {k : Nat}
theorem hn (i : Nat) (hN : X.N.Nodup) (hi : X.N[i]? = some x := by rfl) (hx : Loc X.env.scope x := by first | exact Or.inl rfl | exact Or.inr rfl) (hf : X.fn x = true ∨ X.env.scope.names.lookup x = some .local := by first | exact Or.inl rfl | exact Or.inr rfl) : HM X (.Name x pos) (tgN i) :=
  pg_weak (pg_name hN hi hx hf) fun v σ H Q ⟨b, ρ, F, e, s, d, r, a, q⟩ => q _ H (r.put (x := .dat d) a fun z => nomatch z)
theorem h_nil : HMs X [] tgsNil := pgs_weak pgs_nil fun vs σ H Q ⟨b, ρ, F, e, s, ds, r, a, q⟩ => by
  cases a with
  | nil => exact ⟨rfl, q σ H r⟩
  | cons _ _ => exact q.elim
theorem h_cons {t : Expr} {ts : List Expr} {g : Tg} {u : Tgs} (h1 : HM X t g) (h2 : HMs X ts u) (hs : (assignEach (t :: ts) X.env).map (·.2) = assign t X.env :: (assignEach ts X.env).map (·.2) := by rfl) : HMs X (t :: ts) (tgsCons g u) :=
  pgs_weak (pgs_cons h1 h2 hs) fun vs σ H Q ⟨b, ρ, F, e, s, ds, r, a, q⟩ => by
    cases a with
    | nil => exact q.elim
    | @cons v vs d ds a1 a2 =>
      refine ⟨v, vs, rfl, b, ρ, F, e, s, d, r, a1, ?_⟩
      unfold tgsCons at q
      cases hg : g d e with
      | none =>
        simp only [hg] at q
      | some e' =>
        simp only [hg] at q
        exact fun σ' H' r' => ⟨b, ρ, F, e', s, ds, r', a2, q⟩
theorem h_tup {ts : List Expr} {kk : Nat} {g : Tgs} {n : Nat} (hc : X.calm = true) (h : HMs X ts g) (hn : (assignEach ts X.env).length = n := by rfl) (hst : (assignEach ts X.env).findIdx? (·.1) = none := by rfl) : HM X (.Tuple ts kk pos) (tgT n g) :=
  pg_weak (pg_tup hc h hn hst) fun v σ H Q ⟨b, ρ, F, e, s, d, r, a, q⟩ => by
    cases a with
    | @tup a xs ds h1 h2 =>
      unfold tgT at q
      by_cases hl : ds.length = n
      · simp only [hl, if_true] at q
        exact ⟨a, xs, rfl, sqT_same r.roots.ex h1, h2.length.trans hl, b, ρ, F, e, s, ds, r, h2, q⟩
      · simp only [hl, if_false] at q
    | @ntup a xs ds h1 _ h2 =>
      unfold tgT at q
      by_cases hl : ds.length = n
      · simp only [hl, if_true] at q
        exact ⟨a, xs, rfl, sqT_same r.roots.ex h1, h2.length.trans hl, b, ρ, F, e, s, ds, r, h2, q⟩
      · simp only [hl, if_false] at q
    | _ => exact q.elim
/-- the write into a dict of one's own -/
theorem put_core {b : Bs} {σ : St} {e e' : Env} {ρ : List Addr} {F H : Hp} {s : S} {i : Nat} {v : V} {d : D} (r : Rel X.K X.mg b σ e ρ F H s) (at1 : At X.K X.mg ρ F v d) (hg : tgD i x d e = some e') :
    ∃ c H', σ[i]? = some (some (.ref c)) ∧ DPut H c (.str x) v H' ∧ Rel X.K X.mg b σ e' ρ F H' s := by
  unfold tgD at hg
  cases he : e[i]? with
  | none => rw [he] at hg; cases hg
  | some y =>
    rw [he] at hg
    cases y with
    | ownK ks vs =>
      simp only [] at hg
      by_cases hl : vs.length < lim
      · rw [if_pos hl] at hg
        cases hg
        obtain ⟨w, h1, c, kvs, rfl, h2, h3, h4, rfl, h6⟩ := r.slot i _ he (fun z => nomatch z)
        have hlen : kvs.length < sizeLine := by
          have := h6.length
          rw [List.length_map] at this
          rw [this]
          exact Nat.lt_of_lt_of_le hl (lim_line (Nat.le_refl _))
        exact ⟨c, _, h1, DPut.k (k := Sum.inr x) h2 hlen, r.write he rfl h1 _ rfl fun k1 k2 => ⟨c, _, rfl, upd_same, k1, k2, put_keys, put_at at1 h6⟩⟩
      · rw [if_neg hl] at hg
        cases hg
    | _ => cases hg
theorem hd (i : Nat) (hr : Room k X.A := by assumption) {y : Str} {j : Nat} {cp : Pos} (hN : X.N[i]? = some y := by rfl) (hv : Vis X.env.scope y := by first | exact Or.inl rfl | exact Or.inr (Or.inl rfl) | exact Or.inr (Or.inr rfl)) (hd : (y == ("__debug__" : Str)) = false := by decide +kernel) (hcd : (y == ("__classdict__" : Str)) = false := by decide +kernel) :
    HM X (.Subscript (.Name y p) (.Constant (.str x) j cp) pos) (tgD i x) :=
  pg_weak (pg_sub (pe_var hN hv hd hcd) pe_str (set_dict (hu_of hr))) fun v σ H Q ⟨b, ρ, F, e, s, d, r, at1, q⟩ => by
    cases hg : tgD i x d e with
    | none => rw [hg] at q; exact q.elim
    | some e' =>
      rw [hg] at q
      obtain ⟨c, H', h1, h2, h3⟩ := put_core r at1 hg
      exact ⟨_, h1, c, H', rfl, h2, q σ H' h3⟩
theorem sdst (i : Nat) {y : Str} {j : Nat} {cp : Pos} (ha : EM X W a ma) (hr : Room k X.A := by assumption) (hN : X.N[i]? = some y := by rfl) (hv : Vis X.env.scope y := by first | exact Or.inl rfl | exact Or.inr (Or.inl rfl) | exact Or.inr (Or.inr rfl)) (hd : (y == ("__debug__" : Str)) = false := by decide +kernel) (hcd : (y == ("__classdict__" : Str)) = false := by decide +kernel)
    (hs : swapsWith a (some (.Subscript (.Name y p) (.Constant (.str x) j cp) tp)) pos.line X.env = pure false := by rfl) : SM X W (.Assign [.Subscript (.Name y p) (.Constant (.str x) j cp) tp] a pos) (sDst i x ma) :=
  ps_weak (ps_dput (hu_of hr) (pe_var hN hv hd hcd) pe_str ha hs) fun D σ H ⟨b, ρ, F, e, s, r, q⟩ => by
    refine ⟨b, ρ, F, e, s, r, ?_⟩
    unfold sDst at q
    cases hm : ma e s with
    | no => rw [bnd_no hm] at q; exact q
    | exc y e' s' => rw [bnd_exc hm] at q; exact fun cls dd ρ' F' H' x1 r1 a1 => q cls dd σ ρ' F' H' r1 a1
    | ok d e1 s1 =>
      rw [bnd_ok hm] at q
      intro v ρ1 F1 H1 x1 r1 a1
      cases hg : tgD i x d e1 with
      | none => simp only [hg] at q; exact q.elim
      | some e2 =>
        simp only [hg] at q
        obtain ⟨c, H', h1, h2, h3⟩ := put_core r1 a1 hg
        exact ⟨_, h1, c, H', rfl, h2, q σ ρ1 F1 H' h3⟩
theorem xdix (i : Nat) (hr : Room k X.A := by assumption) {y : Str} {j : Nat} {cp : Pos} (hN : X.N[i]? = some y := by rfl) (hv : Vis X.env.scope y := by first | exact Or.inl rfl | exact Or.inr (Or.inl rfl) | exact Or.inr (Or.inr rfl)) (hd : (y == ("__debug__" : Str)) = false := by decide +kernel) (hcd : (y == ("__classdict__" : Str)) = false := by decide +kernel)
    (hs : NoSl (.Constant (.str x) j cp) := by exact fun _ _ => rfl) : EM X W (.Subscript (.Name y p) (.Constant (.str x) j cp) pos) (mDix i x) :=
  pe_weak (pe_dget (hu_of hr) (pe_var hN hv hd hcd) pe_str hs) fun σ H Q ⟨b, ρ, F, e, s, r, q⟩ => by
    unfold mDix at q
    have go : ∀ (c : Addr) (kvs : List (Key × V)) (ks : List Key) (vs : List D), σ[i]? = some (some (.ref c)) → H c = some (.dK kvs) → kvs.map (·.1) = ks → AtAll X.K X.mg ρ F (kvs.map (·.2)) vs → Pst X.K X.mg W (aD X.K X.mg) b σ e ρ F H (match lookK ks vs (.inr x) with | some d => .ok d e s | none => .no) Q →
        tDGet (tVar i) (tC (.str x)) σ H Q := fun c kvs ks vs h1 h2 h3 h4 q => by
      subst h3
      cases hl : lookK (kvs.map (·.1)) vs (.inr x) with
      | none => rw [hl] at q; exact q.elim
      | some d =>
        rw [hl] at q
        obtain ⟨v, g1, g2⟩ := look_at h4 hl
        refine ⟨_, h1, c, v, rfl, ?_, q v ρ F H Ext.refl r g2⟩
        rw [← g1]
        exact DGet.k (k := Sum.inr x) h2
    cases he : e[i]? with
    | none => rw [he] at q; exact q.elim
    | some z =>
      rw [he] at q
      cases z with
      | ownK ks vs =>
        obtain ⟨w, h1, c, kvs, rfl, h2, h3, h4, h5, h6⟩ := r.slot i _ he (fun z => nomatch z)
        exact go c kvs ks vs h1 h2 h5 h6 q
      | dat d =>
        cases d with
        | dK ks vs =>
          obtain ⟨w, h1, h2⟩ := r.slot i _ he (fun z => nomatch z)
          cases h2 with
          | @dK c kvs _ g1 g2 => exact go c kvs _ vs h1 (r.roots.ex _ _ g1) rfl g2 q
        | _ => exact q.elim
      | _ => exact q.elim
theorem xdcp (hm : X.mg "dict" = none) (ha : EM X W a ma) (hg : Gl X "dict" := by rfl) (he : starEach [a] X.env = (false, eval a X.env) :: starEach [] X.env := by rfl) : FM X W (.Call (.Name "dict" p) [a] [] pos) (mDcp ma) :=
  pe_weak (pe_callTy call_dictD hg hm (by decide +kernel) (ac ha a_nil he) (by decide) (by decide +kernel) he rfl) fun σ H Q h => by
    have e0 : mDcp ma = bnd (aCons ma aNil) fun ds => match ds with
      | [.dK ks vs] => ret (.ownK ks vs)
      | _ => lift none := by
      unfold mDcp aCons aNil
      rw [bnd_assoc]
      refine bnd_congr fun d => ?_
      rw [bnd_assoc]
      funext e s
      cases d <;> rfl
    rw [e0] at h
    refine alls anti_F h fun xs ds b ρ F H e s r at1 q => ?_
    cases at1 with
    | nil => exact q.elim
    | @cons v vs d ds a1 a2 =>
      cases a2 with
      | cons _ _ => cases d <;> exact q.elim
      | nil =>
        cases a1 with
        | @dK c kvs _ g1 g2 => exact ⟨c, kvs, rfl, .inl (r.roots.ex _ _ g1), fun pp hp => Pst.fresh r q hp fun nF nr => ⟨pp, kvs, rfl, upd_same, nF, nr, rfl, g2⟩⟩
        | _ => exact q.elim
theorem sunp {tg : Expr} {g : Tg} (ha : EM X W a ma) (hg : HM X tg g) (hs : swapsWithSole [tg] a pos.line X.env = pure false := by rfl) (hw : swappedStores [tg] a X.env = pure none := by rfl) (h1 : (assignEach [tg] X.env).map (·.2) = [assign tg X.env] := by rfl) : SM X W (.Assign [tg] a pos) (sUnp g ma) :=
  ps_weak (ps_asg ha hg hs hw h1) fun D σ H ⟨b, ρ, F, e, s, r, q⟩ => by
    refine ⟨b, ρ, F, e, s, r, ?_⟩
    unfold sUnp at q
    cases hm : ma e s with
    | no => rw [bnd_no hm] at q; exact q
    | exc y e' s' => rw [bnd_exc hm] at q; exact fun cls dd ρ' F' H' x1 r1 a1 => q cls dd σ ρ' F' H' r1 a1
    | ok d e1 s1 =>
      rw [bnd_ok hm] at q
      intro v ρ1 F1 H1 x1 r1 a1
      refine ⟨b, ρ1, F1, e1, s1, d, r1, a1, ?_⟩
      cases hg : g d e1 with
      | none => simp only [hg] at q; exact q.elim
      | some e2 =>
        simp only [hg] at q
        exact fun σ' H' r' => q σ' ρ1 F1 H' r'
end
end Mi

set_option Elab.async false
set_option linter.all false
set_option autoImplicit false
set_option maxRecDepth 100000
set_option maxHeartbeats 4000000
/-! Mi, part T: dict displays, update. -/
namespace Mi
open PySem L2
/-- the pairs of a display -/
def aP (K : PySem.W.Frag) (mg : Str → Option Value) : AR (List (Str × D)) (List (V × V)) := fun _ _ ρ F _ vs ps => vs.map (·.1) = ps.map (fun p => V.str p.1) ∧ AtAll K mg ρ F (vs.map (·.2)) (ps.map (·.2))
theorem anti_P {K : PySem.W.Frag} {mg : Str → Option Value} : Anti (aP K mg) := fun _ _ _ _ _ _ _ _ _ h => h
structure PM (X : Cx) (W : WX) (pos : Pos) (keys : List (Option Expr)) (values : List Expr) (m : M (List (Str × D))) : Prop where
  ex : ∃ trs, PPs X pos keys values trs ∧ ∀ σ H Q, T X.K X.mg W (aP X.K X.mg) m σ H Q → tPairs trs σ H Q
section
variable {X : Cx} {W : WX} {a : Expr} {ma : M D} {fa : M B} {n : M (List (Str × D))} {pos : Pos} {x : Str} {k : Nat} {keys : List (Option Expr)} {values : List Expr}
theorem pp_nil : PM X W pos [] [] pNil := ⟨⟨[], pps_nil, fun σ H Q h => h.ret fun _ _ _ _ => ⟨rfl, .nil⟩⟩⟩
theorem pp_cons {j : Nat} {cp : Pos} (ha : EM X W a ma) (hr : PM X W pos keys values n) : PM X W pos (some (.Constant (.str x) j cp) :: keys) (a :: values) (pCons x ma n) := by
  obtain ⟨trs, h1, h2⟩ := hr.ex
  refine ⟨⟨_, pps_cons pe_str ha h1, fun σ H Q ⟨b, ρ, F, e, s, r, p⟩ => ?_⟩⟩
  refine ⟨b, ρ, F, e, s, r, ?_⟩
  unfold pCons at p
  cases hm : ma e s with
  | no => rw [bnd_no hm] at p; exact p
  | exc y e' s' => rw [bnd_exc hm] at p; exact p
  | ok d e1 s1 =>
    rw [bnd_ok hm] at p
    intro v ρ1 F1 H1 x1 r1 a1
    refine h2 σ H1 _ ⟨b, ρ1, F1, e1, s1, r1, ?_⟩
    cases hn : n e1 s1 with
    | no => rw [bnd_no hn] at p; exact p
    | exc y e2 s2 => rw [bnd_exc hn] at p; exact Pst.shift (r := Mi.R.exc y e2 s2) anti_P p x1
    | ok ds e2 s2 =>
      rw [bnd_ok hn] at p
      intro vs ρ2 F2 H2 x2 r2 ⟨a2, a3⟩
      exact p _ ρ2 F2 H2 (x1.trans x2) r2 ⟨by rw [List.map_cons, List.map_cons, a2], .cons (at_ext x2 a1) a3⟩
theorem f_disp (h : PM X W pos keys values n) (hr : Room k X.A := by assumption) (hall : keys.all (·.isSome) = true := by rfl) (hl : keys.length = values.length := by rfl) (h0 : keys ≠ [] := by exact fun z => nomatch z) (h15 : keys.length ≤ 15 := by decide) :
    FM X W (.Dict keys values pos) (mDisp n) := by
  obtain ⟨trs, h1, h2⟩ := h.ex
  refine pe_weak (pe_disp h1 hall hl h0 h15) fun σ H Q ⟨b, ρ, F, e, s, r, q⟩ => ?_
  intro c hc
  obtain ⟨x1, r1, nF, nr⟩ := r.made hc (.dK [])
  refine h2 σ _ _ ⟨b, ρ, F, e, s, r1, ?_⟩
  unfold mDisp at q
  have nown : ¬ OwnAt σ e c := not_own r hc
  cases hm : n e s with
  | no => rw [bnd_no hm] at q; exact q
  | exc y e' s' => rw [bnd_exc hm] at q; exact fun cls dd ρ' F' H' x2 r2 a2 => q cls dd ρ' F' H' (x1.trans x2) r2 a2
  | ok ds e2 s2 =>
    rw [bnd_ok hm] at q
    intro ps ρ2 F2 H2 x2 r2 ⟨a2, a3⟩
    obtain ⟨g1, g2, g3, g4⟩ := x2.stay upd_same nF nr nown
    refine ⟨g1, ?_⟩
    by_cases h15 : ds.length ≤ 15
    · simp only [h15, if_true] at q
      -- the pairs as keys and values
      have hk : ∀ (ps : List (V × V)) (ds : List (Str × D)), ps.map (·.1) = ds.map (fun p => V.str p.1) → ∃ kvs : List (Key × V), ps = kvs.map (fun kv => (kV kv.1, kv.2)) ∧ kvs.map (·.1) = ds.map (fun p => Sum.inr p.1) ∧ kvs.map (·.2) = ps.map (·.2) := fun ps => by
        induction ps with
        | nil =>
          intro ds h
          cases ds with
          | nil => exact ⟨[], rfl, rfl, rfl⟩
          | cons _ _ => cases h
        | cons p ps ih =>
          intro ds h
          cases ds with
          | nil => cases h
          | cons d ds =>
            rw [List.map_cons, List.map_cons] at h
            injection h with h3 h4
            obtain ⟨kvs, k1, k2, k3⟩ := ih ds h4
            obtain ⟨p1, p2⟩ := p
            cases h3
            refine ⟨(Sum.inr d.1, p2) :: kvs, ?_, ?_, ?_⟩
            · rw [List.map_cons, ← k1] <;> rfl
            · rw [List.map_cons, List.map_cons, k2]
            · rw [List.map_cons, List.map_cons, k3]
      obtain ⟨kvs, k1, k2, k3⟩ := hk ps ds a2
      have hlen : kvs.length = ds.length := by
        have := congrArg List.length k2
        rw [List.length_map, List.length_map] at this
        exact this
      refine ⟨kvs, k1, by omega, ?_⟩
      rw [← k3] at a3
      obtain ⟨m1, m2⟩ := merge_at (kvs := []) (more := kvs) .nil a3
      have hbc : b.H c = none := none_base r hc
      refine q _ ρ2 F2 _ (x1.trans (x2.trans (Ext.refl)) |>.poke _ hc) (r2.poke _ hbc g2 g3 g4) ⟨⟨c, _, rfl, upd_same, g2, g3, ?_, ?_⟩, fun _ a z => by cases z; exact hc⟩
      · rw [m1, k2] <;> rfl
      · rw [k2] at m2
        exact m2
    · simp only [h15, if_false] at q
      exact q.elim
/-- d.update(e), dicts with keys ints and texts -/
def rUpdD : V → List V → Hp → VK → Prop := fun x xs H Q => ∃ (c c2 : Addr) (kvs more : List (Key × V)), x = .ref c ∧ xs = [.ref c2] ∧ c ≠ c2 ∧ H c = some (.dK kvs) ∧ H c2 = some (.dK more) ∧ kvs.length + more.length ≤ sizeLine ∧ Q .non (upd H c (.dK (mergeK kvs more)))
theorem mt_updD : MtR X "dict.update" rUpdD := by
  intro pins s σ H x xs v us Q I rx rs ⟨c, c2, kvs, more, h1, h2, hne, h3, h4, h5, q⟩
  subst h1 h2
  obtain rfl : v = Value.ref c := rx
  obtain ⟨u, rfl, ru⟩ := rs.one
  obtain rfl : u = Value.ref c2 := ru
  obtain ⟨z1, hd1, vs1, rel1, dd1⟩ := dk_of I.hok h3
  obtain ⟨z2, hd2, vs2, rel2, dd2⟩ := dk_of I.hok h4
  refine PySem.call_meetsIn PySem.F.slot_dict_update dd1.typeIs PySem.F.entry_dict_update (PySem.F.args_dict_update_2 _ _) (meets_dict_update (mixKind X.prog X.w) c c2 hne hd2)
    ⟨vs1, vs2, dd1, dd2, by rw [← rel1.length, ← rel2.length]; exact h5, fun h' m1 _ m2 => ⟨.non, _, ?_, rfl, q⟩⟩
  have he : ∃ w, h'.get? c = some w := by
    obtain ⟨w, _, _, hw, _⟩ := m1
    exact ⟨w, hw⟩
  have hl := length_mergeK more kvs
  exact d_write I (by rw [h3]; exact True.intro) m2 he (dk_new (Nat.le_trans hl h5) hd1 (KV.merge rel2 rel1) m1)
theorem supd (i : Nat) {y : Str} {p apos cpos : Pos} (ha : FM X W a fa) (hr : Room k X.A := by assumption) (hN : X.N[i]? = some y := by rfl) (hv : Vis X.env.scope y := by first | exact Or.inl rfl | exact Or.inr (Or.inl rfl) | exact Or.inr (Or.inr rfl)) (hd : (y == ("__debug__" : Str)) = false := by decide +kernel) (hcd : (y == ("__classdict__" : Str)) = false := by decide +kernel)
    (hs : swapsWith (.Call (.Attribute (.Name y p) "update" apos) [a] [] cpos) none pos.line X.env = pure false := by rfl)
    (hbase : attributeBase (.Name y p) "update" X.env (eval (.Name y p) X.env) = eval (.Name y p) X.env := by rfl)
    (hfew : ((backTo cpos (starEach [a] X.env)).all (fun x => !x.1) && (backToKw cpos (keywordEach [] X.env)).all (fun x => x.1.isSome)
      && decide (([a] : List Expr).length + ([] : List Keyword).length + (if ([] : List Keyword).isEmpty then 0 else 1) < 30)) = true := by rfl)
    (hline : (apos.endLine == cpos.line) = true := by rfl) (hs1 : starEach [a] X.env = (false, eval a X.env) :: starEach [] X.env := by rfl) :
    SM X W (.Expr (.Call (.Attribute (.Name y p) "update" apos) [a] [] cpos) pos) (sUpd i fa) :=
  ps_weak (ps_expr (pe_bm PySem.F.plainAttrs_dict PySem.F.slot_dict_update PySem.F.type_dict_update mt_updD (pe_var hN hv hd hcd) (b_cons (W := W) ha b_nil hs1) hbase hfew hline hs1 rfl) hs) fun D σ H ⟨b, ρ, F, e, s, r, q⟩ => by
    unfold sUpd at q
    cases he : e[i]? with
    | none => rw [he] at q; exact q.elim
    | some y =>
      rw [he] at q
      cases y with
      | ownK ks0 vs0 =>
        obtain ⟨v, h1, a0, kvs0, rfl, h2, h3, h4, h5, h6⟩ := r.slot i _ he (fun z => nomatch z)
        refine ⟨_, h1, .inr (.inr (.inl ⟨rfl, .inl ⟨_, h2⟩⟩)), ?_⟩
        refine ⟨b, ρ, F, e, s, r, ?_⟩
        unfold bCons
        have q : PstS X.K X.mg W D b (bnd fa (fun x e s => match e[i]?, x with
          | some (.ownK ks vs), .ownK ks2 vs2 => if vs.length + vs2.length ≤ lim then Mi.R.ok .nx (e.set i (.ownK (mergeD ks vs ks2 vs2).1 (mergeD ks vs ks2 vs2).2)) s else .no
          | _, _ => .no) e s) := q
        cases hm : fa e s with
        | no => rw [bnd_no hm] at q; exact q.elim
        | exc y e' s' =>
          rw [bnd_exc hm] at q
          rw [bnd_exc hm]
          exact fun cls dd ρ' F' H' x1 r1 a1 => q cls dd σ ρ' F' H' r1 a1
        | ok d e' s' =>
          rw [bnd_ok hm] at q
          rw [bnd_ok hm]
          intro us ρ' F' H' x1 r1 a1
          cases a1 with
          | cons ad fr an =>
            cases an
            cases he' : e'[i]? with
            | none => simp only [he'] at q; exact q.elim
            | some y =>
              simp only [he'] at q
              cases y with
              | ownK ks vs =>
                cases d with
                | ownK ks2 vs2 =>
                  simp only [] at q
                  by_cases hl : vs.length + vs2.length ≤ lim
                  · rw [if_pos hl] at q
                    obtain ⟨v2, g1, c, kvs, rfl, g2, g3, g4, rfl, g6⟩ := r1.slot i _ he' (fun z => nomatch z)
                    rw [h1] at g1
                    cases g1
                    obtain ⟨c2, more, rfl, k2, k3, k4, rfl, k6⟩ := ad
                    have hne : a0 ≠ c2 := fun z => by
                      subst z
                      have := (fr rfl a0 rfl).1
                      exact (r.own_there ⟨i, _, he, rfl, h1⟩).1 this
                    have l1 := g6.length
                    have l2 := k6.length
                    rw [List.length_map] at l1 l2
                    obtain ⟨m1, m2⟩ := merge_at g6 k6
                    refine ⟨a0, c2, kvs, more, rfl, rfl, hne, g2, k2, ?_, ?_⟩
                    · rw [l1, l2]
                      exact lim_line hl
                    · exact q σ ρ' F' _ (r1.write he' rfl h1 _ rfl fun k1 k2 => ⟨a0, _, rfl, upd_same, k1, k2, m1, m2⟩)
                  · rw [if_neg hl] at q
                    exact q.elim
                | _ => exact q.elim
              | _ => exact q.elim
      | _ => exact q.elim
end
end Mi

set_option Elab.async false
set_option linter.all false
set_option autoImplicit false
set_option maxRecDepth 100000
set_option maxHeartbeats 4000000
/-! Mi, part U: errors of one's own: made, raised, caught. -/
namespace Mi
open PySem L2
/-- B.__init__(self, ..), B an own class over ValueError without an __init__ of its own -/
structure BInit (K : PySem.W.Frag) (mg : Str → Option Value) (x : Str) : Prop where
  ex : ∃ (C : Addr) (mc : Value), mg x = some (.ref C) ∧ PySem.W.readsIn K C mc = true ∧ PySem.W.specialIn K (.ref C) "__getattribute__" = some (some (.builtin "type.__getattribute__")) ∧ PySem.W.findCls K (.ref C) mc "__init__" = some (.val (.builtin "ValueError.__init__"))
theorem pe_binit {X : Cx} {x : Str} {e : Expr} {es : List Expr} {ta : TA} {p1 p2 pos : Pos} {pl : Sem Bool} (B : BInit X.K X.mg x) (hg : Gl X x) (hdb : (x == ("__debug__" : Str)) = false) (ha : PA X (e :: es) ta)
    (hc : eval (.Call (.Attribute (.Name x p1) "__init__" p2) (e :: es) [] pos) X.env = (do
      let ov ← eval (.Name x p1) X.env
      standAt p2.atName
      let (f, first) ← holding [ov] (getMethod ov "__init__" pl)
      callWith pos f first (backTo pos (starEach (e :: es) X.env)) (backToKw pos (keywordEach [] X.env))) := by rfl)
    (he : starEach (e :: es) X.env = (false, eval e X.env) :: starEach es X.env := by rfl) (hpl : (backTo pos (starEach es X.env)).any (·.1) = false := by rfl) :
    PE X (.Call (.Attribute (.Name x p1) "__init__" p2) (e :: es) [] pos) (tVeI X.K ta) := by
  obtain ⟨C, mc, hm, hr, hga, hv⟩ := B.ex
  refine ⟨fun pins s σ H Q I h => PySem.W.methodCall_KW (ld_glob I hg hm (PySem.W.method_cls I.kIn hga (PySem.W.cls_value I.kIn hr hv (by decide +kernel) ?_)) hdb) hc⟩
  show wpAny _ _ (callWith pos (Value.builtin "ValueError.__init__") [] (backTo pos (starEach (e :: es) X.env)) []) _ _ _
  refine PyProof.Rows.callWith_method1 (thn (ha.run pos pins _ σ H _ (I.tok _) h) fun us s1 hh => ?_) he hpl
  obtain ⟨vs, H1, I1, r1, a, C', ws, ev, hl, T, ea, q⟩ := hh
  subst ev
  cases r1 with
  | @cons _ u0 _ ur ra rw' =>
    obtain rfl : u0 = Value.ref a := ra
    exact oinit_ok T I1 ea (by rw [← Paired.length rw', sizeLine_eq]; omega) fun s' J => ⟨.non, H1, J, rfl, q⟩
/-- the promise of an __init__ that stores two fields -/
def spInit2 (K : PySem.W.Frag) (f1 f2 : Str) : Sp := fun vs H Q _ => ∃ (a C : Addr) (y1 y2 : V), vs = [.ref a, y1, y2] ∧ OexC K C ∧ PySem.W.findIn K (.ref C) f1 = some none ∧ PySem.W.findIn K (.ref C) f2 = some none ∧ H a = some (exo a C none) ∧
  ∀ d, H d = none → d ≠ a → Q .non (upd (upd (upd H d (exd d [(f1, y1)])) a (exo a C (some d))) d (exd d [(f2, y2), (f1, y1)]))
/-- an own error class of two fields -/
structure ExK (P : Program) (w : World) (K : PySem.W.Frag) (mg : Str → Option Value) (base : Heap) (k : Nat) (x f1 f2 : Str) : Prop where
  ex : ∃ (C fI : Addr) (fd : FuncData) (ps : List Str), OexC K C ∧ PySem.W.findIn K (.ref C) f1 = some none ∧ PySem.W.findIn K (.ref C) f2 = some none ∧ PySem.W.findIn K (.ref C) "__init__" = some (some (.ref fI)) ∧ PySem.W.typeIn K (.ref fI) = some (.type "function") ∧
    FnOk P w K mg base CX0 k fI fd ps (spInit2 K f1 f2) ∧ Binds K fd ps [] ∧ mg x = some (.ref C)
def sRaise2 (x f1 f2 : Str) (m : M (List D)) : M Fl := bnd m fun ds e s => match ds with
  | [d1, d2] => .exc ⟨x, [(f2, d2), (f1, d1)]⟩ e s
  | _ => .no
section
variable {X : Cx} {W : WX} {x f1 f2 : Str} {p pos : Pos} {e : Expr} {es : List Expr} {n : M (List D)} {k : Nat}
theorem s_raise2 {j : Nat} (c : ExK X.prog X.w X.K X.mg X.base j x f1 f2) (hc : X.calm = true) (tk : Takes X W) (ha : AM X W (e :: es) n) (hr : Room k X.A := by assumption) (hj : j + 1 ≤ k := by omega) (hg : Gl X x := by rfl) (hdb : (x == ("__debug__" : Str)) = false := by decide +kernel)
    (he : starEach (e :: es) X.env = (false, eval e X.env) :: starEach es X.env := by rfl) (hpl : (backTo pos (starEach es X.env)).any (·.1) = false := by rfl) {pos' : Pos} :
    SM X W (.Raise (some (.Call (.Name x p) (e :: es) [] pos)) none pos') (sRaise2 x f1 f2 n) := by
  obtain ⟨C, fI, fd, ps, T, n1, n2, hI, tI, Fk, hb, hm⟩ := c.ex
  refine ps_weak (ps_raise hc tk (pmk_oex T hI tI Fk (hr.mono hj) hb .nil pass0 hg hm ha hdb he hpl)) fun D σ H ⟨b, ρ, F, e, s, r, q⟩ => ?_
  refine ⟨b, ρ, F, e, s, r, ?_⟩
  unfold sRaise2 at q
  cases hm1 : n e s with
  | no => rw [bnd_no hm1] at q; exact q
  | exc y e' s' => rw [bnd_exc hm1] at q; exact fun cls dd ρ' F' H' x1 r1 a1 => q cls dd σ ρ' F' H' r1 a1
  | ok ds e1 s1 =>
    rw [bnd_ok hm1] at q
    intro vs ρ1 F1 H1 x1 r1 at1
    match ds, at1, q with
    | [d1, d2], .cons (v := v1) a1 (.cons (v := v2) a2 .nil), q =>
      refine ⟨by show 2 ≤ 1000; decide, fun a hna => ⟨a, C, v1, v2, rfl, T, n1, n2, upd_same, fun d hd hda => ?_⟩⟩
      have hd1 : H1 d = none := by
        rw [upd_ne hda] at hd
        exact hd
      refine ⟨rfl, d, _, ?_, upd_same, hd1, ?_⟩
      · rw [upd_ne fun z => hda z.symm, upd_same]
      · have e1 : upd (del (upd (upd (upd (upd H1 a (exo a C none)) d (exd d [(f1, v1)])) a (exo a C (some d))) d (exd d [(f2, v2), (f1, v1)])) a) d (.xd [(f2, v2), (f1, v1)]) = upd H1 d (.xd [(f2, v2), (f1, v1)]) := by
          funext c
          by_cases h1 : c = d
          · rw [h1, upd_same, upd_same]
          · rw [upd_ne h1, upd_ne h1]
            by_cases h2 : c = a
            · rw [h2, del_same, hna]
            · rw [del_ne h2, upd_ne h1, upd_ne h2, upd_ne h1, upd_ne h2]
        rw [e1]
        obtain ⟨x2, r2, _, _⟩ := r1.made hd1 (.xd [(f2, v2), (f1, v1)])
        exact q (.ref C) (some d) σ ρ1 F1 _ r2 ⟨C, d, _, rfl, hm, rfl, upd_same, rfl, .cons a2 (.cons a1 .nil)⟩
end
section
variable {P : Program} {w : World} {K : PySem.W.Frag} {mg : Str → Option Value} {base : Heap}
/-- try .. except C -/
def sTry (m : M Fl) (x : Str) (m2 : M Fl) : M Fl := fun e s => match m e s with
  | .exc y e' s' => if y.cls = x then noX m2 e' s' else .no
  | r => r
structure Cat (K : PySem.W.Frag) (mg : Str → Option Value) (x : Str) : Prop where
  ex : ∃ C : Addr, mg x = some (.ref C) ∧ PySem.W.exmOne K (.ref C) (.ref C) = some true
end
section
variable {X : Cx} {W : WX} {x : Str} {body suite : List Stmt} {b0 : Stmt} {np pos pos' : Pos} {m m2 : M Fl}
theorem noX_pstS {K : PySem.W.Frag} {mg : Str → Option Value} {W W' : WX} {D : Ends} {b : Bs} {e0 : Env} {s0 : S} (h : PstS K mg W D b (noX m e0 s0)) : PstS K mg W' D b (m e0 s0) := by
  unfold noX at h
  cases hm : m e0 s0 with
  | no => rw [hm] at h; exact h
  | exc x e' s' => rw [hm] at h; exact h.elim
  | ok f e' s' =>
    rw [hm] at h
    cases f <;> exact h
theorem s_try (c : Cat X.K X.mg x) (tk : Takes X W)
    (hb : ∀ (W : WX) (pn : List (Addr × Obj)) (xe : Value → Shared → Prop), Takes (X.tr pn xe) W → PassesOwn (model X.prog X.w) X.A X.env xe → SMs (X.tr pn xe) W body m)
    (hsu : ∀ (a : Addr) (oe : Obj) (pn : List (Addr × Obj)), SMs (X.suite a ((a, oe) :: pn)) W0 (b0 :: suite) m2)
    (hg : Gl X x := by rfl) (hdb : (x == ("__debug__" : Str)) = false := by decide +kernel) (hs : X.stack = X.env :: X.outer := by rfl) (hf : X.env.frame = some X.env.locals := by rfl) :
    SM X W (.Try body [.ExceptHandler (some (.Name x np)) none (b0 :: suite) pos'] [] [] pos) (sTry m x m2) := by
  obtain ⟨C, hm, hx⟩ := c.ex
  refine ps_weak (ps_try_only (ts := fun _ _ _ => TS' X.K X.mg W0 m2) (tb := fun W => TS' X.K X.mg W m) hs hf ⟨hg, hdb, .inl hm⟩ tk hb fun a oe cls d pn _ _ => hsu a oe pn) fun D σ H ⟨b, ρ, F, e, s, r, q⟩ => ?_
  refine ⟨b, ρ, F, e, s, r, ?_⟩
  unfold sTry at q
  cases hm1 : m e s with
  | no => rw [hm1] at q; exact q
  | ok f e' s' =>
    rw [hm1] at q
    cases f <;> exact q
  | exc y e' s' =>
    rw [hm1] at q
    simp only [] at q
    by_cases hy : y.cls = x
    · rw [if_pos hy] at q
      intro cls dd σ' ρ' F' H' r1 ⟨C', dx, fs, e1, e2, _⟩
      rw [hy, hm] at e2
      cases e2
      subst e1
      refine ⟨true, hx, fun _ a _ => ⟨b, ρ', F', e', s', r1, ?_⟩, fun z => nomatch z⟩
      exact noX_pstS q
    · rw [if_neg hy] at q
      exact q.elim
end
end Mi

set_option Elab.async false
set_option linter.all false
set_option autoImplicit false
set_option maxRecDepth 100000
set_option maxHeartbeats 4000000
/-! Mi, part V: a dict of the module; a def called through a name that holds it. -/
namespace Mi
open PySem L2
/-- the entries of a written dict: text keys, data that hang on nothing -/
inductive Ents (K : PySem.W.Frag) (mg : Str → Option Value) : List DictEntry → List (Str × D) → Prop
  | nil : Ents K mg [] []
  | cons {h : Int} {z : Str} {t : Tok} {u : Value} {v : V} {d : D} {es : List DictEntry} {ps : List (Str × D)} : RelV v u → (∀ ρ F, At K mg ρ F v d) → Ents K mg es ps → Ents K mg (⟨h, .str z t, u⟩ :: es) ((z, d) :: ps)
structure Fm (w : World) (K : PySem.W.Frag) (mg : Str → Option Value) (x : Str) (tbl : List (Str × D)) : Prop where
  ex : ∃ (d : Addr) (es : Array DictEntry) (n : Nat), mg x = some (.ref d) ∧ KDict K w d es n ∧ Ents K mg es.toList tbl
def fmGet (tbl : List (Str × D)) (z : Str) : Option D := (tbl.find? fun p => p.1 == z).map (·.2)
theorem ents_find {K : PySem.W.Frag} {mg : Str → Option Value} {z : Str} : ∀ {es : List DictEntry} {ps : List (Str × D)}, Ents K mg es ps → es.any (·.refKey) = false ∧
    ((es.find? (·.key.isStr z) = none ∧ fmGet ps z = none) ∨ ∃ e v d, es.find? (·.key.isStr z) = some e ∧ RelV v e.val ∧ fmGet ps z = some d ∧ ∀ ρ F, At K mg ρ F v d)
  | _, _, .nil => ⟨rfl, .inl ⟨rfl, rfl⟩⟩
  | _, _, .cons (h := h) (z := y) (t := t) (u := u) (v := v) (d := d) (es := es) (ps := ps) r a k => by
    obtain ⟨h1, h2⟩ := ents_find (z := z) k
    refine ⟨?_, ?_⟩
    · rw [List.any_cons, h1]
      rfl
    · by_cases c : (y == z) = true
      · refine .inr ⟨⟨h, .str y t, u⟩, v, d, ?_, r, ?_, a⟩
        · exact List.find?_cons_of_pos c
        · unfold fmGet
          rw [List.find?_cons_of_pos (by exact c)]
          rfl
      · have e1 : List.find? (·.key.isStr z) (⟨h, .str y t, u⟩ :: es) = es.find? (·.key.isStr z) := List.find?_cons_of_neg (by exact c)
        have e2 : fmGet ((y, d) :: ps) z = fmGet ps z := by
          unfold fmGet
          rw [List.find?_cons_of_neg (by exact c)]
        rw [e1, e2]
        exact h2
theorem fm_ns {w : World} {K : PySem.W.Frag} {mg : Str → Option Value} {d : Addr} {es : Array DictEntry} {n : Nat} {tbl : List (Str × D)} (D : KDict K w d es n) (E : Ents K mg es.toList tbl) (z : Str) :
    (PySem.W.nsIn K d z = some none ∧ fmGet tbl z = none) ∨ ∃ u v dd, PySem.W.nsIn K d z = some (some u) ∧ RelV v u ∧ fmGet tbl z = some dd ∧ ∀ ρ F, At K mg ρ F v dd := by
  obtain ⟨h1, h2⟩ := ents_find (z := z) E
  unfold PySem.W.nsIn
  rw [D.at_]
  rcases h2 with ⟨h2, h3⟩ | ⟨e, v, dd, h2, h3, h4, h5⟩
  · refine .inl ⟨?_, h3⟩
    simp only [h2, h1]
    rfl
  · refine .inr ⟨e.val, v, dd, ?_, h3, h4, h5⟩
    simp only [h2]
def tNiF (tbl : List (Str × D)) (m : M D) : M Bool := bnd m fun d => match d with
  | .str z => ret (fmGet tbl z).isNone
  | _ => lift none
def mIxF (tbl : List (Str × D)) (m : M D) : M D := bnd m fun d => match d with
  | .str z => lift (fmGet tbl z)
  | _ => lift none
section
variable {X : Cx} {W : WX} {x : Str} {tbl : List (Str × D)} {a : Expr} {ma : M D} {p pos : Pos}
theorem tc_nif (g : Fm X.w X.K X.mg x tbl) (ha : EM X W a ma) (hg : Gl X x := by rfl) (hd : (x == ("__debug__" : Str)) = false := by decide +kernel) (hm : behindInMarks .NotIn (.Name x p) = false := by rfl) : TM X W (.Compare a [.NotIn] [.Name x p] pos) (tNiF tbl ma) := by
  obtain ⟨d, es, n, h1, h2, h3⟩ := g.ex
  refine pt_weak (pt_cmpR (op_notIn_kd h2) ha (pe_glob (v := .ref d) hg h1 rfl hd) hm) fun σ H Q h => one anti_B h fun v d1 b ρ F H e s r a1 q => ?_
  cases a1 with
  | @str z k1 =>
    rcases fm_ns h2 h3 z with ⟨g1, g2⟩ | ⟨u, v, dd, g1, g2, g3, g4⟩
    · refine ⟨z, none, rfl, rfl, g1, true, rfl, ?_⟩
      have q : Pst X.K X.mg W aB b σ e ρ F H (ret (fmGet tbl z).isNone e s) Q := q
      rw [g2] at q
      exact q.ret r rfl
    · refine ⟨z, some u, rfl, rfl, g1, false, rfl, ?_⟩
      have q : Pst X.K X.mg W aB b σ e ρ F H (ret (fmGet tbl z).isNone e s) Q := q
      rw [g3] at q
      exact q.ret r rfl
  | _ => exact q.elim
theorem xixf (g : Fm X.w X.K X.mg x tbl) (ha : EM X W a ma) (hg : Gl X x := by rfl) (hd : (x == ("__debug__" : Str)) = false := by decide +kernel) (hs : PlainIx a := by exact fun _ _ => rfl) : EM X W (.Subscript (.Name x p) a pos) (mIxF tbl ma) := by
  obtain ⟨d, es, n, h1, h2, h3⟩ := g.ex
  refine pe_weak (pe_ix ix_kdict (pe_glob (v := .ref d) hg h1 rfl hd) ha hs) fun σ H Q h => one anti_D h fun v d1 b ρ F H e s r a1 q => ?_
  cases a1 with
  | @str z k1 =>
    have q : Pst X.K X.mg W (aD X.K X.mg) b σ e ρ F H (lift (fmGet tbl z) e s) Q := q
    rcases fm_ns h2 h3 z with ⟨g1, g2⟩ | ⟨u, v, dd, g1, g2, g3, g4⟩
    · rw [g2] at q
      exact q.elim
    · rw [g3] at q
      exact ⟨d, z, v, rfl, rfl, ⟨es, n, u, h2.at_, h2.lit, g1, g2⟩, q v ρ F H Ext.refl r (g4 ρ F)⟩
  | _ => exact q.elim
end
/-! ### a name holds a def -/
def mCV (tbl : Str → Option Fn) (i : Nat) (n : M (List D)) : M B := fun e s => match e[i]? with
  | some (.dat (.fn x)) => match tbl x with
    | some f => mCF (noXF f) n e s
    | none => .no
  | _ => .no
structure TblOk (P : Program) (w : World) (K : PySem.W.Frag) (mg : Str → Option Value) (base : Heap) (k : Nat) (tbl : Str → Option Fn) : Prop where
  ok : ∀ x f, tbl x = some f → ∃ np, (∀ ds s, ds.length ≠ np → f ds s = .no) ∧ Cal P w K mg base k x np f
theorem pe_ex {X : Cx} {e : Expr} {ι : Type} {P : ι → Prop} {t : ι → TE} (h : ∀ i, P i → PE X e (t i)) : PE X e (fun σ H Q => ∃ i, P i ∧ t i σ H Q) := ⟨fun pins s σ H Q I ⟨i, hp, q⟩ => (h i hp).run pins s σ H Q I q⟩
section
variable {X : Cx} {W : WX} {x : Str} {a : Expr} {es : List Expr} {n : M (List D)} {p pos : Pos} {k : Nat} {tbl : Str → Option Fn}
theorem xcallv {j : Nat} (TB : TblOk X.prog X.w X.K X.mg X.base j tbl) (i : Nat) (ha : AM X W (a :: es) n) (hr : Room k X.A := by assumption) (hj : j ≤ k := by omega) (hN : X.N[i]? = some x := by rfl) (hv : Vis X.env.scope x := by first | exact Or.inl rfl | exact Or.inr (Or.inl rfl) | exact Or.inr (Or.inr rfl))
    (hd : (x == ("__debug__" : Str)) = false := by decide +kernel) (hcd : (x == ("__classdict__" : Str)) = false := by decide +kernel)
    (he : starEach (a :: es) X.env = (false, eval a X.env) :: starEach es X.env := by rfl) (hpl : (backTo pos (starEach es X.env)).any (·.1) = false := by rfl) : FM X W (.Call (.Name x p) (a :: es) [] pos) (mCV tbl i n) := by
  have base := pe_ex (X := X) (e := .Call (.Name x p) (a :: es) [] pos) (ι := Addr × FuncData × List Str × Nat × Fn)
    (P := fun ⟨f, fd, ps, np, fm⟩ => FnOk X.prog X.w X.K X.mg X.base CX0 j f fd ps (SpF0 X.K X.mg np fm) ∧ PySem.W.keepIn X.K (.ref f) = true ∧ Binds X.K fd ps [])
    (t := fun ⟨f, fd, ps, np, fm⟩ => tCallL i f (SpF0 X.K X.mg np fm) [] (fun _ _ _ => False) (T X.K X.mg W (aDs X.K X.mg) n)) fun ⟨f, fd, ps, np, fm⟩ ⟨h1, h2, h3⟩ => pe_callL h1 (hr.mono hj) hN hv h2 h3 .nil pass0 ha hd hcd he hpl
  refine pe_weak base fun σ H Q ⟨b, ρ, F, e, s, r, q⟩ => ?_
  unfold mCV at q
  cases he1 : e[i]? with
  | none => rw [he1] at q; exact q.elim
  | some z =>
    rw [he1] at q
    cases z with
    | dat d =>
      cases d with
      | fn y =>
        simp only [] at q
        cases hy : tbl y with
        | none => simp only [hy] at q; exact q.elim
        | some fm =>
          simp only [hy] at q
          obtain ⟨np, hn, c⟩ := TB.ok y fm hy
          obtain ⟨f, fd, ps, hp, Fk, hm, hk, hb⟩ := c.ex
          obtain ⟨v, g1, g2⟩ := r.slot i _ he1 (fun z => nomatch z)
          cases g2 with
          | @fn _ fa g3 =>
            rw [hm] at g3
            cases g3
            refine ⟨(f, fd, ps, np, fm), ⟨Fk, hk, hb⟩, g1, ?_⟩
            have h2 := call_core (np := np) (fm := noXF fm) (fun ds s q => by unfold noXF; rw [hn ds s q]) (⟨b, ρ, F, e, s, r, q⟩ : T X.K X.mg W (aF X.K X.mg) (mCF (noXF fm) n) σ H Q) (fun c d H' => W c d σ H') fun _ _ _ z => z
            obtain ⟨b, ρ, F, e, s, r, q⟩ := h2
            refine ⟨b, ρ, F, e, s, r, ?_⟩
            cases hm : n e s with
            | no => rw [hm] at q; exact q
            | exc y e' s' => rw [hm] at q; exact q
            | ok ds e' s' =>
              rw [hm] at q
              intro vs ρ' F' H' x1 r1 a1
              have z := q vs ρ' F' H' x1 r1 a1
              rw [List.append_nil]
              exact noXF_sp z
      | _ => exact q.elim
    | _ => exact q.elim
end
end Mi

set_option Elab.async false
set_option linter.all false
set_option autoImplicit false
set_option maxRecDepth 100000
set_option maxHeartbeats 4000000
/-! Mi, part W: enumerate over a tuple. -/
namespace Mi
open PySem L2
/-- a tuple's items, counted -/
def ItE (K : PySem.W.Frag) (tp : Addr) : It where
  go := fun i H => ∃ (xs : List V) (x : V), SqT K H tp xs ∧ xs[i]? = some x
  yld := fun i H v H' => ∃ T x, v = .ref T ∧ H T = none ∧ H' = upd H T (.tup [.int (i : Nat), x]) ∧ ∀ xs, SqT K H tp xs → xs[i]? = some x
  stop := fun i H => ∃ xs : List V, SqT K H tp xs ∧ xs.length = i
theorem turnE {P : Program} {w : World} {K : PySem.W.Frag} {elts : List Expr} {kk : Nat} {tpos : Pos} (tp en it : Addr) (hei : en ≠ it) (htp : tp ≠ en) (hti : tp ≠ it) :
    Turn P w K (.Tuple elts kk tpos) (ItE K tp) [en, it] en (fun i h => (∃ old, IsEnum h en it ((i : Nat) : Int) old) ∧ h.IsTupleIter it tp i) where
  mem := List.mem_cons_self
  obj := fun i h ⟨⟨old, h1⟩, ⟨o, h2, h3, h4⟩⟩ b hb => by
    rcases List.mem_cons.mp hb with rfl | hb
    · exact ⟨_, h1, fun v z => nomatch z⟩
    · rcases List.mem_cons.mp hb with rfl | hb
      · exact ⟨o, h2, fun v z => by rw [h4] at z; cases z⟩
      · exact absurd hb List.not_mem_nil
  keep := fun i h h' ⟨⟨old, h1⟩, h2⟩ k => ⟨⟨old, k en List.mem_cons_self _ h1⟩, h2.at fun o z => k it (List.mem_cons_of_mem _ List.mem_cons_self) o z⟩
  item := fun X hP hw hK hc i pins s σ H E I hf st ⟨xs, x, hq, hx⟩ => by
    subst hP; subst hw; subst hK
    obtain ⟨⟨old, h1⟩, h2⟩ := st
    obtain ⟨its, rel, tup, _⟩ := I.tuple hq
    obtain ⟨u, hu, ru⟩ := rel.get hx
    have lte : en < s.heap.objs.size := Heap.lt_size h1
    have lti : it < s.heap.objs.size := by
      obtain ⟨_, z, _⟩ := h2
      exact Heap.lt_size z
    have hil : i < its.toArray.size := by
      have := (List.getElem?_eq_some_iff.mp hu).1
      rw [List.size_toArray]
      exact this
    have hd : X.A.in1.handled = none := I.ok.hd hc
    refine wpAny_pyNext_enum_itemD (Draws.tuple hd it tp hti its.toArray) h1 ⟨h2, tup⟩ hil hei (fun m => ?_) fun y h' tk hy out st' tup' hsz hk => ?_
    · rcases List.mem_cons.mp m with z | m
      · exact hei z
      · rcases List.mem_cons.mp m with z | m
        · exact htp z.symm
        · exact absurd m List.not_mem_nil
    · have hyu : y = u := by
        have hy' : its.toArray[i]? = some y := hy
        rw [← Array.getElem?_toList] at hy'
        rw [hu] at hy'
        exact (Option.some.inj hy').symm
      subst hyu
      refine ⟨_, rfl, wpAny_letOwnedTupleGo_enum (s := { s with heap := h', toks := tk + 1 }) out fun h2' en' same => ?_⟩
      have there : h2'.get? s.heap.objs.size = some { cls := .type "tuple", data := .seq #[.int i tk, y] } := (same.2 _ (Nat.ne_of_gt lte)).trans tup'
      have ok : ObjOk X.prog X.w (upd H s.heap.objs.size (.tup [.int (i : Nat), x])) h2' s.heap.objs.size (.tup [.int (i : Nat), x]) :=
        ⟨by show 2 ≤ sizeLine; decide, [.int i tk, y], .cons ⟨_, rfl⟩ (.cons ru .nil), ⟨_, there, rfl, _, rfl⟩⟩
      have ne : ∀ {c : Addr}, c ∉ [en, it] → c ≠ en ∧ c ≠ it := fun {c} hcm => ⟨fun z => hcm (by rw [z]; exact List.mem_cons_self), fun z => hcm (by rw [z]; exact List.mem_cons_of_mem _ List.mem_cons_self)⟩
      have J : Inv X pins σ (upd H s.heap.objs.size (.tup [.int (i : Nat), x])) { s with heap := h2', toks := tk + 1 } :=
        I.turnedNew (ch := [en, it]) (fun c o hcm z => (same.2 c (ne hcm).1).trans (hk c o (ne hcm).1 (ne hcm).2 z)) hf (Nat.le_refl _) ok
      refine ⟨.ref s.heap.objs.size, _, J, rfl, ⟨_, x, rfl, I.hok.fresh (Nat.le_refl _), rfl, fun ys hy => by rw [I.tuple_inj hy hq]; exact hx⟩, ⟨⟨y, ?_⟩, st'.1.at fun o z => (same.2 it hei.symm).trans z⟩, fun c hcm => ?_⟩
      · have e1 : ((i + 1 : Nat) : Int) = (i : Int) + 1 := by omega
        show IsEnum h2' en it ((i + 1 : Nat) : Int) y
        rw [e1]
        exact en'
      · have hlt : c < s.heap.objs.size := by
          rcases List.mem_cons.mp hcm with z | hcm
          · rw [z]
            exact lte
          · rcases List.mem_cons.mp hcm with z | hcm
            · rw [z]
              exact lti
            · exact absurd hcm List.not_mem_nil
        rw [upd_ne (Nat.ne_of_lt hlt)]
        exact (hf c hcm).1
  done := fun X hP hw hK hc i pins s σ H E I hf st ⟨xs, hq, hx⟩ => by
    subst hP; subst hw; subst hK
    obtain ⟨⟨old, h1⟩, h2⟩ := st
    obtain ⟨its, rel, tup, _⟩ := I.tuple hq
    have hl := rel.length
    have hd : X.A.in1.handled = none := I.ok.hd hc
    have he : i = its.toArray.size := by
      rw [List.size_toArray]
      omega
    subst he
    exact wpAny_pyNext_enum_endD (Draws.tuple hd it tp hti its.toArray) h1 ⟨h2, tup⟩ fun h' hx => ⟨rfl, I.turnedL (t' := s.toks) (ch := [en, it]) (fun c o hcm z => hx c o (fun w => hcm (by rw [w]; exact List.mem_cons_of_mem _ List.mem_cons_self)) z) hf⟩
  self := fun A i s Q E ⟨⟨_, h1⟩, _⟩ h => wpAny_pyIter_enum h1 h
theorem newE (tp : Addr) (items : Array Value) :
    Meets (Builtin.«enumerate.__new__» ⟨[.type "enumerate", .ref tp], []⟩) (fun _ R s => s.heap.IsTuple tp items ∧
      R (.ok (.ret (.ref (s.heap.push { cls := .type "tuple_iterator", data := .fields #[.ref tp, .int 0 0] }).objs.size)))
        { s with heap := (s.heap.push { cls := .type "tuple_iterator", data := .fields #[.ref tp, .int 0 0] }).push { cls := .type "enumerate", data := .fields #[.none, .bool false, .ref s.heap.objs.size, rawInt 0, .none, .none] } }) :=
  .of_wp fun prog w A R s ⟨tup, h⟩ => by
    obtain ⟨hp, g, d, tk, os⟩ := s
    have sub := sub_enumerate
    have begins : ∀ {A' : Around} {E : Value → Shared → Prop} {Q : Value → Shared → Prop}, Q (.ref hp.objs.size) ⟨hp.push { cls := .type "tuple_iterator", data := .fields #[.ref tp, .int 0 0] }, g, d, tk, os⟩ → wpAny (model prog w) A' (pyIter (.ref tp)) Q E ⟨hp, g, d, tk, os⟩ :=
      fun q => (begins_tuple tp items).iter prog w _ _ _ _ tup q
    wp_walk using begins
    refine wpAny_stack_any fun _ => wpAny_pure ?_
    split
    · rename_i cl _ _ _ _ _
      cases (cl == Value.type "enumerate")
      all_goals
        wp_walk using begins
        exact ⟨_, rfl, h⟩
    · wp_walk using begins
      exact ⟨_, rfl, h⟩
theorem callE {prog : Program} {w : World} {A : Around} {E : Value → Shared → Prop} {s : Shared} {tp : Addr} {items : Array Value} {Q : Value → Shared → Prop} (tup : s.heap.IsTuple tp items)
    (h : ∀ h', IsEnum h' (s.heap.objs.size + 1) s.heap.objs.size 0 .none → h'.IsTupleIter s.heap.objs.size tp 0 → (∀ b o, s.heap.get? b = some o → h'.get? b = some o) → Q (.ref (s.heap.objs.size + 1)) { s with heap := h' }) :
    wpAny (model prog w) A (call (.type "enumerate") [.ref tp]) Q E s := by
  refine callType_new F.called_enumerate (by decide) (F.typeCall_enumerate_1 _) (F.newCall_enumerate_1 _) (fun obj => F.args_object_init_2 obj _) F.entry_enumerate_new (newE tp items) ⟨tup, ?_⟩
  have sz : (s.heap.push { cls := .type "tuple_iterator", data := .fields #[.ref tp, .int 0 0] }).objs.size = s.heap.objs.size + 1 := Heap.size_push ..
  show _ ∧ _
  rw [sz]
  have en : IsEnum ((s.heap.push { cls := .type "tuple_iterator", data := .fields #[.ref tp, .int 0 0] }).push { cls := .type "enumerate", data := .fields #[.none, .bool false, .ref s.heap.objs.size, rawInt 0, .none, .none] }) (s.heap.objs.size + 1) s.heap.objs.size 0 .none := by
    have z := Heap.get?_push_size (s.heap.push { cls := .type "tuple_iterator", data := .fields #[.ref tp, .int 0 0] }) (o := { cls := .type "enumerate", data := .fields #[.none, .bool false, .ref s.heap.objs.size, rawInt 0, .none, .none] }) rfl
    rw [sz] at z
    exact z
  exact ⟨⟨_, en, rfl⟩, h _ en ⟨_, Heap.get?_push_of_some _ (Heap.get?_push_size _ rfl), rfl, rfl⟩ fun b o x => Heap.get?_push_of_some _ (Heap.get?_push_of_some _ x)⟩
def iTupE (K : PySem.W.Frag) (ta : TA) : TI := fun σ H R => ta σ H fun vs H1 => ∃ tp xs, vs = [.ref tp] ∧ SqT K H1 tp xs ∧ R (ItE K tp) H1
theorem pi_enumT {X : Cx} {e : Expr} {ta : TA} {p pos tpos : Pos} {elts : List Expr} {kk : Nat} (hg : Gl X "enumerate") (hm : X.mg "enumerate" = none) (ha : PA X [e] ta) (hs : starEach [e] X.env = (false, eval e X.env) :: starEach [] X.env) :
    PI X (.Tuple elts kk tpos) (.Call (.Name "enumerate" p) [e] [] pos) (iTupE X.K ta) := by
  refine ⟨fun pins s σ H R I h => PyProof.Rows.Call_ (ld_blt I hg hm PyProof.Rows.boot_enumerate (PyProof.Rows.callWith_type1 (thn (ha.run pos pins s σ H _ I h) fun us s1 hh => ?_) hs rfl))⟩
  · obtain ⟨vs, H1, J, rel, tp, xs, ev, hq, q⟩ := hh
    subst ev
    cases rel with
    | cons r rr =>
      cases rr
      cases r
      obtain ⟨its, rel, tup, _⟩ := J.tuple hq
      refine callE tup fun h' en it keep => ?_
      have lt : tp < s1.heap.objs.size := by
        obtain ⟨_, z, _⟩ := id tup
        exact Heap.lt_size z
      refine wpAny_pyIter_enum en ?_
      have J2 : Inv X pins σ H1 { s1 with heap := h' } := J.kept (t' := s1.toks) keep
      refine ⟨s1.heap.objs.size + 1, [s1.heap.objs.size + 1, s1.heap.objs.size], _, _, H1, rfl, J2, turnE tp (s1.heap.objs.size + 1) s1.heap.objs.size (Nat.succ_ne_self _) (Nat.ne_of_lt (Nat.lt_succ_of_lt lt)) (Nat.ne_of_lt lt), ⟨⟨.none, en⟩, it⟩, fun b hb => ?_, q⟩
      have le : s1.heap.objs.size ≤ b := by
        rcases List.mem_cons.mp hb with z | hb
        · rw [z]
          exact Nat.le_succ _
        · rcases List.mem_cons.mp hb with z | hb
          · exact Nat.le_of_eq z.symm
          · exact absurd hb List.not_mem_nil
      exact J.fpOk le (J.hok.fresh le)
def enuD (ds : List D) : List D := zipD (upto ds.length) ds
def iEnu (m : M D) : M (List D) := bnd m fun d => lift (match d with
  | .tup xs => some (enuD xs)
  | _ => none)
theorem enuD_at {ds : List D} {i : Nat} {d : D} (h : ds[i]? = some d) : (enuD ds)[i]? = some (.tup [.int (i : Nat), d]) := by
  have hl := (List.getElem?_eq_some_iff.mp h).1
  have hu : (upto ds.length)[i]? = some (.int (i : Nat)) := by
    unfold upto
    rw [List.getElem?_map, List.getElem?_range hl]
    rfl
  unfold enuD zipD
  rw [List.getElem?_map, (List.getElem?_zip_eq_some (z := (D.int (i : Nat), d))).mpr ⟨hu, h⟩]
  rfl
theorem enuD_len (ds : List D) : (enuD ds).length = ds.length := by
  unfold enuD zipD upto
  rw [List.length_map, List.length_zip, List.length_map, List.length_range, Nat.min_self]
section
variable {K : PySem.W.Frag} {mg : Str → Option Value} {ρ : List Addr} {F : Hp}
theorem walkE {tp : Addr} {xs : List V} : Walk (ItE K tp) xs.length (fun H => SqT K H tp xs) (YPair (fun i => some (.int (i : Nat))) (fun i => xs[i]?)) :=
  ⟨fun i H hi q => ⟨xs, xs[i], q, List.getElem?_eq_getElem hi⟩, fun H q => ⟨xs, q, rfl⟩, fun i H v H' hi q ⟨t, x, h1, h2, h3, h4⟩ => ⟨t, .int (i : Nat), x, h1, h2, h3, rfl, h4 xs q⟩⟩
theorem wk_enu {a : Addr} {vs : List V} {ds : List D} (h : SqT K F a vs) (k : AtAll K mg ρ F vs ds) : Wk K mg ρ F (ItE K a) (enuD ds) := by
  unfold Wk
  rw [enuD_len, ← k.length]
  refine (walkE (K := K) (tp := a) (xs := vs)).mono (fun H g => sqT_same g h) fun i H x H' hi g y => ?_
  have hi' : i < ds.length := by rw [← k.length]; exact hi
  obtain ⟨v, k1, k2⟩ := k.get (List.getElem?_eq_getElem hi')
  exact yd_pair (enuD_at (List.getElem?_eq_getElem hi')) (fun x e => by cases e; exact .int _) (fun x e => by rw [k1] at e; cases e; exact k2) y
end
section
variable {X : Cx} {W : WX} {a : Expr} {ma : M D} {p pos pt : Pos} {elts : List Expr} {kk : Nat}
theorem ienum (hm : X.mg "enumerate" = none) (h : EM X W a ma) (hg : Gl X "enumerate" := by rfl) (hs : starEach [a] X.env = (false, eval a X.env) :: starEach [] X.env := by rfl) : IM X W (.Tuple elts kk pt) (.Call (.Name "enumerate" p) [a] [] pos) (iEnu ma) :=
  pi_weak (pi_enumT hg hm (a_cons h a_nil hs) hs) fun σ H R h => by
    have e0 : iEnu ma = bnd (aCons ma aNil) fun ds => lift (match ds with
      | [.tup xs] => some (enuD xs)
      | _ => none) := by
      unfold iEnu aCons aNil
      rw [bnd_assoc]
      refine bnd_congr fun d => ?_
      rw [bnd_assoc]
      funext e s
      cases d <;> rfl
    rw [e0] at h
    refine alls anti_It h fun xs ds b ρ F H e s r at1 q => ?_
    cases at1 with
    | nil => exact q.elim
    | @cons v vs d ds a1 a2 =>
      cases a2 with
      | cons _ _ => cases d <;> exact q.elim
      | nil =>
        cases a1 with
        | tup k1 k2 => exact ⟨_, _, rfl, sqT_same r.roots.ex k1, q _ ρ F H Ext.refl r (wk_enu k1 k2)⟩
        | _ => exact q.elim
end
end Mi

set_option Elab.async false
set_option linter.all false
set_option autoImplicit false
set_option maxRecDepth 100000
set_option maxHeartbeats 4000000
/-! Mi, part X: written tuples that methods may be called of, their index; [::-1]. -/
namespace Mi
open PySem L2
def tTupF (t : TA) : TE := fun σ H Q => t σ H fun xs H1 => xs.length ≤ sizeLine ∧ ∀ (p : Addr) (o : Obj), H1 p = none → o.dict = none → Q (.ref p) (upd H1 p (.frz o (.tup xs)))
theorem pe_tupF {X : Cx} {es : List Expr} {t : TA} {kk : Nat} {pos : Pos} (h : PA X es t) : PE X (.Tuple es kk pos) (tTupF t) :=
  ⟨fun pins s σ H Q I hq => wpAny_Tuple_spliced (thn (h.run pos pins s σ H _ I hq) fun us s1 ⟨xs, H1, J, rel, small, q⟩ => by
    refine ⟨by rw [← rel.length]; exact small, ?_⟩
    have new : (s1.heap.push { cls := .type "tuple", data := .seq us.toArray }).get? s1.heap.objs.size = some { cls := .type "tuple", data := .seq us.toArray } := Heap.get?_push_size _ rfl
    have J2 : Inv X pins σ (upd H1 s1.heap.objs.size (.frz { cls := .type "tuple", data := .seq us.toArray } (.tup xs))) { s1 with heap := s1.heap.push { cls := .type "tuple", data := .seq us.toArray } } :=
      J.laid (t' := s1.toks) (fun b u e => Heap.get?_push_of_some _ e) (Nat.le_refl _) ⟨new, small, us, rel, ⟨_, new, rfl, _, rfl⟩⟩
    exact ⟨.ref s1.heap.objs.size, _, J2, rfl, q _ _ (J.hok.fresh (Nat.le_refl _)) rfl⟩)⟩
def mNtup (m : M (List D)) : M D := bnd m fun ds => lift (if ds.length ≤ lim then some (.ntup ds) else none)
section
variable {X : Cx} {W : WX} {a c : Expr} {es : List Expr} {ma mb : M D} {n : M (List D)} {pos p apos cpos : Pos} {kk : Nat}
theorem x_ntup (h : AM X W es n) : EM X W (.Tuple es kk pos) (mNtup n) :=
  pe_weak (pe_tupF h) fun σ H Q h => alls anti_D h fun xs ds b ρ F H e s r a1 q => by
    obtain ⟨d, hd, k⟩ := q.kont r
    by_cases hl : ds.length ≤ lim
    · rw [if_pos hl] at hd
      cases hd
      refine ⟨by rw [a1.length]; exact lim_line hl, fun t o ht ho => ?_⟩
      have g := Gr.laid r.roots.ex ht (.frz o (.tup xs))
      exact k _ _ _ g (.ntup (.inl (.inr ⟨o, upd_same⟩)) ⟨o, _, upd_same, ho⟩ (a1.mono g.frz (List.prefix_refl _)))
    · rw [if_neg hl] at hd
      cases hd
/-- o.m(e, ..) of a written tuple -/
def tBMN (K : PySem.W.Frag) (r : V → List V → Hp → VK → Prop) (to : TE) (t : TA) : TE := fun σ H Q => to σ H fun x H1 => (∃ (q : Addr) (o : Obj) (u : HO) (xs : List V), x = .ref q ∧ H1 q = some (.frz o u) ∧ o.dict = none ∧ SqT K H1 q xs) ∧ t σ H1 fun xs H2 => r x xs H2 Q
theorem pe_bmN {name : Str} {id : String} {r : V → List V → Hp → VK → Prop} {to : TE} {t : TA} {o e : Expr} (pa : PlainAttrs "tuple") (slot : Slot "tuple" name id) (hty : typeOf (.builtin id) = pure (.type "method_descriptor")) (hm : MtR X id r) (ho : PE X o to) (ha : PA X (e :: es) t)
    (hbase : attributeBase o name X.env (eval o X.env) = eval o X.env) (hfew : ((backTo cpos (starEach (e :: es) X.env)).all (fun x => !x.1) && (backToKw cpos (keywordEach [] X.env)).all (fun x => x.1.isSome)
      && decide ((e :: es).length + ([] : List Keyword).length + (if ([] : List Keyword).isEmpty then 0 else 1) < 30)) = true) (hline : (apos.endLine == cpos.line) = true)
    (hs : starEach (e :: es) X.env = (false, eval e X.env) :: starEach es X.env) (hplain : (backTo cpos (starEach es X.env)).any (·.1) = false) : PE X (.Call (.Attribute o name apos) (e :: es) [] cpos) (tBMN X.K r to t) :=
  ⟨fun pins s σ H Q I h => wpAny_Call_method_late hbase hfew hline rfl (thn (ho.run pins s σ H _ I h) fun v s1 ⟨x, H1, J, rx, ⟨q, ob, u, xs, ex, hq, hd, hsq⟩, h2⟩ => by
    subst ex
    cases rx
    obtain ⟨its, _, tup, _⟩ := J.tuple hsq
    have here : s1.heap.get? q = some ob := (show s1.heap.get? q = some ob ∧ _ from J.hok q _ hq).1
    refine ⟨"tuple", id, pa, slot, hty, tup.typeIs, fun c ec => ?_, ?_⟩
    · cases ec
      exact ⟨ob, here, hd⟩
    · have run := ha.run cpos pins s1 σ H1 _ J h2
      rw [hs] at run ⊢
      refine Calls.callWith_builtin (by show (false || (backTo cpos (starEach es X.env)).any (·.1)) = false; rw [hplain] <;> rfl) (Calls.evalArgs_plain (thn run fun us s2 ⟨vs, H2, J2, rel, q2⟩ => ?_))
      exact hm pins s2 σ H2 (.ref q) vs (.ref q) us Q J2 rfl rel q2)⟩
def strsOf : List D → Option (List Str)
  | [] => some []
  | .str x :: ds => (strsOf ds).map (x :: ·)
  | _ :: _ => none
def idxS (z : Str) : List Str → Option Nat
  | [] => none
  | y :: ys => if y = z then some 0 else (idxS z ys).map (· + 1)
def gTix : D → D → Option D
  | .ntup ds, .str z => match strsOf ds with
    | some ys => (idxS z ys).map fun j => .int (j : Nat)
    | none => none
  | _, _ => none
def mTix (ma mb : M D) : M D := bnd ma fun x => match x with
  | .ntup ds => bnd mb fun y => lift (gTix (.ntup ds) y)
  | _ => lift none
theorem strs_at {K : PySem.W.Frag} {mg : Str → Option Value} {ρ : List Addr} {F : Hp} : ∀ {vs : List V} {ds : List D} {ys : List Str}, AtAll K mg ρ F vs ds → strsOf ds = some ys → vs = ys.map V.str
  | _, _, ys, .nil, h => by
    cases h
    rfl
  | _, _, ys, .cons h t, e => by
    cases h with
    | @str x ok =>
      unfold strsOf at e
      cases q : strsOf _ with
      | none =>
        rw [q] at e
        cases e
      | some zs =>
        rw [q] at e
        cases e
        rw [strs_at t q]
        rfl
    | _ => cases e
theorem idx_at {z : Str} : ∀ {ys : List Str} {j : Nat}, idxS z ys = some j → ys[j]? = some z ∧ ∀ m, m < j → ys[m]? ≠ some z
  | [], _, h => by cases h
  | y :: ys, j, h => by
    unfold idxS at h
    by_cases c : y = z
    · rw [if_pos c] at h
      cases h
      exact ⟨by rw [c] <;> rfl, fun m hm => absurd hm (Nat.not_lt_zero m)⟩
    · rw [if_neg c] at h
      obtain ⟨i, h1, h2⟩ := Option.map_eq_some_iff.mp h
      subst h2
      obtain ⟨k1, k2⟩ := idx_at h1
      refine ⟨by simpa using k1, fun m hm => ?_⟩
      cases m with
      | zero =>
        intro w
        exact c (Option.some.inj (by simpa using w))
      | succ m => simpa using k2 m (by omega)
theorem xtix (ha : EM X W a ma) (hb : EM X W c mb) (hbase : attributeBase a "index" X.env (eval a X.env) = eval a X.env := by rfl)
    (hfew : ((backTo cpos (starEach [c] X.env)).all (fun x => !x.1) && (backToKw cpos (keywordEach [] X.env)).all (fun x => x.1.isSome)
      && decide (([c] : List Expr).length + ([] : List Keyword).length + (if ([] : List Keyword).isEmpty then 0 else 1) < 30)) = true := by rfl)
    (hline : (apos.endLine == cpos.line) = true := by rfl) (hs1 : starEach [c] X.env = (false, eval c X.env) :: starEach [] X.env := by rfl) : EM X W (.Call (.Attribute a "index" apos) [c] [] cpos) (mTix ma mb) :=
  pe_weak (pe_bmN PySem.F.plainAttrs_tuple PySem.F.slot_tuple_index PySem.F.type_tuple_index mt_tup_index ha (a_cons (W := W) hb a_nil hs1) hbase hfew hline hs1 rfl) fun σ H Q ⟨b, ρ, F, e, s, r, q⟩ => by
    refine ⟨b, ρ, F, e, s, r, ?_⟩
    unfold mTix at q
    cases hm : ma e s with
    | no => rw [bnd_no hm] at q; exact q
    | exc y e' s' => rw [bnd_exc hm] at q; exact q
    | ok d1 e1 s1 =>
      rw [bnd_ok hm] at q
      intro v ρ1 F1 H1 x1 r1 a1
      cases d1 with
      | ntup ds =>
        cases a1 with
        | @ntup qa vs _ k1 k2 k3 =>
          obtain ⟨o, u, n1, n2⟩ := k2
          refine ⟨⟨qa, o, u, vs, rfl, r1.roots.ex _ _ n1, n2, sqT_same r1.roots.ex k1⟩, b, ρ1, F1, e1, s1, r1, ?_⟩
          unfold aCons
          simp only [] at q
          cases hm2 : mb e1 s1 with
          | no => rw [bnd_no hm2] at q; exact q.elim
          | exc y e' s' => rw [bnd_exc hm2] at q; rw [bnd_exc hm2]; exact Pst.shift (r := Mi.R.exc y e' s') anti_D q x1
          | ok d2 e2 s2 =>
            rw [bnd_ok hm2] at q
            rw [bnd_ok hm2]
            intro us ρ2 F2 H2 x2 r2 a2
            cases a2 with
            | cons ad an =>
              cases an
              cases ad with
              | @str z ok =>
                have q : Pst X.K X.mg W (aD X.K X.mg) b σ e ρ F H (lift (gTix (.ntup ds) (.str z)) e2 s2) Q := q
                unfold gTix at q
                cases hy : strsOf ds with
                | none =>
                  simp only [hy] at q
                  exact q.elim
                | some ys =>
                  simp only [hy] at q
                  cases hj : idxS z ys with
                  | none =>
                    rw [hj] at q
                    exact q.elim
                  | some j =>
                    rw [hj] at q
                    obtain ⟨g1, g2⟩ := idx_at hj
                    refine ⟨qa, ys, z, j, rfl, rfl, ?_, g1, g2, q _ ρ2 F2 H2 (x1.trans x2) r2 (.int _)⟩
                    rw [← strs_at k3 hy]
                    exact sqT_same r2.roots.ex (sqT_same x2.frz k1)
              | _ => exact q.elim
      | _ => exact q.elim
end
end Mi

set_option Elab.async false
set_option linter.all false
set_option autoImplicit false
set_option maxRecDepth 100000
set_option maxHeartbeats 4000000
/-! Mi, part Y: t[::-1]. -/
namespace Mi
open PySem L2
section
variable {prog : Program} {w : World} {A : Around} {E : Value → Shared → Prop} {s : Shared}
theorem adjust_rev (n : Nat) : Builtin.Slice.sliceAdjust none none (-1) (n : Int) = ((n : Int) - 1, -1) := by
  unfold Builtin.Slice.sliceAdjust
  simp
theorem places_rev (n : Nat) : Builtin.Slice.slicePlaces ((n : Int) - 1) (-1) (-1) = n := by
  unfold Builtin.Slice.slicePlaces
  simp
  omega
theorem fm_congr {α : Type} {f g : Nat → Option α} : ∀ (l : List Nat), (∀ k ∈ l, f k = g k) → l.filterMap f = l.filterMap g
  | [], _ => rfl
  | k :: l, h => by
    rw [List.filterMap_cons, List.filterMap_cons, h k List.mem_cons_self, fm_congr l fun j hj => h j (List.mem_cons_of_mem _ hj)]
theorem pick_rev (xs : Array Value) : ((List.range xs.size).filterMap fun (k : Nat) => xs[((xs.size : Int) - 1 + (k : Int) * -1).toNat]?).toArray = xs.toList.reverse.toArray := by
  have e := HT.pick_gen xs.toList.reverse.toArray 0 xs.size
  rw [fm_congr (f := fun (k : Nat) => xs[((xs.size : Int) - 1 + (k : Int) * -1).toNat]?) (g := fun (m : Nat) => xs.toList.reverse.toArray[(((0 : Nat) : Int) + (m : Int) * 1).toNat]?) (List.range xs.size) fun k hk => ?_, e]
  · have h2 : xs.size = xs.toList.reverse.length := by rw [List.length_reverse, Array.length_toList]
    rw [List.drop_zero, h2, List.take_length]
  · have hk' : k < xs.size := List.mem_range.mp hk
    have e1 : (((0 : Nat) : Int) + (k : Int) * 1).toNat = k := by omega
    have e2 : ((xs.size : Int) - 1 + (k : Int) * -1).toNat = xs.size - 1 - k := by omega
    show xs[((xs.size : Int) - 1 + (k : Int) * -1).toNat]? = xs.toList.reverse.toArray[(((0 : Nat) : Int) + (k : Int) * 1).toNat]?
    rw [e1, e2]
    rw [show xs.toList.reverse.toArray[k]? = xs.toList.reverse[k]? from List.getElem?_toArray, List.getElem?_reverse (by rw [Array.length_toList]; exact hk'), Array.length_toList, Array.getElem?_toList]
theorem applied_rev {sl : Addr} {t : Tok} {n : Nat} {Q : Int × Int × Nat → Shared → Prop} (hs : s.heap.IsSliceOf sl .none .none (.int (-1) t)) (h : Q ((n : Int) - 1, -1, n) s) : wpAny (model prog w) A (Builtin.Slice.sliceApplied (.ref sl) (pure (n : Int))) Q E s := by
  obtain ⟨o, ho, hc, hd⟩ := id hs
  unfold Builtin.Slice.sliceApplied Builtin.Slice.sliceFields
  refine wpAny_bind (wpAny_bind (wpAny_field ho hd (x := .none) rfl (wpAny_bind (wpAny_field ho hd (x := .none) rfl (wpAny_bind (wpAny_field ho hd (x := .int (-1) t) rfl (wpAny_pure ?_)))))))
  refine wpAny_bind (PyProof.Rows.slicePart_int ?_)
  show wpAny _ _ (if ((-1 : Int) == 0) = true then _ else _) _ _ s
  rw [if_neg (by decide)]
  refine wpAny_bind (PyProof.Rows.slicePart_none (wpAny_bind (PyProof.Rows.slicePart_none (wpAny_bind (wpAny_pure ?_)))))
  show wpAny _ _ (match Builtin.Slice.sliceAdjust none none (-1) (n : Int) with | (lo, hi) => pure (lo, (-1 : Int), Builtin.Slice.slicePlaces lo hi (-1))) _ _ s
  rw [adjust_rev]
  show wpAny _ _ (pure ((n : Int) - 1, (-1 : Int), Builtin.Slice.slicePlaces ((n : Int) - 1) (-1) (-1))) _ _ s
  rw [places_rev]
  exact wpAny_pure h
theorem get_rev {tp sl : Addr} {items : Array Value} {t : Tok} {Q : Value → Shared → Prop} (ht : PyProof.Rows.IsTup s.heap tp items) (hs : s.heap.IsSliceOf sl .none .none (.int (-1) t))
    (h : Q (.ref s.heap.objs.size) { s with heap := s.heap.push { cls := .type "tuple", data := .seq items.toList.reverse.toArray } }) (small : items.size ≤ sizeLine) : wpAny (model prog w) A (getItem (.ref tp) (.ref sl)) Q E s := by
  have fit : sizeOk (.seq items.toList.reverse.toArray) := by
    show items.toList.reverse.toArray.size ≤ sizeLine
    rw [List.size_toArray, List.length_reverse, Array.length_toList]
    exact small
  obtain ⟨o, ho, hc, hd⟩ := id hs
  have ty : s.TypeIs (.ref sl) "slice" := ⟨o, ho, hc⟩
  unfold getItem
  try with_reducible refine wpAny_holding ?_
  first | refine wpAny_bind (wpAny_pure ?_) | skip
  refine wpAny_bind (wpAny_sequenceKey ht.typeIs (by decide) ?_)
  refine wpAny_bind (wpAny_callSpecial?_slot (name := Str.ofString "__getitem__") ht.typeIs PyProof.Rows.slot_tuple_getitem (wpAny_call_entry PyProof.Rows.slot_tuple_getitem ht.typeIs PyProof.Rows.entry_tuple_getitem ?_ (PyProof.Rows.args_tuple_getitem _ _)))
  show wpAny _ _ (Builtin.Tuple.tupleItemsOf (.ref tp) >>= _) _ _ s
  refine wpAny_bind (PyProof.Rows.tupleItemsOf_ ht (wpAny_bind (wpAny_typeOf ty ?_)))
  rw [if_pos (by decide)]
  refine wpAny_bind (applied_rev hs ?_)
  show wpAny _ _ (if (((items.size : Int) - 1 == 0 && (-1 : Int) == 1 && items.size == items.size) = true) then _ else _) _ _ s
  rw [if_neg (by simp), pick_rev]
  first
    | exact wpAny_bind (m := Builtin.Tuple.tupleExact _) (wpAny_newObj_type (wpAny_pure ⟨_, rfl, wpAny_pure h⟩) fit)
    | exact wpAny_bind (m := Builtin.Tuple.tupleExact _) (wpAny_newObj_type (wpAny_bind (wpAny_pure (wpAny_pure ⟨_, rfl, wpAny_pure h⟩))) fit)
    | exact wpAny_bind (wpAny_bind (m := Builtin.Tuple.tupleExact _) (wpAny_newObj_type (wpAny_pure (wpAny_pure ⟨_, rfl, wpAny_pure h⟩)) fit))
    | exact wpAny_bind (wpAny_bind (m := Builtin.Tuple.tupleExact _) (wpAny_newObj_type (wpAny_pure ⟨_, rfl, wpAny_pure h⟩) fit))
end
def tRevT (K : PySem.W.Frag) (te : TE) : TE := fun σ H Q => te σ H fun x H1 => ∃ a xs, x = .ref a ∧ SqT K H1 a xs ∧ ∀ p, H1 p = none → Q (.ref p) (upd H1 p (.tup xs.reverse))
theorem pe_revT {X : Cx} {e : Expr} {te : TE} {k : Nat} {p1 p2 p3 pos : Pos} (he : PE X e te) : PE X (.Subscript e (.Slice none none (some (.UnaryOp .USub (.Constant (.int 1) k p1) p2)) p3) pos) (tRevT X.K te) :=
  ⟨fun pins s σ H Q I h => PyProof.Rows.Subscript_ (thn (he.run pins s σ H _ I h) fun v s1 ⟨x, H1, J, rx, a, xs, ex, hx, q⟩ => by
    subst ex
    cases rx
    have step : PO X (some (.UnaryOp .USub (.Constant (.int 1) k p1) p2)) (tPart (tUn (rU fun i => .int (-i)) (tC (.int 1)))) := po_some (pe_un un_neg pe_int)
    refine wpAny_Slice (thn (po_none.run pins s1 σ H1 (fun o H2 => o = none ∧ H2 = H1) J ⟨rfl, rfl⟩) fun vl s2 ⟨l, H2, J2, pl, el, e2⟩ => ?_)
    subst el; subst e2
    refine thn (po_none.run pins s2 σ H2 (fun o H3 => o = none ∧ H3 = H2) J2 ⟨rfl, rfl⟩) fun vu s3 ⟨u, H3, J3, pu, eu, e3⟩ => ?_
    subst eu; subst e3
    refine thn (step.run pins s3 σ H3 (fun o H4 => o = some (-1) ∧ H4 = H3) J3 ⟨1, rfl, -1, rfl, rfl, rfl⟩) fun vs s4 ⟨o, H4, J4, ps, eo, e4⟩ => ?_
    subst eo; subst e4
    cases pl; cases pu
    cases ps with
    | int i tk =>
      have J5 : Inv X pins σ H4 { s4 with heap := s4.heap.push { cls := .type "slice", data := .fields #[.none, .none, .int (-1) tk] } } := J4.kept (t' := s4.toks) fun b ob z => Heap.get?_push_of_some _ z
      obtain ⟨its, rel, tup, small⟩ := J5.tuple hx
      have hl := rel.length
      show wpAny (model X.prog X.w) X.A (PyProof.Rows.subscriptTail e (.Slice none none (some (.UnaryOp .USub (.Constant (.int 1) k p1) p2)) p3) (.ref a) (.ref s4.heap.objs.size)) (EP X pins σ Q) X.xe { s4 with heap := s4.heap.push { cls := .type "slice", data := .fields #[.none, .none, .int (-1) tk] } }
      refine PyProof.Rows.tail_any (ops := [.ref a, .ref s4.heap.objs.size]) tup.typeIs PyProof.Rows.slot_tuple_getitem.lookup (get_rev tup (Heap.IsSliceOf.new _ _ _ _) ?_ (by rw [List.size_toArray]; omega)) (by with_unfolding_all rfl)
      refine ⟨.ref _, _, J5.laid (t' := s4.toks) (o := .tup xs.reverse) (fun b ob z => Heap.get?_push_of_some _ z) (Nat.le_refl _) ?_, rfl, q _ (J5.hok.fresh (Nat.le_refl _))⟩
      exact ⟨by rw [List.length_reverse]; exact small, _, rel.reverse, PyProof.Rows.IsTup.new _ _⟩)⟩
def gRev : D → Option D
  | .tup xs => some (.tup xs.reverse)
  | _ => none
def mRev (m : M D) : M D := bnd m fun d => lift (gRev d.top)
theorem xrev {X : Cx} {W : WX} {a : Expr} {ma : M D} {k : Nat} {p1 p2 p3 pos : Pos} (ha : EM X W a ma) : EM X W (.Subscript a (.Slice none none (some (.UnaryOp .USub (.Constant (.int 1) k p1) p2)) p3) pos) (mRev ma) :=
  pe_weak (pe_revT ha) fun σ H Q h => one anti_D h fun v d1 b ρ F H e s r a1 q => by
    obtain ⟨d, hd, kk⟩ := q.kont r
    replace a1 := a1.top
    generalize d1.top = d1 at a1 hd
    cases a1 with
    | @tup qa vs ds s1 t1 =>
      cases hd
      refine ⟨_, _, rfl, sqT_same r.roots.ex s1, fun pp hp => ?_⟩
      have g := Gr.laid r.roots.ex hp (.tup vs.reverse)
      exact kk _ _ _ g (.tup (SqT.of upd_same) (t1.reverse.mono g.frz (List.prefix_refl _)))
    | _ => cases hd
end Mi

set_option Elab.async false
set_option linter.all false
set_option autoImplicit false
set_option maxRecDepth 100000
set_option maxHeartbeats 4000000
/-! Mi, part Z: sorted(set(a list of ints)). -/
namespace Mi
open PySem L2
/-- a new set's object -/
abbrev obS (w : World) : Obj := { cls := .type "set", dict := none, data := .set #[] 0 (.fresh 0 0 (!w.params.followText "set-order")) }
section
variable {P : Program} {w : World} {A : Around} {E : Value → Shared → Prop} {s : Shared}
set_option maxHeartbeats 8000000 in
theorem setL {l : Addr} {items : Array Value} (ns : List Int) {Q : Value → Shared → Prop} (calm : A.handled = none) (hl : s.heap.IsList l items) (hin : PyProof.Rows.IntsAre items.toList ns) (few : ns.length + 1 < scanBound)
    (h : ∀ (h' : Heap) (tk c : Nat), SetR w h' s.heap.objs.size (fun j => decide (j ∈ ns)) c → c ≤ ns.length → (∀ b o, s.heap.get? b = some o → h'.get? b = some o) → Q (.ref s.heap.objs.size) { s with heap := h', toks := tk }) :
    wpAny (model P w) A (call (.type "set") [.ref l]) Q E s := by
  have len : items.size = ns.length := by
    rw [← Array.length_toList]
    exact PyProof.Rows.IntsAre.length hin
  obtain ⟨c0, tl0, mro0⟩ := F.called_set.mro
  have made := F.called_set.made
  have sub := F.called_set.sub
  refine wpAny_call (codeAny_of_tree ?_)
  change wpAny _ _ (callAny (.type "set") _) _ _ _
  refine wpAny_pure ⟨Code.quiet_builtin _ (by decide +kernel), codeAny_builtin F.entry_type_call ?_⟩
  rw [Around.under_plain (weight_type_call_type "set" [.ref l] []) rfl]
  have ntype := F.called_set.notType
  have creates := F.called_set.canCreate
  have called := F.typeCall_set_1 (.ref l)
  repeat (any_goals (first | assumption | wp_step))
  refine codeAny_mono (code_set_led1 (.ref l) (E := E) (Q₁ := fun ob s1 => ob = .ref s.heap.objs.size ∧ s1 = { s with heap := s.heap.push (obS w) }) ⟨rfl, rfl⟩) fun r s1 hr => ?_
  cases r with
  | error e => exact hr
  | ok fl =>
    cases fl with
    | ret ob =>
      obtain ⟨rfl, rfl⟩ := hr
      have made0 : (s.heap.push (obS w)).get? s.heap.objs.size = some (obS w) := Heap.get?_push_size _ rfl
      have ty0 : Shared.TypeIs { s with heap := s.heap.push (obS w) } (.ref s.heap.objs.size) "set" := ⟨_, made0, rfl⟩
      have look := F.called_set.init.lookup
      have bnd0 := F.called_set.init.bind (.ref s.heap.objs.size)
      repeat (any_goals (first | assumption | wp_step))
      refine codeAny_mono (codeAny_call_builtin (R := wants (fun v s2 => v = .none ∧ ∃ h' tk c, s2 = { s with heap := h', toks := tk } ∧ SetR w h' s.heap.objs.size (fun j => decide (j ∈ ns)) c ∧ c ≤ ns.length ∧ ∀ b o, s.heap.get? b = some o → h'.get? b = some o) E)
        F.called_set.init.plain F.entry_set_init (check_set_init_1 ty0 ?_)) fun r2 s2 hr2 => ?_
      · obtain ⟨⟨cl, dc, dt, sl⟩, hol, hcl, nl, hdl⟩ := hl
        simp only at hcl hdl
        subst hcl
        subst hdl
        have hol2 : (s.heap.push (obS w)).get? l = some { cls := .type "list", dict := dc, data := .seq items nl, slots := sl } := Heap.get?_push_of_some _ hol
        have no1 := F.sub_list_set
        have no2 := F.sub_list_frozenset
        have no3 : (Value.type "list" == Value.type "dict") = false := by decide
        have isl : (s.heap.push (obS w)).IsList l items := ⟨_, hol2, rfl, nl, rfl⟩
        unfold Builtin.«set.__init__» noKeywords Builtin.Frozenset.updateFrom
        generalize keep : pyIter = PI
        wp_walk
        subst keep
        refine wpAny_pyIter_list isl (wpAny_bind (wpAny_runValue ?_))
        have lt : l < s.heap.objs.size := Heap.lt_size hol
        have calm3 : A.in1.in1.in1.handled = none := by simp [calm]
        have sz : (s.heap.push (obS w)).objs.size = s.heap.objs.size + 1 := Heap.size_push ..
        have apart : l ≠ (s.heap.push (obS w)).objs.size := by
          rw [sz]
          exact Nat.ne_of_lt (Nat.lt_succ_of_lt lt)
        have out : s.heap.objs.size ∉ [(s.heap.push (obS w)).objs.size, l] := fun m => by
          rw [sz] at m
          rcases List.mem_cons.mp m with z | m
          · exact absurd z (Nat.ne_of_lt (Nat.lt_succ_self _))
          · rcases List.mem_cons.mp m with z | m
            · exact absurd z (Nat.ne_of_gt lt)
            · exact absurd m List.not_mem_nil
        have vals : ∀ (i : Nat) (v : Value), items[i]? = some v → ∃ k t, ns[i]? = some k ∧ v = .int k t := fun i v hv => by
          have hi : i < ns.length := by
            rw [← len]
            exact (Array.getElem?_eq_some_iff.mp hv).1
          obtain ⟨t, e⟩ := PyProof.Rows.IntsAre.int_at hin i v (by rw [Array.getElem?_toList]; exact hv)
          rw [List.getD_eq_getElem?_getD, List.getElem?_eq_getElem hi] at e
          exact ⟨ns[i], t, List.getElem?_eq_getElem hi, e⟩
        refine set_update_ints ((Walks.list calm3 _ l apart items).toS) s.heap.objs.size out ns len few vals (items.size - 0) 0 _ (by omega) (Nat.zero_le _) ⟨⟨_, Heap.get?_push_size _ rfl, rfl, rfl⟩, (isl.push _)⟩ ⟨0, Nat.le_refl 0, setR_new_at (Heap.get?_push_of_some _ made0)⟩ ?_
        rintro ⟨h', g2, d2, tk2, os2⟩ c2 mv le2 set2
        have eg : g2 = s.gens := mv.gens
        have ed : d2 = s.drawn := mv.drawn
        have eo : os2 = s.os := mv.os
        subst eg
        subst ed
        subst eo
        show wpAny _ _ _ _ _ _
        refine wpAny_pure ?_
        show wpAny _ _ (PySem.ret Value.none) _ _ _
        rw [len] at le2
        refine wpAny_pure ⟨rfl, h', tk2, c2, rfl, set2, le2, fun b o e => ?_⟩
        have lb : b < s.heap.objs.size := Heap.lt_size e
        refine mv.heap b o (fun m => ?_) (Heap.get?_push_of_some _ (Heap.get?_push_of_some _ e))
        rcases List.mem_cons.mp m with z | m
        · exact absurd z (Nat.ne_of_lt lb)
        · rcases List.mem_cons.mp m with z | m
          · rw [sz] at z
            exact absurd z (Nat.ne_of_lt (Nat.lt_succ_of_lt lb))
          · exact absurd m List.not_mem_nil
      · cases r2 with
        | error e => exact hr2
        | ok f2 =>
          cases f2 with
          | ret v =>
            obtain ⟨rfl, h', tk, c', rfl, set2, le2, kept⟩ := hr2
            repeat (any_goals (first | assumption | wp_step))
            exact h _ _ _ set2 le2 kept
          | _ => exact hr2.elim
    | _ => exact hr.elim
end
end Mi

set_option Elab.async false
set_option linter.all false
set_option autoImplicit false
set_option maxRecDepth 100000
set_option maxHeartbeats 4000000
/-! Mi, part Za: lists by a key, ascending, nothing twice. -/
namespace Mi
open PySem L2
section
variable {α : Type} (f : α → Int)
def insK (x : α) : List α → List α
  | [] => [x]
  | y :: ys => if f x < f y then x :: y :: ys else if f x = f y then y :: ys else y :: insK x ys
def srtK : List α → List α
  | [] => []
  | x :: xs => insK f x (srtK xs)
variable {f}
theorem mem_insK {x z : α} : ∀ {ys : List α}, z ∈ insK f x ys → z = x ∨ z ∈ ys
  | [], h => .inl (by simpa [insK] using h)
  | y :: ys, h => by
    unfold insK at h
    split at h
    · rcases List.mem_cons.mp h with h | h
      · exact .inl h
      · exact .inr h
    · split at h
      · exact .inr h
      · rcases List.mem_cons.mp h with h | h
        · exact .inr (by rw [h]; exact List.mem_cons_self)
        · rcases mem_insK h with h | h
          · exact .inl h
          · exact .inr (List.mem_cons_of_mem _ h)
theorem insK_mem {x z : α} : ∀ {ys : List α}, z ∈ ys → z ∈ insK f x ys
  | y :: ys, h => by
    unfold insK
    split
    · exact List.mem_cons_of_mem _ h
    · split
      · exact h
      · rcases List.mem_cons.mp h with h | h
        · rw [h]
          exact List.mem_cons_self
        · exact List.mem_cons_of_mem _ (insK_mem h)
theorem insK_key {x : α} : ∀ (ys : List α), ∃ z ∈ insK f x ys, f z = f x
  | [] => ⟨x, List.mem_cons_self, rfl⟩
  | y :: ys => by
    unfold insK
    split
    · exact ⟨x, List.mem_cons_self, rfl⟩
    · split
      · rename_i h
        exact ⟨y, List.mem_cons_self, h.symm⟩
      · obtain ⟨z, h1, h2⟩ := insK_key ys
        exact ⟨z, List.mem_cons_of_mem _ h1, h2⟩
theorem insK_sorted {x : α} : ∀ {ys : List α}, ys.Pairwise (fun a b => f a < f b) → (insK f x ys).Pairwise (fun a b => f a < f b)
  | [], _ => List.pairwise_singleton _ _
  | y :: ys, h => by
    obtain ⟨h1, h2⟩ := List.pairwise_cons.mp h
    unfold insK
    split
    · rename_i c
      refine List.pairwise_cons.mpr ⟨fun z hz => ?_, h⟩
      rcases List.mem_cons.mp hz with e | hz
      · rw [e]
        exact c
      · exact Int.lt_trans c (h1 z hz)
    · split
      · exact h
      · rename_i c1 c2
        refine List.pairwise_cons.mpr ⟨fun z hz => ?_, insK_sorted h2⟩
        rcases mem_insK hz with e | hz
        · rw [e]
          omega
        · exact h1 z hz
theorem mem_srtK {z : α} : ∀ {xs : List α}, z ∈ srtK f xs → z ∈ xs
  | [], h => h
  | x :: xs, h => by
    rcases mem_insK h with h | h
    · rw [h]
      exact List.mem_cons_self
    · exact List.mem_cons_of_mem _ (mem_srtK h)
theorem srtK_key {z : α} : ∀ {xs : List α}, z ∈ xs → ∃ y ∈ srtK f xs, f y = f z
  | x :: xs, h => by
    rcases List.mem_cons.mp h with h | h
    · rw [h]
      exact insK_key (srtK f xs)
    · obtain ⟨y, h1, h2⟩ := srtK_key h
      exact ⟨y, insK_mem h1, h2⟩
theorem srtK_sorted : ∀ (xs : List α), (srtK f xs).Pairwise (fun a b => f a < f b)
  | [] => .nil
  | _ :: xs => insK_sorted (srtK_sorted xs)
/-- there is one such list -/
theorem sorted_uniq : ∀ {a b : List Int}, a.Pairwise (· < ·) → b.Pairwise (· < ·) → (∀ z, z ∈ a ↔ z ∈ b) → a = b
  | [], [], _, _, _ => rfl
  | [], y :: ys, _, _, h => absurd ((h y).mpr List.mem_cons_self) List.not_mem_nil
  | x :: xs, [], _, _, h => absurd ((h x).mp List.mem_cons_self) List.not_mem_nil
  | x :: xs, y :: ys, ha, hb, h => by
    obtain ⟨a1, a2⟩ := List.pairwise_cons.mp ha
    obtain ⟨b1, b2⟩ := List.pairwise_cons.mp hb
    have e : x = y := by
      rcases List.mem_cons.mp ((h x).mp List.mem_cons_self) with q | q
      · exact q
      · rcases List.mem_cons.mp ((h y).mpr List.mem_cons_self) with q2 | q2
        · exact q2.symm
        · have := b1 x q
          have := a1 y q2
          omega
    subst e
    have t : xs = ys := sorted_uniq a2 b2 fun z => by
      constructor
      · intro m
        rcases List.mem_cons.mp ((h z).mp (List.mem_cons_of_mem _ m)) with q | q
        · have := a1 z m
          omega
        · exact q
      · intro m
        rcases List.mem_cons.mp ((h z).mpr (List.mem_cons_of_mem _ m)) with q | q
        · have := b1 z m
          omega
        · exact q
    rw [t]
theorem map_inj_list {g : α → Int} : ∀ {a b : List α}, (∀ x ∈ a, ∀ y ∈ b, g x = g y → x = y) → a.map g = b.map g → a = b
  | [], [], _, _ => rfl
  | [], _ :: _, _, h => by cases h
  | _ :: _, [], _, h => by cases h
  | x :: xs, y :: ys, hi, h => by
    rw [List.map_cons, List.map_cons] at h
    injection h with h1 h2
    rw [hi x List.mem_cons_self y List.mem_cons_self h1, map_inj_list (fun u hu v hv => hi u (List.mem_cons_of_mem _ hu) v (List.mem_cons_of_mem _ hv)) h2]
/-- what is sorted by the key, with the members of xs -/
theorem srtK_uniq {ks xs : List α} (s : ks.Pairwise (fun a b => f a < f b)) (m1 : ∀ z ∈ ks, z ∈ xs) (m2 : ∀ z ∈ xs, ∃ y ∈ ks, f y = f z) (inj : ∀ x ∈ xs, ∀ y ∈ xs, f x = f y → x = y) : ks = srtK f xs := by
  refine map_inj_list (g := f) (fun x hx y hy => inj x (m1 x hx) y (mem_srtK hy)) (sorted_uniq (List.pairwise_map.mpr s) (List.pairwise_map.mpr (srtK_sorted xs)) fun z => ?_)
  constructor
  · intro h
    obtain ⟨y, hy, e⟩ := List.mem_map.mp h
    obtain ⟨u, h1, h2⟩ := srtK_key (f := f) (m1 y hy)
    exact List.mem_map.mpr ⟨u, h1, h2.trans e⟩
  · intro h
    obtain ⟨y, hy, e⟩ := List.mem_map.mp h
    obtain ⟨u, h1, h2⟩ := m2 y (mem_srtK hy)
    exact List.mem_map.mpr ⟨u, h1, h2.trans e⟩
end
theorem code_inj {B : Int} : ∀ {x y : List Int}, x.length = y.length → TS.Bd B x → TS.Bd B y → TS.code B x = TS.code B y → x = y
  | [], [], _, _, _, _ => rfl
  | a :: x, b :: y, hl, hx, hy, h => by
    have hl' : x.length = y.length := by simpa using hl
    rcases Int.lt_trichotomy a b with c | c | c
    · have := TS.code_lt (B := B) hl' hx.tail hy.tail c
      omega
    · subst c
      have h' : TS.code B x = TS.code B y := by
        have h0 : a * B ^ x.length + TS.code B x = a * B ^ y.length + TS.code B y := h
        rw [hl'] at h0
        omega
      rw [code_inj hl' hx.tail hy.tail h']
    · have := TS.code_lt (B := B) hl'.symm hy.tail hx.tail c
      omega
end Mi

set_option Elab.async false
set_option linter.all false
set_option autoImplicit false
set_option maxRecDepth 100000
set_option maxHeartbeats 4000000
/-! Mi, part Zb: sorted(set(..)) of ints, of tuples of ints. -/
namespace Mi
open PySem L2
def rSetIs (K : PySem.W.Frag) (w : World) : List V → Hp → VK → Prop := fun xs H Q => ∃ (l : Addr) (ns : List Int), xs = [.ref l] ∧ SqL K H l (ns.map V.int) ∧ ns.length < 64 ∧ ∀ p c, H p = none → c ≤ ns.length → Q (.ref p) (upd H p (SetO w p (fun j => decide (j ∈ ns)) c))
theorem cr_setIs {X : Cx} (hc : X.calm = true) : CallR X (.type "set") (rSetIs X.K X.w) := by
  intro pins s σ H xs us Q I r h
  obtain ⟨l, ns, rfl, hl, h64, q⟩ := h
  rw [Vals.ref1 r]
  obtain ⟨its, rv, pl, hz⟩ := I.list hl
  refine setL (P := X.prog) (w := X.w) ns (I.ok.hd hc) pl.isList (by simpa using rv.ints) (by unfold scanBound; omega) fun h' tk c R hcn kp => ?_
  have hn : H s.heap.objs.size = none := I.hok.fresh (Nat.le_refl _)
  exact ⟨.ref s.heap.objs.size, upd H s.heap.objs.size (SetO X.w s.heap.objs.size (fun j => decide (j ∈ ns)) c), I.laid (t' := tk) kp (Nat.le_refl _) (setO_new R), rfl, q _ c hn hcn⟩
def intsOf : List D → Option (List Int)
  | [] => some []
  | .int i :: ds => (intsOf ds).map (i :: ·)
  | _ :: _ => none
def tupsOf : List D → Option (List (List Int))
  | [] => some []
  | .tup xs :: ds => match intsOf xs, tupsOf ds with
    | some i, some r => some (i :: r)
    | _, _ => none
  | _ :: _ => none
def tupI (ns : List Int) : D := .tup (ns.map .int)
def bdB (ns : List Int) : Bool := ns.all fun i => decide (0 ≤ i) && decide (i < 1000)
def gSrtSet : D → Option D
  | .lst ds => match intsOf ds with
    | some ns => if ns.length < 64 then some (.lst ((srtK (fun i : Int => i) ns).map .int)) else none
    | none => match tupsOf ds with
      | some (k :: ks) => if (k :: ks).length < 64 ∧ 1 ≤ k.length ∧ ((k :: ks).all fun n => decide (n.length = k.length) && bdB n) = true then some (.lst ((srtK (TS.code 1000) (k :: ks)).map tupI)) else none
      | _ => none
  | _ => none
def mSrtSet (m : M D) : M D := bnd m fun d => lift (gSrtSet d)
section
variable {K : PySem.W.Frag} {mg : Str → Option Value} {ρ : List Addr} {F : Hp}
theorem ints_at : ∀ {vs : List V} {ds : List D} {ns : List Int}, AtAll K mg ρ F vs ds → intsOf ds = some ns → vs = ns.map V.int
  | _, _, _, .nil, h => by
    cases h
    rfl
  | _, _, _, .cons h t, e => by
    cases h with
    | int i =>
      unfold intsOf at e
      cases q : intsOf _ with
      | none =>
        rw [q] at e
        cases e
      | some zs =>
        rw [q] at e
        cases e
        rw [ints_at t q]
        rfl
    | _ => cases e
theorem at_ints (ns : List Int) : AtAll K mg ρ F (ns.map V.int) (ns.map D.int) := by
  induction ns with
  | nil => exact .nil
  | cons n ns ih => exact .cons (.int n) ih
theorem tups_at : ∀ {vs : List V} {ds : List D} {ks : List (List Int)}, AtAll K mg ρ F vs ds → tupsOf ds = some ks → ∃ ps : List (Addr × List Int), vs = ps.map (fun p => V.ref p.1) ∧ ps.map (·.2) = ks ∧ ∀ p ∈ ps, SqT K F p.1 (p.2.map V.int)
  | _, _, _, .nil, h => by
    cases h
    exact ⟨[], rfl, rfl, fun p hp => absurd hp List.not_mem_nil⟩
  | _, _, _, .cons h t, e => by
    cases h with
    | @tup a vs' ds' s1 t1 =>
      unfold tupsOf at e
      cases q : intsOf ds' with
      | none =>
        simp only [q] at e
        cases e
      | some ns =>
        simp only [q] at e
        split at e
        · rename_i i r e1 e2
          cases e
          cases e1
          obtain ⟨ps, h1, h2, h3⟩ := tups_at t e2
          rw [ints_at t1 q] at s1
          refine ⟨(a, ns) :: ps, by rw [h1] <;> rfl, by rw [List.map_cons, h2], fun p hp => ?_⟩
          rcases List.mem_cons.mp hp with z | hp
          · rw [z]
            exact s1
          · exact h3 p hp
        · cases e
    | _ => cases e
theorem at_tups : ∀ {ps : List (Addr × List Int)}, (∀ p ∈ ps, SqT K F p.1 (p.2.map V.int)) → AtAll K mg ρ F (ps.map fun p => V.ref p.1) (ps.map fun p => tupI p.2)
  | [], _ => .nil
  | p :: ps, h => .cons (.tup (h p List.mem_cons_self) (at_ints p.2)) (at_tups fun q hq => h q (List.mem_cons_of_mem _ hq))
end
section
variable {X : Cx} {W : WX} {a : Expr} {ma : M D} {p p2 q pos : Pos} {k : Nat}
theorem xsrtset (hc : X.calm = true) (hm : X.mg "sorted" = none) (hm2 : X.mg "set" = none) (ha : EM X W a ma) (hr : Room k X.A := by assumption) (hg : Gl X "sorted" := by rfl) (hg2 : Gl X "set" := by rfl)
    (he : starEach [.Call (.Name "set" p2) [a] [] q] X.env = (false, eval (.Call (.Name "set" p2) [a] [] q) X.env) :: starEach [] X.env := by rfl) (he2 : starEach [a] X.env = (false, eval a X.env) :: starEach [] X.env := by rfl) :
    EM X W (.Call (.Name "sorted" p) [.Call (.Name "set" p2) [a] [] q] [] pos) (mSrtSet ma) := by
  have inner := pe_callTy (X := X) (p := p2) (pos := q) ((cr_setIs hc).or (cr_setOfT hc (hu64 hr))) hg2 hm2 (by decide +kernel) (pa_cons ha pa_nil he2) (by decide) (by decide +kernel) he2 rfl
  have outer := pe_callB (X := X) (p := p) (pos := pos) ((cr_sortedSet hc).or (cr_sortedT hc)) hg hm (by decide +kernel) (pa_cons inner pa_nil he) (by decide) (by decide +kernel) he rfl
  refine pe_weak outer fun σ H Q h => ?_
  refine one (W := W) (ma := ma) (f := fun d => lift (gSrtSet d)) (A := aD X.K X.mg) (Q := Q) anti_D h fun v d1 b ρ F H e s r a1 pq => ?_
  obtain ⟨d, hd, kk⟩ := pq.kont r
  have sf := r.roots.ex
  cases a1 with
  | @lst la vs ds l1 l2 =>
    unfold gSrtSet at hd
    cases hi : intsOf ds with
    | some ns =>
      simp only [hi] at hd
      by_cases h64 : ns.length < 64
      · rw [if_pos h64] at hd
        cases hd
        have l1' := sf _ _ l1
        rw [ints_at l2 hi] at l1'
        refine .inl ⟨la, ns, rfl, .inl (.inl l1'), h64, fun t c ht hcn => ?_⟩
        have g1 := Gr.laid sf ht (SetO X.w t (fun j => decide (j ∈ ns)) c)
        refine .inl ⟨t, _, c, rfl, upd_same, by omega, fun ns' t2 srt mem _ ht2 => ?_⟩
        have g2 := Gr.laid g1.ex ht2 (.lst (ns'.map V.int))
        have e1 : ns' = srtK (fun i : Int => i) ns := srtK_uniq srt (fun z hz => of_decide_eq_true ((mem z).mp hz)) (fun z hz => ⟨z, (mem z).mpr (decide_eq_true hz), rfl⟩) fun x _ y _ e => e
        rw [← e1] at kk
        exact kk _ _ _ (g1.trans g2) (.lst upd_same (at_ints ns'))
      · rw [if_neg h64] at hd
        cases hd
    | none =>
      simp only [hi] at hd
      cases ht : tupsOf ds with
      | none =>
        simp only [ht] at hd
        cases hd
      | some kl =>
        cases kl with
        | nil =>
          simp only [ht] at hd
          cases hd
        | cons k0 ks =>
          simp only [ht] at hd
          by_cases hcnd : (k0 :: ks).length < 64 ∧ 1 ≤ k0.length ∧ ((k0 :: ks).all fun n => decide (n.length = k0.length) && bdB n) = true
          · rw [if_pos hcnd] at hd
            cases hd
            obtain ⟨c1, c2, c3⟩ := hcnd
            obtain ⟨ps, p1, p2', p3⟩ := tups_at l2 ht
            have l1' := sf _ _ l1
            rw [p1] at l1'
            have bd : ∀ n ∈ k0 :: ks, n.length = k0.length ∧ TS.Bd 1000 n := fun n hn => by
              have z := List.all_eq_true.mp c3 n hn
              rw [Bool.and_eq_true] at z
              refine ⟨of_decide_eq_true z.1, fun m hm => ?_⟩
              have y := List.all_eq_true.mp z.2 m hm
              rw [Bool.and_eq_true] at y
              exact ⟨of_decide_eq_true y.1, of_decide_eq_true y.2⟩
            have hlen : ps.length = (k0 :: ks).length := by rw [← p2', List.length_map]
            refine .inr ⟨la, ps, rfl, .inl (.inl l1'), fun z hz => sqT_same sf (p3 z hz), by omega, fun t L htn m1 m2 => ?_⟩
            have g1 := Gr.laid sf htn (SetTO X.prog X.w t L)
            have sub : ∀ z ∈ L, z.2 ∈ k0 :: ks := fun z hz => by
              rw [← p2']
              exact List.mem_map_of_mem (m1 z hz)
            refine .inr ⟨t, L, k0.length, 1000, rfl, upd_same, fun z hz => sqT_same (g1.frz.trans g1.ex) (p3 z (m1 z hz)), c2, fun z hz => bd _ (sub z hz), fun L' t2 perm nd few srt ht2 => ?_⟩
            have g2 := Gr.laid g1.ex ht2 (.lst (L'.map fun z => V.ref z.1))
            have inj : ∀ x ∈ k0 :: ks, ∀ y ∈ k0 :: ks, TS.code 1000 x = TS.code 1000 y → x = y := fun x hx y hy e => code_inj ((bd x hx).1.trans (bd y hy).1.symm) (bd x hx).2 (bd y hy).2 e
            have inL : ∀ z ∈ L', z.2 ∈ k0 :: ks := fun z hz => sub z (perm.mem_iff.mp hz)
            have e1 : L'.map (·.2) = srtK (TS.code 1000) (k0 :: ks) := by
              refine srtK_uniq ?_ (fun z hz => ?_) (fun z hz => ?_) inj
              · -- nowhere two of one code
                have s1 : (L'.map (·.2)).Pairwise (fun a b => TS.code 1000 a ≤ TS.code 1000 b) := List.pairwise_map.mpr srt
                refine List.Pairwise.imp_of_mem (fun {x y} hx hy h => ?_) (s1.and nd)
                obtain ⟨x', hx', rfl⟩ := List.mem_map.mp hx
                obtain ⟨y', hy', rfl⟩ := List.mem_map.mp hy
                obtain ⟨h1, h2⟩ := h
                rcases Int.lt_or_eq_of_le h1 with z | z
                · exact z
                · exact absurd (inj _ (inL x' hx') _ (inL y' hy') z) h2
              · obtain ⟨z', hz', rfl⟩ := List.mem_map.mp hz
                exact inL z' hz'
              · rw [← p2'] at hz
                obtain ⟨z', hz', rfl⟩ := List.mem_map.mp hz
                obtain ⟨y, hy, e⟩ := List.mem_map.mp (m2 z' hz')
                exact ⟨z'.2, List.mem_map.mpr ⟨y, perm.mem_iff.mpr hy, e⟩, rfl⟩
            have e2 : (srtK (TS.code 1000) (k0 :: ks)).map tupI = L'.map fun z => tupI z.2 := by
              rw [← e1, List.map_map]
              rfl
            rw [e2] at kk
            refine kk _ _ _ (g1.trans g2) (.lst upd_same (at_tups fun z hz => sqT_same (g1.frz.trans g2.frz) (p3 z (m1 z (perm.mem_iff.mp hz)))))
          · rw [if_neg hcnd] at hd
            cases hd
  | _ => cases hd
end
end Mi

set_option Elab.async false
set_option linter.all false
set_option autoImplicit false
set_option maxRecDepth 100000
set_option maxHeartbeats 4000000
/-! Mi, part Zc: short words for calls of defs that call themselves, that raise. -/
namespace Mi
open PySem L2
section
variable {P : Program} {w : World} {K : PySem.W.Frag} {mg : Str → Option Value} {base : Heap}
theorem Df.cal0 {x : Str} {st : Stmt} {ps : List Str} (F : Df K mg x st ps) (k : Nat) : Cal P w K mg base k x ps.length (fun _ _ => .no) := by
  obtain ⟨f, fd, h1, h2, h3⟩ := F.ex
  refine ⟨f, fd, ps, rfl, ⟨fun vs H Q E h => h.1, fun A outer s H args us vs Q E hr he hb hv h => ?_⟩, h2, h1.kp, h3⟩
  obtain ⟨_, ρ, F, s, ds, r, a, p⟩ := h
  exact p.elim
end
section
variable {X : Cx} {W : WX} {a : Expr} {es : List Expr} {n : M (List D)} {x : Str} {p pos : Pos} {k : Nat}
theorem xcallF {np : Nat} {fm : Fn} {j : Nat} (c : Cal X.prog X.w X.K X.mg X.base j x np fm) (hn : ∀ ds s, ds.length ≠ np → fm ds s = .no) (ha : AM X W (a :: es) n) (hr : Room k X.A := by assumption) (hj : j ≤ k := by omega) (hg : Gl X x := by rfl)
    (hdb : (x == ("__debug__" : Str)) = false := by decide +kernel) (he : starEach (a :: es) X.env = (false, eval a X.env) :: starEach es X.env := by rfl) (hpl : (backTo pos (starEach es X.env)).any (·.1) = false := by rfl) :
    FM X W (.Call (.Name x p) (a :: es) [] pos) (mCF (noXF fm) n) := f_call c hn (hr.mono hj) hg ha hdb he hpl
theorem xcallX {np : Nat} {m : M Fl} {nn : Nat} {j : Nat} (c : CalX X.prog X.w X.K X.mg X.base j x np (fnM np nn m)) (tk : Takes X W) (ha : AM X W (a :: es) n) (hr : Room k X.A := by assumption) (hj : j ≤ k := by omega) (hg : Gl X x := by rfl)
    (hdb : (x == ("__debug__" : Str)) = false := by decide +kernel) (he : starEach (a :: es) X.env = (false, eval a X.env) :: starEach es X.env := by rfl) (hpl : (backTo pos (starEach es X.env)).any (·.1) = false := by rfl) :
    FM X W (.Call (.Name x p) (a :: es) [] pos) (mCF (fnM np nn m) n) := f_callX c fnM_len tk (hr.mono hj) hg ha hdb he hpl
end
end Mi

set_option Elab.async false
set_option linter.all false
set_option autoImplicit false
set_option maxRecDepth 100000
set_option maxHeartbeats 4000000
/-! Mi, part Zd: a, b = x, y where a comprehension sees a name. -/
namespace Mi
open PySem L2
section
variable {X : Cx} {W : WX} {n : M (List B)} {pos : Pos}
theorem ball_laid {K : PySem.W.Frag} {mg : Str → Option Value} {ρ : List Addr} {F H H0 : Hp} {p : Addr} {o : HO} (hp : H p = none) : ∀ {vs : List V} {xs : List B}, BAll K mg H0 ρ F H vs xs → BAll K mg H0 ρ F (upd H p o) vs xs
  | _, _, .nil => .nil
  | _, _, .cons (v := v) (x := x) h1 h2 t => by
    refine .cons ?_ h2 (ball_laid hp t)
    have ne : ∀ {c : Addr} {u : HO}, H c = some u → upd H p o c = some u := fun {c u} h => by rw [upd_ne (ne_of_none h hp)]; exact h
    cases x with
    | unb => exact h1
    | dat d => exact h1
    | own ds =>
      obtain ⟨c, xs, k1, k2, k3⟩ := h1
      exact ⟨c, xs, k1, ne k2, k3⟩
    | ownK ks vs =>
      obtain ⟨c, xs, k1, k2, k3⟩ := h1
      exact ⟨c, xs, k1, ne k2, k3⟩
    | ownT ks vs =>
      obtain ⟨c, xs, k1, k2, k3⟩ := h1
      exact ⟨c, xs, k1, ne k2, k3⟩
theorem par_coreT {ks : List Nat} {D : Ends} {σ : St} {H : Hp} (h : TS' X.K X.mg W (sPar ks n) D σ H) : T X.K X.mg W (aBs X.K X.mg) n σ H fun vs H1 => vs.length = ks.length ∧ ∀ p, H1 p = none → D.nx (stAll ks vs σ) (upd H1 p (.tup vs)) := by
  obtain ⟨b, ρ, F, e, s, r, p⟩ := h
  refine ⟨b, ρ, F, e, s, r, ?_⟩
  unfold sPar at p
  cases hm : n e s with
  | no => rw [bnd_no hm] at p; exact p
  | exc y e' s' => rw [bnd_exc hm] at p; exact fun cls dd ρ' F' H' x1 r1 a1 => p cls dd σ ρ' F' H' r1 a1
  | ok xs e1 s1 =>
    rw [bnd_ok hm] at p
    intro vs ρ1 F1 H1 x1 r1 a1
    by_cases hl : xs.length = ks.length
    · simp only [hl, if_true] at p
      refine ⟨(ball_len a1).trans hl, fun t ht => ?_⟩
      obtain ⟨_, r2, _, _⟩ := r1.made ht (.tup vs)
      exact p _ ρ1 F1 _ (puts ks r2 (ball_laid ht a1) (fun c hc => none_base r hc) fun j y c hj oy hc w => (r.own_there (x1.sub c w)).1 (ball_later a1 j y hj oy c hc))
    · simp only [hl, if_false] at p
      exact p.elim
theorem sparc2 (i j : Nat) {x y : Str} {a b : Expr} {px py pt : Pos} {kt k2 pt2} (hN : X.N.Nodup) (ha : BM X W [a, b] n) (hc : X.calm = true := by rfl) (hi : X.N[i]? = some x := by rfl) (hj : X.N[j]? = some y := by rfl)
    (hx : Loc X.env.scope x := by first | exact Or.inl rfl | exact Or.inr rfl) (hy : Loc X.env.scope y := by first | exact Or.inl rfl | exact Or.inr rfl) (hfx : X.fn x = true := by rfl) (hfy : X.fn y = true := by rfl)
    (hw : swappedStores [.Tuple [.Name x px, .Name y py] kt pt] (.Tuple [a, b] k2 pt2) X.env = pure none := by rfl)
    (hs : swapsWithSole [.Tuple [.Name x px, .Name y py] kt pt] (.Tuple [a, b] k2 pt2) pos.line X.env = pure false := by rfl)
    (h1 : (assignEach [.Tuple [.Name x px, .Name y py] kt pt] X.env).map (·.2) = [assign (.Tuple [.Name x px, .Name y py] kt pt) X.env] := by rfl)
    (h2 : (assignEach [.Name x px, .Name y py] X.env).map (·.2) = assign (.Name x px) X.env :: (assignEach [.Name y py] X.env).map (·.2) := by rfl) (h3 : (assignEach [.Name y py] X.env).map (·.2) = assign (.Name y py) X.env :: (assignEach [] X.env).map (·.2) := by rfl)
    (h4 : (assignEach [.Name x px, .Name y py] X.env).length = 2 := by rfl) (h5 : (assignEach [.Name x px, .Name y py] X.env).findIdx? (·.1) = none := by rfl) :
    SM X W (.Assign [.Tuple [.Name x px, .Name y py] kt pt] (.Tuple [a, b] k2 pt2) pos) (sPar [i, j] n) :=
  ps_weak (ps_asg (pe_tup ha) (pg_tup hc (pgs_cons (pg_name hN hi hx (.inl hfx)) (pgs_cons (pg_name hN hj hy (.inl hfy)) pgs_nil h3) h2) h4 h5) hs hw h1) fun D σ H h => by
    obtain ⟨b, ρ, F, e, s, r, p⟩ := par_coreT h
    refine ⟨b, ρ, F, e, s, r, ?_⟩
    cases hm : n e s with
    | no => rw [hm] at p; exact p
    | exc y e' s' => rw [hm] at p; exact p
    | ok xs e1 s1 =>
      rw [hm] at p
      intro vs ρ1 F1 H1 x1 r1 a1
      obtain ⟨l, q⟩ := p vs ρ1 F1 H1 x1 r1 a1
      match vs, l, q with
      | [v, w], _, q => exact ⟨(show 2 ≤ sizeLine by decide), fun t ht => ⟨t, [v, w], rfl, SqT.of upd_same, rfl, v, [w], rfl, w, [], rfl, rfl, q t ht⟩⟩
theorem sparc3 (i j l : Nat) {x y z : Str} {a b c : Expr} {px py pz pt : Pos} {kt k2 pt2} (hN : X.N.Nodup) (ha : BM X W [a, b, c] n) (hc : X.calm = true := by rfl) (hi : X.N[i]? = some x := by rfl) (hj : X.N[j]? = some y := by rfl) (hl : X.N[l]? = some z := by rfl)
    (hx : Loc X.env.scope x := by first | exact Or.inl rfl | exact Or.inr rfl) (hy : Loc X.env.scope y := by first | exact Or.inl rfl | exact Or.inr rfl) (hz : Loc X.env.scope z := by first | exact Or.inl rfl | exact Or.inr rfl) (hfx : X.fn x = true := by rfl) (hfy : X.fn y = true := by rfl) (hfz : X.fn z = true := by rfl)
    (hw : swappedStores [.Tuple [.Name x px, .Name y py, .Name z pz] kt pt] (.Tuple [a, b, c] k2 pt2) X.env = pure none := by rfl)
    (hs : swapsWithSole [.Tuple [.Name x px, .Name y py, .Name z pz] kt pt] (.Tuple [a, b, c] k2 pt2) pos.line X.env = pure false := by rfl)
    (h1 : (assignEach [.Tuple [.Name x px, .Name y py, .Name z pz] kt pt] X.env).map (·.2) = [assign (.Tuple [.Name x px, .Name y py, .Name z pz] kt pt) X.env] := by rfl)
    (h2 : (assignEach [.Name x px, .Name y py, .Name z pz] X.env).map (·.2) = assign (.Name x px) X.env :: (assignEach [.Name y py, .Name z pz] X.env).map (·.2) := by rfl)
    (h2' : (assignEach [.Name y py, .Name z pz] X.env).map (·.2) = assign (.Name y py) X.env :: (assignEach [.Name z pz] X.env).map (·.2) := by rfl) (h3 : (assignEach [.Name z pz] X.env).map (·.2) = assign (.Name z pz) X.env :: (assignEach [] X.env).map (·.2) := by rfl)
    (h4 : (assignEach [.Name x px, .Name y py, .Name z pz] X.env).length = 3 := by rfl) (h5 : (assignEach [.Name x px, .Name y py, .Name z pz] X.env).findIdx? (·.1) = none := by rfl) :
    SM X W (.Assign [.Tuple [.Name x px, .Name y py, .Name z pz] kt pt] (.Tuple [a, b, c] k2 pt2) pos) (sPar [i, j, l] n) :=
  ps_weak (ps_asg (pe_tup ha) (pg_tup hc (pgs_cons (pg_name hN hi hx (.inl hfx)) (pgs_cons (pg_name hN hj hy (.inl hfy)) (pgs_cons (pg_name hN hl hz (.inl hfz)) pgs_nil h3) h2') h2) h4 h5) hs hw h1) fun D σ H h => by
    obtain ⟨b, ρ, F, e, s, r, p⟩ := par_coreT h
    refine ⟨b, ρ, F, e, s, r, ?_⟩
    cases hm : n e s with
    | no => rw [hm] at p; exact p
    | exc y e' s' => rw [hm] at p; exact p
    | ok xs e1 s1 =>
      rw [hm] at p
      intro vs ρ1 F1 H1 x1 r1 a1
      obtain ⟨l, q⟩ := p vs ρ1 F1 H1 x1 r1 a1
      match vs, l, q with
      | [v, w, u], _, q => exact ⟨(show 3 ≤ sizeLine by decide), fun t ht => ⟨t, [v, w, u], rfl, SqT.of upd_same, rfl, v, [w, u], rfl, w, [u], rfl, u, [], rfl, rfl, q t ht⟩⟩
end
end Mi

set_option Elab.async false
set_option linter.all false
set_option autoImplicit false
set_option maxRecDepth 100000
set_option maxHeartbeats 4000000
/-! Mi, part Ze: dicts whose keys are tuples of ints. -/
namespace Mi
open PySem L2
abbrev tk2 (P : Program) (w : World) := tupleKind (intKind P w)
theorem entry_eq (P P' : Program) (w w' : World) (x : List Int × Addr × Value) : entryOfKey (tk2 P w) x = entryOfKey (tk2 P' w') x := rfl
section
variable {X : Cx} {pins : List (Addr × Obj)} {σ : St} {H : Hp} {s : Shared} {a b : Addr} {L : List (Addr × List Int)} {k : List Int}
theorem tab_at (I : Inv X pins σ H s) (h : H a = some (DTO a L)) : TabT a L s.heap := (show TabT a L s.heap ∧ _ from I.hok a _ h).1
theorem tab_dict (I : Inv X pins σ H s) (h : H a = some (DTO a L)) (hk : ∀ p ∈ L, SqT X.K H p.1 (p.2.map V.int)) : s.heap.DictOfH (tk2 X.prog X.w) a (rowsT L) := by
  obtain ⟨_, _, nd, o, es, ep, h1, h2, h3, h4⟩ := tab_at I h
  refine ⟨o, es, ep, h1, h2, h3, h4 X.prog X.w, fun x hx => ?_, ?_⟩
  · obtain ⟨p, hp, rfl⟩ := List.mem_map.mp hx
    exact I.isT (hk p hp)
  · unfold rowsT
    rw [List.map_map]
    exact nd
theorem tab_new {P : Program} {w : World} {h' : Heap} (lo : (a == sysModules) = false) (sz : L.length ≤ sizeLine) (d : h'.DictOfH (tk2 P w) a (rowsT L)) : TabT a L h' := by
  obtain ⟨o, es, ep, h1, h2, h3, h4, _, nd⟩ := d
  refine ⟨lo, sz, ?_, o, es, ep, h1, h2, h3, fun P' w' => h4⟩
  unfold rowsT at nd
  rw [List.map_map] at nd
  exact nd
theorem dto_ok {P : Program} {w : World} {H' : Hp} {h' : Heap} (t : TabT a L h') : ObjOk P w H' h' a (DTO a L) := by
  obtain ⟨_, _, _, o, es, ep, h1, _⟩ := id t
  refine ⟨t, ⟨o, h1⟩, fun h1 h2 q kp => ?_⟩
  obtain ⟨q1, q2, q3, o, es, ep, q4, q5⟩ := q
  exact ⟨q1, q2, q3, o, es, ep, kp o q4, q5⟩
def hasT (ks : List (List Int)) (k : List Int) : Bool := ks.any fun z => decide (z = k)
theorem atKey_rows : (atKey (rowsT L) k).isSome = hasT (L.map (·.2)) k := by
  unfold atKey rowsT hasT
  induction L with
  | nil => rfl
  | cons p L ih =>
    rw [List.map_cons, List.map_cons, List.any_cons]
    by_cases h : p.2 = k
    · rw [List.find?_cons_of_pos (by simpa using h)]
      simp [h]
    · rw [List.find?_cons_of_neg (by simpa using h), ih]
      simp [h]
/-- y not in d -/
def rNiT (K : PySem.W.Frag) : R2 := fun x y H Q => ∃ (b a : Addr) (k : List Int) (L : List (Addr × List Int)), x = .ref b ∧ y = .ref a ∧ SqT K H b (k.map V.int) ∧ H a = some (DTO a L) ∧ (∀ p ∈ L, SqT K H p.1 (p.2.map V.int)) ∧ Q (.bl (!hasT (L.map (·.2)) k)) H
theorem op_nit (hu : X.A.units + 1 < cLine) : OpR X (compareOp .NotIn) (rNiT X.K) := by
  intro pins s σ H x y v u Q I rx ry h
  obtain ⟨b, a, k, L, rfl, rfl, hb, ha, hk, q⟩ := h
  cases rx
  cases ry
  obtain ⟨lo, _⟩ := tab_at I ha
  refine PyProof.Rows.wpAny_notIn_heap (tupleKind_room_in1 hu) (I.isT hb) lo (tab_dict I ha hk) ?_
  rw [atKey_rows]
  exact ⟨.bl _, H, I.tok _, rfl, q⟩
/-- d[y] = True, y new -/
def rSetT (K : PySem.W.Frag) : TSet := fun o i v H Q => ∃ (a b : Addr) (k : List Int) (L : List (Addr × List Int)), o = .ref a ∧ i = .ref b ∧ v = .bl true ∧ SqT K H b (k.map V.int) ∧ H a = some (DTO a L) ∧ (∀ p ∈ L, SqT K H p.1 (p.2.map V.int)) ∧ L.length < 100000 ∧ hasT (L.map (·.2)) k = false ∧ Q (upd H a (DTO a (L ++ [(b, k)])))
theorem rows_snoc : rowsT (L ++ [(b, k)]) = rowsT L ++ [(k, b, Value.bool true)] := by
  unfold rowsT
  rw [List.map_append]
  rfl
theorem set_t (hu : X.A.units + 1 < cLine) : PSet X (rSetT X.K) := by
  intro pins s σ H o i v ov iv u Q I ro ri rv h
  obtain ⟨a, b, k, L, rfl, rfl, rfl, hb, ha, hk, hl, hn, q⟩ := h
  cases ro
  cases ri
  cases rv
  obtain ⟨lo, _⟩ := tab_at I ha
  have hz : (rowsT L).length ≤ sizeLine := by
    unfold rowsT
    rw [List.length_map, sizeLine_eq]
    omega
  refine wpAny_setItem_heap (hsz := hz) (tupleKind_room_in1 hu) (I.isT hb) (tab_dict I ha hk) fun h' d' sb => ?_
  have no : atKey (rowsT L) k = none := by
    have z := atKey_rows (L := L) (k := k)
    rw [hn] at z
    exact Option.not_isSome_iff_eq_none.mp (by rw [z]; exact Bool.false_ne_true)
  rw [storedH_new no, ← rows_snoc] at d'
  have t' : TabT a (L ++ [(b, k)]) h' := tab_new lo (by rw [List.length_append, sizeLine_eq]; simp only [List.length_cons, List.length_nil]; omega) d'
  obtain ⟨_, _, _, o, _, _, h1, _⟩ := id t'
  exact ⟨_, d_write I (by rw [ha]; exact True.intro) sb ⟨o, h1⟩ (dto_ok t'), q⟩
end
section
variable {X : Cx} {W : WX} {a : Expr} {ma : M D} {p pos tp : Pos} {x : Str} {kk : Nat}
def intsT : D → Option (List Int)
  | .tup xs => intsOf xs
  | _ => none
def tNiT (i : Nat) (m : M D) : M Bool := bnd m fun d e s => match e[i]?, intsT d with
  | some (.ownT ks _), some k => .ok (!hasT ks k) e s
  | _, _ => .no
def sTst (i j : Nat) : M Fl := fun e s => match e[i]?, e[j]? with
  | some (.ownT ks vs), some (.dat d) => match intsT d with
    | some k => if ks.length < 100000 ∧ hasT ks k = false then .ok .nx (e.set i (.ownT (ks ++ [k]) vs)) s else .no
    | none => .no
  | _, _ => .no
theorem ints_tup {K : PySem.W.Frag} {mg : Str → Option Value} {ρ : List Addr} {F : Hp} {v : V} {d : D} {k : List Int} (h : At K mg ρ F v d) (e : intsT d = some k) : ∃ b, v = .ref b ∧ SqT K F b (k.map V.int) := by
  cases h with
  | tup h1 h2 =>
    rw [ints_at h2 e] at h1
    exact ⟨_, rfl, h1⟩
  | _ => cases e
theorem tc_nit {y : Str} (i : Nat) (ha : EM X W a ma) (hr : Room kk X.A := by assumption) (hN : X.N[i]? = some y := by rfl) (hv : Vis X.env.scope y := by first | exact Or.inl rfl | exact Or.inr (Or.inl rfl) | exact Or.inr (Or.inr rfl)) (hd : (y == ("__debug__" : Str)) = false := by decide +kernel) (hcd : (y == ("__classdict__" : Str)) = false := by decide +kernel)
    (hm : behindInMarks .NotIn (.Name y p) = false := by rfl) : TM X W (.Compare a [.NotIn] [.Name y p] pos) (tNiT i ma) :=
  pt_weak (pt_cmpR (op_nit (hu_of hr)) ha (pe_var hN hv hd hcd) hm) fun σ H Q ⟨b, ρ, F, e, s, r, q⟩ => by
    refine ⟨b, ρ, F, e, s, r, ?_⟩
    unfold tNiT at q
    cases hm1 : ma e s with
    | no => rw [bnd_no hm1] at q; exact q
    | exc z e' s' => rw [bnd_exc hm1] at q; exact q
    | ok d e1 s1 =>
      rw [bnd_ok hm1] at q
      intro v ρ1 F1 H1 x1 r1 a1
      cases he : e1[i]? with
      | none => simp only [he] at q; exact q.elim
      | some z =>
        simp only [he] at q
        cases z with
        | ownT ks vs =>
          cases hk : intsT d with
          | none => simp only [hk] at q; exact q.elim
          | some k =>
            simp only [hk] at q
            obtain ⟨w, h1, c, L, rfl, h2, h3, h4, rfl, h6⟩ := r1.slot i _ he (fun z => nomatch z)
            obtain ⟨bb, rfl, g2⟩ := ints_tup a1 hk
            exact ⟨_, h1, bb, c, k, L, rfl, rfl, sqT_same r1.roots.ex g2, h2, fun p hp => sqT_same r1.roots.ex (h6 p hp), _, rfl, q _ ρ1 F1 H1 x1 r1 rfl⟩
        | _ => exact q.elim
theorem stst {y z : Str} (i l : Nat) (hr : Room kk X.A := by assumption) (hN : X.N[i]? = some y := by rfl) (hv : Vis X.env.scope y := by first | exact Or.inl rfl | exact Or.inr (Or.inl rfl) | exact Or.inr (Or.inr rfl)) (hd : (y == ("__debug__" : Str)) = false := by decide +kernel) (hcd : (y == ("__classdict__" : Str)) = false := by decide +kernel)
    {j : Nat} {cp kp : Pos} (hN2 : X.N[l]? = some z := by rfl) (hv2 : Vis X.env.scope z := by first | exact Or.inl rfl | exact Or.inr (Or.inl rfl) | exact Or.inr (Or.inr rfl)) (hd2 : (z == ("__debug__" : Str)) = false := by decide +kernel) (hcd2 : (z == ("__classdict__" : Str)) = false := by decide +kernel)
    (hs : swapsWithSole [.Subscript (.Name y p) (.Name z kp) tp] (.Constant (.bool true) j cp) pos.line X.env = pure false := by rfl) (hw : swappedStores [.Subscript (.Name y p) (.Name z kp) tp] (.Constant (.bool true) j cp) X.env = pure none := by rfl)
    (h1 : (assignEach [.Subscript (.Name y p) (.Name z kp) tp] X.env).map (·.2) = [assign (.Subscript (.Name y p) (.Name z kp) tp) X.env] := by rfl) :
    SM X W (.Assign [.Subscript (.Name y p) (.Name z kp) tp] (.Constant (.bool true) j cp) pos) (sTst i l) :=
  ps_weak (ps_asg pe_bl (pg_sub (pe_var hN hv hd hcd) (pe_var hN2 hv2 hd2 hcd2) (set_t (hu_of hr))) hs hw h1) fun D σ H ⟨b, ρ, F, e, s, r, q⟩ => by
    unfold sTst at q
    cases he : e[i]? with
    | none => simp only [he] at q; exact q.elim
    | some u =>
      cases he2 : e[l]? with
      | none =>
        simp only [he, he2] at q
        cases u <;> exact q.elim
      | some u2 =>
        simp only [he, he2] at q
        cases u with
        | ownT ks vs =>
          cases u2 with
          | dat d =>
            simp only [] at q
            cases hk : intsT d with
            | none => simp only [hk] at q; exact q.elim
            | some k =>
              simp only [hk] at q
              by_cases hc : ks.length < 100000 ∧ hasT ks k = false
              · rw [if_pos hc] at q
                obtain ⟨w, g1, c, L, rfl, h2, h3, h4, rfl, h6⟩ := r.slot i _ he (fun z => nomatch z)
                obtain ⟨w2, k1, k2⟩ := r.slot l _ he2 (fun z => nomatch z)
                obtain ⟨bb, rfl, k3⟩ := ints_tup k2 hk
                have hl : L.length < 100000 := by
                  have := hc.1
                  rw [List.length_map] at this
                  exact this
                refine ⟨_, g1, _, k1, c, bb, k, L, rfl, rfl, rfl, sqT_same r.roots.ex k3, h2, fun p hp => sqT_same r.roots.ex (h6 p hp), hl, hc.2, ?_⟩
                refine q σ ρ F _ (r.write he rfl g1 _ rfl fun k5 k6 => ⟨c, L ++ [(bb, k)], rfl, upd_same, k5, k6, by rw [List.map_append] <;> rfl, fun p hp => ?_⟩)
                rcases List.mem_append.mp hp with hp | hp
                · exact h6 p hp
                · have : p = (bb, k) := by simpa using hp
                  rw [this]
                  exact k3
              · rw [if_neg hc] at q
                exact q.elim
          | _ => exact q.elim
        | _ => exact q.elim
end
end Mi

set_option Elab.async false
set_option linter.all false
set_option autoImplicit false
set_option maxRecDepth 100000
set_option maxHeartbeats 4000000
/-! Mi, part Zf: {t: True}, sorted(d) of a dict whose keys are tuples of ints; a list of one's own against []. -/
namespace Mi
open PySem L2
theorem perm_lift {α β : Type} {f : α → β} : ∀ {l1 l2 : List β}, l1.Perm l2 → ∀ {L : List α}, l2 = L.map f → ∃ L' : List α, L'.Perm L ∧ l1 = L'.map f := by
  intro l1 l2 h
  induction h with
  | nil =>
    intro L e
    exact ⟨L, .refl _, e⟩
  | cons x _ ih =>
    intro L e
    cases L with
    | nil => cases e
    | cons y L =>
      rw [List.map_cons] at e
      injection e with e1 e2
      obtain ⟨L', p, q⟩ := ih e2
      exact ⟨y :: L', p.cons y, by rw [List.map_cons, e1, q]⟩
  | swap x y l =>
    intro L e
    match L, e with
    | a :: b :: L, e =>
      rw [List.map_cons, List.map_cons] at e
      injection e with e1 e2
      injection e2 with e2 e3
      exact ⟨b :: a :: L, .swap a b L, by rw [List.map_cons, List.map_cons, e1, e2, e3]⟩
  | trans _ _ ih1 ih2 =>
    intro L e
    obtain ⟨L2, p2, q2⟩ := ih2 e
    obtain ⟨L1, p1, q1⟩ := ih1 q2
    exact ⟨L1, p1.trans p2, q1⟩
section
variable {X : Cx} {W : WX} {k v a : Expr} {mk ma : M D} {pos p : Pos} {kk : Nat}
/-! ### {t: True} -/
def tDispT (tk tv : TE) : TE := fun σ H Q => ∀ p, H p = none → tk σ (upd H p (DTO p [])) fun x H1 => tv σ H1 fun y H2 => H2 p = some (DTO p []) ∧ ∃ b k, x = .ref b ∧ y = .bl true ∧ SqT (X.K) H2 b (k.map V.int) ∧ Q (.ref p) (upd H2 p (DTO p [(b, k)]))
theorem pe_dispT {tk tv : TE} (hu : X.A.units < cLine) (hk : PE X k tk) (hv : PE X v tv) : PE X (.Dict [some k] [v] pos) (tDispT (X := X) tk tv) := by
  refine ⟨fun pins s σ H Q I q => ?_⟩
  have none0 := I.hok.fresh (Nat.le_refl s.heap.objs.size)
  have lo : (s.heap.objs.size == sysModules) = false := beq_eq_false_iff_ne.mpr (Nat.ne_of_gt I.big)
  have new0 : TabT s.heap.objs.size [] (s.heap.push { cls := .type "dict", data := .dict #[] }) := ⟨lo, Nat.zero_le _, List.nodup_nil, _, #[], 0, Heap.get?_push_size _ rfl, ⟨rfl, rfl, rfl⟩, rfl, fun _ _ => rfl⟩
  have J := I.laid (a := s.heap.objs.size) (o := DTO s.heap.objs.size []) (h' := s.heap.push { cls := .type "dict", data := .dict #[] }) (t' := s.toks) (fun _ _ z => Heap.get?_push_of_some _ z) (Nat.le_refl _) (dto_ok new0)
  refine wpAny_Dict_any rfl rfl (by simp) (show 1 ≤ 15 by decide) (pairTrees_cons_walk (thn (hk.run pins _ σ _ _ J (q _ none0)) fun u s1 ⟨x, H1, J1, rx, q1⟩ => thn (hv.run pins s1 σ H1 _ J1 q1) fun u2 s2 ⟨y, H2, J2, ry, hp, b, kl, ex, ey, hb, q2⟩ => pairTrees_nil_walk ?_))
  subst ex
  subst ey
  cases rx
  cases ry
  unfold storeAll
  rw [List.forIn_cons]
  have d0 : s2.heap.DictOfH (tk2 X.prog X.w) s.heap.objs.size (rowsT []) := tab_dict J2 hp fun p hp => absurd hp List.not_mem_nil
  refine wpAny_bind (wpAny_bind (wpAny_dictSet_heap (hsz := Nat.zero_le _) (knd := tk2 X.prog X.w) hu (J2.isT hb) d0 fun h' d' sb => wpAny_pure ?_))
  change wpAny _ _ (pure PUnit.unit) _ _ _
  have t' : TabT s.heap.objs.size [(b, kl)] h' := tab_new lo (by rw [sizeLine_eq]; simp) d'
  obtain ⟨_, _, _, o, _, _, h1, _⟩ := id t'
  exact wpAny_pure ⟨.ref s.heap.objs.size, _, d_write J2 (by rw [hp]; exact True.intro) sb ⟨o, h1⟩ (dto_ok t'), rfl, q2⟩
def mDispT (m : M D) : M B := bnd m fun d => lift ((intsT d).map fun k => .ownT [k] [])
theorem f_dispT {j : Nat} {cp : Pos} (hk : EM X W k mk) (hr : Room kk X.A := by assumption) : FM X W (.Dict [some k] [.Constant (.bool true) j cp] pos) (mDispT mk) :=
  pe_weak (pe_dispT (Nat.lt_of_succ_lt (hu_of hr)) hk pe_bl) fun σ H Q ⟨b, ρ, F, e, s, r, q⟩ => by
    intro c hc
    obtain ⟨x1, r1, nF, nr⟩ := r.made hc (DTO c [])
    refine ⟨b, ρ, F, e, s, r1, ?_⟩
    unfold mDispT at q
    have nown : ¬ OwnAt σ e c := not_own r hc
    cases hm : mk e s with
    | no => rw [bnd_no hm] at q; exact q
    | exc y e' s' => rw [bnd_exc hm] at q; exact fun cls dd ρ' F' H' x2 r2 a2 => q cls dd ρ' F' H' (x1.trans x2) r2 a2
    | ok d e2 s2 =>
      rw [bnd_ok hm] at q
      intro v ρ2 F2 H2 x2 r2 a2
      obtain ⟨g1, g2, g3, g4⟩ := x2.stay upd_same nF nr nown
      cases hk : intsT d with
      | none => rw [hk] at q; exact q.elim
      | some kl =>
        rw [hk] at q
        obtain ⟨bb, rfl, h2⟩ := ints_tup a2 hk
        refine ⟨g1, bb, kl, rfl, rfl, sqT_same r2.roots.ex h2, ?_⟩
        have hbc : b.H c = none := none_base r hc
        refine q _ ρ2 F2 _ ((x1.trans x2).poke _ hc) (r2.poke _ hbc g2 g3 g4) ⟨⟨c, [(bb, kl)], rfl, upd_same, g2, g3, rfl, fun p hp => ?_⟩, fun _ a z => by cases z; exact hc⟩
        have : p = (bb, kl) := by simpa using hp
        rw [this]
        exact h2
/-! ### sorted(d) -/
def rSortD (K : PySem.W.Frag) : List V → Hp → VK → Prop := fun vs H Q => ∃ (a : Addr) (L : List (Addr × List Int)) (d : Nat) (B : Int), vs = [V.ref a] ∧ H a = some (DTO a L) ∧ (∀ p ∈ L, SqT K H p.1 (p.2.map V.int)) ∧ L.length < 64 ∧ 1 ≤ d ∧ (∀ p ∈ L, p.2.length = d ∧ TS.Bd B p.2) ∧
  ∀ (L' : List (Addr × List Int)) (p : Addr), L'.Perm L → (L'.map (·.2)).Nodup → L'.Pairwise (fun q r => TS.code B q.2 ≤ TS.code B r.2) → H p = none → Q (.ref p) (upd H p (.lst (L'.map fun q => V.ref q.1)))
theorem cr_sortD (hc : X.calm = true) : CallR X (.builtin "sorted") (rSortD X.K) := by
  intro pins s σ H vs us Q I r h
  obtain ⟨a, L, d, B, rfl, ha, hk, few, hd1, hB, q⟩ := h
  rw [Vals.ref1 r]
  obtain ⟨lo, _, nodup, o, es, ep, ho, hex, hdt, hes⟩ := tab_at I ha
  have hsz : es.size = L.length := by
    rw [← Array.length_toList, hes X.prog X.w, List.length_map]
    unfold rowsT
    rw [List.length_map]
  refine Calls.call_function_entry PyProof.Rows.kind_sorted PyProof.Rows.plain_sorted PyProof.Rows.entry_sorted (PyProof.Rows.args_sorted1 _) ?_
  unfold Builtin.«sorted»
  refine wpAny_bind (m := checkCount "sorted" 1 1 _) (wpAny_pure ?_)
  refine wpAny_bind (PySem.W.kdu_collect (A := X.A.in1) (kdl_raw lo hex hdt) (I.ok.hd hc) ho (by rw [hsz, sizeLine_eq]; omega) fun h' tk acc kp it => ?_)
  have eacc : acc.toList = L.map fun p => Value.ref p.1 := by
    have hl : acc.toList.length = L.length := by rw [Array.length_toList, it.1, hsz]
    apply List.ext_getElem?
    intro j
    rw [List.getElem?_map]
    cases hj : acc.toList[j]? with
    | none =>
      have h1 := List.getElem?_eq_none_iff.mp hj
      rw [List.getElem?_eq_none (by omega)]
      rfl
    | some v =>
      obtain ⟨en, hen, hv⟩ := it.2 j v (by rw [← Array.getElem?_toList]; exact hj)
      have qe := entry_at (hes X.prog X.w) j
      rw [hen] at qe
      unfold rowsT at qe
      rw [List.getElem?_map] at qe
      cases hb : L[j]? with
      | none =>
        rw [hb] at qe
        exact nomatch (show some en = none from qe)
      | some p =>
        rw [hb] at qe
        have e2 : en = entryOfKey (tk2 X.prog X.w) (p.2, p.1, Value.bool true) := Option.some.inj qe
        rw [hv, e2]
        rfl
  rw [eacc]
  have I1 : Inv X pins σ H { s with heap := h', toks := tk } := I.kept kp
  have hvl : (L.map fun p => Value.ref p.1).length < 64 := by rw [List.length_map]; exact few
  refine wpAny_bind (wpAny_newList ?_ (by rw [sizeLine_eq]; omega))
  have hoL : (h'.push (PyProof.Rows.seqObj "list" (L.map fun p => Value.ref p.1).toArray 0)).get? h'.objs.size = some (PyProof.Rows.seqObj "list" (L.map fun p => Value.ref p.1).toArray 0) := Heap.get?_push_size _ rfl
  have tks : ∀ z ∈ L, TS.TupInts (h'.push (PyProof.Rows.seqObj "list" (L.map fun p => Value.ref p.1).toArray 0)) (.ref z.1) z.2 := fun z hz => tupInts_of (P := X.prog) (w := X.w) (isT_keep (I.isT (hk z hz)) fun b u e => Heap.get?_push_of_some _ (kp b u e))
  have ok : TS.TupsOk (h'.push (PyProof.Rows.seqObj "list" (L.map fun p => Value.ref p.1).toArray 0)) d B (L.map fun p => Value.ref p.1) := fun v hv => by
    obtain ⟨z, hz, rfl⟩ := List.mem_map.mp hv
    exact ⟨z.2, tks z hz, (hB z hz).1, (hB z hz).2⟩
  show wpAny _ _ _ _ _ { s with heap := h'.push (PyProof.Rows.seqObj "list" (L.map fun p => Value.ref p.1).toArray 0), toks := tk }
  refine wpAny_bind (wpAny_holding (TS.call_sort_tups (s := { s with heap := h'.push (PyProof.Rows.seqObj "list" (L.map fun p => Value.ref p.1).toArray 0), toks := tk }) hoL hvl hd1 ok fun out a1 a2 => ?_))
  obtain ⟨c, hcc⟩ := PyProof.Rows.sortedHeap_at (vs := L.map fun p => Value.ref p.1) (out := out) hoL
  obtain ⟨L', pm, eo⟩ := perm_lift a1 (f := fun p : Addr × List Int => Value.ref p.1) rfl
  have inL : ∀ z ∈ L', z ∈ L := fun z hz => pm.mem_iff.mp hz
  have pw : L'.Pairwise (fun q r => TS.code B q.2 ≤ TS.code B r.2) := by
    rw [eo] at a2
    refine List.Pairwise.imp_of_mem (fun {x y} hx hy hle => ?_) (List.pairwise_map.mp a2)
    have f1 := (tks x (inL x hx)).ints
    have f2 := (tks y (inL y hy)).ints
    rw [← f1, ← f2]
    exact hle
  have hlen : (L'.map fun z => V.ref z.1).length ≤ sizeLine := by
    rw [List.length_map, pm.length_eq, sizeLine_eq]
    omega
  refine wpAny_pure ⟨_, rfl, .ref h'.objs.size, upd H h'.objs.size (.lst (L'.map fun z => V.ref z.1)), I1.laid (t' := tk) (fun b u e => ?_) (Nat.le_refl _) ⟨hlen, out.toList, c, by rw [eo]; exact vals_of_refs L', by rw [Array.toArray_toList]; exact hcc⟩, rfl, q L' _ pm ((pm.map (·.2)).nodup_iff.mpr nodup) pw (I1.hok.fresh (Nat.le_refl _))⟩
  have hb := Heap.lt_size e
  show (PyProof.Rows.sortedHeap (h'.push (PyProof.Rows.seqObj "list" (L.map fun p => Value.ref p.1).toArray 0)) h'.objs.size (L.map fun p => Value.ref p.1) out).get? b = some u
  rw [PyProof.Rows.sortedHeap_old (Nat.ne_of_lt hb) (by rw [Heap.size_push]; exact Nat.lt_succ_of_lt hb)]
  exact Heap.get?_push_of_some _ e
def mSrtT (i : Nat) : M D := fun e s => match e[i]? with
  | some (.ownT (k :: ks) _) => if (k :: ks).length < 64 ∧ 1 ≤ k.length ∧ ((k :: ks).all fun n => decide (n.length = k.length) && bdB n) = true then .ok (.lst ((srtK (TS.code 1000) (k :: ks)).map tupI)) e s else .no
  | _ => .no
theorem xsrtT {y : Str} {p2 : Pos} (i : Nat) (hc : X.calm = true) (hm : X.mg "sorted" = none) (hN : X.N[i]? = some y := by rfl) (hv : Vis X.env.scope y := by first | exact Or.inl rfl | exact Or.inr (Or.inl rfl) | exact Or.inr (Or.inr rfl)) (hd : (y == ("__debug__" : Str)) = false := by decide +kernel) (hcd : (y == ("__classdict__" : Str)) = false := by decide +kernel)
    (hg : Gl X "sorted" := by rfl) (he : starEach [.Name y p2] X.env = (false, eval (.Name y p2) X.env) :: starEach [] X.env := by rfl) : EM X W (.Call (.Name "sorted" p) [.Name y p2] [] pos) (mSrtT i) :=
  pe_weak (pe_callB (cr_sortD hc) hg hm (by decide +kernel) (pa_cons (pe_var hN hv hd hcd) pa_nil he) (by decide) (by decide +kernel) he rfl) fun σ H Q ⟨b, ρ, F, e, s, r, q⟩ => by
    unfold mSrtT at q
    cases hei : e[i]? with
    | none => rw [hei] at q; exact q.elim
    | some z =>
      rw [hei] at q
      cases z with
      | ownT kl vs =>
        cases kl with
        | nil => exact q.elim
        | cons k ks =>
          simp only [] at q
          by_cases hcnd : (k :: ks).length < 64 ∧ 1 ≤ k.length ∧ ((k :: ks).all fun n => decide (n.length = k.length) && bdB n) = true
          · rw [if_pos hcnd] at q
            obtain ⟨c1, c2, c3⟩ := hcnd
            obtain ⟨w, g1, c, L, rfl, h2, h3, h4, h5, h6⟩ := r.slot i _ hei (fun z => nomatch z)
            have bd : ∀ n ∈ k :: ks, n.length = k.length ∧ TS.Bd 1000 n := fun n hn => by
              have z := List.all_eq_true.mp c3 n hn
              rw [Bool.and_eq_true] at z
              refine ⟨of_decide_eq_true z.1, fun m hm => ?_⟩
              have y := List.all_eq_true.mp z.2 m hm
              rw [Bool.and_eq_true] at y
              exact ⟨of_decide_eq_true y.1, of_decide_eq_true y.2⟩
            have sub : ∀ z ∈ L, z.2 ∈ k :: ks := fun z hz => by
              rw [← h5]
              exact List.mem_map_of_mem hz
            have hl : L.length = (k :: ks).length := by rw [← h5, List.length_map]
            refine ⟨_, g1, c, L, k.length, 1000, rfl, h2, fun z hz => sqT_same r.roots.ex (h6 z hz), by omega, c2, fun z hz => bd _ (sub z hz), fun L' t perm nd srt ht => ?_⟩
            have inL : ∀ z ∈ L', z.2 ∈ k :: ks := fun z hz => sub z (perm.mem_iff.mp hz)
            have inj : ∀ x ∈ k :: ks, ∀ y ∈ k :: ks, TS.code 1000 x = TS.code 1000 y → x = y := fun x hx y hy e => code_inj ((bd x hx).1.trans (bd y hy).1.symm) (bd x hx).2 (bd y hy).2 e
            have e1 : L'.map (·.2) = srtK (TS.code 1000) (k :: ks) := by
              refine srtK_uniq ?_ (fun z hz => ?_) (fun z hz => ?_) inj
              · have s1 : (L'.map (·.2)).Pairwise (fun a b => TS.code 1000 a ≤ TS.code 1000 b) := List.pairwise_map.mpr srt
                refine List.Pairwise.imp_of_mem (fun {x y} hx hy h => ?_) (s1.and nd)
                obtain ⟨x', hx', rfl⟩ := List.mem_map.mp hx
                obtain ⟨y', hy', rfl⟩ := List.mem_map.mp hy
                obtain ⟨u1, u2⟩ := h
                rcases Int.lt_or_eq_of_le u1 with z | z
                · exact z
                · exact absurd (inj _ (inL x' hx') _ (inL y' hy') z) u2
              · obtain ⟨z', hz', rfl⟩ := List.mem_map.mp hz
                exact inL z' hz'
              · rw [← h5] at hz
                obtain ⟨z', hz', rfl⟩ := List.mem_map.mp hz
                exact ⟨z'.2, List.mem_map.mpr ⟨z', perm.mem_iff.mpr hz', rfl⟩, rfl⟩
            have e2 : (srtK (TS.code 1000) (k :: ks)).map tupI = L'.map fun z => tupI z.2 := by
              rw [← e1, List.map_map]
              rfl
            rw [e2] at q
            have g := Gr.laid r.roots.ex ht (.lst (L'.map fun z => V.ref z.1))
            obtain ⟨x2, r2⟩ := r.gr g
            exact q _ ρ _ _ x2 r2 (.lst upd_same (at_tups fun z hz => sqT_same g.frz (h6 z (perm.mem_iff.mp hz))))
          · rw [if_neg hcnd] at q
            exact q.elim
      | _ => exact q.elim
/-! ### xs != [] of a list of one's own, left its name's own -/
def tOwnNe (i : Nat) : M Bool := fun e s => match e[i]? with
  | some (.own ds) => if plains ds = true then .ok (!ds.isEmpty) e s else .no
  | _ => .no
theorem t_ownne {y : Str} {p2 : Pos} (i : Nat) (hr : Room kk X.A := by assumption) (hN : X.N[i]? = some y := by rfl) (hv : Vis X.env.scope y := by first | exact Or.inl rfl | exact Or.inr (Or.inl rfl) | exact Or.inr (Or.inr rfl)) (hd : (y == ("__debug__" : Str)) = false := by decide +kernel) (hcd : (y == ("__classdict__" : Str)) = false := by decide +kernel)
    (hm : behindInMarks .NotEq (.List [] p2) = false := by rfl) : TM X W (.Compare (.Name y p) [.NotEq] [.List [] p2] pos) (tOwnNe i) :=
  pt_weak (pt_cmpR (or_ne (hu64 hr)) (pe_var hN hv hd hcd) (pe_lst pa_nil) hm) fun σ H Q ⟨b, ρ, F, e, s, r, q⟩ => by
    unfold tOwnNe at q
    cases he : e[i]? with
    | none => rw [he] at q; exact q.elim
    | some z =>
      rw [he] at q
      cases z with
      | own ds =>
        simp only [] at q
        by_cases hp : plains ds = true
        · rw [if_pos hp] at q
          obtain ⟨w, g1, c, xs, rfl, h2, h3, h4, h5⟩ := r.slot i _ he (fun z => nomatch z)
          refine ⟨_, g1, ?_⟩
          refine ⟨Nat.zero_le _, fun t ht => ?_⟩
          have g := Gr.laid r.roots.ex ht (.lst [])
          obtain ⟨x2, r2⟩ := r.gr g
          obtain ⟨d1, d2⟩ := AtAll.dp ds h5 hp
          have here : upd H t (.lst []) c = some (.lst xs) := by rw [upd_ne (ne_of_none h2 ht)]; exact h2
          refine ⟨.list (pys ds), .list [], .lst (SqL.of here) (dps_same (r.roots.ex.trans g.hp) (pys ds) d1), .lst (SqL.of upd_same) .nil, d2, rfl, ?_, ?_⟩
          · show min _ (PyData.depth (.list [])) ≤ 60
            exact Nat.le_trans (Nat.min_le_right _ _) (by decide)
          · have e1 : (!PyData.eqv (.list (pys ds)) (.list [])) = !ds.isEmpty := by
              cases ds with
              | nil => decide +kernel
              | cons d ds => rfl
            refine ⟨!ds.isEmpty, ?_, q _ ρ _ _ x2 r2 rfl⟩
            show V.bl (!PyData.eqv (.list (pys ds)) (.list [])) = V.bl (!ds.isEmpty)
            rw [e1]
        · rw [if_neg hp] at q
          exact q.elim
      | _ => exact q.elim
end
end Mi

set_option Elab.async false
set_option linter.all false
set_option autoImplicit false
set_option maxRecDepth 100000
set_option maxHeartbeats 4000000
/-! Mi, part Zg: defs that are run where nothing is being shown (repr of containers). -/
namespace Mi
open PySem L2
/-- as FnOk, where no container is being shown -/
structure FnG (P : Program) (w : World) (K : PySem.W.Frag) (mg : Str → Option Value) (base : Heap) (k : Nat) (f : Addr) (fd : FuncData) (ps : List Str) (sp : Sp) : Prop where
  len : ∀ vs H Q E, sp vs H Q E → vs.length = ps.length
  run : ∀ (A : Around) (outer : List PySem.Env) (s : Shared) (H : Hp) (args : Args) (us : List Value) (vs : List V) (Q : VK) (E : XK), Room k A → A.guards = some [] → Env0 P w K mg base A outer s H → BindsTo s fd args (ps.zip us) → Vals vs us → sp vs H Q E →
    codeAny (model P w) A (.call (.ref f) args) (CR CX0 outer P w H s Q E) s
section
variable {P : Program} {w : World} {K : PySem.W.Frag} {mg : Str → Option Value} {base : Heap}
theorem fun_okG {x qual : Str} {st : Stmt} {f : Addr} {fd : FuncData} {N ps : List Str} {k : Nat} {sp : Sp} (F : Fun K x qual st f fd) (S : FnScope N ps (defScope st)) (len : ∀ vs H Q E, sp vs H Q E → vs.length = ps.length)
    (body : ∀ (cdv : Value) (A : Around) (outer : List PySem.Env) (s : Shared) (H : Hp) (vs : List V) (Q : VK) (E : XK), Room k (A.deeper (PyProof.Rows.envOfC qual (defScope st) s.heap.objs.size f cdv)) → A.guards = some [] → sp vs H Q E →
      ∃ t, PSs (cxOf CX0 P w K mg base N qual (defScope st) f cdv A outer s H E).nox (defBody st) t ∧ t { nx := fun _ H' => Q .non H', rt := Q } (L2.start N vs) H) : FnG P w K mg base (k + 1) f fd ps sp := by
  obtain ⟨oc, od, kV, doc, pm, an, cdv, ct, osl, rfl, look, coded⟩ := F.ex
  refine ⟨len, fun A outer s H args us vs Q E room calm env0 binds rel wish => ?_⟩
  have lenV := len _ _ _ _ wish
  have inK : K.In s.heap := env0.mod.kin.keeps fun b o z => (env0.bs b o z).1
  have nolim : s.heap.NoLimit := env0.mod.nolimit.keeps fun b o z => (env0.bs b o z).1
  have kinds : ∀ y ∈ ps.zip us, (defScope st).names.lookup y.1 = some .local ∨ ((defScope st).names.lookup y.1 = some .cell ∧ ((cellsFrom (s.heap.objs.size + 1) (defScope st).names []).lookup y.1).isSome = true) := fun y hy => by
    obtain ⟨n, v⟩ := y
    cases S.par n (List.of_mem_zip hy).1 with
    | inl q => exact .inl q
    | inr q => exact .inr ⟨q, PySem.W.cellsFrom_some _ _ _ (.inl q)⟩
  refine codeAny_call_function room.depth (inK _ _ look) rfl S.co S.gen rfl (PySem.W.codeRec_of inK coded) (binds _ _ _ _ (wpAny_newFunctionEnv_cells S.kind kinds fun env here s1 made => ?_))
  subst here
  refine ⟨nolim.keeps made.toInCall.keep, codeAny_func ?_⟩
  obtain ⟨t, tree, reading⟩ := body cdv A outer s H vs Q E (room.deeper _) calm wish
  have begin_ : L2.Inv (cxOf CX0 P w K mg base N qual (defScope st) f cdv A outer s H E) [] (L2.start N vs) H s1 := inv_start S room.hd env0 lenV rel made
  refine wpAny_mono (tree.nox.run [] s1 (L2.start N vs) H _ begin_ reading) (fun fl s' out => ?_) fun e s' out => out
  have back : ∀ {σ' : St} {H' : Hp} {v : V} {u : Value}, L2.Inv (cxOf CX0 P w K mg base N qual (defScope st) f cdv A outer s H E) [] σ' H' s' → RelV v u → Q v H' → CE outer P w H s Q u s' :=
    fun {_ H' v _} J rv q => ⟨v, H', J.os, J.bare, J.base, J.hok, rv, q⟩
  cases fl with
  | brk => exact out.elim fun _ z => z.elim fun _ z => False.elim z.2
  | cont => exact out.elim fun _ z => z.elim fun _ z => False.elim z.2
  | next =>
    obtain ⟨_, H', J, q⟩ := out
    exact back (v := V.non) (u := Value.none) J rfl q
  | ret u =>
    obtain ⟨v, _, H', J, rv, q⟩ := out
    exact back J rv q
end
end Mi

set_option Elab.async false
set_option linter.all false
set_option autoImplicit false
set_option maxRecDepth 100000
set_option maxHeartbeats 4000000
/-! Mi, part Zh: repr of data; calls of defs that show; a call by keyword alone. -/
namespace Mi
open PySem L2
/-! ### repr -/
def rRep (K : PySem.W.Frag) : List V → Hp → VK → Prop := fun xs H Q => ∃ v d, xs = [v] ∧ Dp K H v d ∧ d.canLay0 = true ∧ d.showable = true ∧ d.depth ≤ 60 ∧ d.shown.length ≤ sizeLine ∧ Q (.str d.shown) H
theorem call_rep {X : Cx} (hgd : X.A.guards = some []) (hu : X.A.units + 64 < cLine) : CallR X (.builtin "repr") (rRep X.K) := by
  intro pins s σ H xs us Q I r h
  obtain ⟨v, d, rfl, hd, cl, sh, dp, sz, q⟩ := h
  obtain ⟨u, rfl, rv⟩ := vals1 r
  obtain ⟨as, rd⟩ := Dp.reads I d v u hd rv
  have out : ∀ (h' : Heap) (t : Tok) (tk : Nat), (∀ b o, s.heap.get? b = some o → h'.get? b = some o) → EP X pins σ Q (.str d.shown t) { s with heap := h', toks := tk } := fun h' t tk k =>
    ⟨.str d.shown, H, I.kept k, ⟨t, rfl⟩, q⟩
  cases rd with
  | none => exact PySem.P.repr_of_none (by simpa only [PyData.shown] using out s.heap _ _ fun _ _ e => e)
  | bool b => exact PySem.P.repr_of_bool (by simpa only [PyData.shown] using out s.heap _ _ fun _ _ e => e)
  | int i t => exact PySem.P.repr_of_int (by simpa [PyData.showable] using sh) (by simpa only [PyData.shown] using out s.heap _ _ fun _ _ e => e)
  | str x t => exact PySem.P.repr_of_str (by simpa only [PyData.shown] using out s.heap _ _ fun _ _ e => e) (by simpa only [PyData.shown] using sz)
  | list h1 h2 h3 h4 => exact repr_of_reads' (.list h1 h2 h3 h4) sh (PyData.noDict_hsm (PyData.hasDict_of_canLay _ cl)) hgd (by omega) (fun _ _ e => e) (fun h' t tk k => out h' t tk k) sz
  | tuple h1 h2 h3 h4 => exact repr_of_reads' (.tuple h1 h2 h3 h4) sh (PyData.noDict_hsm (PyData.hasDict_of_canLay _ cl)) hgd (by omega) (fun _ _ e => e) (fun h' t tk k => out h' t tk k) sz
  | dict h1 h2 h3 h4 h5 => simp [PyData.canLay0] at cl
def gRepr : List D → Option D
  | [d] => if d.plain && d.py.showable && decide (d.dep ≤ 60) && decide (d.py.shown.length ≤ lim) && PyData.strOk d.py.shown then some (.str d.py.shown) else none
  | _ => none
section
variable {K : PySem.W.Frag} {mg : Str → Option Value}
theorem opN_repr : OpN K mg gRepr (rRep K) := by
  intro ρ F H xs ds d Q sf ha hg k
  unfold gRepr at hg
  split at hg
  · rename_i d0
    obtain ⟨x, rfl, a1⟩ := ats_inv1 ha
    split at hg
    · rename_i hc
      simp only [Bool.and_eq_true, decide_eq_true_eq] at hc
      obtain ⟨⟨⟨⟨p, sh⟩, dp⟩, sz⟩, so⟩ := hc
      cases hg
      obtain ⟨q1, q2⟩ := a1.dp _ p
      exact ⟨x, d0.py, rfl, dp_same sf _ q1, q2, sh, by rw [py_depth]; exact dp, lim_line sz, k _ _ _ (Gr.refl sf) (.str so)⟩
    · cases hg
  · cases hg
end
section
variable {X : Cx} {W : WX} {a : Expr} {ma : M D} {p pos : Pos} {k : Nat}
theorem xrepr (hgd : X.A.guards = some []) (hm : X.mg "repr" = none) (ha : EM X W a ma) (hr : Room k X.A := by assumption) (hg : Gl X "repr" := by rfl) (he : starEach [a] X.env = (false, eval a X.env) :: starEach [] X.env := by rfl) : EM X W (.Call (.Name "repr" p) [a] [] pos) (mCall (aCons ma aNil) (tpN gRepr)) :=
  x_blt (call_rep hgd (hu64 hr)) opN_repr.tp hg hm (by decide +kernel) (a_cons ha a_nil he) (by decide) (by decide +kernel) he rfl
end
/-! ### defs that show, called -/
structure CalG (P : Program) (w : World) (K : PySem.W.Frag) (mg : Str → Option Value) (base : Heap) (k : Nat) (x : Str) (np : Nat) (fm : Fn) : Prop where
  ex : ∃ (f : Addr) (fd : FuncData) (ps : List Str), ps.length = np ∧ FnG P w K mg base k f fd ps (SpF0 K mg np fm) ∧ mg x = some (.ref f) ∧ PySem.W.keepIn K (.ref f) = true ∧ Binds K fd ps []
section
variable {P : Program} {w : World} {K : PySem.W.Frag} {mg : Str → Option Value} {base : Heap}
theorem Df.calG {x : Str} {st : Stmt} {N ps : List Str} {k : Nat} {m : M Fl} (F : Df K mg x st ps) (S : FnScope N ps (defScope st)) (hl : ps.length ≤ N.length)
    (body : ∀ (f : Addr) (cdv : Value) (A : Around) (outer : List PySem.Env) (s : Shared) (H : Hp) (E : XK), Room k (cxOf CX0 P w K mg base N x (defScope st) f cdv A outer s H E).A → (cxOf CX0 P w K mg base N x (defScope st) f cdv A outer s H E).A.guards = some [] →
      SMs (cxOf CX0 P w K mg base N x (defScope st) f cdv A outer s H E).nox W0 (defBody st) m) :
    CalG P w K mg base (k + 1) x ps.length (fnM ps.length N.length m) := by
  obtain ⟨f, fd, h1, h2, h3⟩ := F.ex
  refine ⟨f, fd, ps, rfl, ?_, h2, h1.kp, h3⟩
  refine fun_okG h1 S (fun vs H Q E h => h.1) fun cdv A outer s H vs Q E hr hgd h => ⟨_, body f cdv A outer s H E hr hgd, ?_⟩
  exact fn_post hl h fun _ _ _ _ z => z
end
section
variable {X : Cx} {W : WX} {x : Str} {p pos kp : Pos} {a : Expr} {es : List Expr} {n : M (List D)} {np k : Nat} {fm : Fn}
theorem f_callG (c : CalG X.prog X.w X.K X.mg X.base k x np fm) (hgd : X.A.guards = some []) (hn : ∀ ds s, ds.length ≠ np → fm ds s = .no) (hr : Room k X.A) (hg : Gl X x) (ha : AM X W (a :: es) n)
    (hdb : (x == ("__debug__" : Str)) = false := by decide) (he : starEach (a :: es) X.env = (false, eval a X.env) :: starEach es X.env := by rfl) (hpl : (backTo pos (starEach es X.env)).any (·.1) = false := by rfl) :
    FM X W (.Call (.Name x p) (a :: es) [] pos) (mCF (noXF fm) n) := by
  obtain ⟨f, fd, ps, hp, Fk, hm, hk, hb⟩ := c.ex
  refine ⟨fun pins s σ H Q I h => ?_⟩
  have h2 := call_core (np := np) (fun ds s q => by unfold noXF; rw [hn ds s q]) h (fun c d H' => W c d σ H') fun _ _ _ z => z
  refine wpAny_Call_Name_kw (ld_glob I hg hm ?_ hdb)
  refine PySem.W.callWith_K (h₀ := X.base) I.ok.mod.kin hk (thn (ha.run pos pins s σ H _ I h2) fun us s1 ⟨vs, H1, I1, r1, q1⟩ => ⟨I1.kIn, ?_⟩) he hpl
  have q2 : SpF0 X.K X.mg np fm vs H1 Q fun _ _ _ => False := noXF_sp q1
  have hl : us.length = ps.length := r1.length.symm.trans (Fk.len _ _ _ _ q2)
  have hb2 : BindsTo s1 fd ⟨us, []⟩ (ps.zip us) := by
    have := hb s1 us I1.kIn (by rw [List.append_nil]; exact hl)
    rwa [List.append_nil] at this
  refine wpAny_call (codeAny_mono (Fk.run X.A X.stack s1 H1 _ us vs Q _ hr hgd I1.env0 hb2 r1 q2) fun res s2 out => ?_)
  cases res with
  | error e => exact pass0 pins σ H1 s1 e s2 I1 out
  | ok fl =>
    cases fl with
    | ret u => exact I1.after out
    | next => exact out.elim
    | brk => exact out.elim
    | cont => exact out.elim
theorem xcallG {m : M Fl} {nn : Nat} {j : Nat} (c : CalG X.prog X.w X.K X.mg X.base j x np (fnM np nn m)) (hgd : X.A.guards = some []) (ha : AM X W (a :: es) n) (hr : Room k X.A := by assumption) (hj : j ≤ k := by omega) (hg : Gl X x := by rfl)
    (hdb : (x == ("__debug__" : Str)) = false := by decide +kernel) (he : starEach (a :: es) X.env = (false, eval a X.env) :: starEach es X.env := by rfl) (hpl : (backTo pos (starEach es X.env)).any (·.1) = false := by rfl) :
    FM X W (.Call (.Name x p) (a :: es) [] pos) (mCF (noXF (fnM np nn m)) n) := f_callG c hgd fnM_len (hr.mono hj) hg ha hdb he hpl
end
/-! ### f(k = e) alone -/
structure DfK (K : PySem.W.Frag) (mg : Str → Option Value) (x : Str) (st : Stmt) (pn : Str) : Prop where
  ex : ∃ (f : Addr) (fd : FuncData), Fun K x x st f fd ∧ mg x = some (.ref f) ∧ Binds K fd [pn] [] ∧ ∀ (s : Shared) (u : Value), K.In s.heap → BindsTo s fd ⟨[], [(pn, u)]⟩ [(pn, u)]
theorem DfK.df {K : PySem.W.Frag} {mg : Str → Option Value} {x : Str} {st : Stmt} {pn : Str} (F : DfK K mg x st pn) : Df K mg x st [pn] := by
  obtain ⟨f, fd, h1, h2, h3, _⟩ := F.ex
  exact ⟨f, fd, h1, h2, h3⟩
structure CalK (P : Program) (w : World) (K : PySem.W.Frag) (mg : Str → Option Value) (base : Heap) (k : Nat) (x pn : Str) (fm : Fn) : Prop where
  ex : ∃ (f : Addr) (fd : FuncData), FnOk P w K mg base CX0 k f fd [pn] (SpF0 K mg 1 fm) ∧ mg x = some (.ref f) ∧ PySem.W.keepIn K (.ref f) = true ∧ Binds K fd [pn] [] ∧ ∀ (s : Shared) (u : Value), K.In s.heap → BindsTo s fd ⟨[], [(pn, u)]⟩ [(pn, u)]
section
variable {P : Program} {w : World} {K : PySem.W.Frag} {mg : Str → Option Value} {base : Heap}
theorem DfK.calK {x : Str} {st : Stmt} {N : List Str} {pn : Str} {k : Nat} {m : M Fl} (F : DfK K mg x st pn) (S : FnScope N [pn] (defScope st)) (hl : 1 ≤ N.length)
    (body : ∀ (f : Addr) (cdv : Value) (A : Around) (outer : List PySem.Env) (s : Shared) (H : Hp) (E : XK), Room k (cxOf CX0 P w K mg base N x (defScope st) f cdv A outer s H E).A →
      SMs (cxOf CX0 P w K mg base N x (defScope st) f cdv A outer s H E).nox W0 (defBody st) m) :
    CalK P w K mg base (k + 1) x pn (fnM 1 N.length m) := by
  obtain ⟨f, fd, h1, h2, h3, h4⟩ := F.ex
  refine ⟨f, fd, ?_, h2, h1.kp, h3, h4⟩
  refine h1.ok S (fun vs H Q E h => h.1) fun cdv A outer s H vs Q E hr h => ⟨_, body f cdv A outer s H E hr, ?_⟩
  exact fn_post (k := 1) hl h fun _ _ _ _ z => z
theorem CalK.cal {k : Nat} {x pn : Str} {fm : Fn} (c : CalK P w K mg base k x pn fm) : Cal P w K mg base k x 1 fm := by
  obtain ⟨f, fd, h1, h2, h3, h4, _⟩ := c.ex
  exact ⟨f, fd, [pn], rfl, h1, h2, h3, h4⟩
end
section
variable {X : Cx} {W : WX} {x pn : Str} {p pos kp : Pos} {a : Expr} {ma : M D} {k : Nat} {fm : Fn}
theorem pk_one (ha : EM X W a ma) : PK X [⟨some pn, a, kp⟩] (T X.K X.mg W (aDs X.K X.mg) (aCons ma aNil)) := by
  refine ⟨fun pos pins s σ H Q I h => (pk_cons ha pk_nil).run pos pins s σ H Q I ?_⟩
  obtain ⟨b, ρ, F, e, s, r, q⟩ := h
  refine ⟨b, ρ, F, e, s, r, ?_⟩
  unfold aCons at q
  cases hm : ma e s with
  | no => rw [bnd_no hm] at q; exact q
  | exc x e' s' => rw [bnd_exc hm] at q; exact q
  | ok d e' s' =>
    rw [bnd_ok hm] at q
    exact fun v ρ' F' H' x1 r1 a1 => q [v] ρ' F' H' x1 r1 (.cons a1 .nil)
theorem f_callK (c : CalK X.prog X.w X.K X.mg X.base k x pn fm) (hn : ∀ ds s, ds.length ≠ 1 → fm ds s = .no) (hr : Room k X.A) (hg : Gl X x) (ha : EM X W a ma)
    (hdb : (x == ("__debug__" : Str)) = false := by decide) (hall : (backToKw pos (keywordEach [⟨some pn, a, kp⟩] X.env)).all (·.1.isSome) = true := by rfl) (hks : (backToKw pos (keywordEach [⟨some pn, a, kp⟩] X.env)).filterMap (·.1) = [pn] := by rfl)
    (hpl : ((backTo pos (starEach [] X.env)).any (·.1) || (backToKw pos (keywordEach [⟨some pn, a, kp⟩] X.env)).any (·.1.isNone)) = false := by rfl) :
    FM X W (.Call (.Name x p) [] [⟨some pn, a, kp⟩] pos) (mCF (noXF fm) (aCons ma aNil)) := by
  obtain ⟨f, fd, Fk, hm, hk, hb, hb1⟩ := c.ex
  refine ⟨fun pins s σ H Q I h => ?_⟩
  have h2 := call_core (np := 1) (fun ds s q => by unfold noXF; rw [hn ds s q]) h (fun c d H' => W c d σ H') fun _ _ _ z => z
  refine wpAny_Call_Name_kw (ld_glob I hg hm ?_ hdb)
  refine PySem.W.callWith_KW0 (h₀ := X.base) I.ok.mod.kin hk hall (thn ((pk_one ha).run pos pins s σ H _ I h2) fun us s1 ⟨vs, H1, I1, r1, q1⟩ => ⟨I1.kIn, ?_⟩) hpl
  rw [hks]
  have q2 : SpF0 X.K X.mg 1 fm vs H1 Q fun _ _ _ => False := noXF_sp q1
  have hl := Fk.len _ _ _ _ q2
  cases r1 with
  | nil => cases hl
  | cons rv rt =>
    cases rt with
    | cons _ _ => cases hl
    | nil =>
      refine wpAny_call (codeAny_mono (Fk.run X.A X.stack s1 H1 ⟨[], _⟩ [_] [_] Q _ hr I1.env0 (hb1 s1 _ I1.kIn) (.cons rv .nil) q2) fun res s2 out => ?_)
      cases res with
      | error e => exact pass0 pins σ H1 s1 e s2 I1 out
      | ok fl =>
        cases fl with
        | ret u => exact I1.after out
        | next => exact out.elim
        | brk => exact out.elim
        | cont => exact out.elim
theorem xcallK {m : M Fl} {nn : Nat} {j : Nat} (c : CalK X.prog X.w X.K X.mg X.base j x pn (fnM 1 nn m)) (ha : EM X W a ma) (hr : Room k X.A := by assumption) (hj : j ≤ k := by omega) (hg : Gl X x := by rfl)
    (hdb : (x == ("__debug__" : Str)) = false := by decide +kernel) (hall : (backToKw pos (keywordEach [⟨some pn, a, kp⟩] X.env)).all (·.1.isSome) = true := by rfl) (hks : (backToKw pos (keywordEach [⟨some pn, a, kp⟩] X.env)).filterMap (·.1) = [pn] := by rfl)
    (hpl : ((backTo pos (starEach [] X.env)).any (·.1) || (backToKw pos (keywordEach [⟨some pn, a, kp⟩] X.env)).any (·.1.isNone)) = false := by rfl) :
    FM X W (.Call (.Name x p) [] [⟨some pn, a, kp⟩] pos) (mCF (noXF (fnM 1 nn m)) (aCons ma aNil)) := f_callK c fnM_len (hr.mono hj) hg ha hdb hall hks hpl
end
end Mi

set_option Elab.async false
set_option linter.all false
set_option autoImplicit false
set_option maxRecDepth 100000
set_option maxHeartbeats 4000000
/-! Mi, part Zi: the law's def, called from outside, where it shows containers. -/
namespace Mi
open PySem PySem.Spec PyProof.Rows L2
section
variable {P : Program} {w : World} {K : PySem.W.Frag} {mg mb : Str → Option Value} {fa a : Addr} {fd : FuncData} {x : Str} {k : Nat} {sp : Sp}
/-- the script as an object -/
abbrev scriptObj (vs : List Value) : Obj := { cls := .type "list", data := .seq vs.toArray }
/-- what is known of the heap when the law is called with the script ns at a -/
structure Asked (K : PySem.W.Frag) (mg mb : Str → Option Value) (s : Shared) (a : Addr) (vs : List Value) (ns : List Int) : Prop where
  kin : K.In s.heap
  glob : s.heap.Ns mainGlobals mg
  blt : s.heap.Ns builtinsNs mb
  blt' : ∀ y : Str, y ≠ "__name__" → mb y = bootBuiltins y
  lim : s.heap.NoLimit
  gens : s.gens = #[]
  obj : s.heap.get? a = some (scriptObj vs)
  are : IntsAre vs ns
  short : ns.length ≤ sizeLine
/-- what the caller wants -/
abbrev Fine (s : Shared) (r : Except Value Flow) (s' : Shared) : Prop := r = .ok (.ret (.bool true)) ∧ OldK s.heap s'.heap ∧ s'.os = s.os ∧ AllBare s'.gens
variable {s : Shared} {vs : List Value} {ns : List Int}
/-- the law's def as such, over every base -/
abbrev Held (P : Program) (w : World) (K : PySem.W.Frag) (mg : Str → Option Value) (k : Nat) (fa : Addr) (sp : Sp) (s : Shared) (a : Addr) : Prop := ∀ base : Heap, K.In base → base.Ns mainGlobals mg → ∃ (fd : FuncData) (x : Str), FnG P w K mg base k fa fd [x] sp ∧ BindsTo s fd ⟨[.ref a], []⟩ [(x, .ref a)]
/-- at an abstract heap H that tracks at most the script -/
theorem asked_at (A : Asked K mg mb s a vs ns) (hr : Room k callerA) (F : Held P w K mg k fa sp s a)
    {H : Hp} (only : ∀ b, H b ≠ none → b = a) (notK : H a ≠ none → K.lookup a = none) (shape : ∀ b, H b = none ∨ ∃ o xs, H b = some (.frz o (.lst xs))) (ok : HOk P w H s.heap)
    (wish : sp [.ref a] H (fun v _ => v = .bl true) fun _ _ _ => False) : codeAny (model P w) callerA (.call (.ref fa) ⟨[.ref a], []⟩) (Fine s) s := by
  -- what is tracked is the script, no dict and nothing of K
  have free : ∀ {b : Addr} {o : Obj}, s.heap.get? b = some o → (b = a → H a ≠ none → False) → H b = none := fun {b o} e no => Classical.byContradiction fun n => no (only b n) (by rw [← only b n]; exact n)
  have nodict : ∀ {b : Addr} {o : Obj} {es : Array DictEntry} {q : Nat}, s.heap.get? b = some o → o.data = .dict es q → H b = none := fun {b o es q} e d => free e fun z _ => by
    subst z
    rw [A.obj] at e
    obtain rfl := Option.some.inj e
    cases d
  have hidNs : ∀ {b : Addr} {m : Str → Option Value}, s.heap.Ns b m → (hidT s.heap H).Ns b m := fun {b m} ⟨o, es, q, e, d, r⟩ => ⟨o, es, q, hidT_get e (nodict e d), d, r⟩
  have inK : K.In (hidT s.heap H) := fun b o e => hidT_get (A.kin b o e) (free (A.kin b o e) fun z n => by
    subst z
    rw [notK n] at e
    cases e)
  have md : Mod K mg (hidT s.heap H) := ⟨inK, hidNs A.glob, ⟨mb, hidNs A.blt, A.blt'⟩, by
    obtain ⟨mc, h1, h2⟩ := A.lim
    exact ⟨mc, hidNs h1, h2⟩⟩
  have nil_ : ∀ {b : Addr} {p : Prop}, b ∈ ([] : List Addr) → p := fun h => nomatch h
  have env : Env0 P w K mg (hidT s.heap H) callerA [] s H := ⟨rfl, md, fun _ _ e => of_hidT e, Nat.le_of_eq (hidT_size _ _), trivial, fun _ h => nil_ h, ok, .of_eq A.gens⟩
  obtain ⟨fd, x, Fg, hb⟩ := F _ inK (hidNs A.glob)
  refine codeAny_mono (Fg.run callerA [] s H ⟨[.ref a], []⟩ [.ref a] [.ref a] _ _ hr rfl env hb (.cons rfl .nil) wish) fun r s' out => ?_
  match r, out with
  | .ok (.ret u), ⟨v, H', os, bare, un, ok', rv, hv⟩ =>
    have hv' : v = .bl true := hv
    subst hv'
    have hu : u = Value.bool true := rv
    subst hu
    refine ⟨rfl, .of_keep fun b o e => ?_, os, bare⟩
    rcases shape b with n | ⟨ob, xs, n⟩
    · exact un.keep b o e n (fun z => nil_ z) (by simp)
    · have e1 := (ok b _ n).1
      rw [e] at e1
      obtain rfl := Option.some.inj e1
      exact (ok' b _ (un.frzs b _ _ n)).1
/-- whether the script is the module's own or not -/
theorem asked (A : Asked K mg mb s a vs ns) (hr : Room k callerA) (F : Held P w K mg k fa sp s a)
    (wish : ∀ H : Hp, Only H → SqL K H a (ns.map V.int) → sp [.ref a] H (fun v _ => v = .bl true) fun _ _ _ => False) : codeAny (model P w) callerA (.call (.ref fa) ⟨[.ref a], []⟩) (Fine s) s := by
  have rv := vals_ints A.are
  have len : vs.toArray.size ≤ sizeLine := by
    rw [List.size_toArray, A.are.length]
    exact A.short
  cases e : K.lookup a with
  | some o =>
    have eo := A.kin a o e
    rw [A.obj] at eo
    obtain rfl := Option.some.inj eo
    have sq : SqL K (fun _ => none) a (ns.map V.int) := .inr ⟨_, vs.toArray, _, e, rfl, rfl, rfl, len, by simpa using rv⟩
    exact asked_at A hr F (H := fun _ => none) (fun b n => absurd rfl n) (fun n => absurd rfl n) (fun b => .inl rfl) (fun b u z => nomatch (show (none : Option HO) = some u from z)) (wish _ (fun b => .inl rfl) sq)
  | none =>
    have one : ∀ b : Addr, (fun b => if b = a then some (HO.frz (scriptObj vs) (.lst (ns.map V.int))) else none) b = none ∨ ∃ o xs, (fun b => if b = a then some (HO.frz (scriptObj vs) (.lst (ns.map V.int))) else none) b = some (.frz o (.lst xs)) := fun b => by
      by_cases h : b = a
      · exact .inr ⟨_, _, if_pos h⟩
      · exact .inl (if_neg h)
    refine asked_at A hr F (H := fun b => if b = a then some (.frz (scriptObj vs) (.lst (ns.map V.int))) else none) (fun b n => ?_) (fun _ => e) one (fun b u z => ?_) (wish _ one (.inl (.inr ⟨scriptObj vs, if_pos rfl⟩)))
    · exact Classical.byContradiction fun h => n (if_neg h)
    · by_cases h : b = a
      · have hu := (if_pos h).symm.trans z
        obtain rfl := Option.some.inj hu
        subst h
        exact ⟨A.obj, by rw [List.length_map]; exact A.short, vs, _, rv, A.obj⟩
      · exact nomatch ((if_neg h).symm.trans z : (none : Option HO) = some u)
end
/-- the promise at the top, from what the mirror is worth -/
theorem top_wish {K : PySem.W.Frag} {mg : Str → Option Value} {fm : Fn} {H : Hp} {a : Addr} {ns : List Int} (hS : SqL K H a (ns.map V.int)) (h : ∃ e s', fm [.scr ns] [] = .ok (.dat (.bl true)) e s') : SpF0 K mg 1 fm [.ref a] H (fun v _ => v = .bl true) fun _ _ _ => False := by
  obtain ⟨e, s', h⟩ := h
  refine ⟨rfl, [], H, [], [.scr ns], ⟨fun _ _ q => q, rfl, List.nodup_nil, fun _ m => (nomatch m), fun n _ _ m _ => (by rw [List.getElem?_nil] at m; cases m)⟩, .cons (.scr hS) .nil, ?_⟩
  rw [h]
  intro v ρ' F' H' g rt ba fr
  cases (show At K mg ρ' F' v (.bl true) from ba)
  rfl
/-- the goal that the closing head leaves -/
theorem walk_law {l : PySem.W.OpenLaw} {n k : Nat} {q : Program} {loose : List Str} {XP : (Str → Option Value) → Heap → Prop} {YP : World → Heap → Prop} {d : DefRec}
    (most : l.most = some n) (fits : n ≤ sizeLine) (plain : d.params.defaults = []) (hr : Room k callerA) (fm : Fn)
    (F : ∀ (w : World) (mg : Str → Option Value) (fa : Addr) (h : Heap), YP w h → h.Ns mainGlobals mg → mg d.name = some (.ref fa) →
      ∃ K : PySem.W.Frag, K.In h ∧ mg d.name = some (.ref fa) ∧ ∀ base : Heap, K.In base → base.Ns mainGlobals mg → CalG l.prog w K mg base k d.name 1 fm)
    (true_ : ∀ ns : List Int, ns.length ≤ n → ∃ e s', fm [.scr ns] [] = .ok (.dat (.bl true)) e s') :
    PySem.W.WalkO q loose XP YP l.row.toRowW d [] (fun f vs => PySem.call f vs) := by
  refine Att.attach_call most plain fun w s₀ s₁ mg mb fa o pm cd doc a vs ns G Y ho hd hcd hmg obj are len gens => ?_
  obtain ⟨K, hK, _, hF⟩ := F w mg fa s₁.heap Y G.T.g hmg
  refine asked (K := K) (sp := SpF0 K mg 1 fm) ⟨hK, G.T.g, G.T.b, G.T.builtins, G.T.nolimit, gens, obj, are, Nat.le_trans len fits⟩ hr (fun base b1 b2 => ?_) fun H hO hS => top_wish hS (true_ ns len)
  obtain ⟨f, fd, ps, hp, Fg, hm, _, hb⟩ := (hF base b1 b2).ex
  rw [hmg] at hm
  obtain rfl := Value.ref.inj (Option.some.inj hm)
  match ps, hp with
  | [x], _ => exact ⟨fd, x, Fg, hb s₁ [.ref a] hK rfl⟩
end Mi

set_option Elab.async false
set_option linter.all false
set_option autoImplicit false
set_option maxRecDepth 100000
set_option maxHeartbeats 4000000
/-! Mi, part Zj: what the top has left, as facts about defs. -/
namespace Mi
open PySem L2
section
variable {K : PySem.W.Frag} {h : Heap} {mg : Str → Option Value}
theorem fun_of {x qual : Str} {st : Stmt} {f : Addr} {fd : FuncData} (F : FunD K x qual (defArgs st) (defBody st) (defScope st) [] [] f fd) : Fun K x qual st f fd := by
  obtain ⟨oc, od, dV, kV, doc, pm, an, cdv, ct, osl, e, l, c, dv, _⟩ := F.ex
  have dn : dV = .none := by
    rcases dv with ⟨_, q⟩ | ⟨q, _⟩
    · exact q
    · exact absurd rfl q
  subst dn
  exact ⟨⟨oc, od, kV, doc, pm, an, cdv, ct, osl, e, l, c⟩, F.kp⟩
/-- a def of the top -/
abbrev glD (x : Str) (st : Stmt) : He.DefD := ⟨(x, none), x, x, defArgs st, defBody st, defScope st, [], []⟩
variable {fa : List He.Fa} {fn : List He.DefD}
theorem df_says {x : Str} {st : Stmt} {ps : List Str} (c : He.SaysD fa fn K) (X : K.In h) (G : h.Ns mainGlobals mg) (i j : Nat) (hi : fn[i]? = some (glD x st)) (hj : fa[j]? = some (.glo x))
    (b : ∀ (kV doc pm : Value) (an : Option Addr) (cdv ct : Value) (us : List Value), us.length = ps.length → bindArgs (PySem.W.fnOf x x (defArgs st) (defBody st) (defScope st) .none kV doc pm an cdv ct) ⟨us, []⟩ = pure (ps.zip us)) : Df K mg x st ps := by
  obtain ⟨fd, F⟩ := c.def_ i hi
  exact ⟨_, fd, fun_of F, He.glo_ok X G (c.fact j hj), (fun_of F).binds b⟩
theorem dfK_says {x pn : Str} {st : Stmt} (c : He.SaysD fa fn K) (X : K.In h) (G : h.Ns mainGlobals mg) (i j : Nat) (hi : fn[i]? = some (glD x st)) (hj : fa[j]? = some (.glo x))
    (b : ∀ (kV doc pm : Value) (an : Option Addr) (cdv ct : Value) (us : List Value), us.length = 1 → bindArgs (PySem.W.fnOf x x (defArgs st) (defBody st) (defScope st) .none kV doc pm an cdv ct) ⟨us, []⟩ = pure ([pn].zip us))
    (b2 : ∀ (kV doc pm : Value) (an : Option Addr) (cdv ct u : Value), bindArgs (PySem.W.fnOf x x (defArgs st) (defBody st) (defScope st) .none kV doc pm an cdv ct) ⟨[], [(pn, u)]⟩ = pure [(pn, u)]) : DfK K mg x st pn := by
  obtain ⟨fd, F⟩ := c.def_ i hi
  have F1 := fun_of F
  have e := F1.ex
  obtain ⟨oc, od, kV, doc, pm, an, cdv, ct, osl, rfl, _⟩ := e
  exact ⟨_, _, F1, He.glo_ok X G (c.fact j hj), F1.binds b, fun s u _ => .of_eq (b2 _ _ _ _ _ _ u)⟩
theorem free_says {x : Str} (c : He.SaysD fa fn K) (X : K.In h) (G : h.Ns mainGlobals mg) (j : Nat) (hj : fa[j]? = some (.free x)) : mg x = none := He.free_ok X G (c.fact j hj)
theorem str_says {x z : Str} (c : He.SaysD fa fn K) (X : K.In h) (G : h.Ns mainGlobals mg) (j : Nat) (hj : fa[j]? = some (.str x z)) (ok : PyData.strOk z = true := by decide +kernel) : Gc mg x (.str z) := by
  obtain ⟨t, e⟩ := He.str_ok X G (c.fact j hj)
  exact gc_str e ok
theorem int_says {x : Str} {z : Int} (c : He.SaysD fa fn K) (X : K.In h) (G : h.Ns mainGlobals mg) (j : Nat) (hj : fa[j]? = some (.int x z)) : Gc mg x (.int z) := by
  obtain ⟨t, e⟩ := He.int_ok X G (c.fact j hj)
  exact gc_int e
/-! ### errors of one's own -/
def oexB (K : PySem.W.Frag) (C : Addr) : Bool := (match K.lookup C with
  | some ⟨.type t, _, .cls cd, sl⟩ => (match cd.mro, sl.toList with
    | .ref C' :: bm, [_, _, _, _, some (.builtin n), _] => decide (t = "type") && (decide (C' = C) && (decide (n = "ValueError.__new__") && (!cd.hasDel && (cd.hasDict && PySem.HandSPX.refsVE bm))))
    | _, _ => false)
  | _ => false) && (He.eqO (PySem.W.findIn K (.ref C) "__setattr__") (some (some (.builtin "object.__setattr__"))) && (decide (PySem.W.subIn K (.ref C) (.type "BaseException") = some true) && (decide (PySem.W.typeIn K (.ref C) = some (.type "type")) && PySem.W.keepIn K (.ref C))))
theorem oexB_ok {C : Addr} (e : oexB K C = true) : OexC K C := by
  unfold oexB at e
  obtain ⟨e1, e⟩ := He.ba e
  obtain ⟨e2, e⟩ := He.ba e
  obtain ⟨e3, e⟩ := He.ba e
  obtain ⟨e4, e5⟩ := He.ba e
  refine ⟨?_, He.eqO_ok e2, of_decide_eq_true e3, of_decide_eq_true e4, e5⟩
  split at e1
  · rename_i t dd cd sl look
    split at e1
    · rename_i C' bm k0 k1 k2 k3 n k5 hm hs
      simp only [Bool.and_eq_true, decide_eq_true_eq, Bool.not_eq_true'] at e1
      obtain ⟨rfl, rfl, rfl, hdel, hd, ref⟩ := e1
      obtain ⟨nm, bs, mro, ns, qn, hdd, sn, sub, ab, col, del⟩ := cd
      dsimp only at hm hdel hd
      subst hm hdel hd
      have hsl : sl = #[k0, k1, k2, k3, some (.builtin "ValueError.__new__"), k5] := by
        obtain ⟨l⟩ := sl
        simp only at hs
        rw [hs]
      subst hsl
      exact ⟨_, _, _, _, _, _, _, _, _, _, _, _, _, _, _, look, ref⟩
    · cases e1
  · cases e1
/-- an own error x of two fields over another, y, that has no __init__ of its own -/
def errB (x y f1 f2 : Str) (K : PySem.W.Frag) : Bool := oexB K (He.ga K x) && (He.eqO (PySem.W.findIn K (.ref (He.ga K x)) f1) (some none) && (He.eqO (PySem.W.findIn K (.ref (He.ga K x)) f2) (some none) &&
  (He.eqO (PySem.W.findIn K (.ref (He.ga K x)) "__init__") (some (some (.ref (He.ma K (He.ga K x) "__init__")))) && (decide (PySem.W.typeIn K (.ref (He.ma K (He.ga K x) "__init__")) = some (.type "function")) &&
  (decide (PySem.W.exmOne K (.ref (He.ga K x)) (.ref (He.ga K x)) = some true) &&
  (PySem.W.readsIn K (He.ga K y) (.type "type") && (He.eqO (PySem.W.specialIn K (.ref (He.ga K y)) "__getattribute__") (some (some (.builtin "type.__getattribute__"))) &&
  (match PySem.W.findCls K (.ref (He.ga K y)) (.type "type") "__init__" with
    | some (.val (.builtin n)) => decide (n = "ValueError.__init__")
    | _ => false))))))))
theorem errB_ok {P : Program} {w : World} {base : Heap} {x y f1 f2 : Str} (e : errB x y f1 f2 K = true) (gx : mg x = some (.ref (He.ga K x))) (gy : mg y = some (.ref (He.ga K y))) {fd : FuncData} {ps : List Str} {k : Nat}
    (F : BInit K mg y → FnOk P w K mg base CX0 k (He.ma K (He.ga K x) "__init__") fd ps (spInit2 K f1 f2)) (hb : Binds K fd ps []) : ExK P w K mg base k x f1 f2 ∧ Cat K mg x := by
  unfold errB at e
  obtain ⟨e1, e⟩ := He.ba e
  obtain ⟨e2, e⟩ := He.ba e
  obtain ⟨e3, e⟩ := He.ba e
  obtain ⟨e4, e⟩ := He.ba e
  obtain ⟨e5, e⟩ := He.ba e
  obtain ⟨e6, e⟩ := He.ba e
  obtain ⟨e7, e⟩ := He.ba e
  obtain ⟨e8, e9⟩ := He.ba e
  have B : BInit K mg y := by
    refine ⟨_, _, gy, e7, He.eqO_ok e8, ?_⟩
    split at e9
    · rename_i n q
      rw [q, of_decide_eq_true e9]
    · cases e9
  exact ⟨⟨_, _, fd, ps, oexB_ok e1, He.eqO_ok e2, He.eqO_ok e3, He.eqO_ok e4, of_decide_eq_true e5, F B, hb, gx⟩, ⟨_, gx, of_decide_eq_true e6⟩⟩
/-! ### a table of defs -/
def defsB (K : PySem.W.Frag) (u : Value) (xs : List Str) : Bool := match u with
  | .ref t => (match K.lookup t with
    | some ⟨.type c, _, .seq its _, _⟩ => decide (c = "tuple") && (decide (its.size ≤ sizeLine) && (decide (its.toList = xs.map fun x => Value.ref (He.ga K x)) && xs.all fun x => He.eqO (PySem.W.nsIn K mainGlobals x) (some (some (.ref (He.ga K x))))))
    | _ => false)
  | _ => false
theorem defs_ats (X : K.In h) (G : h.Ns mainGlobals mg) {ρ : List Addr} {F : Hp} : ∀ {xs : List Str}, (xs.all fun x => He.eqO (PySem.W.nsIn K mainGlobals x) (some (some (.ref (He.ga K x))))) = true →
    AtAll K mg ρ F (xs.map fun x => V.ref (He.ga K x)) (xs.map D.fn) ∧ Vals (xs.map fun x => V.ref (He.ga K x)) (xs.map fun x => Value.ref (He.ga K x))
  | [], _ => ⟨.nil, .nil⟩
  | x :: xs, e => by
    rw [List.all_cons] at e
    obtain ⟨e1, e2⟩ := He.ba e
    obtain ⟨h1, h2⟩ := defs_ats X G (ρ := ρ) (F := F) e2
    exact ⟨.cons (.fn (PySem.W.mg_of X G (He.eqO_ok e1))) h1, .cons rfl h2⟩
theorem defsB_ok (X : K.In h) (G : h.Ns mainGlobals mg) {u : Value} {xs : List Str} (e : defsB K u xs = true) : ∃ v, RelV v u ∧ ∀ ρ F, At K mg ρ F v (.tup (xs.map D.fn)) := by
  unfold defsB at e
  split at e
  · rename_i t
    split at e
    · rename_i c dd its n sl look
      obtain ⟨e1, e⟩ := He.ba e
      obtain ⟨e2, e⟩ := He.ba e
      obtain ⟨e3, e4⟩ := He.ba e
      refine ⟨.ref t, rfl, fun ρ F => ?_⟩
      obtain ⟨h1, h2⟩ := defs_ats X G (ρ := ρ) (F := F) e4
      refine .tup (.inr ⟨_, its, n, look, congrArg Value.type (of_decide_eq_true e1), rfl, of_decide_eq_true e2, ?_⟩) h1
      rw [of_decide_eq_true e3]
      exact h2
    · cases e
  · cases e
def keyB (k : Value) (y : Str) : Bool := match k with
  | .str z _ => decide (z = y)
  | _ => false
theorem keyB_ok {k : Value} {y : Str} (e : keyB k y = true) : ∃ t, k = .str y t := by
  unfold keyB at e
  split at e
  · obtain rfl := of_decide_eq_true e
    exact ⟨_, rfl⟩
  · cases e
def entsB (K : PySem.W.Frag) : List DictEntry → List (Str × List Str) → Bool
  | [], [] => true
  | e :: es, p :: ps => keyB e.key p.1 && (defsB K e.val p.2 && entsB K es ps)
  | _, _ => false
theorem entsB_ok (X : K.In h) (G : h.Ns mainGlobals mg) : ∀ {es : List DictEntry} {ps : List (Str × List Str)}, entsB K es ps = true → Ents K mg es (ps.map fun p => (p.1, .tup (p.2.map D.fn)))
  | [], [], _ => .nil
  | [], _ :: _, e => by cases e
  | _ :: _, [], e => by cases e
  | ⟨hh, key, val⟩ :: es, (y, xs) :: ps, e => by
    obtain ⟨e1, e⟩ := He.ba (show (keyB key y && (defsB K val xs && entsB K es ps)) = true from e)
    obtain ⟨e2, e3⟩ := He.ba e
    obtain ⟨t, rfl⟩ := keyB_ok e1
    obtain ⟨v, h1, h2⟩ := defsB_ok X G e2
    exact .cons h1 h2 (entsB_ok X G e3)
def tabB (x : Str) (ps : List (Str × List Str)) (K : PySem.W.Frag) : Bool := match K.lookup (He.ga K x) with
  | some ⟨_, _, .dict es _, _⟩ => entsB K es.toList ps
  | _ => false
theorem tabB_ok {w : World} (X : K.In h) (G : h.Ns mainGlobals mg) {x : Str} {ps : List (Str × List Str)} (g : mg x = some (.ref (He.ga K x))) (e : tabB x ps K = true) (k : ∃ es n, KDict K w (He.ga K x) es n) : Fm w K mg x (ps.map fun p => (p.1, .tup (p.2.map D.fn))) := by
  obtain ⟨es, n, k⟩ := k
  unfold tabB at e
  rw [k.at_] at e
  exact ⟨_, es, n, g, k, entsB_ok X G e⟩
end
/-! ### the Hook: facts, tables, one more Bool; the statics are looked at, too -/
section
variable (n : Nat) (fa : List He.Fa) (fn : List He.DefD) (ts : List He.Tab) (ex : PySem.W.Frag → Bool)
structure SaysM (w : World) (K : PySem.W.Frag) : Prop where
  t : He.SaysT fa fn ts w K
  more : ex K = true
def fragM (g : Addr → Option Obj) : PySem.W.Frag := He.frG g (cStatics :: He.asD g n)
def obsM (g : Addr → Option Obj) : He.AlT × Bool := (He.obsT fa fn ts (fragM n g), ex (fragM n g))
def hookM : PySem.W.Hook where
  α := He.AlT × Bool
  obs := fun s => obsM n fa fn ts ex s.heap.get?
  val := fun w => (He.valT fn ts w, true)
  says := fun w h => ∃ K : PySem.W.Frag, K.In h ∧ SaysM fa fn ts ex w K
  of := fun _ _ e => ⟨_, He.frG_in, ⟨congrArg (fun z : He.AlT × Bool => z.1) e, congrArg (fun z : He.AlT × Bool => z.2) e⟩⟩
  keeps := fun _ _ _ ⟨K, hK, c⟩ k => ⟨K, PySem.W.Frag.In.keeps hK k, c⟩
theorem obsM_eq {g : Addr → Option Obj} {s : Shared} (h : ∀ a, g a = s.heap.get? a) : obsM n fa fn ts ex g = (hookM n fa fn ts ex).obs s := by
  obtain rfl : g = s.heap.get? := funext h
  rfl
end
end Mi

set_option Elab.async false
set_option linter.all false
set_option autoImplicit false
set_option maxRecDepth 100000
set_option maxHeartbeats 4000000
/-! Mi, part Pl: what a mirror is worth, in plain Lean (weakest conditions). -/
namespace Mi
open PySem L2
def R.wp {α : Type} (r : R α) (Q : α → Env → S → Prop) : Prop := match r with
  | .ok a e s => Q a e s
  | _ => False
section
variable {α β : Type} {m : M α} {f : α → M β} {e : Env} {s : S}
@[simp] theorem wp_ok {a : α} {Q : α → Env → S → Prop} : (R.ok a e s).wp Q = Q a e s := rfl
@[simp] theorem wp_bnd {Q : β → Env → S → Prop} : (bnd m f e s).wp Q = (m e s).wp fun a e' s' => (f a e' s').wp Q := by
  unfold bnd
  cases m e s <;> rfl
@[simp] theorem wp_ret {a : α} {Q : α → Env → S → Prop} : (ret a e s).wp Q = Q a e s := rfl
@[simp] theorem wp_some {a : α} {Q : α → Env → S → Prop} : (lift (some a) e s).wp Q = Q a e s := rfl
@[simp] theorem wp_lift {o : Option α} {Q : α → Env → S → Prop} : (lift o e s).wp Q = ∃ a, o = some a ∧ Q a e s := by
  cases o with
  | none => simp [lift, R.wp]
  | some a => simp [lift, R.wp]
theorem R.wp_mono {r : R α} {Q Q' : α → Env → S → Prop} (h : r.wp Q) (k : ∀ a e s, Q a e s → Q' a e s) : r.wp Q' := by
  cases r with
  | ok a e s => exact k _ _ _ h
  | _ => exact h
theorem wp_ite {c : Prop} [Decidable c] {x y : R α} {Q : α → Env → S → Prop} : (if c then x else y).wp Q = if c then x.wp Q else y.wp Q := by
  by_cases h : c <;> simp [h]
end
theorem noX_is {α : Type} {m : M α} {e : Env} {s : S} {a : α} {e' : Env} {s' : S} (h : m e s = .ok a e' s') : noX m e s = .ok a e' s' := by
  unfold noX
  rw [h]
/-- a list comprehension whose parts change nothing -/
theorem lcL_pure {vs : List Nat} {g : Tg} {t : M Bool} {m : M D} {s : S} {e0 : Env} {k : D → Bool} {f : D → D} : ∀ {ds : List D} {e : Env}, clr vs e = e0 →
    (∀ d ∈ ds, ∃ e1 e2, g d e0 = some e1 ∧ t e1 s = .ok (k d) e2 s ∧ clr vs e2 = e0 ∧ (k d = true → ∃ e3, m e2 s = .ok (f d) e3 s ∧ clr vs e3 = e0)) →
    lcL vs g (noX t) (noX m) ds e s = .ok ((ds.filter k).map f) e0 s
  | [], e, h0, _ => by
    show R.ok [] (clr vs e) s = _
    rw [h0]
    rfl
  | d :: ds, e, h0, h => by
    obtain ⟨e1, e2, h1, h2, h3, h4⟩ := h d List.mem_cons_self
    have ih := fun {e : Env} (q : clr vs e = e0) => lcL_pure (ds := ds) q fun x hx => h x (List.mem_cons_of_mem _ hx)
    unfold lcL
    rw [h0, h1]
    show bnd (noX t) _ e1 s = _
    rw [bnd_ok (noX_is h2)]
    by_cases hk : k d = true
    · obtain ⟨e3, h5, h6⟩ := h4 hk
      rw [if_pos hk, bnd_ok (noX_is h5), bnd_ok (ih h6), List.filter_cons_of_pos hk]
      rfl
    · rw [if_neg hk, ih h3, List.filter_cons_of_neg hk]
theorem mLc_pure {it : M (List D)} {vs : List Nat} {g : Tg} {t : M Bool} {m : M D} {s : S} {e e' e0 : Env} {ds : List D} (k : D → Bool) (f : D → D) (hi : it e s = .ok ds e' s) (hl : ds.length ≤ lim) (h0 : clr vs e' = e0)
    (h : ∀ d ∈ ds, ∃ e1 e2, g d e0 = some e1 ∧ t e1 s = .ok (k d) e2 s ∧ clr vs e2 = e0 ∧ (k d = true → ∃ e3, m e2 s = .ok (f d) e3 s ∧ clr vs e3 = e0)) : mLc it vs g t m e s = .ok (.own ((ds.filter k).map f)) e0 s := by
  unfold mLc
  rw [bnd_ok hi, if_pos hl, bnd_ok (lcL_pure h0 h)]
  rfl
end Mi

set_option Elab.async false
set_option linter.all false
set_option autoImplicit false
set_option maxRecDepth 100000
set_option maxHeartbeats 4000000
/-! Mi, part Pm: plain facts of data: tuples seen as lists, what the operations are worth. -/
namespace Mi
open PySem L2
def tupL : D → Option (List D)
  | .tup xs => some xs
  | .ntup xs => some xs
  | _ => none
section
variable {d : D} {xs ys : List D} {s : S} {e : Env}
theorem tupL_cases (h : tupL d = some xs) : d = .tup xs ∨ d = .ntup xs := by
  cases d <;> simp [tupL] at h <;> simp [h]
theorem top_tup (h : tupL d = some xs) : d.top = .tup xs := by
  rcases tupL_cases h with rfl | rfl <;> rfl
theorem ev_ix (h : tupL d = some xs) (i : Int) : tp2 gIx d (.int i) = atI xs i := by
  show gIx d.top (.int i) = _
  rw [top_tup h]
  rfl
theorem ev_len (h : tupL d = some xs) : tpN gLen [d] = some (.int xs.length) := by
  show gLen [d.top] = _
  rw [top_tup h]
  rfl
theorem ev_gIt (h : tupL d = some xs) : gIt d = some xs := by
  rcases tupL_cases h with rfl | rfl <;> rfl
theorem ev_tgT (h : tupL d = some xs) (n : Nat) (g : Tgs) (e : Env) : tgT n g d e = if xs.length = n then g xs e else none := by
  rcases tupL_cases h with rfl | rfl <;> rfl
theorem ev_isT (h : tupL d = some xs) (T : String) : cIsi T d = some (decide (T = "tuple")) := by
  have e : cIsi T d = some (tyIs T "tuple") := by
    rcases tupL_cases h with rfl | rfl <;> rfl
  rw [e]
  unfold tyIs
  by_cases q : T = "tuple"
  · simp [q]
  · have q2 : ¬ "tuple" = T := fun z => q z.symm
    simp [q, q2]
theorem ev_dep (h : tupL d = some xs) : d.dep = deps xs + 1 := by
  rcases tupL_cases h with rfl | rfl <;> rfl
theorem ev_plain (h : tupL d = some xs) : d.plain = plains xs := by
  rcases tupL_cases h with rfl | rfl <;> rfl
theorem ev_py (h : tupL d = some xs) : d.py = .tuple (pys xs) := by
  rcases tupL_cases h with rfl | rfl <;> rfl
end
/-! ### list lemmas on data -/
theorem plains_mem : ∀ {ds : List D}, plains ds = true ↔ ∀ d ∈ ds, d.plain = true
  | [] => by simp [plains]
  | d :: ds => by simp [plains, plains_mem (ds := ds)]
theorem deps_le : ∀ {ds : List D} {n : Nat}, deps ds ≤ n ↔ ∀ d ∈ ds, d.dep ≤ n
  | [], n => by simp [deps]
  | d :: ds, n => by
    simp only [deps, List.mem_cons, forall_eq_or_imp, Nat.max_le, deps_le (ds := ds)]
theorem plains_append (xs ys : List D) : plains (xs ++ ys) = (plains xs && plains ys) := by
  induction xs with
  | nil => rfl
  | cons x xs ih => simp [plains, ih, Bool.and_assoc]
theorem plains_filter {xs : List D} (p : D → Bool) (h : plains xs = true) : plains (xs.filter p) = true :=
  plains_mem.mpr fun d hd => plains_mem.mp h d (List.mem_filter.mp hd).1
theorem ev_eq_nil {xs : List D} (h : plains xs = true) : tp2 cEq (.lst xs) (.lst []) = some xs.isEmpty := by
  show cEq (.lst xs) (.lst []) = _
  have e : eqable (.lst xs) (.lst []) = true := by
    unfold eqable
    simp only [D.plain, D.dep, h, plains, deps]
    have : min (deps xs + 1) 1 ≤ 60 := Nat.le_trans (Nat.min_le_right _ _) (by decide)
    simp [this]
  unfold cEq
  rw [if_pos e]
  cases xs <;> simp [dEq, D.py, pys, PyData.eqv, PyData.eqvAll]
theorem ev_ne_nil {xs : List D} (h : plains xs = true) : tp2 cNe (.lst xs) (.lst []) = some (!xs.isEmpty) := by
  have := ev_eq_nil h
  show cNe (.lst xs) (.lst []) = _
  change cEq (.lst xs) (.lst []) = _ at this
  unfold cEq at this
  unfold cNe
  by_cases c : eqable (.lst xs) (.lst []) = true
  · rw [if_pos c] at this ⊢
    rw [Option.some.inj this]
  · rw [if_neg c] at this
    cases this
theorem eqable_nil {d : D} (h : d.plain = true) : eqable d (.tup []) = true := by
  unfold eqable
  simp only [h, D.plain, D.dep, plains, deps]
  have : min d.dep 1 ≤ 60 := Nat.le_trans (Nat.min_le_right _ _) (by decide)
  simp [this]
theorem ev_eq_tnil {d : D} {xs : List D} (h : d.plain = true) (t : tupL d = some xs) : tp2 cEq d (.tup []) = some xs.isEmpty := by
  have hp := ev_plain t
  rw [h] at hp
  show cEq d.top (.tup []) = _
  rw [top_tup t]
  unfold cEq
  rw [if_pos (eqable_nil (d := .tup xs) (by show plains xs = true; rw [← hp]))]
  cases xs <;> simp [dEq, D.py, pys, PyData.eqv, PyData.eqvAll]
theorem ev_ne_tnil {d : D} {xs : List D} (h : d.plain = true) (t : tupL d = some xs) : tp2 cNe d (.tup []) = some (!xs.isEmpty) := by
  have hp := ev_plain t
  rw [h] at hp
  show cNe d.top (.tup []) = _
  rw [top_tup t]
  unfold cNe
  rw [if_pos (eqable_nil (d := .tup xs) (by show plains xs = true; rw [← hp]))]
  cases xs <;> simp [dEq, D.py, pys, PyData.eqv, PyData.eqvAll]
/-- equal data of strings -/
theorem ev_eq_str (x y : Str) : tp2 cEq (.str x) (.str y) = some (x == y) := rfl
theorem ev_ne_str (x y : Str) : tp2 cNe (.str x) (.str y) = some (!(x == y)) := rfl
theorem ev_eq_int (x y : Int) : tp2 cEq (.int x) (.int y) = some (x == y) := rfl
theorem ev_ne_int (x y : Int) : tp2 cNe (.int x) (.int y) = some (!(x == y)) := rfl
/-! ### items -/
theorem atI_nat {α : Type} (xs : List α) (k : Nat) : atI xs (k : Int) = xs[k]? := by
  unfold atI ixN
  rw [if_pos (by omega)]
  by_cases h : k < xs.length
  · rw [if_pos (by omega)]
    simp
  · rw [if_neg (by omega)]
    simp [h]
theorem atI_pos {α : Type} (xs : List α) {i : Int} (h : 0 ≤ i) : atI xs i = xs[i.toNat]? := by
  obtain ⟨n, rfl⟩ := Int.eq_ofNat_of_zero_le h
  exact atI_nat xs n
/-! ### comprehensions that change nothing -/
theorem clr_dat {i : Nat} {e : Env} (h : e[i]? = some .unb) : clr [i] e = e := by
  show e.set i .unb = e
  obtain ⟨hl, he⟩ := List.getElem?_eq_some_iff.mp h
  rw [← he]
  simp
theorem clr_set {i : Nat} {e : Env} {b : B} (h : e[i]? = some .unb) : clr [i] (e.set i b) = e := by
  show (e.set i b).set i .unb = e
  rw [List.set_set]
  exact clr_dat h
section
variable {it : M (List D)} {s : S} {e e' e0 : Env} {ds : List D} {i : Nat} {m : M D} {t : M Bool}
/-- [m for x in ds] -/
theorem lc_map (f : D → D) (hi : it e s = .ok ds e0 s) (hl : ds.length ≤ lim) (h0 : e0[i]? = some .unb) (h : ∀ d ∈ ds, m (e0.set i (.dat d)) s = .ok (f d) (e0.set i (.dat d)) s) :
    mLc it [i] (tgN i) (ret true) m e s = .ok (.own (ds.map f)) e0 s := by
  rw [mLc_pure (t := ret true) (g := tgN i) (e0 := e0) (fun _ => true) f hi hl (clr_dat h0) fun d hd => ⟨e0.set i (.dat d), e0.set i (.dat d), rfl, rfl, clr_set h0, fun _ => ⟨_, h d hd, clr_set h0⟩⟩]
  rw [List.filter_eq_self.mpr (fun _ _ => rfl)]
/-- [x for x in ds if t] -/
theorem lc_flt (k : D → Bool) (hi : it e s = .ok ds e0 s) (hl : ds.length ≤ lim) (h0 : e0[i]? = some .unb) (h : ∀ d ∈ ds, t (e0.set i (.dat d)) s = .ok (k d) (e0.set i (.dat d)) s) :
    mLc it [i] (tgN i) t (mVar i) e s = .ok (.own (ds.filter k)) e0 s := by
  have hlt : i < e0.length := (List.getElem?_eq_some_iff.mp h0).1
  rw [mLc_pure (e0 := e0) k (fun d => d) hi hl (clr_dat h0) fun d hd => ⟨e0.set i (.dat d), e0.set i (.dat d), rfl, h d hd, clr_set h0, fun _ => ⟨e0.set i (.dat d), ?_, clr_set h0⟩⟩]
  · rw [List.map_id']
  · unfold mVar
    rw [List.getElem?_set_self hlt]
end
theorem bools_of (p : D → Bool) : ∀ xs : List D, boolsOf (xs.map fun d => D.bl (p d)) = some (xs.map p)
  | [] => rfl
  | x :: xs => by
    show (boolsOf (xs.map fun d => D.bl (p d))).map (p x :: ·) = _
    rw [bools_of p xs]
    rfl
theorem ev_all (p : D → Bool) (xs : List D) : tpN gAll [.lst (xs.map fun d => D.bl (p d))] = some (.bl (xs.all p)) := by
  show (boolsOf (xs.map fun d => D.bl (p d))).map _ = _
  rw [bools_of]
  simp [List.all_map]
end Mi
namespace Mi
open PySem L2
/-- all that a tuple answers -/
theorem tupF {d : D} {xs : List D} (t : tupL d = some xs) : (∀ i : Int, tp2 gIx d (.int i) = atI xs i) ∧ tpN gLen [d] = some (.int xs.length) ∧ gIt d = some xs ∧ (∀ T, cIsi T d = some (decide (T = "tuple"))) ∧ (∀ n g e, tgT n g d e = if xs.length = n then g xs e else none) ∧ (∀ lo hi, gSl d.top lo hi = some (.tup (cutD xs lo hi))) ∧
    (d.plain = true → tp2 cEq d (.tup []) = some xs.isEmpty ∧ tp2 cNe d (.tup []) = some (!xs.isEmpty)) :=
  ⟨ev_ix t, ev_len t, ev_gIt t, ev_isT t, fun n g e => ev_tgT t n g e, fun lo hi => by rw [top_tup t]; rfl, fun h => ⟨ev_eq_tnil h t, ev_ne_tnil h t⟩⟩
theorem cutD_from {α : Type} (xs : List α) (k : Nat) : cutD xs (some (k : Int)) none = xs.drop k := by
  unfold cutD
  rw [HT.sIx_nat, HT.sIx_none]
  by_cases h : k ≤ xs.length
  · rw [Nat.min_eq_left h]
    exact List.take_of_length_le (by simp)
  · rw [Nat.min_eq_right (by omega)]
    simp
    omega
theorem cutD_to {α : Type} (xs : List α) (k : Nat) : cutD xs none (some (k : Int)) = xs.take k := by
  unfold cutD
  rw [HT.sIx_nat, HT.sIx_none, List.drop_zero, Nat.sub_zero]
  by_cases h : k ≤ xs.length
  · rw [Nat.min_eq_left h]
  · rw [Nat.min_eq_right (by omega), List.take_of_length_le (Nat.le_refl _), List.take_of_length_le (by omega)]
section
variable {it : M (List D)} {s : S} {e e' e0 : Env} {ds : List D} {i j : Nat} {m : M D} {t : M Bool}
theorem clr2 (hi : e0[i]? = some .unb) (hj : e0[j]? = some .unb) : clr [i, j] e0 = e0 := by
  show (e0.set i .unb).set j .unb = e0
  have h1 : e0.set i .unb = e0 := clr_dat hi
  rw [h1]
  exact clr_dat hj
theorem clr2_set {a b : B} (hij : i ≠ j) (hi : e0[i]? = some .unb) (hj : e0[j]? = some .unb) : clr [i, j] ((e0.set i a).set j b) = e0 := by
  show (((e0.set i a).set j b).set i .unb).set j .unb = e0
  rw [List.set_comm b .unb (fun z => hij z.symm), List.set_set, List.set_set]
  exact clr2 hi hj
/-- [m for x, y in zip(xs, ys)] -/
theorem lc_zip (f : D → D → D) {xs ys : List D} (hi : it e s = .ok (zipD xs ys) e0 s) (hl : xs.length ≤ lim) (hij : i ≠ j) (h0 : e0[i]? = some .unb) (h1 : e0[j]? = some .unb)
    (h : ∀ a b, (a, b) ∈ xs.zip ys → m ((e0.set i (.dat a)).set j (.dat b)) s = .ok (f a b) ((e0.set i (.dat a)).set j (.dat b)) s) :
    mLc it [i, j] (tgT 2 (tgsCons (tgN i) (tgsCons (tgN j) tgsNil))) (ret true) m e s = .ok (.own ((xs.zip ys).map fun p => f p.1 p.2)) e0 s := by
  have hzl : (zipD xs ys).length ≤ lim := by
    unfold zipD
    rw [List.length_map, List.length_zip]
    exact Nat.le_trans (Nat.min_le_left _ _) hl
  rw [mLc_pure (t := ret true) (g := tgT 2 (tgsCons (tgN i) (tgsCons (tgN j) tgsNil))) (e0 := e0) (fun _ => true) (fun d => match d with | .tup [a, b] => f a b | _ => .non) hi hzl (clr2 h0 h1) fun d hd => ?_]
  · rw [List.filter_eq_self.mpr (fun _ _ => rfl)]
    unfold zipD
    rw [List.map_map]
    rfl
  · unfold zipD at hd
    obtain ⟨⟨a, b⟩, hp, rfl⟩ := List.mem_map.mp hd
    exact ⟨(e0.set i (.dat a)).set j (.dat b), _, rfl, rfl, clr2_set hij h0 h1, fun _ => ⟨_, h a b hp, clr2_set hij h0 h1⟩⟩
end
end Mi

set_option Elab.async false
set_option linter.all false
set_option autoImplicit false
set_option maxRecDepth 100000
set_option maxHeartbeats 4000000
/-! Mi, part Pn: the mirror's words, applied: one step of reckoning each. -/
namespace Mi
open PySem L2
section
variable {α β : Type} (e : Env) (s : S) (ma mb mc : M D) (m n : M Fl) (mx : M B) (nl : M (List D)) (t u : M Bool) (g : D → D → Option D) (gb gc : D → D → Option Bool) (gl : List D → Option D) (i j : Nat) (lo hi : M (Option Int))
theorem v_ret (a : α) : (ret a : M α) e s = .ok a e s := rfl
theorem v_bnd (m : M α) (f : α → M β) : bnd m f e s = match m e s with
  | .ok a e' s' => f a e' s'
  | .exc x e' s' => .exc x e' s'
  | .no => .no := rfl
theorem v_some (a : α) : (lift (some a) : M α) e s = .ok a e s := rfl
theorem v_none : (lift none : M α) e s = .no := rfl
theorem v_asB : asB ma e s = bnd ma (fun d => match d with
  | .bl b => ret b
  | _ => lift none) e s := rfl
theorem v_tNo : tNo t e s = bnd t (fun b => ret (!b)) e s := rfl
theorem v_tAn : tAn t u e s = bnd t (fun b => if b = true then u else ret false) e s := rfl
theorem v_tOrr : tOrr t u e s = bnd t (fun b => if b = true then ret true else u) e s := rfl
theorem v_ofB : ofB t e s = bnd t (fun b => ret (D.bl b)) e s := rfl
theorem v_mAn : mAn ma mb e s = bnd ma (fun d => match d with
  | .bl b => if b = true then mb else ret (.bl false)
  | _ => lift none) e s := rfl
theorem v_mOrr : mOrr ma mb e s = bnd ma (fun d => match d with
  | .bl b => if b = true then ret (.bl true) else mb
  | _ => lift none) e s := rfl
theorem v_mNo : mNo ma e s = bnd ma (fun d => match d with
  | .bl b => ret (.bl (!b))
  | _ => lift none) e s := rfl
theorem v_mIf (m n : M α) : mIf t m n e s = bnd t (fun b => if b = true then m else n) e s := rfl
theorem v_c3 : c3 ma mb mc gb gc e s = bnd ma (fun x => bnd mb fun y => bnd (lift (gb x y)) fun k => if k = true then bnd mc fun z => lift (gc y z) else ret false) e s := rfl
theorem v_aNil : aNil e s = .ok [] e s := rfl
theorem v_aCons : aCons ma nl e s = bnd ma (fun d => bnd nl fun ds => ret (d :: ds)) e s := rfl
theorem v_mTup : mTup nl e s = bnd nl (fun ds => lift (if ds.length ≤ lim then some (.tup ds) else none)) e s := rfl
theorem v_mLst : mLst nl e s = bnd nl (fun ds => lift (if ds.length ≤ lim then some (.lst ds) else none)) e s := rfl
theorem v_mNtup : mNtup nl e s = bnd nl (fun ds => lift (if ds.length ≤ lim then some (.ntup ds) else none)) e s := rfl
theorem v_mLstF : mLstF nl e s = bnd nl (fun ds => lift (if ds.length ≤ lim then some (.own ds) else none)) e s := rfl
theorem v_m2 : m2 ma mb g e s = bnd ma (fun a => bnd mb fun b => lift (g a b)) e s := rfl
theorem v_m1 (g : D → Option D) : m1 ma g e s = bnd ma (fun a => lift (g a)) e s := rfl
theorem v_c2 : c2 ma mb gb e s = bnd ma (fun a => bnd mb fun b => lift (gb a b)) e s := rfl
theorem v_mC : mC gb ma mb e s = bnd ma (fun a => bnd mb fun b => lift ((gb a b).map .bl)) e s := rfl
theorem v_pNone : pNone e s = .ok none e s := rfl
theorem v_pSome : pSome ma e s = bnd ma (fun d => match d with
  | .int i => ret (some i)
  | _ => lift none) e s := rfl
theorem v_mSl : mSl ma lo hi e s = bnd ma (fun d => bnd lo fun l => bnd hi fun h => lift (gSl d.top l h)) e s := rfl
theorem v_mCall : mCall nl gl e s = bnd nl (fun ds => lift (gl ds)) e s := rfl
theorem v_tIsi (T : String) : tIsi ma T e s = bnd ma (fun d => lift ((cIsi T d).map .bl)) e s := rfl
theorem v_frzM : frzM mx e s = bnd mx (fun x => lift x.frz) e s := rfl
theorem v_datM : datM ma e s = bnd ma (fun d => ret (.dat d)) e s := rfl
theorem v_sNx : sNx e s = .ok .nx e s := rfl
theorem v_sSeq : sSeq m n e s = bnd m (fun f => match f with
  | .nx => n
  | f => ret f) e s := rfl
theorem v_sDrop : sDrop ma e s = bnd ma (fun _ => ret .nx) e s := rfl
theorem v_sRet : sRet mx e s = bnd mx (fun x => ret (.rt x)) e s := rfl
theorem v_sSet : sSet i mx e s = bnd mx (fun x e s => .ok .nx (e.set i x) s) e s := rfl
theorem v_sIf : sIf t m n e s = bnd t (fun k => if k = true then m else n) e s := rfl
theorem v_mCF (f : Fn) : mCF f nl e s = bnd nl (fun ds e s => match f ds s with
  | .ok x _ s' => .ok x e s'
  | .exc x _ s' => .exc x e s'
  | .no => .no) e s := rfl
theorem v_noXF (f : Fn) (ds : List D) : noXF f ds s = match f ds s with
  | .exc _ _ _ => .no
  | r => r := rfl
theorem v_noX (m : M α) : noX m e s = match m e s with
  | .exc _ _ _ => .no
  | r => r := rfl
theorem v_iSeq : iSeq ma e s = bnd ma (fun d => lift (gIt d)) e s := rfl
theorem v_iZip : Mi.iZip nl e s = bnd nl (fun ds => lift (gZip (ds.map D.top))) e s := rfl
theorem v_iRng : iRng ma e s = bnd ma (fun d => lift (match d with
  | .int j => if -(lim : Int) ≤ j ∧ j ≤ lim then some (upto j.toNat) else none
  | _ => none)) e s := rfl
theorem v_iEnu : iEnu ma e s = bnd ma (fun d => lift (match d with
  | .tup xs => some (enuD xs)
  | _ => none)) e s := rfl
theorem v_sUnp (g : Tg) : sUnp g ma e s = bnd ma (fun d e s => match g d e with
  | some e' => .ok .nx e' s
  | none => .no) e s := rfl
theorem v_tgN (d : D) : tgN i d e = some (e.set i (.dat d)) := rfl
theorem v_tgsNil : tgsNil [] e = some e := rfl
theorem v_tgsCons (g : Tg) (r : Tgs) (d : D) (ds : List D) : tgsCons g r (d :: ds) e = match g d e with
  | some e' => r ds e'
  | none => none := rfl
theorem v_sRaise2 (x f1 f2 : Str) : sRaise2 x f1 f2 nl e s = bnd nl (fun ds e s => match ds with
  | [d1, d2] => .exc ⟨x, [(f2, d2), (f1, d1)]⟩ e s
  | _ => .no) e s := rfl
theorem v_sRetV : sRetV i e s = match e[i]? with
  | some .unb => .no
  | some x => .ok (.rt x) e s
  | none => .no := rfl
theorem v_sTry (x : Str) : sTry m x n e s = match m e s with
  | .exc y e' s' => if y.cls = x then noX n e' s' else .no
  | r => r := rfl
theorem v_sFor (it : M (List D)) (g : Tg) : sFor it g m e s = bnd it (fun ds => forL g m ds) e s := rfl
theorem v_mIxF (tbl : List (Str × D)) : mIxF tbl ma e s = bnd ma (fun d => match d with
  | .str z => lift (fmGet tbl z)
  | _ => lift none) e s := rfl
theorem v_tNiF (tbl : List (Str × D)) : tNiF tbl ma e s = bnd ma (fun d => match d with
  | .str z => ret (fmGet tbl z).isNone
  | _ => lift none) e s := rfl
theorem v_sPar (ks : List Nat) (m : M (List B)) : sPar ks m e s = bnd m (fun xs e s => if xs.length = ks.length then .ok .nx (putAll ks xs e) s else .no) e s := rfl
theorem v_bNil : bNil e s = .ok [] e s := rfl
theorem v_bCons (n : M (List B)) : bCons mx n e s = bnd mx (fun x => bnd n fun xs => ret (x :: xs)) e s := rfl
theorem v_fAdd : fAdd ma mb e s = bnd ma (fun x => bnd mb fun y => match x.top, y.top with
  | .lst xs, .lst ys => lift (if xs.length + ys.length ≤ lim then some (.own (xs ++ ys)) else none)
  | x, y => lift ((gAdd x y).map .dat)) e s := rfl
theorem v_mDix (x : Str) : mDix i x e s = match e[i]? with
  | some (.ownK ks vs) => match lookK ks vs (.inr x) with
    | some d => .ok d e s
    | none => .no
  | some (.dat (.dK ks vs)) => match lookK ks vs (.inr x) with
    | some d => .ok d e s
    | none => .no
  | _ => .no := rfl
theorem v_sDst (x : Str) : sDst i x ma e s = bnd ma (fun d e s => match tgD i x d e with
  | some e' => .ok .nx e' s
  | none => .no) e s := rfl
theorem v_mDcp : mDcp ma e s = bnd ma (fun d => match d with
  | .dK ks vs => ret (.ownK ks vs)
  | _ => lift none) e s := rfl
theorem v_mSrtSet : mSrtSet ma e s = bnd ma (fun d => lift (gSrtSet d)) e s := rfl
theorem v_mTix : mTix ma mb e s = bnd ma (fun x => match x with
  | .ntup ds => bnd mb fun y => lift (gTix (.ntup ds) y)
  | _ => lift none) e s := rfl
theorem v_mRev : mRev ma e s = bnd ma (fun d => lift (gRev d.top)) e s := rfl
theorem v_mVar : mVar i e s = match e[i]? with
  | some (.dat d) => .ok d e s
  | some (.own ds) => .ok (.lst ds) (e.set i (.dat (.lst ds))) s
  | some (.ownK ks vs) => .ok (.dK ks vs) (e.set i (.dat (.dK ks vs))) s
  | _ => .no := rfl
theorem v_sApp : sApp i ma e s = match e[i]? with
  | some (.own _) => bnd ma (fun d e s => match e[i]? with
    | some (.own ds) => if ds.length < lim then .ok .nx (e.set i (.own (ds ++ [d]))) s else .no
    | _ => .no) e s
  | _ => .no := rfl
end
theorem v_fnM (k n : Nat) (m : M Fl) (ds : List D) (s : S) : fnM k n m ds s = if ds.length = k then (match m (ds.map .dat ++ List.replicate (n - k) .unb) s with
  | .ok (.rt x) _ s' => .ok x [] s'
  | .ok .nx _ s' => .ok (.dat .non) [] s'
  | .ok _ _ _ => .no
  | .exc x _ s' => .exc x [] s'
  | .no => .no) else .no := rfl
end Mi
namespace Mi
open PySem L2
/-! ### operations on written data -/
theorem w_slT (xs : List D) (lo hi : Option Int) : gSl (.tup xs) lo hi = some (.tup (cutD xs lo hi)) := rfl
theorem w_slL (xs : List D) (lo hi : Option Int) : gSl (.lst xs) lo hi = some (.lst (cutD xs lo hi)) := rfl
theorem w_topT (xs : List D) : (D.tup xs).top = .tup xs := rfl
theorem w_topN (xs : List D) : (D.ntup xs).top = .tup xs := rfl
theorem w_topL (xs : List D) : (D.lst xs).top = .lst xs := rfl
theorem w_zipT (xs ys : List D) : gZip [.tup xs, .tup ys] = some (zipD xs ys) := rfl
theorem w_gItT (xs : List D) : gIt (.tup xs) = some xs := rfl
theorem w_gItN (xs : List D) : gIt (.ntup xs) = some xs := rfl
theorem w_gItL (xs : List D) : gIt (.lst xs) = some xs := rfl
theorem w_tgT (n : Nat) (g : Tgs) (xs : List D) (e : Env) : tgT n g (.tup xs) e = if xs.length = n then g xs e else none := rfl
theorem cut1 {α : Type} (xs : List α) : cutD xs (some 1) none = xs.tail := (cutD_from xs 1).trans List.drop_one
theorem w_add (a b : Int) : tp2 gAdd (.int a) (.int b) = some (.int (a + b)) := rfl
theorem w_sub (a b : Int) : tp2 gSub (.int a) (.int b) = some (.int (a - b)) := rfl
theorem w_ixT (xs : List D) (i : Int) : tp2 gIx (.tup xs) (.int i) = atI xs i := rfl
theorem w_ixN (xs : List D) (i : Int) : tp2 gIx (.ntup xs) (.int i) = atI xs i := rfl
theorem w_ixL (xs : List D) (i : Int) : tp2 gIx (.lst xs) (.int i) = atI xs i := rfl
theorem w_addT (xs ys : List D) : tp2 gAdd (.tup xs) (.tup ys) = if xs.length + ys.length ≤ lim then some (.tup (xs ++ ys)) else none := rfl
theorem w_addNT (xs ys : List D) : tp2 gAdd (.ntup xs) (.tup ys) = if xs.length + ys.length ≤ lim then some (.tup (xs ++ ys)) else none := rfl
theorem w_lenT (xs : List D) : tpN gLen [.tup xs] = some (.int xs.length) := rfl
theorem w_lenN (xs : List D) : tpN gLen [.ntup xs] = some (.int xs.length) := rfl
theorem w_lenL (xs : List D) : tpN gLen [.lst xs] = some (.int xs.length) := rfl
theorem w_lenS (x : Str) : tpN gLen [.str x] = if x.length ≤ lim then some (.int x.length) else none := rfl
theorem w_ltI (a b : Int) : tp2 cLt (.int a) (.int b) = some (decide (a < b)) := rfl
theorem w_leI (a b : Int) : tp2 cLe (.int a) (.int b) = some (decide (a ≤ b)) := rfl
theorem w_gtI (a b : Int) : tp2 cGt (.int a) (.int b) = some (decide (b < a)) := rfl
theorem w_geI (a b : Int) : tp2 cGe (.int a) (.int b) = some (decide (b ≤ a)) := rfl
theorem w_leI0 (a b : Int) : cLe (.int a) (.int b) = some (decide (a ≤ b)) := rfl
theorem w_ltI0 (a b : Int) : cLt (.int a) (.int b) = some (decide (a < b)) := rfl
theorem w_eqI (a b : Int) : tp2 cEq (.int a) (.int b) = some (a == b) := rfl
theorem w_neI (a b : Int) : tp2 cNe (.int a) (.int b) = some (!(a == b)) := rfl
theorem w_eqS (a b : Str) : tp2 cEq (.str a) (.str b) = some (a == b) := rfl
theorem w_neS (a b : Str) : tp2 cNe (.str a) (.str b) = some (!(a == b)) := rfl
theorem w_isI (i : Int) (T : String) : cIsi T (.int i) = some (decide (T = "int")) := by
  show some (tyIs T "int") = _
  unfold tyIs
  by_cases q : T = "int"
  · simp [q]
  · have q2 : ¬ "int" = T := fun z => q z.symm
    simp [q, q2]
theorem w_isS (i : Str) (T : String) : cIsi T (.str i) = some (decide (T = "str")) := by
  show some (tyIs T "str") = _
  unfold tyIs
  by_cases q : T = "str"
  · simp [q]
  · have q2 : ¬ "str" = T := fun z => q z.symm
    simp [q, q2]
theorem w_isT (i : List D) (T : String) : cIsi T (.tup i) = some (decide (T = "tuple")) := ev_isT rfl T
theorem w_isN (i : List D) (T : String) : cIsi T (.ntup i) = some (decide (T = "tuple")) := ev_isT rfl T
theorem w_isL (i : List D) (T : String) : cIsi T (.lst i) = some (decide (T = "list")) := by
  show some (tyIs T "list") = _
  unfold tyIs
  by_cases q : T = "list"
  · simp [q]
  · have q2 : ¬ "list" = T := fun z => q z.symm
    simp [q, q2]
theorem w_isB (i : Bool) (T : String) : cIsi T (.bl i) = some (decide (T = "bool") || decide (T = "int")) := by
  show some (tyIs T "bool") = _
  unfold tyIs
  by_cases q : T = "bool"
  · simp [q]
  · have q2 : ¬ "bool" = T := fun z => q z.symm
    by_cases q3 : T = "int" <;> simp [q, q2, q3]
theorem w_isO (T : String) : cIsi T .non = some (decide (T = "NoneType")) := by
  show some (tyIs T "NoneType") = _
  unfold tyIs
  by_cases q : T = "NoneType"
  · simp [q]
  · have q2 : ¬ "NoneType" = T := fun z => q z.symm
    simp [q, q2]
theorem w_at0 {α : Type} (a : α) (xs : List α) : atI (a :: xs) 0 = some a := atI_nat (a :: xs) 0
theorem w_at1 {α : Type} (a b : α) (xs : List α) : atI (a :: b :: xs) 1 = some b := atI_nat (a :: b :: xs) 1
theorem w_at2 {α : Type} (a b c : α) (xs : List α) : atI (a :: b :: c :: xs) 2 = some c := atI_nat (a :: b :: c :: xs) 2
theorem w_lim : lim = 1000000 := rfl
theorem w_ite {α : Type} (c : Prop) [Decidable c] (m n : M α) (e : Env) (s : S) : (if c then m else n) e s = if c then m e s else n e s := by
  by_cases h : c <;> simp [h]
theorem w_at3 {α : Type} (a b c d : α) (xs : List α) : atI (a :: b :: c :: d :: xs) 3 = some d := atI_nat (a :: b :: c :: d :: xs) 3
theorem w_at4 {α : Type} (a b c d f : α) (xs : List α) : atI (a :: b :: c :: d :: f :: xs) 4 = some f := atI_nat (a :: b :: c :: d :: f :: xs) 4
theorem w_at5 {α : Type} (a b c d f g : α) (xs : List α) : atI (a :: b :: c :: d :: f :: g :: xs) 5 = some g := atI_nat (a :: b :: c :: d :: f :: g :: xs) 5
theorem w_tupL (xs : List D) : tpN gTuple [.lst xs] = some (.tup xs) := rfl
theorem w_tupT (xs : List D) : tpN gTuple [.tup xs] = some (.tup xs) := rfl
theorem w_tupN (xs : List D) : tpN gTuple [.ntup xs] = some (.tup xs) := rfl
theorem w_lstL (xs : List D) : tpN gList [.lst xs] = some (.lst xs) := rfl
theorem w_lstT (xs : List D) : tpN gList [.tup xs] = some (.lst xs) := rfl
theorem w_intI (i : Int) : tpN gInt [.int i] = some (.int i) := rfl
theorem w_intB (b : Bool) : tpN gInt [.bl b] = some (.int (if b then 1 else 0)) := rfl
theorem w_topI (i : Int) : (D.int i).top = .int i := rfl
theorem w_topS (i : Str) : (D.str i).top = .str i := rfl
theorem w_addII (a b : Int) : gAdd (.int a) (.int b) = some (.int (a + b)) := rfl
theorem w_addTT (xs ys : List D) : gAdd (.tup xs) (.tup ys) = if xs.length + ys.length ≤ lim then some (.tup (xs ++ ys)) else none := rfl
theorem str_inj (a b : String) : (Str.ofString a = Str.ofString b) = (a = b) := propext ⟨fun h => by
  rw [Str.ofString_eq_toList, Str.ofString_eq_toList] at h
  injection h with h
  have h := congrArg Array.toList h
  simp only [List.toList_toArray] at h
  have := (List.map_inj_right fun x y h => Char.ext (UInt32.toNat_inj.mp h)).mp h
  exact String.toList_inj.mp this, fun h => by rw [h]⟩
theorem str_beq (a b : String) : (Str.ofString a == Str.ofString b) = (a == b) := by
  rw [Bool.eq_iff_iff, beq_iff_eq, beq_iff_eq, str_inj]
theorem v_tNiT (i : Nat) (m : M D) (e : Env) (s : S) : tNiT i m e s = bnd m (fun d e s => match e[i]?, intsT d with
  | some (.ownT ks _), some k => .ok (!hasT ks k) e s
  | _, _ => .no) e s := rfl
theorem v_sTst (i j : Nat) (e : Env) (s : S) : sTst i j e s = (match e[i]?, e[j]? with
  | some (.ownT ks vs), some (.dat d) => match intsT d with
    | some k => if ks.length < 100000 ∧ hasT ks k = false then .ok .nx (e.set i (.ownT (ks ++ [k]) vs)) s else .no
    | none => .no
  | _, _ => .no) := rfl
theorem v_mSrtT (i : Nat) (e : Env) (s : S) : mSrtT i e s = (match e[i]? with
  | some (.ownT (k :: ks) _) => if (k :: ks).length < 64 ∧ 1 ≤ k.length ∧ ((k :: ks).all fun n => decide (n.length = k.length) && bdB n) = true then .ok (.lst ((srtK (TS.code 1000) (k :: ks)).map tupI)) e s else .no
  | _ => .no) := rfl
theorem v_mCV (tbl : Str → Option Fn) (i : Nat) (n : M (List D)) (e : Env) (s : S) : mCV tbl i n e s = match e[i]? with
  | some (.dat (.fn x)) => match tbl x with
    | some f => mCF (noXF f) n e s
    | none => .no
  | _ => .no := rfl
theorem w_addLL (xs ys : List D) : tp2 gAdd (.lst xs) (.lst ys) = if xs.length + ys.length ≤ lim then some (.lst (xs ++ ys)) else none := rfl
theorem w_revT (xs : List D) : gRev (.tup xs) = some (.tup xs.reverse) := rfl
end Mi

set_option Elab.async false
set_option linter.all false
set_option autoImplicit false
set_option maxRecDepth 100000
set_option maxHeartbeats 4000000
namespace Lw
open PySem L2 Mi
def mis_integer : M Fl := (sRet (datM (mAn (tIsi (mVar 0) "int") (mNo (tIsi (mVar 0) "bool")))))
def mis_number : M Fl := (sRet (datM (mAn (frzM (mCF (noXF (fnM 1 1 mis_integer)) (aCons (mVar 0) aNil))) (mC (tp2 cGe) (mVar 0) (ret (.int 0))))))
def mis_name : M Fl := (sSeq (sIf (tOrr (tNo (asB (tIsi (mVar 0) "str"))) (tNo (c3 (ret (.int 1)) (mCall (aCons (mVar 0) aNil) (tpN gLen)) (ret (.int 8)) cLe cLe))) (sRet (datM (ret (.bl false)))) sNx) (sRet (datM (mCall (aCons (frzM (mLc (iSeq (mVar 0)) [1] (tgN 1) (ret true) (mC (tp2 cIn) (mVar 1) (ret (.str "abcdefghijklmnopqrstuvwxyz"))))) aNil) (tpN gAll)))))
def mis_word : M Fl := (sRet (datM (mOrr (frzM (mCF (noXF (fnM 1 2 mis_name)) (aCons (mVar 0) aNil))) (mAn (tIsi (mVar 0) "str") (mC (tp2 cEq) (mVar 0) (ret (.str "")))))))
def mis_ascending : M Fl := (sRet (datM (mCall (aCons (frzM (mLc (iZip (aCons (mVar 0) (aCons (mSl (mVar 0) (pSome (ret (.int 1))) pNone) aNil))) [1, 2] (tgT 2 (tgsCons (tgN 1) (tgsCons (tgN 2) tgsNil))) (ret true) (mC (tp2 cLt) (mVar 1) (mVar 2)))) aNil) (tpN gAll))))
def mis_reading : M Fl := (sRet (datM (mAn (tIsi (mVar 0) "tuple") (mCall (aCons (frzM (mLc (iSeq (mVar 0)) [1] (tgN 1) (ret true) (frzM (mCF (noXF (fnM 1 2 mis_name)) (aCons (mVar 1) aNil))))) aNil) (tpN gAll)))))
def mis_quiet : M Fl := (sRet (datM (mAn (frzM (mCF (noXF (fnM 1 2 mis_reading)) (aCons (mVar 0) aNil))) (frzM (mCF (noXF (fnM 1 3 mis_ascending)) (aCons (mVar 0) aNil))))))
def mis_letters : M Fl := (sRet (datM (mAn (frzM (mCF (noXF (fnM 1 1 mis_quiet)) (aCons (mVar 0) aNil))) (mC (tp2 cGt) (mCall (aCons (mVar 0) aNil) (tpN gLen)) (ret (.int 0))))))
def mrequire : M Fl := (sIf (tNo (asB (mVar 0))) (sRaise2 "InvalidPaper" "word" "at" (aCons (mVar 1) (aCons (mVar 2) aNil))) sNx)
def mis_pair : M Fl := (sRet (datM (mAn (tIsi (mVar 0) "tuple") (mAn (mC (tp2 cEq) (mCall (aCons (mVar 0) aNil) (tpN gLen)) (ret (.int 2))) (mAn (frzM (mCF (noXF (fnM 1 1 mis_integer)) (aCons (m2 (mVar 0) (ret (.int 0)) (tp2 gIx)) aNil))) (frzM (mCF (noXF (fnM 1 1 mis_word)) (aCons (m2 (mVar 0) (ret (.int 1)) (tp2 gIx)) aNil))))))))
def mis_row : M Fl := (sRet (datM (mAn (tIsi (mVar 0) "tuple") (mCall (aCons (frzM (mLc (iSeq (mVar 0)) [1] (tgN 1) (ret true) (frzM (mCF (noXF (fnM 1 1 mis_pair)) (aCons (mVar 1) aNil))))) aNil) (tpN gAll)))))
def mhas_shape : M Fl := (sSeq (sIf (tOrr (tNo (asB (tIsi (mVar 0) "tuple"))) (tOrr (c2 (mCall (aCons (mVar 0) aNil) (tpN gLen)) (ret (.int 2)) (tp2 cNe)) (tOrr (tNo (asB (frzM (mCF (noXF (fnM 1 2 mis_reading)) (aCons (m2 (mVar 0) (ret (.int 0)) (tp2 gIx)) aNil))))) (tNo (asB (tIsi (m2 (mVar 0) (ret (.int 1)) (tp2 gIx)) "tuple")))))) (sRet (datM (ret (.bl false)))) sNx) (sRet (datM (mCall (aCons (frzM (mLc (iSeq (m2 (mVar 0) (ret (.int 1)) (tp2 gIx))) [1] (tgN 1) (ret true) (frzM (mCF (noXF (fnM 1 2 mis_row)) (aCons (mVar 1) aNil))))) aNil) (tpN gAll)))))
def mlets_machine : M Fl := (sSeq (sDrop (frzM (mCF (fnM 3 3 mrequire) (aCons (frzM (mCF (noXF (fnM 1 2 mhas_shape)) (aCons (mVar 0) aNil))) (aCons (ret (.str "shape")) (aCons (ret (.int (-1))) aNil)))))) (sSeq (sUnp (tgT 2 (tgsCons (tgN 1) (tgsCons (tgN 2) tgsNil))) (mVar 0)) (sSeq (sDrop (frzM (mCF (fnM 3 3 mrequire) (aCons (frzM (mCF (noXF (fnM 1 1 mis_letters)) (aCons (mVar 1) aNil))) (aCons (ret (.str "letters")) (aCons (ret (.int (-1))) aNil)))))) (sSeq (sDrop (frzM (mCF (fnM 3 3 mrequire) (aCons (mC (tp2 cGt) (mCall (aCons (mVar 2) aNil) (tpN gLen)) (ret (.int 0))) (aCons (ret (.str "rows")) (aCons (ret (.int (-1))) aNil)))))) (sSeq (sFor (iEnu (mVar 2)) (tgT 2 (tgsCons (tgN 3) (tgsCons (tgN 4) tgsNil))) (sSeq (sDrop (frzM (mCF (fnM 3 3 mrequire) (aCons (mC (tp2 cEq) (mCall (aCons (mVar 4) aNil) (tpN gLen)) (mCall (aCons (mVar 1) aNil) (tpN gLen))) (aCons (ret (.str "row")) (aCons (mVar 3) aNil)))))) (sFor (iEnu (mVar 4)) (tgT 2 (tgsCons (tgN 5) (tgsCons (tgT 2 (tgsCons (tgN 6) (tgsCons (tgN 7) tgsNil))) tgsNil))) (sDrop (frzM (mCF (fnM 3 3 mrequire) (aCons (ofB (c3 (ret (.int 0)) (mVar 6) (mCall (aCons (mVar 2) aNil) (tpN gLen)) cLe cLt)) (aCons (ret (.str "next")) (aCons (mTup (aCons (mVar 3) (aCons (mVar 5) aNil))) aNil))))))))) (sRet (datM (mCall (aCons (mVar 2) aNil) (tpN gLen)))))))))
def mis_machine : M Fl := (sTry (sRet (datM (mC (tp2 cGt) (frzM (mCF (fnM 1 8 mlets_machine) (aCons (mVar 0) aNil))) (ret (.int 0))))) "InvalidPaper" (sRet (datM (ret (.bl false)))))
def tFORMS : List (Str × D) := [("read", .tup [.fn "is_name"]), ("plan", .tup [.fn "is_machine"]), ("replace", .tup [.fn "is_number"]), ("force", .tup [.fn "is_number", .fn "is_number"]), ("quiet", .tup [.fn "is_quiet"]), ("forget", .tup [.fn "is_number"])]
def tbl78 : Str → Option Fn := fun x => if x = "is_name" then some (fnM 1 2 mis_name) else if x = "is_machine" then some (fnM 1 1 mis_machine) else if x = "is_number" then some (fnM 1 1 mis_number) else if x = "is_quiet" then some (fnM 1 1 mis_quiet) else none
def mis_event : M Fl := (sSeq (sIf (tOrr (tNo (asB (tIsi (mVar 0) "tuple"))) (tOrr (c2 (mCall (aCons (mVar 0) aNil) (tpN gLen)) (ret (.int 0)) (tp2 cEq)) (tOrr (tNo (asB (tIsi (m2 (mVar 0) (ret (.int 0)) (tp2 gIx)) "str"))) (tNiF tFORMS (m2 (mVar 0) (ret (.int 0)) (tp2 gIx)))))) (sRet (datM (ret (.bl false)))) sNx) (sSeq (sSet 1 (datM (mIxF tFORMS (m2 (mVar 0) (ret (.int 0)) (tp2 gIx))))) (sRet (datM (mAn (mC (tp2 cEq) (mCall (aCons (mVar 0) aNil) (tpN gLen)) (m2 (mCall (aCons (mVar 1) aNil) (tpN gLen)) (ret (.int 1)) (tp2 gAdd))) (mCall (aCons (frzM (mLc (iZip (aCons (mVar 1) (aCons (mSl (mVar 0) (pSome (ret (.int 1))) pNone) aNil))) [2, 3] (tgT 2 (tgsCons (tgN 2) (tgsCons (tgN 3) tgsNil))) (ret true) (frzM (mCV tbl78 2 (aCons (mVar 3) aNil))))) aNil) (tpN gAll)))))))
def mis_beginning : M Fl := (sSeq (sIf (tOrr (tNo (asB (tIsi (mVar 0) "tuple"))) (c2 (mCall (aCons (mVar 0) aNil) (tpN gLen)) (ret (.int 3)) (tp2 cNe))) (sRet (datM (ret (.bl false)))) sNx) (sSeq (sUnp (tgT 3 (tgsCons (tgN 1) (tgsCons (tgN 2) (tgsCons (tgN 3) tgsNil)))) (mVar 0)) (sRet (datM (mAn (tIsi (mVar 1) "str") (mAn (mC (tp2 cEq) (mVar 1) (ret (.str "service"))) (mAn (frzM (mCF (noXF (fnM 1 1 mis_machine)) (aCons (mVar 2) aNil))) (frzM (mCF (noXF (fnM 1 1 mis_quiet)) (aCons (mVar 3) aNil))))))))))
def mis_log_by_kind : M Fl := (sSeq (sIf (tOrr (tNo (asB (tIsi (mVar 0) "tuple"))) (tOrr (c2 (mCall (aCons (mVar 0) aNil) (tpN gLen)) (ret (.int 0)) (tp2 cEq)) (tNo (asB (frzM (mCF (noXF (fnM 1 4 mis_beginning)) (aCons (m2 (mVar 0) (ret (.int 0)) (tp2 gIx)) aNil))))))) (sRet (datM (ret (.bl false)))) sNx) (sRet (datM (mCall (aCons (frzM (mLc (iSeq (mSl (mVar 0) (pSome (ret (.int 1))) pNone)) [1] (tgN 1) (ret true) (frzM (mCF (noXF (fnM 1 4 mis_event)) (aCons (mVar 1) aNil))))) aNil) (tpN gAll)))))
def mis_log : M Fl := (sRet (mCF (noXF (fnM 1 2 mis_log_by_kind)) (aCons (mVar 0) aNil)))
def m_law_source : M Fl := (sRet (mLstF (aCons (mSl (mVar 0) pNone (pSome (ret (.int 63)))) (aCons (ret (.int 0)) (aCons (ret (.int 0)) (aCons (ret (.int 0)) aNil))))))
def m_law_draw : M Fl := (sSeq (sRset 0 3 (m2 (mRix 0 3) (ret (.int 1)) (tp2 gAdd))) (sSeq (sIf (c2 (mRix 0 2) (ret (.int 0)) (tp2 cGt)) (sSeq (sSet 5 (datM (m2 (mCall (aCons (mRix 0 2) aNil) (tpN gInt)) (mVar 1) (tp2 gMod)))) (sSeq (sRset 0 2 (m2 (mRix 0 2) (mVar 1) (tp2 gFdv))) (sRetV 5))) sNx) (sSeq (sSet 2 (datM (mRix 0 1))) (sSeq (sRset 0 1 (m2 (mVar 2) (ret (.int 1)) (tp2 gAdd))) (sSeq (sSet 3 (mIf (c2 (mRix 0 0) (mLst aNil) (tp2 cNe)) (datM (m2 (mRix 0 0) (m2 (mCall (aCons (mVar 2) aNil) (tpN gInt)) (mCall (aCons (mRix 0 0) aNil) (tpN gLen)) (tp2 gMod)) (tp2 gIx))) (datM (ret (.int 41))))) (sSeq (sIf (tAn (c2 (mVar 3) (m2 (ret (.int 10)) (ret (.int 18)) (tp2 gPow)) (tp2 cGe)) (c2 (mVar 2) (mCall (aCons (mRix 0 0) aNil) (tpN gLen)) (tp2 cLt))) (sSeq (sRset 0 2 (m2 (mVar 3) (mVar 1) (tp2 gFdv))) (sRet (datM (m2 (mCall (aCons (mVar 3) aNil) (tpN gInt)) (mVar 1) (tp2 gMod))))) sNx) (sSeq (sSet 4 (datM (m2 (mCall (aCons (m2 (m2 (m2 (m2 (mCall (aCons (mVar 3) aNil) (tpN gInt)) (ret (.int 1999999927)) (tp2 gMod)) (m2 (ret (.int 60037)) (mRix 0 3) (tp2 gMul)) (tp2 gAdd)) (ret (.int 79)) (tp2 gAdd)) (ret (.int 3)) (tp2 gPow)) aNil) (tpN gInt)) (ret (.int 2147483543)) (tp2 gMod)))) (sSeq (sSet 4 (datM (m2 (mCall (aCons (m2 (m2 (m2 (mVar 4) (m2 (m2 (ret (.int 9029)) (mRix 0 3) (tp2 gMul)) (mRix 0 3) (tp2 gMul)) (tp2 gAdd)) (ret (.int 31)) (tp2 gAdd)) (ret (.int 5)) (tp2 gPow)) aNil) (tpN gInt)) (ret (.int 2147483549)) (tp2 gMod)))) (sRet (datM (m2 (mCall (aCons (m2 (mVar 4) (ret (.int 128)) (tp2 gFdv)) aNil) (tpN gInt)) (mVar 1) (tp2 gMod))))))))))))
def m_law_signs : M Fl := (sRet (datM (m2 (mLst (aCons (mNtup (aCons (ret (.str "a")) aNil)) (aCons (mNtup (aCons (ret (.str "a")) (aCons (ret (.str "b")) aNil))) (aCons (mNtup (aCons (ret (.str "a")) (aCons (ret (.str "b")) aNil))) (aCons (mNtup (aCons (ret (.str "a")) (aCons (ret (.str "b")) (aCons (ret (.str "c")) aNil)))) aNil))))) (frzM (mCF (noXF (fnM 2 6 m_law_draw)) (aCons (mVar 0) (aCons (ret (.int 4)) aNil)))) (tp2 gIx))))
def m_law_gear : M Fl := (sSeq (sPar [3, 4] (bCons (fAdd (ret (.int 1)) (frzM (mCF (noXF (fnM 2 6 m_law_draw)) (aCons (mVar 0) (aCons (ret (.int 3)) aNil))))) (bCons (mLstF aNil) bNil))) (sSeq (sFor (iRng (mVar 3)) (tgN 2) (sApp 4 (mCall (aCons (frzM (mLc (iSeq (mVar 1)) [5] (tgN 5) (ret true) (mTup (aCons (frzM (mCF (noXF (fnM 2 6 m_law_draw)) (aCons (mVar 0) (aCons (mVar 3) aNil)))) (aCons (m2 (mLst (aCons (ret (.str "")) (aCons (ret (.str "")) (aCons (ret (.str "x")) (aCons (ret (.str "y")) (aCons (ret (.str "no")) aNil)))))) (frzM (mCF (noXF (fnM 2 6 m_law_draw)) (aCons (mVar 0) (aCons (ret (.int 5)) aNil)))) (tp2 gIx)) aNil))))) aNil) (tpN gTuple)))) (sRet (datM (mTup (aCons (mVar 1) (aCons (mCall (aCons (mVar 4) aNil) (tpN gTuple)) aNil)))))))
def m_law_hush : M Fl := (sRet (datM (mCall (aCons (frzM (mLc (iSeq (mTup (aCons (ret (.str "no")) (aCons (ret (.str "x")) (aCons (ret (.str "y")) (aCons (ret (.str "zz")) aNil)))))) [1] (tgN 1) (c2 (frzM (mCF (noXF (fnM 2 6 m_law_draw)) (aCons (mVar 0) (aCons (ret (.int 3)) aNil)))) (ret (.int 0)) (tp2 cEq)) (mVar 1))) aNil) (tpN gTuple))))
def m_law_is_number : M Fl := (sRet (datM (mAn (tIsi (mVar 0) "int") (mAn (mNo (tIsi (mVar 0) "bool")) (mC (tp2 cGe) (mVar 0) (ret (.int 0)))))))
def m_law_is_name : M Fl := (sSeq (sIf (tOrr (tNo (asB (tIsi (mVar 0) "str"))) (tNo (c3 (ret (.int 1)) (mCall (aCons (mVar 0) aNil) (tpN gLen)) (ret (.int 8)) cLe cLe))) (sRet (datM (ret (.bl false)))) sNx) (sRet (datM (mC (tp2 cEq) (frzM (mLc (iSeq (mVar 0)) [1] (tgN 1) (c2 (mVar 1) (ret (.str "abcdefghijklmnopqrstuvwxyz")) (tp2 cNi)) (mVar 1))) (mLst aNil)))))
def m_law_is_set : M Fl := (sSeq (sIf (tOrr (tNo (asB (tIsi (mVar 0) "tuple"))) (c2 (frzM (mLc (iSeq (mVar 0)) [2] (tgN 2) (tNo (asB (frzM (mCF (noXF (fnM 1 2 m_law_is_name)) (aCons (mVar 2) aNil))))) (mVar 2))) (mLst aNil) (tp2 cNe))) (sRet (datM (ret (.bl false)))) sNx) (sRet (datM (mC (tp2 cEq) (frzM (mLc (iRng (m2 (mCall (aCons (mVar 0) aNil) (tpN gLen)) (ret (.int 1)) (tp2 gSub))) [1] (tgN 1) (tNo (c2 (m2 (mVar 0) (mVar 1) (tp2 gIx)) (m2 (mVar 0) (m2 (mVar 1) (ret (.int 1)) (tp2 gAdd)) (tp2 gIx)) (tp2 cLt))) (mVar 1))) (mLst aNil)))))
def m_law_is_pair : M Fl := (sSeq (sIf (tOrr (tNo (asB (tIsi (mVar 0) "tuple"))) (tOrr (c2 (mCall (aCons (mVar 0) aNil) (tpN gLen)) (ret (.int 2)) (tp2 cNe)) (tOrr (tNo (asB (frzM (mCF (noXF (fnM 1 1 m_law_is_number)) (aCons (m2 (mVar 0) (ret (.int 0)) (tp2 gIx)) aNil))))) (c2 (m2 (mVar 0) (ret (.int 0)) (tp2 gIx)) (mVar 1) (tp2 cGe))))) (sRet (datM (ret (.bl false)))) sNx) (sRet (datM (mAn (tIsi (m2 (mVar 0) (ret (.int 1)) (tp2 gIx)) "str") (mOrr (mC (tp2 cEq) (m2 (mVar 0) (ret (.int 1)) (tp2 gIx)) (ret (.str ""))) (frzM (mCF (noXF (fnM 1 2 m_law_is_name)) (aCons (m2 (mVar 0) (ret (.int 1)) (tp2 gIx)) aNil))))))))
def m_law_is_gear : M Fl := (sSeq (sIf (tOrr (tNo (asB (tIsi (mVar 0) "tuple"))) (tOrr (c2 (mCall (aCons (mVar 0) aNil) (tpN gLen)) (ret (.int 2)) (tp2 cNe)) (tOrr (tNo (asB (frzM (mCF (noXF (fnM 1 3 m_law_is_set)) (aCons (m2 (mVar 0) (ret (.int 0)) (tp2 gIx)) aNil))))) (c2 (m2 (mVar 0) (ret (.int 0)) (tp2 gIx)) (mTup aNil) (tp2 cEq))))) (sRet (datM (ret (.bl false)))) sNx) (sSeq (sIf (tOrr (tNo (asB (tIsi (m2 (mVar 0) (ret (.int 1)) (tp2 gIx)) "tuple"))) (c2 (m2 (mVar 0) (ret (.int 1)) (tp2 gIx)) (mTup aNil) (tp2 cEq))) (sRet (datM (ret (.bl false)))) sNx) (sSeq (sFor (iSeq (m2 (mVar 0) (ret (.int 1)) (tp2 gIx))) (tgN 1) (sSeq (sIf (tOrr (tNo (asB (tIsi (mVar 1) "tuple"))) (c2 (mCall (aCons (mVar 1) aNil) (tpN gLen)) (mCall (aCons (m2 (mVar 0) (ret (.int 0)) (tp2 gIx)) aNil) (tpN gLen)) (tp2 cNe))) (sRet (datM (ret (.bl false)))) sNx) (sIf (c2 (frzM (mLc (iSeq (mVar 1)) [2] (tgN 2) (tNo (asB (frzM (mCF (noXF (fnM 2 2 m_law_is_pair)) (aCons (mVar 2) (aCons (mCall (aCons (m2 (mVar 0) (ret (.int 1)) (tp2 gIx)) aNil) (tpN gLen)) aNil)))))) (mVar 2))) (mLst aNil) (tp2 cNe)) (sRet (datM (ret (.bl false)))) sNx))) (sRet (datM (ret (.bl true)))))))
def m_law_is_act : M Fl := (sSeq (sIf (tOrr (tNo (asB (tIsi (mVar 0) "tuple"))) (tOrr (c2 (mVar 0) (mTup aNil) (tp2 cEq)) (tNo (asB (tIsi (m2 (mVar 0) (ret (.int 0)) (tp2 gIx)) "str"))))) (sRet (datM (ret (.bl false)))) sNx) (sSeq (sIf (c2 (m2 (mVar 0) (ret (.int 0)) (tp2 gIx)) (ret (.str "force")) (tp2 cEq)) (sRet (datM (mAn (mC (tp2 cEq) (mCall (aCons (mVar 0) aNil) (tpN gLen)) (ret (.int 3))) (mAn (frzM (mCF (noXF (fnM 1 1 m_law_is_number)) (aCons (m2 (mVar 0) (ret (.int 1)) (tp2 gIx)) aNil))) (frzM (mCF (noXF (fnM 1 1 m_law_is_number)) (aCons (m2 (mVar 0) (ret (.int 2)) (tp2 gIx)) aNil))))))) sNx) (sSeq (sIf (c2 (mCall (aCons (mVar 0) aNil) (tpN gLen)) (ret (.int 2)) (tp2 cNe)) (sRet (datM (ret (.bl false)))) sNx) (sSeq (sIf (c2 (m2 (mVar 0) (ret (.int 0)) (tp2 gIx)) (mTup (aCons (ret (.str "replace")) (aCons (ret (.str "forget")) aNil))) (tp2 cIn)) (sRet (mCF (noXF (fnM 1 1 m_law_is_number)) (aCons (m2 (mVar 0) (ret (.int 1)) (tp2 gIx)) aNil))) sNx) (sSeq (sIf (c2 (m2 (mVar 0) (ret (.int 0)) (tp2 gIx)) (ret (.str "read")) (tp2 cEq)) (sRet (mCF (noXF (fnM 1 2 m_law_is_name)) (aCons (m2 (mVar 0) (ret (.int 1)) (tp2 gIx)) aNil))) sNx) (sRet (datM (mOrr (mAn (mC (tp2 cEq) (m2 (mVar 0) (ret (.int 0)) (tp2 gIx)) (ret (.str "plan"))) (frzM (mCF (noXF (fnM 1 3 m_law_is_gear)) (aCons (m2 (mVar 0) (ret (.int 1)) (tp2 gIx)) aNil)))) (mAn (mC (tp2 cEq) (m2 (mVar 0) (ret (.int 0)) (tp2 gIx)) (ret (.str "quiet"))) (frzM (mCF (noXF (fnM 1 3 m_law_is_set)) (aCons (m2 (mVar 0) (ret (.int 1)) (tp2 gIx)) aNil))))))))))))
def m_law_model_of : M Fl := (sSeq (sSet 2 (mDisp (pCons "head" (mTup (aCons (ret (.str "service")) (aCons (mVar 0) (aCons (mVar 1) aNil)))) (pCons "gears" (mTup (aCons (mVar 0) aNil)) (pCons "know" (mTup (aCons (mTup (aCons (ret (.int 0)) aNil)) aNil)) (pCons "live" (ret (.int 0)) (pCons "state" (ret (.int 0)) (pCons "quiet" (mVar 1) pNil)))))))) (sSeq (sUpd 2 (mDisp (pCons "acts" (mTup aNil) (pCons "heard" (mTup aNil) (pCons "told" (mTup aNil) pNil))))) (sRetV 2)))
def m_law_new_model : M Fl := (sSeq (sSet 1 (mCF (noXF (fnM 1 1 m_law_signs)) (aCons (mVar 0) aNil))) (sSeq (sSet 2 (mCF (noXF (fnM 2 6 m_law_gear)) (aCons (mVar 0) (aCons (mVar 1) aNil)))) (sRet (mCF (noXF (fnM 2 3 m_law_model_of)) (aCons (mVar 2) (aCons (mIf (c2 (frzM (mCF (noXF (fnM 2 6 m_law_draw)) (aCons (mVar 0) (aCons (ret (.int 3)) aNil)))) (ret (.int 0)) (tp2 cEq)) (frzM (mCF (noXF (fnM 1 2 m_law_hush)) (aCons (mVar 0) aNil))) (mTup aNil)) aNil))))))
def m_law_saying (rec : Fn) : M Fl := (sSeq (sIf (c2 (mVar 2) (ret (.int 0)) (tp2 cEq)) (sRet (datM (mTup aNil))) sNx) (sSeq (sSet 4 (mLstF aNil)) (sSeq (sFor (iSeq (m2 (m2 (mVar 0) (ret (.int 1)) (tp2 gIx)) (mVar 1) (tp2 gIx))) (tgT 2 (tgsCons (tgN 5) (tgsCons (tgN 6) tgsNil))) (sApp 4 (mTup (aCons (mIf (c2 (mVar 6) (mVar 3) (tp2 cIn)) (ret (.str "")) (mVar 6)) (aCons (frzM (mCF (noXF rec) (aCons (mVar 0) (aCons (mVar 5) (aCons (m2 (mVar 2) (ret (.int 1)) (tp2 gSub)) (aCons (mVar 3) aNil)))))) aNil))))) (sRet (datM (mCall (aCons (mVar 4) aNil) (tpN gTuple)))))))
def f_law_saying : Nat → Fn
  | 0 => fun _ _ => .no
  | n + 1 => fnM 4 7 (m_law_saying (f_law_saying n))
theorem len_law_saying : ∀ (n : Nat) ds s, ds.length ≠ 4 → f_law_saying n ds s = .no
  | 0, _, _, _ => rfl
  | n + 1, ds, s, h => fnM_len ds s h
def m_law_true_of : M Fl := (sSeq (sSet 3 (datM (mCall (aCons (m2 (mVar 0) (ret (.int 1)) (tp2 gIx)) aNil) (tpN gLen)))) (sSeq (sSet 4 (mLc (iRng (mVar 3)) [5] (tgN 5) (ret true) (frzM (mCF (noXF (f_law_saying 5)) (aCons (mVar 0) (aCons (mVar 5) (aCons (mVar 3) (aCons (mVar 2) aNil)))))))) (sRet (mLc (iRng (mVar 3)) [5] (tgN 5) (c2 (frzM (mLc (iSeq (mVar 1)) [6] (tgN 6) (c2 (m2 (mVar 4) (mVar 6) (tp2 gIx)) (m2 (mVar 4) (mVar 5) (tp2 gIx)) (tp2 cNe)) (mVar 6))) (mLst aNil) (tp2 cEq)) (mVar 5)))))
def m_law_places : M Fl := (sRet (datM (mSrtSet (frzM (mLc (iSeq (mDix 0 "know")) [2] (tgN 2) (ret true) (m2 (mVar 2) (mVar 1) (tp2 gIx)))))))
def m_law_true : M Fl := (sRet (mCF (noXF (fnM 3 7 m_law_true_of)) (aCons (m2 (mDix 0 "gears") (mVar 1) (tp2 gIx)) (aCons (frzM (mCF (noXF (fnM 2 3 m_law_places)) (aCons (mVar 0) (aCons (mVar 1) aNil)))) (aCons (mVar 2) aNil)))))
def m_law_is_true : M Fl := (sRet (datM (mC (tp2 cIn) (mDix 0 "state") (frzM (mCF (noXF (fnM 3 3 m_law_true)) (aCons (mVar 0) (aCons (mDix 0 "live") (aCons (mVar 1) aNil))))))))
def m_law_reached : M Fl := (sSeq (sPar [1, 2] (bCons (mDispT (m2 (mTup (aCons (ret (.int 0)) aNil)) (mCall (aCons (mVar 0) aNil) (tpN gLen)) (tp2 gMul))) (bCons (mLstF (aCons (m2 (mTup (aCons (ret (.int 0)) aNil)) (mCall (aCons (mVar 0) aNil) (tpN gLen)) (tp2 gMul)) aNil)) bNil))) (sSeq (whileL (tOwnNe 2) (sSeq (sPop 3 2) (sFor (iRng (mCall (aCons (m2 (m2 (mVar 0) (ret (.int 0)) (tp2 gIx)) (ret (.int 0)) (tp2 gIx)) aNil) (tpN gLen))) (tgN 4) (sSeq (sSet 5 (datM (mCall (aCons (frzM (mLc (iZip (aCons (mVar 0) (aCons (mVar 3) aNil))) [6, 7] (tgT 2 (tgsCons (tgN 6) (tgsCons (tgN 7) tgsNil))) (ret true) (m2 (m2 (m2 (m2 (mVar 6) (ret (.int 1)) (tp2 gIx)) (mVar 7) (tp2 gIx)) (mVar 4) (tp2 gIx)) (ret (.int 0)) (tp2 gIx)))) aNil) (tpN gTuple)))) (sIf (tNiT 1 (mVar 5)) (sSeq (sTst 1 5) (sApp 2 (mVar 5))) sNx)))) 1000) (sRet (datM (mSrtT 1)))))
def m_law_reason : M Fl := (sSeq (sSet 2 (datM (mCall (aCons (mDix 0 "gears") aNil) (tpN gLen)))) (sSeq (sIf (tOrr (tNo (asB (frzM (mCF (noXF (fnM 1 1 m_law_is_act)) (aCons (mVar 1) aNil))))) (c2 (mCall (aCons (mDix 0 "acts") aNil) (tpN gLen)) (ret (.int 60)) (tp2 cEq))) (sRet (mIf (asB (frzM (mCF (noXF (fnM 1 1 m_law_is_act)) (aCons (mVar 1) aNil)))) (datM (ret (.str "full"))) (datM (ret (.str "shape"))))) sNx) (sSeq (sIf (c2 (m2 (mVar 1) (ret (.int 0)) (tp2 gIx)) (ret (.str "read")) (tp2 cEq)) (sRet (mIf (c2 (m2 (mVar 1) (ret (.int 1)) (tp2 gIx)) (m2 (m2 (mDix 0 "gears") (ret (.int 0)) (tp2 gIx)) (ret (.int 0)) (tp2 gIx)) (tp2 cIn)) (datM (ret .non)) (datM (ret (.str "letter"))))) sNx) (sSeq (sIf (c2 (m2 (mVar 1) (ret (.int 0)) (tp2 gIx)) (ret (.str "plan")) (tp2 cEq)) (sRet (mIf (c2 (m2 (m2 (mVar 1) (ret (.int 1)) (tp2 gIx)) (ret (.int 0)) (tp2 gIx)) (m2 (m2 (mDix 0 "gears") (ret (.int 0)) (tp2 gIx)) (ret (.int 0)) (tp2 gIx)) (tp2 cNe)) (datM (ret (.str "letters"))) (mIf (c2 (mVar 2) (ret (.int 3)) (tp2 cEq)) (datM (ret (.str "many"))) (datM (ret .non))))) sNx) (sSeq (sIf (c2 (m2 (mVar 1) (ret (.int 0)) (tp2 gIx)) (ret (.str "quiet")) (tp2 cEq)) (sRet (mIf (tAn (asB (frzM (mCF (noXF (fnM 2 2 m_law_is_true)) (aCons (mVar 0) (aCons (mDix 0 "quiet") aNil))))) (tNo (asB (frzM (mCF (noXF (fnM 2 2 m_law_is_true)) (aCons (mVar 0) (aCons (m2 (mVar 1) (ret (.int 1)) (tp2 gIx)) aNil))))))) (datM (ret (.str "loud"))) (datM (ret .non)))) sNx) (sSeq (sIf (c2 (m2 (mVar 1) (ret (.int 1)) (tp2 gIx)) (mVar 2) (tp2 cGe)) (sRet (datM (ret (.str "version")))) sNx) (sSeq (sIf (c2 (m2 (mVar 1) (ret (.int 0)) (tp2 gIx)) (ret (.str "force")) (tp2 cEq)) (sRet (mIf (c2 (m2 (mVar 1) (ret (.int 2)) (tp2 gIx)) (mCall (aCons (m2 (m2 (mDix 0 "gears") (m2 (mVar 1) (ret (.int 1)) (tp2 gIx)) (tp2 gIx)) (ret (.int 1)) (tp2 gIx)) aNil) (tpN gLen)) (tp2 cGe)) (datM (ret (.str "state"))) (datM (ret .non)))) sNx) (sSeq (sIf (c2 (m2 (mVar 1) (ret (.int 0)) (tp2 gIx)) (ret (.str "forget")) (tp2 cEq)) (sRet (mIf (c2 (m2 (mVar 1) (ret (.int 1)) (tp2 gIx)) (mDix 0 "live") (tp2 cEq)) (datM (ret (.str "live"))) (datM (ret .non)))) sNx) (sSeq (sIf (tAn (c2 (m2 (mVar 1) (ret (.int 1)) (tp2 gIx)) (mDix 0 "live") (tp2 cEq)) (asB (frzM (mCF (noXF (fnM 2 2 m_law_is_true)) (aCons (mVar 0) (aCons (mDix 0 "quiet") aNil)))))) (sRet (datM (ret (.str "live")))) sNx) (sRet (mIf (c2 (frzM (mCF (noXF (fnM 3 3 m_law_true)) (aCons (mVar 0) (aCons (m2 (mVar 1) (ret (.int 1)) (tp2 gIx)) (aCons (mDix 0 "quiet") aNil))))) (mLst aNil) (tp2 cEq)) (datM (ret (.str "ready"))) (datM (ret .non)))))))))))))
def m_law_read : M Fl := (sSeq (sPar [5, 6, 7] (bCons (mDcp (mVar 0)) (bCons (datM (mDix 0 "gears")) (bCons (datM (mDix 0 "live")) bNil)))) (sSeq (sSet 2 (datM (mTix (m2 (m2 (mVar 6) (ret (.int 0)) (tp2 gIx)) (ret (.int 0)) (tp2 gIx)) (mVar 1)))) (sSeq (sUnp (tgT 2 (tgsCons (tgN 8) (tgsCons (tgN 3) tgsNil))) (m2 (m2 (m2 (m2 (mVar 6) (mVar 7) (tp2 gIx)) (ret (.int 1)) (tp2 gIx)) (mDix 0 "state") (tp2 gIx)) (mVar 2) (tp2 gIx))) (sSeq (sSet 3 (mIf (c2 (mVar 3) (mDix 0 "quiet") (tp2 cIn)) (datM (ret (.str ""))) (datM (mVar 3)))) (sSeq (sSet 4 (mLc (iSeq (mDix 0 "know")) [9] (tgN 9) (ret true) (mCall (aCons (frzM (mLc (iZip (aCons (mVar 6) (aCons (mVar 9) aNil))) [10, 11] (tgT 2 (tgsCons (tgN 10) (tgsCons (tgN 11) tgsNil))) (ret true) (m2 (m2 (m2 (m2 (mVar 10) (ret (.int 1)) (tp2 gIx)) (mVar 11) (tp2 gIx)) (mVar 2) (tp2 gIx)) (ret (.int 0)) (tp2 gIx)))) aNil) (tpN gTuple)))) (sSeq (sUnp (tgT 2 (tgsCons (tgD 5 "know") (tgsCons (tgD 5 "state") tgsNil))) (mTup (aCons (mCall (aCons (mSrtSet (mVar 4)) aNil) (tpN gTuple)) (aCons (mVar 8) aNil)))) (sSeq (sDst 5 "heard" (m2 (mDix 0 "heard") (mTup (aCons (mVar 1) aNil)) (tp2 gAdd))) (sSeq (sDst 5 "told" (m2 (mDix 0 "told") (mTup (aCons (mTup (aCons (m2 (mVar 6) (mVar 7) (tp2 gIx)) (aCons (mDix 0 "quiet") (aCons (mVar 3) aNil)))) aNil)) (tp2 gAdd))) (sRetV 5)))))))))
def m_law_moved : M Fl := (sSeq (sSet 2 (mIf (c2 (m2 (mVar 1) (ret (.int 0)) (tp2 gIx)) (ret (.str "read")) (tp2 cEq)) (mCF (noXF (fnM 2 12 m_law_read)) (aCons (mVar 0) (aCons (m2 (mVar 1) (ret (.int 1)) (tp2 gIx)) aNil))) (mDcp (mVar 0)))) (sSeq (sDst 2 "acts" (m2 (mDix 0 "acts") (mTup (aCons (mVar 1) aNil)) (tp2 gAdd))) (sSeq (sIf (c2 (m2 (mVar 1) (ret (.int 0)) (tp2 gIx)) (ret (.str "plan")) (tp2 cEq)) (sSeq (sDst 2 "gears" (m2 (mDix 0 "gears") (mTup (aCons (m2 (mVar 1) (ret (.int 1)) (tp2 gIx)) aNil)) (tp2 gAdd))) (sDst 2 "know" (mCall (aCons (frzM (mLc (iSeq (frzM (mCF (noXF (fnM 1 8 m_law_reached)) (aCons (mDix 2 "gears") aNil)))) [3] (tgN 3) (c2 (mSl (mVar 3) pNone (pSome (ret (.int (-1))))) (mDix 0 "know") (tp2 cIn)) (mVar 3))) aNil) (tpN gTuple)))) (sIf (c2 (m2 (mVar 1) (ret (.int 0)) (tp2 gIx)) (ret (.str "replace")) (tp2 cEq)) (sUnp (tgT 2 (tgsCons (tgD 2 "live") (tgsCons (tgD 2 "state") tgsNil))) (mTup (aCons (m2 (mVar 1) (ret (.int 1)) (tp2 gIx)) (aCons (m2 (frzM (mCF (noXF (fnM 3 3 m_law_true)) (aCons (mVar 0) (aCons (m2 (mVar 1) (ret (.int 1)) (tp2 gIx)) (aCons (mDix 0 "quiet") aNil))))) (ret (.int 0)) (tp2 gIx)) aNil)))) (sIf (c2 (m2 (mVar 1) (ret (.int 0)) (tp2 gIx)) (ret (.str "force")) (tp2 cEq)) (sUnp (tgT 2 (tgsCons (tgD 2 "live") (tgsCons (tgD 2 "state") tgsNil))) (mTup (aCons (m2 (mVar 1) (ret (.int 1)) (tp2 gIx)) (aCons (m2 (mVar 1) (ret (.int 2)) (tp2 gIx)) aNil)))) (sIf (c2 (m2 (mVar 1) (ret (.int 0)) (tp2 gIx)) (ret (.str "quiet")) (tp2 cEq)) (sDst 2 "quiet" (m2 (mVar 1) (ret (.int 1)) (tp2 gIx))) (sIf (c2 (m2 (mVar 1) (ret (.int 0)) (tp2 gIx)) (ret (.str "forget")) (tp2 cEq)) (sSeq (sSet 4 (datM (m2 (mVar 1) (ret (.int 1)) (tp2 gIx)))) (sSeq (sDst 2 "gears" (m2 (mSl (mDix 0 "gears") pNone (pSome (mVar 4))) (mSl (mDix 0 "gears") (pSome (m2 (mVar 4) (ret (.int 1)) (tp2 gAdd))) pNone) (tp2 gAdd))) (sSeq (sDst 2 "know" (mCall (aCons (mSrtSet (frzM (mLc (iSeq (mDix 0 "know")) [3] (tgN 3) (ret true) (m2 (mSl (mVar 3) pNone (pSome (mVar 4))) (mSl (mVar 3) (pSome (m2 (mVar 4) (ret (.int 1)) (tp2 gAdd))) pNone) (tp2 gAdd))))) aNil) (tpN gTuple))) (sDst 2 "live" (m2 (mDix 0 "live") (mCall (aCons (mC (tp2 cLt) (mVar 4) (mDix 0 "live")) aNil) (tpN gInt)) (tp2 gSub)))))) sNx))))) (sRetV 2))))
def m_law_next : M Fl := (sSeq (sSet 2 (mCF (noXF (fnM 2 3 m_law_reason)) (aCons (mVar 0) (aCons (mVar 1) aNil)))) (sSeq (sIf (c2 (mVar 2) (ret .non) (tp2 cIsn)) (sRet (datM (mTup (aCons (mVar 0) (aCons (mTup (aCons (ret (.str "InvalidEvent")) (aCons (mVar 1) (aCons (mVar 2) aNil)))) aNil))))) sNx) (sSeq (sSet 3 (mCF (noXF (fnM 2 5 m_law_moved)) (aCons (mVar 0) (aCons (mVar 1) aNil)))) (sRet (datM (mTup (aCons (mVar 3) (aCons (mTup (aCons (ret (.str "returned")) (aCons (mIf (c2 (m2 (mVar 1) (ret (.int 0)) (tp2 gIx)) (ret (.str "read")) (tp2 cEq)) (m2 (m2 (mDix 3 "told") (ret (.int (-1))) (tp2 gIx)) (ret (.int 2)) (tp2 gIx)) (ret (.str ""))) aNil))) aNil))))))))
def m_law_odd : M Fl := (sSeq (sPar [3, 4] (bCons (datM (m2 (mDix 1 "gears") (ret (.int 0)) (tp2 gIx))) (bCons (datM (mCall (aCons (mDix 1 "gears") aNil) (tpN gLen))) bNil))) (sSeq (sSet 2 (mLstF (aCons (mTup (aCons (ret (.str "read")) (aCons (ret (.str "zz")) aNil))) (aCons (mTup (aCons (ret (.str "read")) (aCons (ret (.str "")) aNil))) (aCons (mTup (aCons (ret (.str "read")) (aCons (ret .non) aNil))) (aCons (mTup (aCons (ret (.str "read")) aNil)) (aCons (mTup (aCons (ret (.str "plan")) (aCons (mTup (aCons (mTup (aCons (ret (.str "z")) aNil)) (aCons (mTup (aCons (mTup (aCons (mTup (aCons (ret (.int 0)) (aCons (ret (.str "")) aNil))) aNil)) aNil)) aNil))) aNil))) (aCons (mTup (aCons (ret (.str "plan")) (aCons (ret .non) aNil))) aNil)))))))) (sSeq (sSet 2 (fAdd (mVar 2) (mLst (aCons (mTup (aCons (ret (.str "plan")) (aCons (mTup (aCons (m2 (mVar 3) (ret (.int 0)) (tp2 gIx)) (aCons (mTup aNil) aNil))) aNil))) (aCons (mTup (aCons (ret (.str "plan")) (aCons (mTup (aCons (m2 (mVar 3) (ret (.int 0)) (tp2 gIx)) (aCons (m2 (m2 (mVar 3) (ret (.int 1)) (tp2 gIx)) (mTup (aCons (mTup aNil) aNil)) (tp2 gAdd)) aNil))) aNil))) (aCons (mTup (aCons (ret (.str "plan")) (aCons (mCall (aCons (mVar 3) aNil) (tpN gList)) aNil))) (aCons (mTup (aCons (ret (.str "plan")) (aCons (mVar 3) aNil))) aNil))))))) (sSeq (sSet 2 (fAdd (mVar 2) (mLst (aCons (mTup (aCons (ret (.str "replace")) (aCons (mVar 4) aNil))) (aCons (mTup (aCons (ret (.str "replace")) (aCons (ret (.int (-1))) aNil))) (aCons (mTup (aCons (ret (.str "replace")) (aCons (ret (.bl true)) aNil))) (aCons (mTup (aCons (ret (.str "replace")) (aCons (mDix 1 "live") aNil))) (aCons (mTup (aCons (ret (.str "replace")) aNil)) aNil)))))))) (sSeq (sSet 2 (fAdd (mVar 2) (mLst (aCons (mTup (aCons (ret (.str "force")) (aCons (mVar 4) (aCons (ret (.int 0)) aNil)))) (aCons (mTup (aCons (ret (.str "force")) (aCons (ret (.int 0)) (aCons (ret (.int 9)) aNil)))) (aCons (mTup (aCons (ret (.str "force")) (aCons (ret (.int 0)) aNil))) (aCons (mTup (aCons (ret (.str "force")) (aCons (ret (.int 0)) (aCons (ret (.bl false)) aNil)))) (aCons (mTup (aCons (ret (.str "force")) (aCons (ret (.int 0)) (aCons (ret (.int (-1))) aNil)))) aNil)))))))) (sSeq (sSet 2 (fAdd (mVar 2) (mLst (aCons (mTup (aCons (ret (.str "quiet")) (aCons (mTup (aCons (ret (.str "y")) (aCons (ret (.str "x")) aNil))) aNil))) (aCons (mTup (aCons (ret (.str "quiet")) (aCons (mTup (aCons (ret (.str "")) aNil)) aNil))) (aCons (mTup (aCons (ret (.str "quiet")) (aCons (ret (.str "x")) aNil))) (aCons (mTup (aCons (ret (.str "quiet")) (aCons (mLst (aCons (ret (.str "x")) aNil)) aNil))) (aCons (mTup (aCons (ret (.str "quiet")) (aCons (mTup (aCons (ret (.str "x")) (aCons (ret (.str "x")) aNil))) aNil))) aNil)))))))) (sSeq (sSet 2 (fAdd (mVar 2) (mLst (aCons (mTup (aCons (ret (.str "forget")) (aCons (m2 (mVar 4) (ret (.int 5)) (tp2 gAdd)) aNil))) (aCons (mTup (aCons (ret (.str "forget")) (aCons (mDix 1 "live") aNil))) (aCons (mTup (aCons (ret (.str "forget")) (aCons (ret .non) aNil))) (aCons (mTup (aCons (ret (.str "stop")) aNil)) (aCons (ret .non) (aCons (mTup aNil) aNil))))))))) (sSeq (sApp 2 (mLst (aCons (ret (.str "read")) (aCons (ret (.str "a")) aNil)))) (sRet (datM (m2 (mVar 2) (frzM (mCF (noXF (fnM 2 6 m_law_draw)) (aCons (mVar 0) (aCons (mCall (aCons (mVar 2) aNil) (tpN gLen)) aNil)))) (tp2 gIx))))))))))))
def m_law_act : M Fl := (sSeq (sPar [2, 3, 4] (bCons (mCF (noXF (fnM 2 6 m_law_draw)) (aCons (mVar 0) (aCons (ret (.int 15)) aNil))) (bCons (datM (mCall (aCons (mDix 1 "gears") aNil) (tpN gLen))) (bCons (datM (m2 (m2 (mDix 1 "gears") (ret (.int 0)) (tp2 gIx)) (ret (.int 0)) (tp2 gIx))) bNil)))) (sSeq (sIf (c2 (mVar 2) (ret (.int 2)) (tp2 cLt)) (sRet (mCF (noXF (fnM 2 5 m_law_odd)) (aCons (mVar 0) (aCons (mVar 1) aNil)))) sNx) (sSeq (sIf (tAn (c2 (mVar 2) (ret (.int 4)) (tp2 cLt)) (c2 (mVar 3) (ret (.int 3)) (tp2 cLt))) (sRet (datM (mTup (aCons (ret (.str "plan")) (aCons (frzM (mCF (noXF (fnM 2 6 m_law_gear)) (aCons (mVar 0) (aCons (mVar 4) aNil)))) aNil))))) sNx) (sSeq (sIf (c2 (mVar 2) (mTup (aCons (ret (.int 4)) (aCons (ret (.int 5)) (aCons (ret (.int 6)) aNil)))) (tp2 cIn)) (sRet (datM (mTup (aCons (ret (.str "replace")) (aCons (frzM (mCF (noXF (fnM 2 6 m_law_draw)) (aCons (mVar 0) (aCons (mVar 3) aNil)))) aNil))))) sNx) (sSeq (sIf (c2 (mVar 2) (ret (.int 7)) (tp2 cEq)) (sSeq (sSet 5 (mCF (noXF (fnM 2 6 m_law_draw)) (aCons (mVar 0) (aCons (mVar 3) aNil)))) (sRet (datM (mTup (aCons (ret (.str "force")) (aCons (mVar 5) (aCons (frzM (mCF (noXF (fnM 2 6 m_law_draw)) (aCons (mVar 0) (aCons (mCall (aCons (m2 (m2 (mDix 1 "gears") (mVar 5) (tp2 gIx)) (ret (.int 1)) (tp2 gIx)) aNil) (tpN gLen)) aNil)))) aNil))))))) sNx) (sSeq (sIf (c2 (mVar 2) (ret (.int 8)) (tp2 cEq)) (sRet (datM (mTup (aCons (ret (.str "quiet")) (aCons (frzM (mCF (noXF (fnM 1 2 m_law_hush)) (aCons (mVar 0) aNil))) aNil))))) sNx) (sRet (mIf (c2 (mVar 2) (ret (.int 9)) (tp2 cEq)) (datM (mTup (aCons (ret (.str "forget")) (aCons (frzM (mCF (noXF (fnM 2 6 m_law_draw)) (aCons (mVar 0) (aCons (mVar 3) aNil)))) aNil)))) (datM (mTup (aCons (ret (.str "read")) (aCons (m2 (mVar 4) (frzM (mCF (noXF (fnM 2 6 m_law_draw)) (aCons (mVar 0) (aCons (mCall (aCons (mVar 4) aNil) (tpN gLen)) aNil)))) (tp2 gIx)) aNil))))))))))))
def m_law_old : M Fl := (sRet (datM (mTup (aCons (mTup (aCons (ret (.str "a")) (aCons (ret (.str "b")) aNil))) (aCons (mTup (aCons (mTup (aCons (mTup (aCons (ret (.int 1)) (aCons (ret (.str "")) aNil))) (aCons (mTup (aCons (ret (.int 0)) (aCons (ret (.str "")) aNil))) aNil))) (aCons (mTup (aCons (mTup (aCons (ret (.int 0)) (aCons (ret (.str "")) aNil))) (aCons (mTup (aCons (ret (.int 1)) (aCons (ret (.str "")) aNil))) aNil))) aNil))) aNil)))))
def m_law_new : M Fl := (sRet (datM (mTup (aCons (mTup (aCons (ret (.str "a")) (aCons (ret (.str "b")) aNil))) (aCons (mTup (aCons (mTup (aCons (mTup (aCons (ret (.int 1)) (aCons (ret (.str "")) aNil))) (aCons (mTup (aCons (ret (.int 2)) (aCons (ret (.str "no")) aNil))) aNil))) (aCons (mTup (aCons (mTup (aCons (ret (.int 0)) (aCons (ret (.str "")) aNil))) (aCons (mTup (aCons (ret (.int 2)) (aCons (ret (.str "yes")) aNil))) aNil))) (aCons (mTup (aCons (mTup (aCons (ret (.int 2)) (aCons (ret (.str "")) aNil))) (aCons (mTup (aCons (ret (.int 2)) (aCons (ret (.str "")) aNil))) aNil))) aNil)))) aNil)))))
def m_law_is_log : M Fl := (sSeq (sIf (tOrr (tNo (asB (tIsi (mVar 0) "tuple"))) (tOrr (c2 (mVar 0) (mTup aNil) (tp2 cEq)) (tOrr (tNo (asB (tIsi (m2 (mVar 0) (ret (.int 0)) (tp2 gIx)) "tuple"))) (c2 (mCall (aCons (m2 (mVar 0) (ret (.int 0)) (tp2 gIx)) aNil) (tpN gLen)) (ret (.int 3)) (tp2 cNe))))) (sRet (datM (ret (.bl false)))) sNx) (sSeq (sUnp (tgT 3 (tgsCons (tgN 1) (tgsCons (tgN 2) (tgsCons (tgN 3) tgsNil)))) (m2 (mVar 0) (ret (.int 0)) (tp2 gIx))) (sSeq (sIf (tOrr (tNo (asB (tIsi (mVar 1) "str"))) (tOrr (c2 (mVar 1) (ret (.str "service")) (tp2 cNe)) (tOrr (tNo (asB (frzM (mCF (noXF (fnM 1 3 m_law_is_gear)) (aCons (mVar 2) aNil))))) (tNo (asB (frzM (mCF (noXF (fnM 1 3 m_law_is_set)) (aCons (mVar 3) aNil)))))))) (sRet (datM (ret (.bl false)))) sNx) (sRet (datM (mC (tp2 cEq) (frzM (mLc (iSeq (mSl (mVar 0) (pSome (ret (.int 1))) pNone)) [4] (tgN 4) (tNo (asB (frzM (mCF (noXF (fnM 1 1 m_law_is_act)) (aCons (mVar 4) aNil))))) (mVar 4))) (mLst aNil)))))))
def m_law_changed (rec : Fn) : M Fl := (sSeq (sIf (tAn (asB (tIsi (mVar 1) "tuple")) (tAn (c2 (mVar 1) (mTup aNil) (tp2 cNe)) (c2 (frzM (mCF (noXF (fnM 2 6 m_law_draw)) (aCons (mVar 0) (aCons (ret (.int 6)) aNil)))) (ret (.int 0)) (tp2 cGt)))) (sSeq (sSet 3 (mCF (noXF (fnM 2 6 m_law_draw)) (aCons (mVar 0) (aCons (mCall (aCons (mVar 1) aNil) (tpN gLen)) aNil)))) (sRet (fAdd (m2 (mSl (mVar 1) pNone (pSome (mVar 3))) (mTup (aCons (frzM (mCF (noXF rec) (aCons (mVar 0) (aCons (m2 (mVar 1) (mVar 3) (tp2 gIx)) aNil)))) aNil)) (tp2 gAdd)) (mSl (mVar 1) (pSome (m2 (mVar 3) (ret (.int 1)) (tp2 gAdd))) pNone)))) sNx) (sSeq (sIf (asB (tIsi (mVar 1) "tuple")) (sSeq (sSet 3 (mCF (noXF (fnM 2 6 m_law_draw)) (aCons (mVar 0) (aCons (m2 (mCall (aCons (mVar 1) aNil) (tpN gLen)) (ret (.int 1)) (tp2 gAdd)) aNil)))) (sSeq (sSet 2 (mLstF (aCons (m2 (mSl (mVar 1) pNone (pSome (mVar 3))) (mSl (mVar 1) (pSome (m2 (mVar 3) (ret (.int 1)) (tp2 gAdd))) pNone) (tp2 gAdd)) (aCons (m2 (m2 (mSl (mVar 1) pNone (pSome (mVar 3))) (mSl (mVar 1) (pSome (mVar 3)) (pSome (m2 (mVar 3) (ret (.int 1)) (tp2 gAdd)))) (tp2 gAdd)) (mSl (mVar 1) (pSome (mVar 3)) pNone) (tp2 gAdd)) (aCons (mRev (mVar 1)) aNil))))) (sRet (datM (m2 (m2 (mVar 2) (mLst (aCons (mCall (aCons (mVar 1) aNil) (tpN gList)) (aCons (m2 (mVar 1) (mTup (aCons (ret (.str "a")) aNil)) (tp2 gAdd)) (aCons (mTup aNil) aNil)))) (tp2 gAdd)) (frzM (mCF (noXF (fnM 2 6 m_law_draw)) (aCons (mVar 0) (aCons (ret (.int 6)) aNil)))) (tp2 gIx)))))) sNx) (sSeq (sIf (tAn (asB (tIsi (mVar 1) "int")) (tNo (asB (tIsi (mVar 1) "bool")))) (sRet (datM (m2 (mLst (aCons (m2 (mVar 1) (ret (.int 1)) (tp2 gAdd)) (aCons (m2 (ret (.int (-1))) (mVar 1) (tp2 gSub)) (aCons (ret (.int 0)) (aCons (mC (tp2 cEq) (mVar 1) (ret (.int 1))) (aCons (ret .non) (aCons (ret (.str "1")) aNil))))))) (frzM (mCF (noXF (fnM 2 6 m_law_draw)) (aCons (mVar 0) (aCons (ret (.int 6)) aNil)))) (tp2 gIx)))) sNx) (sSeq (sSet 2 (mLstF (aCons (ret (.str "a")) (aCons (ret (.str "b")) (aCons (ret (.str "zz")) (aCons (ret (.str "read")) (aCons (ret (.str "plan")) (aCons (ret (.str "quiet")) (aCons (ret (.str "force")) (aCons (ret (.str "service")) (aCons (ret (.str "")) (aCons (ret (.str "Ab")) (aCons (ret (.str "abcdefghi")) (aCons (ret (.int 1)) (aCons (ret .non) (aCons (ret (.bl true)) aNil)))))))))))))))) (sRet (datM (m2 (mVar 2) (frzM (mCF (noXF (fnM 2 6 m_law_draw)) (aCons (mVar 0) (aCons (ret (.int 14)) aNil)))) (tp2 gIx))))))))
def f_law_changed : Nat → Fn
  | 0 => fun _ _ => .no
  | n + 1 => fnM 2 4 (m_law_changed (f_law_changed n))
theorem len_law_changed : ∀ (n : Nat) ds s, ds.length ≠ 2 → f_law_changed n ds s = .no
  | 0, _, _, _ => rfl
  | n + 1, ds, s, h => fnM_len ds s h
def m_law_check : M Fl := (sSeq (sPar [1, 2] (bCons (datM (mCall (aCons (mVar 0) aNil) (tpN gRepr))) (bCons (datM (mCall (aCons (frzM (mCF (noXF (fnM 1 5 m_law_is_log)) (aCons (mVar 0) aNil))) aNil) (tpN gRepr))) bNil))) (sRet (datM (mC (tp2 cEq) (mLst (aCons (mCall (aCons (frzM (mCF (noXF (fnM 1 1 mis_log)) (aCons (mVar 0) aNil))) aNil) (tpN gRepr)) (aCons (mCall (aCons (frzM (mCF (noXF (fnM 1 1 mis_log)) (aCons (mVar 0) aNil))) aNil) (tpN gRepr)) (aCons (mCall (aCons (mVar 0) aNil) (tpN gRepr)) aNil)))) (mLst (aCons (mVar 2) (aCons (mVar 2) (aCons (mVar 1) aNil))))))))
def mlaw : M Fl := (sSeq (sRoot 1 (mCF (noXF (fnM 1 1 m_law_source)) (aCons (mVar 0) aNil))) (sSeq (sSet 2 (mCF (noXF (fnM 1 3 m_law_new_model)) (aCons (mVar 1) aNil))) (sSeq (sFor (iRng (ret (.int 8))) (tgN 3) (sUnp (tgT 2 (tgsCons (tgN 2) (tgsCons (tgN 16) tgsNil))) (frzM (mCF (noXF (fnM 2 4 m_law_next)) (aCons (mVar 2) (aCons (frzM (mCF (noXF (fnM 2 6 m_law_act)) (aCons (mVar 1) (aCons (mVar 2) aNil)))) aNil)))))) (sSeq (sPar [7, 8] (bCons (mCF (noXF (fnM 0 0 m_law_old)) aNil) (bCons (mCF (noXF (fnM 0 0 m_law_new)) aNil) bNil))) (sSeq (sPar [9, 4] (bCons (datM (mTup (aCons (ret (.str "service")) (aCons (mVar 7) (aCons (mTup (aCons (ret (.str "no")) (aCons (ret (.str "x")) aNil))) aNil))))) (bCons (mLstF (aCons (mTup (aCons (ret (.str "read")) (aCons (ret (.str "zz")) aNil))) (aCons (mTup (aCons (ret (.str "plan")) (aCons (mVar 8) aNil))) (aCons (mTup (aCons (ret (.str "replace")) (aCons (m2 (ret (.int 10)) (ret (.int 59)) (tp2 gPow)) aNil))) (aCons (mTup (aCons (ret (.str "quiet")) (aCons (mTup aNil) aNil))) aNil))))) bNil))) (sSeq (sSet 4 (fAdd (mVar 4) (mLst (aCons (mTup (aCons (ret (.str "force")) (aCons (m2 (ret (.int 10)) (ret (.int 59)) (tp2 gPow)) (aCons (ret (.int 0)) aNil)))) (aCons (mTup (aCons (ret (.str "quiet")) (aCons (mTup (aCons (ret (.str "a")) (aCons (ret (.str "b")) aNil))) aNil))) (aCons (mTup (aCons (ret (.str "forget")) (aCons (ret (.int 7)) aNil))) (aCons (mTup (aCons (ret (.str "plan")) (aCons (mTup (aCons (mTup (aCons (ret (.str "z")) aNil)) (aCons (mTup (aCons (mTup (aCons (mTup (aCons (ret (.int 0)) (aCons (ret (.str "x")) aNil))) aNil)) aNil)) aNil))) aNil))) aNil))))))) (sSeq (sPar [10, 11] (bCons (fAdd (mTup (aCons (mVar 9) aNil)) (mCall (aCons (mVar 4) aNil) (tpN gTuple))) (bCons (fAdd (mTup (aCons (mDix 2 "head") aNil)) (mDix 2 "acts")) bNil))) (sSeq (sSet 5 (mLstF (aCons (mVar 10) (aCons (mVar 11) (aCons (mTup aNil) (aCons (mVar 9) (aCons (mSl (mVar 10) (pSome (ret (.int 1))) pNone) (aCons (mCall (aCons (mVar 10) aNil) (tpN gList)) (aCons (ret .non) (aCons (ret (.str "service")) (aCons (ret (.int 0)) (aCons (mTup (aCons (mVar 9) (aCons (mVar 9) aNil))) (aCons (mTup (aCons (mSl (mVar 9) pNone (pSome (ret (.int 2)))) aNil)) aNil))))))))))))) (sSeq (sApp 5 (mTup (aCons (mCall (aCons (mVar 9) aNil) (tpN gList)) aNil))) (sSeq (sApp 5 (mTup (aCons (mVar 9) (aCons (mTup (aCons (ret (.str "plan")) (aCons (mTup (aCons (mTup (aCons (ret (.str "a")) (aCons (ret (.str "b")) (aCons (ret (.str "c")) (aCons (ret (.str "d")) aNil))))) (aCons (mCall (aCons (frzM (mLc (iRng (ret (.int 14))) [12] (tgN 12) (ret true) (m2 (mTup (aCons (mTup (aCons (mVar 12) (aCons (ret (.str "x")) aNil))) aNil)) (ret (.int 4)) (tp2 gMul)))) aNil) (tpN gTuple)) aNil))) aNil))) aNil)))) (sSeq (sSet 5 (fAdd (mVar 5) (mLst (aCons (m2 (mTup (aCons (mVar 9) aNil)) (m2 (mTup (aCons (mTup (aCons (ret (.str "read")) (aCons (ret (.str "zz")) aNil))) aNil)) (ret (.int 61)) (tp2 gMul)) (tp2 gAdd)) (aCons (mTup (aCons (mTup (aCons (ret (.str "service")) (aCons (mTup (aCons (mTup aNil) (aCons (mTup (aCons (mTup aNil) aNil)) aNil))) (aCons (mTup aNil) aNil)))) aNil)) aNil))))) (sSeq (sApp 5 (mTup (aCons (mVar 9) (aCons (mTup (aCons (ret (.str "plan")) (aCons (mTup (aCons (mTup (aCons (ret (.str "a")) (aCons (ret (.str "a")) aNil))) (aCons (mTup (aCons (mTup (aCons (mTup (aCons (ret (.int 0)) (aCons (ret (.str "")) aNil))) (aCons (mTup (aCons (ret (.int 0)) (aCons (ret (.str "")) aNil))) aNil))) aNil)) aNil))) aNil))) aNil)))) (sSeq (sSet 6 (mLstF (aCons (mTup (aCons (ret (.int 0)) (aCons (ret (.str "Service")) aNil))) (aCons (mTup (aCons (ret (.int 1)) (aCons (ret .non) aNil))) (aCons (mTup (aCons (ret (.int 1)) (aCons (mTup (aCons (m2 (mVar 7) (ret (.int 0)) (tp2 gIx)) (aCons (mTup aNil) aNil))) aNil))) (aCons (mTup (aCons (ret (.int 1)) (aCons (mTup (aCons (m2 (mVar 7) (ret (.int 0)) (tp2 gIx)) (aCons (mSl (m2 (mVar 7) (ret (.int 1)) (tp2 gIx)) pNone (pSome (ret (.int 1)))) aNil))) aNil))) (aCons (mTup (aCons (ret (.int 1)) (aCons (mCall (aCons (mVar 7) aNil) (tpN gList)) aNil))) (aCons (mTup (aCons (ret (.int 2)) (aCons (ret (.str "x")) aNil))) aNil)))))))) (sSeq (sSet 6 (fAdd (mVar 6) (mLst (aCons (mTup (aCons (ret (.int 1)) (aCons (mTup (aCons (mRev (m2 (mVar 7) (ret (.int 0)) (tp2 gIx))) (aCons (m2 (mVar 7) (ret (.int 1)) (tp2 gIx)) aNil))) aNil))) (aCons (mTup (aCons (ret (.int 2)) (aCons (mTup (aCons (ret (.str "x")) (aCons (ret (.str "no")) aNil))) aNil))) aNil))))) (sSeq (sSet 6 (fAdd (mVar 6) (mLst (aCons (mTup (aCons (ret (.int 2)) (aCons (mLst (aCons (ret (.str "no")) aNil)) aNil))) (aCons (mTup (aCons (ret (.int 2)) (aCons (mTup (aCons (ret (.str "")) aNil)) aNil))) (aCons (mTup (aCons (ret (.int 2)) (aCons (ret .non) aNil))) (aCons (mTup (aCons (ret (.int 2)) (aCons (mTup (aCons (ret (.str "no")) (aCons (ret (.str "no")) aNil))) aNil))) aNil))))))) (sSeq (sFor (iSeq (mVar 6)) (tgT 2 (tgsCons (tgN 12) (tgsCons (tgN 13) tgsNil))) (sApp 5 (mTup (aCons (m2 (m2 (mSl (mVar 9) pNone (pSome (mVar 12))) (mTup (aCons (mVar 13) aNil)) (tp2 gAdd)) (mSl (mVar 9) (pSome (m2 (mVar 12) (ret (.int 1)) (tp2 gAdd))) pNone) (tp2 gAdd)) aNil)))) (sSeq (sSet 5 (fAdd (mVar 5) (frzM (mLc (iRng (ret (.int 8))) [3] (tgN 3) (ret true) (mTup (aCons (mVar 9) (aCons (frzM (mCF (noXF (fnM 2 5 m_law_odd)) (aCons (mVar 1) (aCons (mVar 2) aNil)))) aNil))))))) (sSeq (sFor (iRng (ret (.int 36))) (tgN 3) (sSeq (sSet 14 (mCF (noXF (fnM 2 6 m_law_draw)) (aCons (mVar 1) (aCons (mCall (aCons (mVar 4) aNil) (tpN gLen)) aNil)))) (sSeq (sSet 15 (mCF (noXF (f_law_changed 20)) (aCons (mVar 1) (aCons (m2 (mLst (aCons (mVar 10) (aCons (mVar 11) (aCons (mTup (aCons (mVar 9) (aCons (m2 (mVar 4) (mVar 14) (tp2 gIx)) aNil))) aNil)))) (m2 (mVar 3) (ret (.int 12)) (tp2 gFdv)) (tp2 gIx)) aNil)))) (sSet 5 (fAdd (mVar 5) (mLst (aCons (mVar 15) (aCons (frzM (mCF (noXF (f_law_changed 20)) (aCons (mVar 1) (aCons (mVar 15) aNil)))) aNil)))))))) (sRet (datM (mAn (mC (tp2 cEq) (frzM (mLc (iSeq (mVar 5)) [13] (tgN 13) (tNo (asB (frzM (mCF (noXF (fnM 1 3 m_law_check)) (aCons (mVar 13) aNil))))) (mVar 13))) (mLst aNil)) (mC (tp2 cIs) (frzM (mCF (noXF (fnM 1 1 mis_log)) (aCons (mVar 10) aNil))) (ret (.bl true))))))))))))))))))))))))
end Lw

set_option Elab.async false
set_option linter.all false
set_option autoImplicit false
set_option maxRecDepth 100000
set_option maxHeartbeats 4000000
/-! K78, the plain law: the checkers are worth plain functions. -/
namespace Lw
open PySem L2 Mi
mutual
/-- plain data of bounded size -/
def fit : D → Bool
  | .non | .bl _ | .int _ => true
  | .str x => decide (x.length ≤ 1000)
  | .tup xs | .lst xs => decide (xs.length ≤ 5000) && fits xs
  | .ntup xs => decide (xs.length ≤ 5000) && (fits xs && (!xs.isEmpty && xs.all fun d => match d with | .str _ => true | _ => false))
  | _ => false
def fits : List D → Bool
  | [] => true
  | x :: xs => fit x && fits xs
end
def isNum : D → Bool
  | .int i => decide (0 ≤ i)
  | _ => false
def isInt : D → Bool
  | .int _ => true
  | _ => false
def isStr : D → Bool
  | .str _ => true
  | _ => false
theorem fits_mem : ∀ {ds : List D}, fits ds = true ↔ ∀ d ∈ ds, fit d = true
  | [] => by simp [fits]
  | d :: ds => by simp [fits, fits_mem (ds := ds)]
theorem fit_tup {d : D} {xs : List D} (t : tupL d = some xs) (h : fit d = true) : xs.length ≤ 5000 ∧ ∀ x ∈ xs, fit x = true := by
  rcases tupL_cases t with rfl | rfl <;> simp only [fit, Bool.and_eq_true, decide_eq_true_eq] at h
  · exact ⟨h.1, fits_mem.mp h.2⟩
  · exact ⟨h.1, fits_mem.mp h.2.1⟩
mutual
theorem fit_plain : ∀ {d : D}, fit d = true → d.plain = true
  | .non, _ => rfl
  | .bl _, _ => rfl
  | .int _, _ => rfl
  | .str _, _ => rfl
  | .tup xs, h => by
    simp only [fit, Bool.and_eq_true] at h
    exact fits_plain h.2
  | .lst xs, h => by
    simp only [fit, Bool.and_eq_true] at h
    exact fits_plain h.2
  | .ntup xs, h => by
    simp only [fit, Bool.and_eq_true] at h
    exact fits_plain h.2.1
  | .dK _ _, h => by cases h
  | .dT _ _, h => by cases h
  | .fn _, h => by cases h
  | .root _, h => by cases h
  | .scr _, h => by cases h
theorem fits_plain : ∀ {ds : List D}, fits ds = true → plains ds = true
  | [], _ => rfl
  | d :: ds, h => by
    simp only [fits, Bool.and_eq_true] at h
    show (d.plain && plains ds) = true
    rw [fit_plain h.1, fits_plain h.2]
    rfl
end
/-- what a value is: a tuple, or none -/
theorem fit_kind {d : D} (h : fit d = true) : (∃ xs, tupL d = some xs) ∨ (tupL d = none ∧ (d = .non ∨ (∃ b, d = .bl b) ∨ (∃ i, d = .int i) ∨ (∃ x, d = .str x) ∨ ∃ xs, d = .lst xs)) := by
  cases d <;> simp [tupL] <;> cases h
def az : List Nat := ("abcdefghijklmnopqrstuvwxyz" : Str).cps.toList
def nameS (x : Str) : Bool := decide (1 ≤ x.length) && (decide (x.length ≤ 8) && x.cps.toList.all fun c => decide (c ∈ az))
def isNm : D → Bool
  | .str x => nameS x
  | _ => false
def isWd : D → Bool
  | .str x => nameS x || x == ""
  | _ => false
theorem is_integer_ok (d : D) (s : S) (h : fit d = true) : fnM 1 1 mis_integer [d] s = .ok (.dat (.bl (isInt d))) [] s := by
  cases d <;> first | rfl | cases h
theorem is_number_ok (d : D) (s : S) (h : fit d = true) : fnM 1 1 mis_number [d] s = .ok (.dat (.bl (isNum d))) [] s := by
  unfold fnM mis_number
  simp [sRet, datM, mAn, bnd, frzM, mCF, noXF, aCons, aNil, mVar, Mi.ret, is_integer_ok d s h, List.replicate, B.frz, lift]
  cases d <;> simp [isInt, isNum, mC, m2, bnd, mVar, Mi.ret, lift, tp2, D.top, cGe, cInt]
theorem law_is_number_ok (d : D) (s : S) (h : fit d = true) : fnM 1 1 m_law_is_number [d] s = .ok (.dat (.bl (isNum d))) [] s := by
  cases d <;> first | rfl | cases h
theorem sNx_eq : sNx = Mi.ret Fl.nx := rfl
/-- one sign among the letters -/
theorem in_az (c : Nat) : cIn (.str ⟨#[c]⟩) (.str "abcdefghijklmnopqrstuvwxyz") = some (decide (c ∈ az)) := rfl
theorem bools_map (f : Nat → Bool) : ∀ l : List Nat, boolsOf (l.map fun c => D.bl (f c)) = some (l.map f)
  | [] => rfl
  | c :: l => by
    show (boolsOf (l.map fun c => D.bl (f c))).map (f c :: ·) = _
    rw [bools_map f l]
    rfl
theorem signs_len {x : Str} (hx : x.length ≤ 1000) : (signs x).length ≤ lim := by
  unfold signs
  rw [List.length_map]
  exact Nat.le_trans hx (by decide)
def inAz : D → Bool
  | .str z => decide (z.cps.toList.headD 0 ∈ az)
  | _ => false
theorem lc_name (x : Str) (s : S) (hx : x.length ≤ 1000) : mLc (iSeq (mVar 0)) [1] (tgN 1) (Mi.ret true) (mC (tp2 cIn) (mVar 1) (Mi.ret (.str "abcdefghijklmnopqrstuvwxyz"))) [.dat (.str x), .unb] s =
    .ok (.own ((signs x).map fun d => .bl (inAz d))) [.dat (.str x), .unb] s := by
  refine lc_map _ (rfl : iSeq (mVar 0) [.dat (.str x), .unb] s = .ok (signs x) _ s) (signs_len hx) rfl fun d hd => ?_
  obtain ⟨c, _, rfl⟩ := List.mem_map.mp hd
  rfl
theorem lc_name2 (x : Str) (s : S) (hx : x.length ≤ 1000) : mLc (iSeq (mVar 0)) [1] (tgN 1) (c2 (mVar 1) (Mi.ret (.str "abcdefghijklmnopqrstuvwxyz")) (tp2 cNi)) (mVar 1) [.dat (.str x), .unb] s =
    .ok (.own ((signs x).filter fun d => !inAz d)) [.dat (.str x), .unb] s := by
  refine lc_flt _ (rfl : iSeq (mVar 0) [.dat (.str x), .unb] s = .ok (signs x) _ s) (signs_len hx) rfl fun d hd => ?_
  obtain ⟨c, _, rfl⟩ := List.mem_map.mp hd
  rfl
theorem all_signs (x : Str) : (signs x).all inAz = x.cps.toList.all fun c => decide (c ∈ az) := by
  unfold signs
  rw [List.all_map]
  rfl
theorem plains_signs (x : Str) : plains (signs x) = true := plains_mem.mpr fun d hd => by
  unfold signs at hd
  obtain ⟨c, _, rfl⟩ := List.mem_map.mp hd
  rfl
theorem isEmpty_filter {α : Type} (p : α → Bool) (xs : List α) : (xs.filter fun d => !p d).isEmpty = xs.all p := by
  induction xs with
  | nil => rfl
  | cons x xs ih => cases h : p x <;> simp [h, ih]
theorem is_name_ok (d : D) (s : S) (h : fit d = true) : fnM 1 2 mis_name [d] s = .ok (.dat (.bl (isNm d))) [] s := by
  cases d with
  | str x =>
    have hx : x.length ≤ 1000 := of_decide_eq_true h
    have hx2 : x.length ≤ lim := Nat.le_trans hx (by decide)
    unfold fnM mis_name
    by_cases h1 : 1 ≤ x.length
    · have h1' : (1 : Int) ≤ x.length := by omega
      by_cases h2 : x.length ≤ 8
      · have h2' : (x.length : Int) ≤ 8 := by omega
        simp [sSeq, sIf, tOrr, tNo, asB, tIsi, bnd, mVar, Mi.ret, lift, List.replicate, cIsi, D.ty, tyIs, c3, mCall, aCons, aNil, tpN, D.top, gLen, hx2, cLe, cInt, sRet, datM, sNx_eq, h1', h2', frzM, lc_name x s hx, B.frz]
        have := ev_all inAz (signs x)
        simp [tpN, D.top, all_signs] at this
        simp [this, isNm, nameS, h1, h2]
      · have h2' : ¬ (x.length : Int) ≤ 8 := by omega
        simp [sSeq, sIf, tOrr, tNo, asB, tIsi, bnd, mVar, Mi.ret, lift, List.replicate, cIsi, D.ty, tyIs, c3, mCall, aCons, aNil, tpN, D.top, gLen, hx2, cLe, cInt, sRet, datM, sNx_eq, h1', h2', isNm, nameS, h2]
    · have h1' : ¬ (1 : Int) ≤ x.length := by omega
      simp [sSeq, sIf, tOrr, tNo, asB, tIsi, bnd, mVar, Mi.ret, lift, List.replicate, cIsi, D.ty, tyIs, c3, mCall, aCons, aNil, tpN, D.top, gLen, hx2, cLe, cInt, sRet, datM, sNx_eq, h1', isNm, nameS, h1]
  | _ => first | rfl | cases h
theorem law_is_name_ok (d : D) (s : S) (h : fit d = true) : fnM 1 2 m_law_is_name [d] s = .ok (.dat (.bl (isNm d))) [] s := by
  cases d with
  | str x =>
    have hx : x.length ≤ 1000 := of_decide_eq_true h
    have hx2 : x.length ≤ lim := Nat.le_trans hx (by decide)
    unfold fnM m_law_is_name
    by_cases h1 : 1 ≤ x.length
    · have h1' : (1 : Int) ≤ x.length := by omega
      by_cases h2 : x.length ≤ 8
      · have h2' : (x.length : Int) ≤ 8 := by omega
        simp [sSeq, sIf, tOrr, tNo, asB, tIsi, bnd, mVar, Mi.ret, lift, List.replicate, cIsi, D.ty, tyIs, c3, mCall, aCons, aNil, tpN, D.top, gLen, hx2, cLe, cInt, sRet, datM, sNx_eq, h1', h2', frzM, lc_name2 x s hx, B.frz, mC, m2, mLst, ev_eq_nil (plains_filter _ (plains_signs x)), isEmpty_filter, all_signs]
        simp [isNm, nameS, h1, h2, all_signs]
      · have h2' : ¬ (x.length : Int) ≤ 8 := by omega
        simp [sSeq, sIf, tOrr, tNo, asB, tIsi, bnd, mVar, Mi.ret, lift, List.replicate, cIsi, D.ty, tyIs, c3, mCall, aCons, aNil, tpN, D.top, gLen, hx2, cLe, cInt, sRet, datM, sNx_eq, h1', h2', isNm, nameS, h2]
    · have h1' : ¬ (1 : Int) ≤ x.length := by omega
      simp [sSeq, sIf, tOrr, tNo, asB, tIsi, bnd, mVar, Mi.ret, lift, List.replicate, cIsi, D.ty, tyIs, c3, mCall, aCons, aNil, tpN, D.top, gLen, hx2, cLe, cInt, sRet, datM, sNx_eq, h1', isNm, nameS, h1]
  | _ => first | rfl | cases h
theorem is_word_ok (d : D) (s : S) (h : fit d = true) : fnM 1 1 mis_word [d] s = .ok (.dat (.bl (isWd d))) [] s := by
  have h1 := is_name_ok d s h
  unfold fnM mis_word
  simp [sRet, datM, mOrr, mAn, bnd, frzM, mCF, noXF, aCons, aNil, mVar, Mi.ret, h1, List.replicate, B.frz, lift]
  cases d with
  | str x => 
    cases hn : nameS x <;> simp [isNm, isWd, hn, tIsi, cIsi, D.ty, tyIs, mC, m2, bnd, mVar, Mi.ret, lift, ev_eq_str]
  | _ => first | rfl | cases h
local macro_rules | `(tactic| walk_at "ev") => `(tactic| simp [v_ret, v_bnd, v_some, v_none, v_asB, v_tNo, v_tAn, v_tOrr, v_ofB, v_mAn, v_mOrr, v_mNo, v_mIf, v_c3, v_aNil, v_aCons, v_mTup, v_mLst, v_mNtup, v_mLstF, v_m2, v_m1, v_c2, v_mC, v_pNone, v_pSome, v_mSl, v_mCall, v_tIsi, v_frzM, v_datM, v_sNx, v_sSeq, v_sDrop, v_sRet, v_sSet, v_sIf, v_mCF, v_noXF, v_noX, v_iSeq, v_iZip, v_iRng, v_iEnu, v_sUnp, v_tgN, v_tgsNil, v_tgsCons, v_sRaise2, v_sRetV, v_sTry, v_mIxF, v_tNiF, v_sPar, v_bNil, v_bCons, v_fAdd, v_mDix, v_sDst, v_mDcp, v_mSrtSet, v_mTix, v_mRev, v_mVar, v_sApp, w_add, w_sub, w_ixT, w_ixN, w_ixL, w_addT, w_addNT, w_lenT, w_lenN, w_lenL, w_lenS, w_ltI, w_leI, w_gtI, w_geI, w_leI0, w_ltI0, w_eqI, w_neI, w_eqS, w_neS, w_isI, w_isS, w_isT, w_isN, w_isL, w_isB, w_isO, B.frz, List.replicate, w_slT, w_slL, w_topT, w_topN, w_topL, w_zipT, w_gItT, w_gItN, w_gItL, w_tgT, cut1, w_at0, w_at1, w_at2, w_lim, w_ite, putAll, w_at3, w_at4, w_at5, w_tupL, w_tupT, w_tupN, w_lstL, w_lstT, w_intI, w_intB, w_topI, w_topS, w_addII, w_addTT, str_inj, str_beq, v_tNiT, v_sTst, v_mSrtT, v_mCV, w_addLL, w_revT, *])
def ltD : D → D → Bool
  | .str x, .str y => decide (x.cps.toList < y.cps.toList)
  | _, _ => false
def ascD (xs : List D) : Bool := (xs.zip (xs.tail)).all fun p => ltD p.1 p.2
theorem lt_ok {a b : D} (ha : isNm a = true) (hb : isNm b = true) : tp2 cLt a b = some (ltD a b) := by
  cases a <;> first | cases ha | skip
  cases b <;> first | cases hb | rfl
theorem bools_zip (f : D → D → Bool) : ∀ xs : List (D × D), boolsOf (xs.map fun p => D.bl (f p.1 p.2)) = some (xs.map fun p => f p.1 p.2)
  | [] => rfl
  | x :: xs => by
    show (boolsOf (xs.map fun p => D.bl (f p.1 p.2))).map (f x.1 x.2 :: ·) = _
    rw [bools_zip f xs]
    rfl
theorem is_ascending_ok (d : D) (xs : List D) (s : S) (h : fit d = true) (t : tupL d = some xs) (hn : xs.all isNm = true) : fnM 1 3 mis_ascending [d] s = .ok (.dat (.bl (ascD xs))) [] s := by
  obtain ⟨hl, hf⟩ := fit_tup t h
  have tt := top_tup t
  have T := tupF t
  have e1 : Mi.iZip (aCons (mVar 0) (aCons (mSl (mVar 0) (pSome (Mi.ret (.int 1))) pNone) aNil)) [.dat d, .unb, .unb] s = .ok (zipD xs xs.tail) [.dat d, .unb, .unb] s := by
    walk_at "ev"
  have e2 := lc_zip (f := fun a b => D.bl (ltD a b)) (i := 1) (j := 2) (m := mC (tp2 cLt) (mVar 1) (mVar 2)) e1 (Nat.le_trans hl (by decide)) (by decide) rfl rfl fun a b hab => by
    have ha : isNm a = true := List.all_eq_true.mp hn a (List.of_mem_zip hab).1
    have hb : isNm b = true := List.all_eq_true.mp hn b (List.mem_of_mem_tail (List.of_mem_zip hab).2)
    have := lt_ok ha hb
    walk_at "ev"
  have e3 : tpN gAll [D.lst ((xs.zip xs.tail).map fun p => D.bl (ltD p.1 p.2))] = some (.bl (ascD xs)) := by
    simp [tpN, D.top, gAll, bools_zip, ascD, List.all_map]
  unfold fnM mis_ascending
  walk_at "ev"
theorem lc_isname (d : D) (xs : List D) (s : S) (h : fit d = true) (t : tupL d = some xs) : mLc (iSeq (mVar 0)) [1] (tgN 1) (Mi.ret true) (frzM (mCF (noXF (fnM 1 2 mis_name)) (aCons (mVar 1) aNil))) [.dat d, .unb] s = .ok (.own (xs.map fun d => .bl (isNm d))) [.dat d, .unb] s := by
  obtain ⟨hl, hf⟩ := fit_tup t h
  have T := tupF t
  refine lc_map (ds := xs) _ ?_ (Nat.le_trans hl (by decide)) rfl fun a ha => ?_
  · walk_at "ev"
  · have := is_name_ok a s (hf a ha)
    walk_at "ev"
def isRd (d : D) : Bool := match tupL d with
  | some xs => xs.all isNm
  | none => false
def isSet (d : D) : Bool := match tupL d with
  | some xs => xs.all isNm && ascD xs
  | none => false
theorem is_reading_ok (d : D) (s : S) (h : fit d = true) : fnM 1 2 mis_reading [d] s = .ok (.dat (.bl (isRd d))) [] s := by
  rcases fit_kind h with ⟨xs, t⟩ | ⟨t, k⟩
  · have e1 := lc_isname d xs s h t
    have T := tupF t
    have e2 := ev_all isNm xs
    have e3 : isRd d = xs.all isNm := by simp [isRd, t]
    unfold fnM mis_reading
    walk_at "ev"
  · rcases k with rfl | ⟨_, rfl⟩ | ⟨_, rfl⟩ | ⟨_, rfl⟩ | ⟨_, rfl⟩ <;> rfl
theorem is_quiet_ok (d : D) (s : S) (h : fit d = true) : fnM 1 1 mis_quiet [d] s = .ok (.dat (.bl (isSet d))) [] s := by
  have h1 := is_reading_ok d s h
  have h3 : isRd d = true → ∃ xs, tupL d = some xs ∧ xs.all isNm = true := fun q => by
    unfold isRd at q
    cases t : tupL d with
    | none => simp [t] at q
    | some xs => exact ⟨xs, rfl, by simpa [t] using q⟩
  cases q : isRd d with
  | false =>
    rw [q] at h1
    have : isSet d = false := by
      unfold isRd at q
      unfold isSet
      revert q
      cases tupL d with
      | none => exact fun _ => rfl
      | some xs => exact fun q => by simp only [q, Bool.false_and]
    clear h h3
    unfold fnM mis_quiet
    walk_at "ev"
  | true =>
    rw [q] at h1
    obtain ⟨xs, t, hn⟩ := h3 q
    have h2 := is_ascending_ok d xs s h t hn
    have : isSet d = ascD xs := by simp [isSet, t, hn]
    clear h h3
    unfold fnM mis_quiet
    walk_at "ev"
theorem set_tup {d : D} (h : isSet d = true) : ∃ xs, tupL d = some xs ∧ xs.all isNm = true ∧ ascD xs = true := by
  unfold isSet at h
  cases t : tupL d with
  | none => simp [t] at h
  | some xs => exact ⟨xs, rfl, by simpa [t] using h⟩
def isLet (d : D) : Bool := isSet d && match tupL d with
  | some xs => !xs.isEmpty
  | none => false
theorem is_letters_ok (d : D) (s : S) (h : fit d = true) : fnM 1 1 mis_letters [d] s = .ok (.dat (.bl (isLet d))) [] s := by
  have h1 := is_quiet_ok d s h
  cases q : isSet d with
  | false =>
    rw [q] at h1
    have : isLet d = false := by simp [isLet, q]
    unfold fnM mis_letters
    walk_at "ev"
  | true =>
    rw [q] at h1
    obtain ⟨xs, t, _⟩ := set_tup q
    have T := tupF t
    have e2 : isLet d = decide ((0 : Int) < xs.length) := by
      simp [isLet, q, t]
      cases xs <;> simp <;> omega
    unfold fnM mis_letters
    walk_at "ev"
end Lw

set_option Elab.async false
set_option linter.all false
set_option autoImplicit false
set_option maxRecDepth 100000
set_option maxHeartbeats 4000000
/-! K78, the plain law: machines. -/
namespace Lw
open PySem L2 Mi
local macro_rules | `(tactic| walk_at "ev") => `(tactic| simp [v_ret, v_bnd, v_some, v_none, v_asB, v_tNo, v_tAn, v_tOrr, v_ofB, v_mAn, v_mOrr, v_mNo, v_mIf, v_c3, v_aNil, v_aCons, v_mTup, v_mLst, v_mNtup, v_mLstF, v_m2, v_m1, v_c2, v_mC, v_pNone, v_pSome, v_mSl, v_mCall, v_tIsi, v_frzM, v_datM, v_sNx, v_sSeq, v_sDrop, v_sRet, v_sSet, v_sIf, v_mCF, v_noXF, v_noX, v_iSeq, v_iZip, v_iRng, v_iEnu, v_sUnp, v_tgN, v_tgsNil, v_tgsCons, v_sRaise2, v_sRetV, v_sTry, v_mIxF, v_tNiF, v_sPar, v_bNil, v_bCons, v_fAdd, v_mDix, v_sDst, v_mDcp, v_mSrtSet, v_mTix, v_mRev, v_mVar, v_sApp, w_add, w_sub, w_ixT, w_ixN, w_ixL, w_addT, w_addNT, w_lenT, w_lenN, w_lenL, w_lenS, w_ltI, w_leI, w_gtI, w_geI, w_leI0, w_ltI0, w_eqI, w_neI, w_eqS, w_neS, w_isI, w_isS, w_isT, w_isN, w_isL, w_isB, w_isO, B.frz, List.replicate, w_slT, w_slL, w_topT, w_topN, w_topL, w_zipT, w_gItT, w_gItN, w_gItL, w_tgT, cut1, w_at0, w_at1, w_at2, w_lim, w_ite, putAll, w_at3, w_at4, w_at5, w_tupL, w_tupT, w_tupN, w_lstL, w_lstT, w_intI, w_intB, w_topI, w_topS, w_addII, w_addTT, str_inj, str_beq, v_tNiT, v_sTst, v_mSrtT, v_mCV, w_addLL, w_revT, *])
def nth (xs : List D) (i : Nat) : D := xs.getD i .non
theorem asc_idx (xs : List D) : ascD xs = (List.range (xs.length - 1)).all fun i => ltD (nth xs i) (nth xs (i + 1)) := by
  rw [Bool.eq_iff_iff]
  unfold ascD
  rw [List.all_eq_true, List.all_eq_true]
  constructor
  · intro h i hi
    rw [List.mem_range] at hi
    have h1 : i < (xs.zip xs.tail).length := by simp; omega
    have := h _ (List.getElem_mem h1)
    simp at this
    unfold nth
    rw [List.getD_eq_getElem?_getD, List.getD_eq_getElem?_getD, List.getElem?_eq_getElem (by omega), List.getElem?_eq_getElem (by omega)]
    exact this
  · intro h p hp
    obtain ⟨i, hi, rfl⟩ := List.getElem_of_mem hp
    simp at hi
    have := h i (List.mem_range.mpr (by omega))
    unfold nth at this
    rw [List.getD_eq_getElem?_getD, List.getD_eq_getElem?_getD, List.getElem?_eq_getElem (by omega), List.getElem?_eq_getElem (by omega)] at this
    simp
    exact this
theorem law_is_set_ok (d : D) (s : S) (h : fit d = true) : fnM 1 3 m_law_is_set [d] s = .ok (.dat (.bl (isSet d))) [] s := by
  rcases fit_kind h with ⟨xs, t⟩ | ⟨t, k⟩
  · obtain ⟨hl, hf⟩ := fit_tup t h
    have T := tupF t
    have hp : plains xs = true := by rw [← ev_plain t]; exact fit_plain h
    have e1 : mLc (iSeq (mVar 0)) [2] (tgN 2) (tNo (asB (frzM (mCF (noXF (fnM 1 2 m_law_is_name)) (aCons (mVar 2) aNil))))) (mVar 2) [.dat d, .unb, .unb] s = .ok (.own (xs.filter fun d => !isNm d)) [.dat d, .unb, .unb] s := by
      refine lc_flt _ ?_ (Nat.le_trans hl (by decide)) rfl fun a ha => ?_
      · walk_at "ev"
      · have := law_is_name_ok a s (hf a ha)
        walk_at "ev"
    have e2 := ev_ne_nil (plains_filter (fun d => !isNm d) hp)
    rw [isEmpty_filter] at e2
    by_cases c : xs.all isNm = true
    · have e3 : isSet d = ascD xs := by simp only [isSet, t, c, Bool.true_and]
      have e4 : mLc (iRng (m2 (mCall (aCons (mVar 0) aNil) (tpN gLen)) (Mi.ret (.int 1)) (tp2 gSub))) [1] (tgN 1) (tNo (c2 (m2 (mVar 0) (mVar 1) (tp2 gIx)) (m2 (mVar 0) (m2 (mVar 1) (Mi.ret (.int 1)) (tp2 gAdd)) (tp2 gIx)) (tp2 cLt))) (mVar 1) [.dat d, .unb, .unb] s =
          .ok (.own ((upto (xs.length - 1)).filter fun d => match d with | .int i => !ltD (nth xs i.toNat) (nth xs (i.toNat + 1)) | _ => false)) [.dat d, .unb, .unb] s := by
        refine lc_flt (ds := upto (xs.length - 1)) _ ?_ ?_ rfl fun a ha => ?_
        · have q1 : -(1000000 : Int) ≤ (xs.length : Int) - 1 ∧ (xs.length : Int) - 1 ≤ 1000000 := by omega
          have q2 : ((xs.length : Int) - 1).toNat = xs.length - 1 := by omega
          walk_at "ev"
        · unfold upto
          rw [List.length_map, List.length_range]
          unfold lim
          omega
        · unfold upto at ha
          obtain ⟨i, hi, rfl⟩ := List.mem_map.mp ha
          rw [List.mem_range] at hi
          have q1 : atI xs (i : Int) = some (nth xs i) := by
            rw [Mi.atI_nat]
            unfold nth
            rw [List.getD_eq_getElem?_getD, List.getElem?_eq_getElem (by omega)]
            rfl
          have q2 : atI xs ((i : Int) + 1) = some (nth xs (i + 1)) := by
            have : (i : Int) + 1 = ((i + 1 : Nat) : Int) := by omega
            rw [this, Mi.atI_nat]
            unfold nth
            rw [List.getD_eq_getElem?_getD, List.getElem?_eq_getElem (by omega)]
            rfl
          have m1 : isNm (nth xs i) = true := List.all_eq_true.mp c _ (by
            unfold nth
            rw [List.getD_eq_getElem?_getD, List.getElem?_eq_getElem (by omega)]
            exact List.getElem_mem _)
          have m2 : isNm (nth xs (i + 1)) = true := List.all_eq_true.mp c _ (by
            unfold nth
            rw [List.getD_eq_getElem?_getD, List.getElem?_eq_getElem (by omega)]
            exact List.getElem_mem _)
          have q3 := lt_ok m1 m2
          walk_at "ev"
      have e5 : plains ((upto (xs.length - 1)).filter fun d => match d with | .int i => !ltD (nth xs i.toNat) (nth xs (i.toNat + 1)) | _ => false) = true := plains_filter _ (plains_mem.mpr fun a ha => by
        unfold upto at ha
        obtain ⟨i, hi, rfl⟩ := List.mem_map.mp ha
        rfl)
      have e6 := ev_eq_nil e5
      have e7 : ((upto (xs.length - 1)).filter fun d => match d with | .int i => !ltD (nth xs i.toNat) (nth xs (i.toNat + 1)) | _ => false).isEmpty = ascD xs := by
        rw [asc_idx, Bool.eq_iff_iff, List.isEmpty_iff, List.filter_eq_nil_iff, List.all_eq_true]
        unfold upto
        simp
      rw [e7] at e6
      rw [c] at e2
      clear h hf e7 e5
      unfold fnM m_law_is_set
      walk_at "ev"
    · have c' : xs.all isNm = false := by simpa using c
      have e3 : isSet d = false := by simp only [isSet, t, c', Bool.false_and]
      rw [c'] at e2
      clear h hf c c'
      unfold fnM m_law_is_set
      walk_at "ev"
  · rcases k with rfl | ⟨_, rfl⟩ | ⟨_, rfl⟩ | ⟨_, rfl⟩ | ⟨_, rfl⟩ <;> rfl
theorem len2 {α : Type} : ∀ {xs : List α}, xs.length = 2 → ∃ a b, xs = [a, b]
  | [a, b], _ => ⟨a, b, rfl⟩
theorem len3 {α : Type} : ∀ {xs : List α}, xs.length = 3 → ∃ a b c, xs = [a, b, c]
  | [a, b, c], _ => ⟨a, b, c, rfl⟩
def isPs (d : D) : Bool := match tupL d with
  | some [a, w] => isInt a && isWd w
  | _ => false
theorem isPs_len {d : D} {xs : List D} (t : tupL d = some xs) (c : xs.length ≠ 2) : isPs d = false := by
  unfold isPs
  rw [t]
  match xs, c with
  | [], _ => rfl
  | [_], _ => rfl
  | [_, _], c => exact absurd rfl c
  | _ :: _ :: _ :: _, _ => rfl
theorem is_pair_ok (d : D) (s : S) (h : fit d = true) : fnM 1 1 mis_pair [d] s = .ok (.dat (.bl (isPs d))) [] s := by
  rcases fit_kind h with ⟨xs, t⟩ | ⟨t, k⟩
  · obtain ⟨hl, hf⟩ := fit_tup t h
    have T := tupF t
    by_cases c : xs.length = 2
    · obtain ⟨a, b, rfl⟩ := len2 c
      have h1 := is_integer_ok a s (hf a (by simp))
      have h2 := is_word_ok b s (hf b (by simp))
      have e : isPs d = (isInt a && isWd b) := by simp only [isPs, t]
      clear h hf
      unfold fnM mis_pair
      cases q : isInt a <;> rw [q] at h1 <;> walk_at "ev"
    · have c2 : ¬ ((xs.length : Int) = 2) := by omega
      have e := isPs_len t c
      clear h hf
      unfold fnM mis_pair
      walk_at "ev"
  · rcases k with rfl | ⟨_, rfl⟩ | ⟨_, rfl⟩ | ⟨_, rfl⟩ | ⟨_, rfl⟩ <;> rfl
end Lw

set_option Elab.async false
set_option linter.all false
set_option autoImplicit false
set_option maxRecDepth 100000
set_option maxHeartbeats 4000000
/-! K78, the plain law: machines, the program's check. -/
namespace Lw
open PySem L2 Mi
local macro_rules | `(tactic| walk_at "ev") => `(tactic| simp [v_ret, v_bnd, v_some, v_none, v_asB, v_tNo, v_tAn, v_tOrr, v_ofB, v_mAn, v_mOrr, v_mNo, v_mIf, v_c3, v_aNil, v_aCons, v_mTup, v_mLst, v_mNtup, v_mLstF, v_m2, v_m1, v_c2, v_mC, v_pNone, v_pSome, v_mSl, v_mCall, v_tIsi, v_frzM, v_datM, v_sNx, v_sSeq, v_sDrop, v_sRet, v_sSet, v_sIf, v_mCF, v_noXF, v_noX, v_iSeq, v_iZip, v_iRng, v_iEnu, v_sUnp, v_tgN, v_tgsNil, v_tgsCons, v_sRaise2, v_sRetV, v_sTry, v_mIxF, v_tNiF, v_sPar, v_bNil, v_bCons, v_fAdd, v_mDix, v_sDst, v_mDcp, v_mSrtSet, v_mTix, v_mRev, v_mVar, v_sApp, w_add, w_sub, w_ixT, w_ixN, w_ixL, w_addT, w_addNT, w_lenT, w_lenN, w_lenL, w_lenS, w_ltI, w_leI, w_gtI, w_geI, w_leI0, w_ltI0, w_eqI, w_neI, w_eqS, w_neS, w_isI, w_isS, w_isT, w_isN, w_isL, w_isB, w_isO, B.frz, List.replicate, w_slT, w_slL, w_topT, w_topN, w_topL, w_zipT, w_gItT, w_gItN, w_gItL, w_tgT, cut1, w_at0, w_at1, w_at2, w_lim, w_ite, putAll, w_at3, w_at4, w_at5, w_tupL, w_tupT, w_tupN, w_lstL, w_lstT, w_intI, w_intB, w_topI, w_topS, w_addII, w_addTT, str_inj, str_beq, v_tNiT, v_sTst, v_mSrtT, v_mCV, w_addLL, w_revT, *])
/-- a loop that goes on, or ends early -/
theorem forL_run {g : Tg} {m : M Fl} {s : S} {Inv : Mi.Env → Prop} {ok : D → Bool} {C : Exc → Prop} {C' : B → Prop} : ∀ {ds : List D} {e : Mi.Env}, Inv e →
    (∀ d ∈ ds, ∀ e, Inv e → ∃ e1, g d e = some e1 ∧ (ok d = true → ∃ e2, m e1 s = .ok .nx e2 s ∧ Inv e2) ∧ (ok d = false → (∃ x e2, m e1 s = .exc x e2 s ∧ C x) ∨ ∃ v e2, m e1 s = .ok (.rt v) e2 s ∧ C' v)) →
    (ds.all ok = true → ∃ e', forL g m ds e s = .ok .nx e' s ∧ Inv e') ∧ (ds.all ok = false → (∃ x e', forL g m ds e s = .exc x e' s ∧ C x) ∨ ∃ v e', forL g m ds e s = .ok (.rt v) e' s ∧ C' v)
  | [], e, he, _ => ⟨fun _ => ⟨e, rfl, he⟩, fun h => by cases h⟩
  | d :: ds, e, he, h => by
    obtain ⟨e1, h1, h2, h3⟩ := h d List.mem_cons_self e he
    unfold forL
    rw [h1]
    cases hk : ok d with
    | true =>
      obtain ⟨e2, h4, h5⟩ := h2 hk
      have ih := forL_run (g := g) (m := m) (s := s) (C := C) (C' := C') (ok := ok) h5 fun x hx => h x (List.mem_cons_of_mem _ hx)
      simp only [bnd_ok h4, List.all_cons, hk, Bool.true_and]
      exact ih
    | false =>
      refine ⟨fun z => ?_, fun _ => ?_⟩
      · rw [List.all_cons, hk] at z
        cases z
      · rcases h3 hk with ⟨x, e2, h4, h5⟩ | ⟨v, e2, h4, h5⟩
        · exact .inl ⟨x, e2, bnd_exc h4, h5⟩
        · exact .inr ⟨v, e2, bnd_ok h4, h5⟩
def isRw (d : D) : Bool := match tupL d with
  | some xs => xs.all isPs
  | none => false
theorem is_row_ok (d : D) (s : S) (h : fit d = true) : fnM 1 2 mis_row [d] s = .ok (.dat (.bl (isRw d))) [] s := by
  rcases fit_kind h with ⟨xs, t⟩ | ⟨t, k⟩
  · obtain ⟨hl, hf⟩ := fit_tup t h
    have T := tupF t
    have e1 : mLc (iSeq (mVar 0)) [1] (tgN 1) (Mi.ret true) (frzM (mCF (noXF (fnM 1 1 mis_pair)) (aCons (mVar 1) aNil))) [.dat d, .unb] s = .ok (.own (xs.map fun d => .bl (isPs d))) [.dat d, .unb] s := by
      refine lc_map (ds := xs) _ ?_ (Nat.le_trans hl (by decide)) rfl fun a ha => ?_
      · walk_at "ev"
      · have := is_pair_ok a s (hf a ha)
        walk_at "ev"
    have e2 := ev_all isPs xs
    have e3 : isRw d = xs.all isPs := by simp [isRw, t]
    clear h hf
    unfold fnM mis_row
    walk_at "ev"
  · rcases k with rfl | ⟨_, rfl⟩ | ⟨_, rfl⟩ | ⟨_, rfl⟩ | ⟨_, rfl⟩ <;> rfl
def isSh (d : D) : Bool := match tupL d with
  | some [a, b] => isRd a && (match tupL b with
    | some rows => rows.all isRw
    | none => false)
  | _ => false
theorem isSh_len {d : D} {xs : List D} (t : tupL d = some xs) (c : xs.length ≠ 2) : isSh d = false := by
  unfold isSh
  rw [t]
  match xs, c with
  | [], _ => rfl
  | [_], _ => rfl
  | [_, _], c => exact absurd rfl c
  | _ :: _ :: _ :: _, _ => rfl
theorem not_tup {d : D} (h : fit d = true) (t : tupL d = none) : cIsi "tuple" d = some false := by
  rcases fit_kind h with ⟨xs, t'⟩ | ⟨_, k⟩
  · rw [t] at t'
    cases t'
  · rcases k with rfl | ⟨_, rfl⟩ | ⟨_, rfl⟩ | ⟨_, rfl⟩ | ⟨_, rfl⟩ <;> rfl
theorem has_shape_ok (d : D) (s : S) (h : fit d = true) : fnM 1 2 mhas_shape [d] s = .ok (.dat (.bl (isSh d))) [] s := by
  rcases fit_kind h with ⟨xs, t⟩ | ⟨t, k⟩
  · obtain ⟨hl, hf⟩ := fit_tup t h
    have T := tupF t
    by_cases c : xs.length = 2
    · obtain ⟨a, b, rfl⟩ := len2 c
      have ha := hf a (by simp)
      have hb := hf b (by simp)
      have h1 := is_reading_ok a s ha
      cases tb : tupL b with
      | none =>
        have e : isSh d = false := by simp [isSh, t, tb]
        have nb := not_tup hb tb
        clear h hf
        unfold fnM mhas_shape
        cases q : isRd a <;> rw [q] at h1 <;> walk_at "ev"
      | some rows =>
        have Tb := tupF tb
        obtain ⟨hlb, hfb⟩ := fit_tup tb hb
        have e : isSh d = (isRd a && rows.all isRw) := by simp only [isSh, t, tb]
        have e1 : mLc (iSeq (m2 (mVar 0) (Mi.ret (.int 1)) (tp2 gIx))) [1] (tgN 1) (Mi.ret true) (frzM (mCF (noXF (fnM 1 2 mis_row)) (aCons (mVar 1) aNil))) [.dat d, .unb] s = .ok (.own (rows.map fun d => .bl (isRw d))) [.dat d, .unb] s := by
          refine lc_map (ds := rows) _ ?_ (Nat.le_trans hlb (by decide)) rfl fun a ha => ?_
          · clear h hf h1 hfb
            walk_at "ev"
          · have := is_row_ok a s (hfb a ha)
            clear h hf h1 hfb
            walk_at "ev"
        have e2 := ev_all isRw rows
        clear h hf hfb
        unfold fnM mhas_shape
        cases q : isRd a <;> rw [q] at h1 <;> walk_at "ev"
    · have c2 : ¬ ((xs.length : Int) = 2) := by omega
      have e := isSh_len t c
      clear h hf
      unfold fnM mhas_shape
      walk_at "ev"
  · rcases k with rfl | ⟨_, rfl⟩ | ⟨_, rfl⟩ | ⟨_, rfl⟩ | ⟨_, rfl⟩ <;> rfl
/-! ### machines -/
def isPr (m : Nat) (d : D) : Bool := match tupL d with
  | some [.int i, w] => decide (0 ≤ i) && (decide (i < m) && isWd w)
  | _ => false
def isRow (n m : Nat) (d : D) : Bool := match tupL d with
  | some ps => decide (ps.length = n) && ps.all (isPr m)
  | none => false
def lenD (d : D) : Nat := match tupL d with
  | some xs => xs.length
  | none => 0
def isGear (d : D) : Bool := match tupL d with
  | some [a, b] => isLet a && (match tupL b with
    | some rows => !rows.isEmpty && rows.all (isRow (lenD a) rows.length)
    | none => false)
  | _ => false
theorem isGear_len {d : D} {xs : List D} (t : tupL d = some xs) (c : xs.length ≠ 2) : isGear d = false := by
  unfold isGear
  rw [t]
  match xs, c with
  | [], _ => rfl
  | [_], _ => rfl
  | [_, _], c => exact absurd rfl c
  | _ :: _ :: _ :: _, _ => rfl
theorem pr_ps {m : Nat} {d : D} (h : isPr m d = true) : isPs d = true := by
  unfold isPr at h
  unfold isPs
  revert h
  cases tupL d with
  | none => exact fun h => by cases h
  | some xs =>
    match xs with
    | [] => exact fun h => by cases h
    | [_] => exact fun h => by simp at h
    | [.int i, w] => exact fun h => by simp at h; simp [isInt, h]
    | _ :: _ :: _ :: _ => exact fun h => by simp at h
    | [.non, w] | [.bl _, w] | [.str _, w] | [.tup _, w] | [.lst _, w] | [.dK _ _, w] | [.dT _ _, w] | [.fn _, w] | [.root _, w] | [.ntup _, w] | [.scr _, w] => exact fun h => by cases h
theorem row_rw {n m : Nat} {d : D} (h : isRow n m d = true) : isRw d = true := by
  unfold isRow at h
  unfold isRw
  revert h
  cases tupL d with
  | none => exact fun h => by cases h
  | some xs =>
    intro h
    simp only [Bool.and_eq_true] at h
    simp only [List.all_eq_true] at h ⊢
    exact fun x hx => pr_ps (h.2 x hx)
theorem let_rd {d : D} (h : isLet d = true) : isRd d = true := by
  unfold isLet at h
  rw [Bool.and_eq_true] at h
  obtain ⟨xs, t, h1, _⟩ := set_tup h.1
  unfold isRd
  rw [t]
  exact h1
theorem gear_sh {d : D} (h : isGear d = true) : isSh d = true := by
  unfold isGear at h
  unfold isSh
  revert h
  cases tupL d with
  | none => exact fun h => by cases h
  | some xs =>
    match xs with
    | [] => exact fun h => by simp at h
    | [_] => exact fun h => by simp at h
    | _ :: _ :: _ :: _ => exact fun h => by simp at h
    | [a, b] =>
      intro h
      simp only [Bool.and_eq_true] at h ⊢
      refine ⟨let_rd h.1, ?_⟩
      have h2 := h.2
      revert h2
      cases tupL b with
      | none => exact fun h => by cases h
      | some rows =>
        intro h
        simp only [Bool.and_eq_true, List.all_eq_true] at h ⊢
        exact fun r hr => row_rw (h.2 r hr)
/-- where all items are such as no text is, a tuple is tracked by nothing -/
theorem tup_of {b : D} {rows : List D} (h : fit b = true) (t : tupL b = some rows) (p : D → Bool) (hp : ∀ x, p (.str x) = false) (ha : rows.all p = true) : b = .tup rows := by
  rcases tupL_cases t with rfl | rfl
  · rfl
  · simp only [fit, Bool.and_eq_true] at h
    obtain ⟨_, _, h1, h2⟩ := h
    match rows with
    | [] => cases h1
    | x :: xs =>
      simp only [List.all_cons, Bool.and_eq_true] at h2 ha
      cases x <;> first | (rw [hp] at ha; cases ha.1) | (cases h2.1)
theorem req_ok (c : Bool) (w a : D) (s : S) : fnM 3 3 mrequire [.bl c, w, a] s = if c = true then .ok (.dat .non) [] s else .exc ⟨"InvalidPaper", [("at", a), ("word", w)]⟩ [] s := by
  cases c <;> rfl
/-! ### the program's check that lets a machine -/
theorem enu_mem {rows : List D} {x : D} (h : x ∈ enuD rows) : ∃ (k : Nat) (r : D), x = .tup [.int k, r] ∧ r ∈ rows := by
  unfold enuD zipD at h
  obtain ⟨⟨a, b⟩, hp, rfl⟩ := List.mem_map.mp h
  have h1 := (List.of_mem_zip hp).1
  unfold upto at h1
  obtain ⟨k, _, rfl⟩ := List.mem_map.mp h1
  exact ⟨k, b, rfl, (List.of_mem_zip hp).2⟩
def enuP (p : D → Bool) : D → Bool
  | .tup [_, r] => p r
  | _ => false
theorem enu_all (p : D → Bool) (rows : List D) : (enuD rows).all (enuP p) = rows.all p := by
  unfold enuD zipD upto
  rw [List.all_map]
  have : ∀ (n : Nat) (rows : List D), (((List.range' n rows.length).map fun i => D.int (i : Nat)).zip rows).all (enuP p ∘ fun q => D.tup [q.1, q.2]) = rows.all p := by
    intro n rows
    induction rows generalizing n with
    | nil => rfl
    | cons r rows ih =>
      rw [List.length_cons, List.range'_succ, List.map_cons, List.zip_cons_cons, List.all_cons, List.all_cons, ih]
      rfl
  rw [List.range_eq_range']
  exact this 0 rows
def Lets (d : D) (r : R B) (s : S) : Prop := if isGear d = true then ∃ n : Int, 0 < n ∧ r = .ok (.dat (.int n)) [] s else ∃ x, x.cls = ("InvalidPaper" : Str) ∧ r = .exc x [] s
theorem Lets.yes {d : D} {r : R B} {s : S} (n : Int) (h : isGear d = true) (hn : 0 < n) (e : r = .ok (.dat (.int n)) [] s) : Lets d r s := by
  unfold Lets
  rw [if_pos h]
  exact ⟨n, hn, e⟩
theorem Lets.not {d : D} {r : R B} {s : S} (x : Exc) (h : isGear d = false) (hx : x.cls = ("InvalidPaper" : Str)) (e : r = .exc x [] s) : Lets d r s := by
  unfold Lets
  rw [h, if_neg (by decide)]
  exact ⟨x, hx, e⟩
def InvL (d a b : D) (e : Mi.Env) : Prop := ∃ x3 x4 x5 x6 x7, e = [.dat d, .dat a, .dat b, x3, x4, x5, x6, x7]
theorem ps_of {p : D} (h : isPs p = true) : ∃ i w, tupL p = some [.int i, w] ∧ isWd w = true := by
  unfold isPs at h
  cases tp : tupL p with
  | none => rw [tp] at h; cases h
  | some pp =>
    rw [tp] at h
    by_cases c : pp.length = 2
    · obtain ⟨a, w, rfl⟩ := len2 c
      simp only [Bool.and_eq_true] at h
      cases a with
      | int i => exact ⟨i, w, rfl, h.2⟩
      | _ => exact absurd h.1 Bool.false_ne_true
    · match pp, c, h with
      | [], _, h => cases h
      | [_], _, h => cases h
      | [_, _], c, _ => exact absurd rfl c
      | _ :: _ :: _ :: _, _, h => cases h
/-- one row's pairs -/
theorem lets_in (d a : D) (rows ps : List D) (k : Nat) (r : D) (s : S) (hps : ps.all isPs = true) (hl : rows.length ≤ 5000) : ∀ x5 x6 x7, 
    (ps.all (isPr rows.length) = true → ∃ e', sFor (iEnu (mVar 4)) (tgT 2 (tgsCons (tgN 5) (tgsCons (tgT 2 (tgsCons (tgN 6) (tgsCons (tgN 7) tgsNil))) tgsNil))) (sDrop (frzM (mCF (fnM 3 3 mrequire) (aCons (ofB (c3 (Mi.ret (.int 0)) (mVar 6) (mCall (aCons (mVar 2) aNil) (tpN gLen)) cLe cLt)) (aCons (Mi.ret (.str "next")) (aCons (mTup (aCons (mVar 3) (aCons (mVar 5) aNil))) aNil)))))) [.dat d, .dat a, .dat (.tup rows), .dat (.int k), .dat (.tup ps), x5, x6, x7] s = .ok .nx e' s ∧ InvL d a (.tup rows) e') ∧
    (ps.all (isPr rows.length) = false → ∃ x e', sFor (iEnu (mVar 4)) (tgT 2 (tgsCons (tgN 5) (tgsCons (tgT 2 (tgsCons (tgN 6) (tgsCons (tgN 7) tgsNil))) tgsNil))) (sDrop (frzM (mCF (fnM 3 3 mrequire) (aCons (ofB (c3 (Mi.ret (.int 0)) (mVar 6) (mCall (aCons (mVar 2) aNil) (tpN gLen)) cLe cLt)) (aCons (Mi.ret (.str "next")) (aCons (mTup (aCons (mVar 3) (aCons (mVar 5) aNil))) aNil)))))) [.dat d, .dat a, .dat (.tup rows), .dat (.int k), .dat (.tup ps), x5, x6, x7] s = .exc x e' s ∧ x.cls = ("InvalidPaper" : Str)) := by
  intro x5 x6 x7
  have key := forL_run (g := tgT 2 (tgsCons (tgN 5) (tgsCons (tgT 2 (tgsCons (tgN 6) (tgsCons (tgN 7) tgsNil))) tgsNil))) (m := sDrop (frzM (mCF (fnM 3 3 mrequire) (aCons (ofB (c3 (Mi.ret (.int 0)) (mVar 6) (mCall (aCons (mVar 2) aNil) (tpN gLen)) cLe cLt)) (aCons (Mi.ret (.str "next")) (aCons (mTup (aCons (mVar 3) (aCons (mVar 5) aNil))) aNil)))))) (s := s)
    (Inv := fun e => ∃ x5 x6 x7, e = [.dat d, .dat a, .dat (.tup rows), .dat (.int k), .dat (.tup ps), x5, x6, x7]) (ok := enuP (isPr rows.length)) (C := fun x => x.cls = ("InvalidPaper" : Str)) (C' := fun _ => False) (ds := enuD ps) (e := [.dat d, .dat a, .dat (.tup rows), .dat (.int k), .dat (.tup ps), x5, x6, x7]) ⟨x5, x6, x7, rfl⟩ ?_
  · rw [enu_all] at key
    refine ⟨fun h => ?_, fun h => ?_⟩
    · obtain ⟨e', h1, y5, y6, y7, h2⟩ := key.1 h
      refine ⟨e', ?_, _, _, y5, y6, y7, h2⟩
      rw [v_sFor]
      exact h1
    · rcases key.2 h with ⟨x, e', h1, h2⟩ | ⟨_, _, _, h⟩
      · exact ⟨x, e', h1, h2⟩
      · exact h.elim
  · intro x hx e ⟨y5, y6, y7, he⟩
    subst he
    obtain ⟨j, p, rfl, hp⟩ := enu_mem hx
    obtain ⟨i, w, tp, hw⟩ := ps_of (List.all_eq_true.mp hps p hp)
    have Tp := tupF tp
    have e0 : isPr rows.length p = (decide (0 ≤ i) && (decide (i < rows.length) && isWd w)) := by simp only [isPr, tp]
    refine ⟨[.dat d, .dat a, .dat (.tup rows), .dat (.int k), .dat (.tup ps), .dat (.int j), .dat (.int i), .dat w], ?_, fun h => ?_, fun h => ?_⟩
    · walk_at "ev"
    · have h' : 0 ≤ i ∧ i < rows.length := by
        change isPr rows.length p = true at h
        rw [e0, hw] at h
        simpa using h
      have q := req_ok true (.str "next") (.tup [.int k, .int j]) s
      rw [if_pos rfl] at q
      obtain ⟨g1, g2⟩ := h'
      refine ⟨[.dat d, .dat a, .dat (.tup rows), .dat (.int k), .dat (.tup ps), .dat (.int j), .dat (.int i), .dat w], ?_, _, _, _, rfl⟩
      clear h Tp hx
      walk_at "ev"
    · have h' : 0 ≤ i → ¬ i < rows.length := fun z1 z2 => by
        change isPr rows.length p = false at h
        rw [e0, hw] at h
        simp [z1, z2] at h
      have q := req_ok false (.str "next") (.tup [.int k, .int j]) s
      rw [if_neg (by decide)] at q
      refine .inl ⟨⟨"InvalidPaper", [("at", .tup [.int k, .int j]), ("word", .str "next")]⟩, [.dat d, .dat a, .dat (.tup rows), .dat (.int k), .dat (.tup ps), .dat (.int j), .dat (.int i), .dat w], ?_, rfl⟩
      clear h Tp hx
      by_cases z : 0 ≤ i
      · have z2 := h' z
        clear h'
        walk_at "ev"
      · clear h'
        walk_at "ev"
end Lw

set_option Elab.async false
set_option linter.all false
set_option autoImplicit false
set_option maxRecDepth 100000
set_option maxHeartbeats 4000000
/-! K78, the plain law: machines and events. -/
namespace Lw
open PySem L2 Mi
local macro_rules | `(tactic| walk_at "ev") => `(tactic| simp [v_ret, v_bnd, v_some, v_none, v_asB, v_tNo, v_tAn, v_tOrr, v_ofB, v_mAn, v_mOrr, v_mNo, v_mIf, v_c3, v_aNil, v_aCons, v_mTup, v_mLst, v_mNtup, v_mLstF, v_m2, v_m1, v_c2, v_mC, v_pNone, v_pSome, v_mSl, v_mCall, v_tIsi, v_frzM, v_datM, v_sNx, v_sSeq, v_sDrop, v_sRet, v_sSet, v_sIf, v_mCF, v_noXF, v_noX, v_iSeq, v_iZip, v_iRng, v_iEnu, v_sUnp, v_tgN, v_tgsNil, v_tgsCons, v_sRaise2, v_sRetV, v_sTry, v_mIxF, v_tNiF, v_sPar, v_bNil, v_bCons, v_fAdd, v_mDix, v_sDst, v_mDcp, v_mSrtSet, v_mTix, v_mRev, v_mVar, v_sApp, w_add, w_sub, w_ixT, w_ixN, w_ixL, w_addT, w_addNT, w_lenT, w_lenN, w_lenL, w_lenS, w_ltI, w_leI, w_gtI, w_geI, w_leI0, w_ltI0, w_eqI, w_neI, w_eqS, w_neS, w_isI, w_isS, w_isT, w_isN, w_isL, w_isB, w_isO, B.frz, List.replicate, w_slT, w_slL, w_topT, w_topN, w_topL, w_zipT, w_gItT, w_gItN, w_gItL, w_tgT, cut1, w_at0, w_at1, w_at2, w_lim, w_ite, putAll, w_at3, w_at4, w_at5, w_tupL, w_tupT, w_tupN, w_lstL, w_lstT, w_intI, w_intB, w_topI, w_topS, w_addII, w_addTT, str_inj, str_beq, v_tNiT, v_sTst, v_mSrtT, v_mCV, w_addLL, w_revT, *])
abbrev lmIn : M Fl := sFor (iEnu (mVar 4)) (tgT 2 (tgsCons (tgN 5) (tgsCons (tgT 2 (tgsCons (tgN 6) (tgsCons (tgN 7) tgsNil))) tgsNil))) (sDrop (frzM (mCF (fnM 3 3 mrequire) (aCons (ofB (c3 (Mi.ret (.int 0)) (mVar 6) (mCall (aCons (mVar 2) aNil) (tpN gLen)) cLe cLt)) (aCons (Mi.ret (.str "next")) (aCons (mTup (aCons (mVar 3) (aCons (mVar 5) aNil))) aNil))))))
abbrev lmHd : M Fl := sDrop (frzM (mCF (fnM 3 3 mrequire) (aCons (mC (tp2 cEq) (mCall (aCons (mVar 4) aNil) (tpN gLen)) (mCall (aCons (mVar 1) aNil) (tpN gLen))) (aCons (Mi.ret (.str "row")) (aCons (mVar 3) aNil)))))
abbrev lmLoop : M Fl := sFor (iEnu (mVar 2)) (tgT 2 (tgsCons (tgN 3) (tgsCons (tgN 4) tgsNil))) (sSeq lmHd lmIn)
theorem lmHd_ok (d a b : D) (as ps : List D) (k : Int) (s : S) (ta : tupL a = some as) (x5 x6 x7 : B) :
    lmHd [.dat d, .dat a, .dat b, .dat (.int k), .dat (.tup ps), x5, x6, x7] s = if ps.length = as.length then .ok .nx [.dat d, .dat a, .dat b, .dat (.int k), .dat (.tup ps), x5, x6, x7] s else .exc ⟨"InvalidPaper", [("at", .int k), ("word", .str "row")]⟩ [.dat d, .dat a, .dat b, .dat (.int k), .dat (.tup ps), x5, x6, x7] s := by
  have T := tupF ta
  by_cases c : ps.length = as.length
  · have q := req_ok true (.str "row") (.int k) s
    rw [if_pos rfl] at q
    unfold lmHd
    walk_at "ev"
  · have q := req_ok false (.str "row") (.int k) s
    have c2 : ((ps.length : Int) == (as.length : Int)) = false := by simp; omega
    rw [if_neg (by decide)] at q
    unfold lmHd
    walk_at "ev"
theorem lmLoop_ok (d a : D) (as rows : List D) (s : S) (ta : tupL a = some as) (hl : rows.length ≤ 5000) (hf : ∀ r ∈ rows, fit r = true) (hr : rows.all isRw = true) :
    (rows.all (isRow as.length rows.length) = true → ∃ e', lmLoop [.dat d, .dat a, .dat (.tup rows), .unb, .unb, .unb, .unb, .unb] s = .ok .nx e' s ∧ InvL d a (.tup rows) e') ∧
    (rows.all (isRow as.length rows.length) = false → ∃ x e', lmLoop [.dat d, .dat a, .dat (.tup rows), .unb, .unb, .unb, .unb, .unb] s = .exc x e' s ∧ x.cls = ("InvalidPaper" : Str)) := by
  have key := forL_run (g := tgT 2 (tgsCons (tgN 3) (tgsCons (tgN 4) tgsNil))) (m := sSeq lmHd lmIn) (s := s) (Inv := InvL d a (.tup rows)) (ok := enuP (isRow as.length rows.length))
    (C := fun x => x.cls = ("InvalidPaper" : Str)) (C' := fun _ => False) (ds := enuD rows) (e := [.dat d, .dat a, .dat (.tup rows), .unb, .unb, .unb, .unb, .unb]) ⟨_, _, _, _, _, rfl⟩ ?_
  · rw [enu_all] at key
    refine ⟨fun h => ?_, fun h => ?_⟩
    · obtain ⟨e', h1, h2⟩ := key.1 h
      refine ⟨e', ?_, h2⟩
      unfold lmLoop
      rw [v_sFor]
      exact h1
    · rcases key.2 h with ⟨x, e', h1, h2⟩ | ⟨_, _, _, h⟩
      · exact ⟨x, e', h1, h2⟩
      · exact h.elim
  · intro x hx e ⟨y3, y4, y5, y6, y7, he⟩
    subst he
    obtain ⟨k, r, rfl, hr2⟩ := enu_mem hx
    have h1 := List.all_eq_true.mp hr r hr2
    have h2 : ∃ ps, tupL r = some ps ∧ ps.all isPs = true := by
      unfold isRw at h1
      cases tr : tupL r with
      | none => rw [tr] at h1; cases h1
      | some ps => rw [tr] at h1; exact ⟨ps, rfl, h1⟩
    obtain ⟨ps, tr, hps⟩ := h2
    have er : r = .tup ps := tup_of (hf r hr2) tr isPs (fun _ => rfl) hps
    subst er
    have hh := fun x5 x6 x7 => lmHd_ok d a (.tup rows) as ps k s ta x5 x6 x7
    refine ⟨[.dat d, .dat a, .dat (.tup rows), .dat (.int k), .dat (.tup ps), y5, y6, y7], rfl, fun h => ?_, fun h => .inl ?_⟩
    · change isRow as.length rows.length (.tup ps) = true at h
      simp only [isRow, tupL, Bool.and_eq_true, decide_eq_true_eq] at h
      obtain ⟨e', g1, g2⟩ := (lets_in d a rows ps k .non s hps hl y5 y6 y7).1 h.2
      refine ⟨e', ?_, g2⟩
      have hh := hh y5 y6 y7
      rw [if_pos h.1] at hh
      show bnd lmHd _ _ _ = _
      rw [bnd_ok hh]
      exact g1
    · change isRow as.length rows.length (.tup ps) = false at h
      have hh := hh y5 y6 y7
      by_cases c : ps.length = as.length
      · have h' : ps.all (isPr rows.length) = false := by
          cases q : ps.all (isPr rows.length) with
          | false => rfl
          | true =>
            simp only [isRow, tupL, c, q, decide_true, Bool.and_true] at h
            cases h
        obtain ⟨x, e', g1, g2⟩ := (lets_in d a rows ps k .non s hps hl y5 y6 y7).2 h'
        rw [if_pos c] at hh
        refine ⟨x, e', ?_, g2⟩
        show bnd lmHd _ _ _ = _
        rw [bnd_ok hh]
        exact g1
      · rw [if_neg c] at hh
        exact ⟨_, _, bnd_exc hh, rfl⟩
theorem not_gear {d a b : D} {rows : List D} (t : tupL d = some [a, b]) (tb : tupL b = some rows) : isGear d = (isLet a && (!rows.isEmpty && rows.all (isRow (lenD a) rows.length))) := by
  simp only [isGear, t, tb]
theorem sh_of {d : D} (h : isSh d = true) : ∃ a b as rows, tupL d = some [a, b] ∧ tupL a = some as ∧ as.all isNm = true ∧ tupL b = some rows ∧ rows.all isRw = true := by
  unfold isSh at h
  cases t : tupL d with
  | none => rw [t] at h; cases h
  | some xs =>
    rw [t] at h
    by_cases c : xs.length = 2
    · obtain ⟨a, b, rfl⟩ := len2 c
      simp only [Bool.and_eq_true] at h
      obtain ⟨h1, h2⟩ := h
      unfold isRd at h1
      cases ta : tupL a with
      | none => rw [ta] at h1; cases h1
      | some as =>
        rw [ta] at h1
        cases tb : tupL b with
        | none => rw [tb] at h2; cases h2
        | some rows =>
          rw [tb] at h2
          exact ⟨a, b, as, rows, rfl, ta, h1, tb, h2⟩
    · match xs, c, h with
      | [], _, h => cases h
      | [_], _, h => cases h
      | [_, _], c, _ => exact absurd rfl c
      | _ :: _ :: _ :: _, _, h => cases h
theorem lets_machine_ok (d : D) (s : S) (h : fit d = true) : Lets d (fnM 1 8 mlets_machine [d] s) s := by
  have h0 := has_shape_ok d s h
  have rq : ∀ (c : Bool) (w a : D), fnM 3 3 mrequire [.bl c, w, a] s = if c = true then .ok (.dat .non) [] s else .exc ⟨"InvalidPaper", [("at", a), ("word", w)]⟩ [] s := fun c w a => req_ok c w a s
  cases q : isSh d with
  | false =>
    have hg : isGear d = false := by
      cases g : isGear d with
      | false => rfl
      | true => rw [gear_sh g] at q; cases q
    refine Lets.not ⟨"InvalidPaper", [("at", .int (-1)), ("word", .str "shape")]⟩ hg rfl ?_
    rw [q] at h0
    clear h hg
    unfold fnM mlets_machine
    walk_at "ev"
  | true =>
    obtain ⟨a, b, as, rows, t, ta, hn, tb, hr⟩ := sh_of q
    have hg := not_gear t tb
    obtain ⟨hl, hf⟩ := fit_tup t h
    have ha := hf a (by simp)
    have hb := hf b (by simp)
    obtain ⟨hlb, hfb⟩ := fit_tup tb hb
    have eb : b = .tup rows := tup_of hb tb isRw (fun _ => rfl) hr
    subst eb
    have T := tupF t
    have h1 := is_letters_ok a s ha
    have hd : lenD a = as.length := by simp only [lenD, ta]
    rw [q] at h0
    cases ql : isLet a with
    | false =>
      refine Lets.not ⟨"InvalidPaper", [("at", .int (-1)), ("word", .str "letters")]⟩ (by rw [hg, ql]; rfl) rfl ?_
      rw [ql] at h1
      clear h hf hfb hb ha hg hr hn
      unfold fnM mlets_machine
      walk_at "ev"
    | true =>
      rw [ql] at h1
      cases qr : rows.isEmpty with
      | true =>
        have er : rows = [] := List.isEmpty_iff.mp qr
        subst er
        refine Lets.not ⟨"InvalidPaper", [("at", .int (-1)), ("word", .str "rows")]⟩ (by rw [hg, ql]; rfl) rfl ?_
        clear h hf hfb hb ha hg hr hn tb
        unfold fnM mlets_machine
        walk_at "ev"
      | false =>
        have hpos : (0 : Int) < rows.length := by
          cases rows with
          | nil => cases qr
          | cons x xs => rw [List.length_cons]; omega
        have key := lmLoop_ok d a as rows s ta hlb hfb hr
        rw [ql, qr, hd] at hg
        simp only [Bool.true_and, Bool.not_false] at hg
        cases qa : rows.all (isRow as.length rows.length) with
        | true =>
          obtain ⟨e', k1, y3, y4, y5, y6, y7, k2⟩ := key.1 qa
          rw [qa] at hg
          refine Lets.yes rows.length hg hpos ?_
          have hpos2 : 0 < rows.length := by omega
          subst k2
          unfold lmLoop lmHd lmIn at k1
          clear h hf hfb hb ha hg hr hn tb key
          unfold fnM mlets_machine
          walk_at "ev"
        | false =>
          obtain ⟨x, e', k1, k2⟩ := key.2 qa
          rw [qa] at hg
          refine Lets.not x hg k2 ?_
          have hpos2 : 0 < rows.length := by omega
          unfold lmLoop lmHd lmIn at k1
          clear h hf hfb hb ha hg hr hn tb key
          unfold fnM mlets_machine
          walk_at "ev"
theorem is_machine_ok (d : D) (s : S) (h : fit d = true) : fnM 1 1 mis_machine [d] s = .ok (.dat (.bl (isGear d))) [] s := by
  have h1 := lets_machine_ok d s h
  unfold Lets at h1
  cases q : isGear d with
  | true =>
    rw [if_pos q] at h1
    obtain ⟨n, hn, h2⟩ := h1
    clear h
    unfold fnM mis_machine
    walk_at "ev"
  | false =>
    rw [q, if_neg (by decide)] at h1
    obtain ⟨x, hx, h2⟩ := h1
    clear h
    unfold fnM mis_machine
    walk_at "ev"
end Lw

set_option Elab.async false
set_option linter.all false
set_option autoImplicit false
set_option maxRecDepth 100000
set_option maxHeartbeats 4000000
/-! K78, the plain law: the law's own checks, events, logs. -/
namespace Lw
open PySem L2 Mi
local macro_rules | `(tactic| walk_at "ev") => `(tactic| simp [v_ret, v_bnd, v_some, v_none, v_asB, v_tNo, v_tAn, v_tOrr, v_ofB, v_mAn, v_mOrr, v_mNo, v_mIf, v_c3, v_aNil, v_aCons, v_mTup, v_mLst, v_mNtup, v_mLstF, v_m2, v_m1, v_c2, v_mC, v_pNone, v_pSome, v_mSl, v_mCall, v_tIsi, v_frzM, v_datM, v_sNx, v_sSeq, v_sDrop, v_sRet, v_sSet, v_sIf, v_mCF, v_noXF, v_noX, v_iSeq, v_iZip, v_iRng, v_iEnu, v_sUnp, v_tgN, v_tgsNil, v_tgsCons, v_sRaise2, v_sRetV, v_sTry, v_mIxF, v_tNiF, v_sPar, v_bNil, v_bCons, v_fAdd, v_mDix, v_sDst, v_mDcp, v_mSrtSet, v_mTix, v_mRev, v_mVar, v_sApp, w_add, w_sub, w_ixT, w_ixN, w_ixL, w_addT, w_addNT, w_lenT, w_lenN, w_lenL, w_lenS, w_ltI, w_leI, w_gtI, w_geI, w_leI0, w_ltI0, w_eqI, w_neI, w_eqS, w_neS, w_isI, w_isS, w_isT, w_isN, w_isL, w_isB, w_isO, B.frz, List.replicate, w_slT, w_slL, w_topT, w_topN, w_topL, w_zipT, w_gItT, w_gItN, w_gItL, w_tgT, cut1, w_at0, w_at1, w_at2, w_lim, w_ite, putAll, w_at3, w_at4, w_at5, w_tupL, w_tupT, w_tupN, w_lstL, w_lstT, w_intI, w_intB, w_topI, w_topS, w_addII, w_addTT, str_inj, str_beq, v_tNiT, v_sTst, v_mSrtT, v_mCV, w_addLL, w_revT, *])
theorem pr_len {m : Nat} {d : D} {xs : List D} (t : tupL d = some xs) (c : xs.length ≠ 2) : isPr m d = false := by
  unfold isPr
  rw [t]
  match xs, c with
  | [], _ => rfl
  | [_], _ => simp
  | [_, _], c => exact absurd rfl c
  | _ :: _ :: _ :: _, _ => simp
theorem law_is_pair_ok (d : D) (m : Nat) (s : S) (h : fit d = true) : fnM 2 2 m_law_is_pair [d, .int m] s = .ok (.dat (.bl (isPr m d))) [] s := by
  cases t : tupL d with
  | none =>
    have nt := not_tup h t
    have e : isPr m d = false := by simp only [isPr, t]
    clear h
    unfold fnM m_law_is_pair
    walk_at "ev"
  | some xs =>
    obtain ⟨hl, hf⟩ := fit_tup t h
    have T := tupF t
    by_cases c : xs.length = 2
    · obtain ⟨a, w, rfl⟩ := len2 c
      have ha := hf a (by simp)
      have hw := hf w (by simp)
      have h1 := law_is_number_ok a s ha
      have h2 := law_is_name_ok w s hw
      clear h hf c
      cases a with
      | int i =>
        have e : isPr m d = (decide (0 ≤ i) && (decide (i < m) && isWd w)) := by simp only [isPr, t]
        change fnM 1 1 m_law_is_number [.int i] s = .ok (.dat (.bl (decide (0 ≤ i)))) [] s at h1
        by_cases c1 : 0 ≤ i
        · by_cases c2 : i < m
          · cases w with
            | str x =>
              cases hn : nameS x with
              | true =>
                have e2 : isWd (.str x) = true := by simp [isWd, hn]
                change fnM 1 2 m_law_is_name [.str x] s = .ok (.dat (.bl (nameS x))) [] s at h2
                have c3 : ¬ (m : Int) ≤ i := by omega
                unfold fnM m_law_is_pair
                walk_at "ev"
              | false =>
                have e2 : isWd (.str x) = (x == "") := by simp [isWd, hn]
                change fnM 1 2 m_law_is_name [.str x] s = .ok (.dat (.bl (nameS x))) [] s at h2
                have c3 : ¬ (m : Int) ≤ i := by omega
                unfold fnM m_law_is_pair
                by_cases hx : x = ""
                · subst hx
                  have e3 : isWd (.str "") = true := by decide
                  clear e2
                  walk_at "ev"
                · walk_at "ev"
            | _ =>
              first
              | (cases hw; done)
              | (simp only [isWd] at e
                 have c3 : ¬ (m : Int) ≤ i := by omega
                 clear h2
                 unfold fnM m_law_is_pair
                 walk_at "ev"
                 done)
          · have c3 : (m : Int) ≤ i := by omega
            unfold fnM m_law_is_pair
            walk_at "ev"
        · have c1' : decide (0 ≤ i) = false := by simp [c1]
          rw [c1'] at h1
          unfold fnM m_law_is_pair
          walk_at "ev"
      | _ =>
        first
        | (cases ha; done)
        | (have e : isPr m d = false := by simp only [isPr, t]
           change fnM 1 1 m_law_is_number [_] s = .ok (.dat (.bl false)) [] s at h1
           unfold fnM m_law_is_pair
           walk_at "ev"
           done)
    · have c2 : ¬ ((xs.length : Int) = 2) := by omega
      have e := pr_len (m := m) t c
      clear h hf
      unfold fnM m_law_is_pair
      walk_at "ev"
theorem sFor_is {it : M (List D)} {g : Tg} {m : M Fl} {e e1 : Mi.Env} {s s1 : S} {ds : List D} {r : R Fl} (hi : it e s = .ok ds e1 s1) (k : forL g m ds e1 s1 = r) : sFor it g m e s = r := by
  rw [v_sFor, bnd_ok hi]
  exact k
theorem law_is_gear_ok (d : D) (s : S) (h : fit d = true) : fnM 1 3 m_law_is_gear [d] s = .ok (.dat (.bl (isGear d))) [] s := by
  cases t : tupL d with
  | none =>
    have nt := not_tup h t
    have e : isGear d = false := by simp only [isGear, t]
    clear h
    unfold fnM m_law_is_gear
    walk_at "ev"
  | some xs =>
    obtain ⟨hl, hf⟩ := fit_tup t h
    have T := tupF t
    by_cases c : xs.length = 2
    · obtain ⟨a, b, rfl⟩ := len2 c
      have ha := hf a (by simp)
      have hb := hf b (by simp)
      have h1 := law_is_set_ok a s ha
      cases qs : isSet a with
      | false =>
        have e : isGear d = false := by simp only [isGear, t, isLet, qs, Bool.false_and]
        rw [qs] at h1
        clear h hf
        unfold fnM m_law_is_gear
        walk_at "ev"
      | true =>
        rw [qs] at h1
        obtain ⟨as, ta, hn, _⟩ := set_tup qs
        have Ta := tupF ta
        have el : isLet a = !as.isEmpty := by simp only [isLet, qs, ta, Bool.true_and]
        have hd : lenD a = as.length := by simp only [lenD, ta]
        have na := (ev_eq_tnil (fit_plain ha) ta)
        cases qa : as.isEmpty with
        | true =>
          have e : isGear d = false := by simp only [isGear, t, el, qa, Bool.not_true, Bool.false_and]
          rw [qa] at na
          clear h hf hn
          unfold fnM m_law_is_gear
          walk_at "ev"
        | false =>
          rw [qa] at na
          cases tb : tupL b with
          | none =>
            have nb := not_tup hb tb
            have e : isGear d = false := by simp only [isGear, t, tb, Bool.and_false]
            clear h hf hn
            unfold fnM m_law_is_gear
            walk_at "ev"
          | some rows =>
            have Tb := tupF tb
            obtain ⟨hlb, hfb⟩ := fit_tup tb hb
            have nb := ev_eq_tnil (fit_plain hb) tb
            have e : isGear d = (!rows.isEmpty && rows.all (isRow as.length rows.length)) := by simp only [isGear, t, tb, el, qa, hd, Bool.not_false, Bool.true_and]
            cases qr : rows.isEmpty with
            | true =>
              rw [qr] at e nb
              clear h hf hn hfb
              unfold fnM m_law_is_gear
              walk_at "ev"
            | false =>
              rw [qr] at e nb
              have key := forL_run (g := tgN 1) (m := sSeq (sIf (tOrr (tNo (asB (tIsi (mVar 1) "tuple"))) (c2 (mCall (aCons (mVar 1) aNil) (tpN gLen)) (mCall (aCons (m2 (mVar 0) (Mi.ret (.int 0)) (tp2 gIx)) aNil) (tpN gLen)) (tp2 cNe))) (sRet (datM (Mi.ret (.bl false)))) sNx) (sIf (c2 (frzM (mLc (iSeq (mVar 1)) [2] (tgN 2) (tNo (asB (frzM (mCF (noXF (fnM 2 2 m_law_is_pair)) (aCons (mVar 2) (aCons (mCall (aCons (m2 (mVar 0) (Mi.ret (.int 1)) (tp2 gIx)) aNil) (tpN gLen)) aNil)))))) (mVar 2))) (mLst aNil) (tp2 cNe)) (sRet (datM (Mi.ret (.bl false)))) sNx))
                (s := s) (Inv := fun e => ∃ x1, e = [.dat d, x1, .unb]) (ok := isRow as.length rows.length) (C := fun _ => False) (C' := fun v => v = .dat (.bl false)) (ds := rows) (e := [.dat d, .unb, .unb]) ⟨_, rfl⟩ ?_
              · have hit : iSeq (m2 (mVar 0) (Mi.ret (.int 1)) (tp2 gIx)) [.dat d, .unb, .unb] s = .ok rows [.dat d, .unb, .unb] s := by
                  clear key h hf hn hfb
                  walk_at "ev"
                cases qo : rows.all (isRow as.length rows.length) with
                | true =>
                  obtain ⟨e', k1, x1, rfl⟩ := key.1 qo
                  rw [qo] at e
                  have k2 := sFor_is hit k1
                  clear key h hf hn hfb k1 hit
                  unfold fnM m_law_is_gear
                  walk_at "ev"
                | false =>
                  rcases key.2 qo with ⟨_, _, _, z⟩ | ⟨v, e', k1, rfl⟩
                  · exact z.elim
                  rw [qo] at e
                  have k2 := sFor_is hit k1
                  clear key h hf hn hfb k1 hit
                  unfold fnM m_law_is_gear
                  walk_at "ev"
              · intro r hr env ⟨x1, he⟩
                subst he
                have hfr := hfb r hr
                refine ⟨[.dat d, .dat r, .unb], rfl, ?_⟩
                cases tr : tupL r with
                | none =>
                  have nr := not_tup hfr tr
                  have e2 : isRow as.length rows.length r = false := by simp only [isRow, tr]
                  rw [e2]
                  refine ⟨fun z => by (cases z), fun _ => .inr ⟨.dat (.bl false), [.dat d, .dat r, .unb], ?_, rfl⟩⟩
                  clear h hf hn hfb hfr
                  walk_at "ev"
                | some ps =>
                  obtain ⟨hlp, hfp⟩ := fit_tup tr hfr
                  have Tr := tupF tr
                  have e2 : isRow as.length rows.length r = (decide (ps.length = as.length) && ps.all (isPr rows.length)) := by simp only [isRow, tr]
                  rw [e2]
                  have hp : plains ps = true := by rw [← ev_plain tr]; exact fit_plain hfr
                  have e3 : mLc (iSeq (mVar 1)) [2] (tgN 2) (tNo (asB (frzM (mCF (noXF (fnM 2 2 m_law_is_pair)) (aCons (mVar 2) (aCons (mCall (aCons (m2 (mVar 0) (Mi.ret (.int 1)) (tp2 gIx)) aNil) (tpN gLen)) aNil)))))) (mVar 2) [.dat d, .dat r, .unb] s = .ok (.own (ps.filter fun p => !isPr rows.length p)) [.dat d, .dat r, .unb] s := by
                    refine lc_flt _ ?_ (Nat.le_trans hlp (by decide)) rfl fun p hp => ?_
                    · clear h hf hn hfb hfr hfp
                      walk_at "ev"
                    · have := law_is_pair_ok p rows.length s (hfp p hp)
                      clear h hf hn hfb hfr hfp
                      walk_at "ev"
                  have e4 := ev_ne_nil (plains_filter (fun p => !isPr rows.length p) hp)
                  rw [isEmpty_filter] at e4
                  by_cases cl : ps.length = as.length
                  · have ci : ((ps.length : Int) == (as.length : Int)) = true := by simp; omega
                    cases qp : ps.all (isPr rows.length) with
                    | true =>
                      rw [qp] at e4
                      refine ⟨fun _ => ⟨[.dat d, .dat r, .unb], ?_, _, rfl⟩, fun z => by simp [cl] at z⟩
                      clear h hf hn hfb hfr hfp
                      walk_at "ev"
                    | false =>
                      rw [qp] at e4
                      refine ⟨fun z => by simp at z, fun _ => .inr ⟨.dat (.bl false), [.dat d, .dat r, .unb], ?_, rfl⟩⟩
                      clear h hf hn hfb hfr hfp
                      walk_at "ev"
                  · have ci : ((ps.length : Int) == (as.length : Int)) = false := by simp; omega
                    refine ⟨fun z => by simp [cl] at z, fun _ => .inr ⟨.dat (.bl false), [.dat d, .dat r, .unb], ?_, rfl⟩⟩
                    clear h hf hn hfb hfr hfp
                    walk_at "ev"
    · have c2 : ¬ ((xs.length : Int) = 2) := by omega
      have e := isGear_len t c
      clear h hf
      unfold fnM m_law_is_gear
      walk_at "ev"
end Lw

set_option Elab.async false
set_option linter.all false
set_option autoImplicit false
set_option maxRecDepth 100000
set_option maxHeartbeats 4000000
/-! K78, the plain law: events and logs. -/
namespace Lw
open PySem L2 Mi
local macro_rules | `(tactic| walk_at "ev") => `(tactic| simp [v_ret, v_bnd, v_some, v_none, v_asB, v_tNo, v_tAn, v_tOrr, v_ofB, v_mAn, v_mOrr, v_mNo, v_mIf, v_c3, v_aNil, v_aCons, v_mTup, v_mLst, v_mNtup, v_mLstF, v_m2, v_m1, v_c2, v_mC, v_pNone, v_pSome, v_mSl, v_mCall, v_tIsi, v_frzM, v_datM, v_sNx, v_sSeq, v_sDrop, v_sRet, v_sSet, v_sIf, v_mCF, v_noXF, v_noX, v_iSeq, v_iZip, v_iRng, v_iEnu, v_sUnp, v_tgN, v_tgsNil, v_tgsCons, v_sRaise2, v_sRetV, v_sTry, v_mIxF, v_tNiF, v_sPar, v_bNil, v_bCons, v_fAdd, v_mDix, v_sDst, v_mDcp, v_mSrtSet, v_mTix, v_mRev, v_mVar, v_sApp, w_add, w_sub, w_ixT, w_ixN, w_ixL, w_addT, w_addNT, w_lenT, w_lenN, w_lenL, w_lenS, w_ltI, w_leI, w_gtI, w_geI, w_leI0, w_ltI0, w_eqI, w_neI, w_eqS, w_neS, w_isI, w_isS, w_isT, w_isN, w_isL, w_isB, w_isO, B.frz, List.replicate, w_slT, w_slL, w_topT, w_topN, w_topL, w_zipT, w_gItT, w_gItN, w_gItL, w_tgT, cut1, w_at0, w_at1, w_at2, w_lim, w_ite, putAll, w_at3, w_at4, w_at5, w_tupL, w_tupT, w_tupN, w_lstL, w_lstT, w_intI, w_intB, w_topI, w_topS, w_addII, w_addTT, str_inj, str_beq, v_tNiT, v_sTst, v_mSrtT, v_mCV, w_addLL, w_revT, *])
def actS (x : Str) (r : List D) : Bool :=
  if x = "force" then (match r with
    | [a, b] => isNum a && isNum b
    | _ => false)
  else (match r with
    | [a] => if x = "replace" then isNum a else if x = "forget" then isNum a else if x = "read" then isNm a else if x = "plan" then isGear a else if x = "quiet" then isSet a else false
    | _ => false)
def isAct (d : D) : Bool := match tupL d with
  | some (.str x :: r) => actS x r
  | _ => false
theorem in_two (x : Str) : tp2 cIn (.str x) (.tup [.str "replace", .str "forget"]) = some (decide (x = "replace") || decide (x = "forget")) := by
  show some (("replace" == x : Bool) || (("forget" == x : Bool) || false)) = _
  by_cases h1 : x = "replace"
  · subst h1
    rfl
  by_cases h2 : x = "forget"
  · subst h2
    rfl
  have e1 : (("replace" : Str) == x) = false := beq_eq_false_iff_ne.mpr fun z => h1 z.symm
  have e2 : (("forget" : Str) == x) = false := beq_eq_false_iff_ne.mpr fun z => h2 z.symm
  rw [e1, e2, decide_eq_false h1, decide_eq_false h2]
  rfl
theorem act_f (r : List D) : actS "force" r = (match r with
    | [a, b] => isNum a && isNum b
    | _ => false) := by
  unfold actS
  rw [if_pos rfl]
theorem act_1 {x : Str} (c : ¬ x = "force") (a : D) : actS x [a] = if x = "replace" then isNum a else if x = "forget" then isNum a else if x = "read" then isNm a else if x = "plan" then isGear a else if x = "quiet" then isSet a else false := by
  unfold actS
  rw [if_neg c]
theorem act_n {x : Str} (c : ¬ x = "force") {r : List D} (n : r.length ≠ 1) : actS x r = false := by
  unfold actS
  rw [if_neg c]
  match r, n with
  | [], _ => rfl
  | [_], c => exact absurd rfl c
  | _ :: _ :: _, _ => rfl
theorem act_fn {r : List D} (n : r.length ≠ 2) : actS "force" r = false := by
  rw [act_f]
  match r, n with
  | [], _ => rfl
  | [_], _ => rfl
  | [_, _], c => exact absurd rfl c
  | _ :: _ :: _ :: _, _ => rfl
theorem isAct_hd {d a : D} {r : List D} (t : tupL d = some (a :: r)) (n : ∀ x, a ≠ .str x) : isAct d = false := by
  unfold isAct
  rw [t]
  cases a <;> first | rfl | exact absurd rfl (n _)
theorem law_is_act_ok (d : D) (s : S) (h : fit d = true) : fnM 1 1 m_law_is_act [d] s = .ok (.dat (.bl (isAct d))) [] s := by
  cases t : tupL d with
  | none =>
    have nt := not_tup h t
    have e : isAct d = false := by simp only [isAct, t]
    clear h
    unfold fnM m_law_is_act
    walk_at "ev"
  | some xs =>
    obtain ⟨hl, hf⟩ := fit_tup t h
    have T := tupF t
    have nn := ev_eq_tnil (fit_plain h) t
    cases xs with
    | nil =>
      have e : isAct d = false := by simp only [isAct, t]
      clear h hf
      unfold fnM m_law_is_act
      walk_at "ev"
    | cons a r =>
      have ha := hf a (by simp)
      cases a with
      | str x =>
        have e : isAct d = actS x r := by simp only [isAct, t]
        rw [e]
        have i2 := in_two x
        by_cases c0 : x = "force"
        · subst c0
          by_cases c : r.length = 2
          · obtain ⟨a, b, rfl⟩ := len2 c
            have h1 := law_is_number_ok a s (hf a (by simp))
            have h2 := law_is_number_ok b s (hf b (by simp))
            have e2 : actS "force" [a, b] = (isNum a && isNum b) := act_f _
            clear h hf i2 ha e
            unfold fnM m_law_is_act
            cases q : isNum a <;> rw [q] at h1 <;> walk_at "ev"
          · have c2 : ¬ ((r.length : Int) + 1 = 3) := by omega
            have e2 := act_fn c
            clear h hf i2 ha e
            unfold fnM m_law_is_act
            walk_at "ev"
        · by_cases c : r.length = 1
          · obtain ⟨a, rfl⟩ : ∃ a, r = [a] := by
              match r, c with
              | [a], _ => exact ⟨a, rfl⟩
            have hfa := hf a (by simp)
            have h1 := law_is_number_ok a s hfa
            have h2 := law_is_name_ok a s hfa
            have h3 := law_is_gear_ok a s hfa
            have h4 := law_is_set_ok a s hfa
            clear h hf ha e
            by_cases c1 : x = "replace"
            · subst c1
              have e2 : actS "replace" [a] = isNum a := by rw [act_1 c0, if_pos rfl]
              clear h2 h3 h4
              unfold fnM m_law_is_act
              walk_at "ev"
            by_cases c2 : x = "forget"
            · subst c2
              have e2 : actS "forget" [a] = isNum a := by rw [act_1 c0, if_neg c1, if_pos rfl]
              clear h2 h3 h4
              unfold fnM m_law_is_act
              walk_at "ev"
            by_cases c3 : x = "read"
            · subst c3
              have e2 : actS "read" [a] = isNm a := by rw [act_1 c0, if_neg c1, if_neg c2, if_pos rfl]
              clear h1 h3 h4
              unfold fnM m_law_is_act
              walk_at "ev"
            by_cases c4 : x = "plan"
            · subst c4
              have c5 : ¬ ("plan" : Str) = "quiet" := by decide
              have e2 : actS "plan" [a] = isGear a := by rw [act_1 c0, if_neg c1, if_neg c2, if_neg c3, if_pos rfl]
              clear h1 h2 h4
              unfold fnM m_law_is_act
              cases q : isGear a <;> rw [q] at h3 <;> walk_at "ev"
            by_cases c5 : x = "quiet"
            · subst c5
              have e2 : actS "quiet" [a] = isSet a := by rw [act_1 c0, if_neg c1, if_neg c2, if_neg c3, if_neg c4, if_pos rfl]
              clear h1 h2 h3
              unfold fnM m_law_is_act
              walk_at "ev"
            have e2 : actS x [a] = false := by rw [act_1 c0, if_neg c1, if_neg c2, if_neg c3, if_neg c4, if_neg c5]
            clear h1 h2 h3 h4
            unfold fnM m_law_is_act
            walk_at "ev"
          · have c2 : ¬ ((r.length : Int) + 1 = 2) := by omega
            have e2 := act_n c0 c
            clear h hf i2 ha e
            unfold fnM m_law_is_act
            walk_at "ev"
      | _ =>
        first
        | (cases ha; done)
        | (have e := isAct_hd t (by intro x z; cases z)
           clear h hf ha
           unfold fnM m_law_is_act
           walk_at "ev"
           done)
        | (have e := isAct_hd t (by intro x z; cases z)
           have hi := not_tup ha rfl
           clear h hf ha
           unfold fnM m_law_is_act
           walk_at "ev"
           done)
/-! ### the program's events -/
def formR (x : Str) (d : D) : Bool := if x = "is_name" then isNm d else if x = "is_machine" then isGear d else if x = "is_number" then isNum d else if x = "is_quiet" then isSet d else false
def formD (f d : D) : Bool := match f with
  | .fn x => formR x d
  | _ => false
def formN (x : Str) : Prop := x = "is_name" ∨ x = "is_machine" ∨ x = "is_number" ∨ x = "is_quiet"
theorem form_ok {x : Str} {d : D} {s : S} (hx : formN x) (h : fit d = true) : ∃ f, tbl78 x = some f ∧ f [d] s = .ok (.dat (.bl (formR x d))) [] s := by
  rcases hx with rfl | rfl | rfl | rfl
  · exact ⟨_, rfl, is_name_ok d s h⟩
  · exact ⟨_, rfl, is_machine_ok d s h⟩
  · exact ⟨_, rfl, is_number_ok d s h⟩
  · exact ⟨_, rfl, is_quiet_ok d s h⟩
theorem forms_lc (d : D) (fs : List D) (xs : List D) (s : S) (t : tupL d = some xs) (hf : ∀ x ∈ xs, fit x = true) (hl : fs.length ≤ 100) (hfs : ∀ f ∈ fs, ∃ x, f = .fn x ∧ formN x) :
    mLc (Mi.iZip (aCons (mVar 1) (aCons (mSl (mVar 0) (pSome (Mi.ret (.int 1))) pNone) aNil))) [2, 3] (tgT 2 (tgsCons (tgN 2) (tgsCons (tgN 3) tgsNil))) (Mi.ret true) (frzM (mCV tbl78 2 (aCons (mVar 3) aNil))) [.dat d, .dat (.tup fs), .unb, .unb] s =
      .ok (.own ((fs.zip xs.tail).map fun p => .bl (formD p.1 p.2))) [.dat d, .dat (.tup fs), .unb, .unb] s := by
  have tt := top_tup t
  have e1 : Mi.iZip (aCons (mVar 1) (aCons (mSl (mVar 0) (pSome (Mi.ret (.int 1))) pNone) aNil)) [.dat d, .dat (.tup fs), .unb, .unb] s = .ok (zipD fs xs.tail) [.dat d, .dat (.tup fs), .unb, .unb] s := by
    clear hf hfs
    walk_at "ev"
  refine lc_zip (f := fun f x => D.bl (formD f x)) e1 (Nat.le_trans hl (by decide)) (by decide) rfl rfl fun a b hab => ?_
  obtain ⟨x, rfl, hx⟩ := hfs a (List.of_mem_zip hab).1
  obtain ⟨f, h1, h2⟩ := form_ok (s := s) hx (hf b (List.mem_of_mem_tail (List.of_mem_zip hab).2))
  have h3 : formD (.fn x) b = formR x b := rfl
  clear hf hfs e1
  walk_at "ev"
/-- what a table's row asks -/
def evR (fs : List D) (xs : List D) : Bool := decide (xs.length = fs.length + 1) && (fs.zip xs.tail).all fun p => formD p.1 p.2
theorem is_event_row (d : D) (x : Str) (r fs : List D) (s : S) (t : tupL d = some (.str x :: r)) (h : fit d = true) (g : fmGet tFORMS x = some (.tup fs)) (hl : fs.length ≤ 100) (hfs : ∀ f ∈ fs, ∃ x, f = .fn x ∧ formN x) :
    fnM 1 4 mis_event [d] s = .ok (.dat (.bl (evR fs (.str x :: r)))) [] s := by
  obtain ⟨_, hf⟩ := fit_tup t h
  have T := tupF t
  have k := forms_lc d fs (.str x :: r) s t hf hl hfs
  have e3 : tpN gAll [D.lst ((fs.zip r).map fun p => D.bl (formD p.1 p.2))] = some (.bl ((fs.zip r).all fun p => formD p.1 p.2)) := by
    simp [tpN, D.top, gAll, bools_zip, List.all_map]
  rw [List.tail_cons] at k
  unfold evR
  rw [List.tail_cons]
  have z1 : ¬ ((fs.length : Int) + 1 = 0) := by omega
  have z2 : ¬ ((r.length : Int) + 1 = 0) := by omega
  by_cases c : r.length = fs.length
  · have c1 : ((r.length : Int) + 1 == (fs.length : Int) + 1) = true := by simp; omega
    clear h hf hfs
    unfold fnM mis_event
    walk_at "ev"
  · have c1 : ((r.length : Int) + 1 == (fs.length : Int) + 1) = false := by simp; omega
    clear h hf hfs
    unfold fnM mis_event
    walk_at "ev"
theorem evR_one {g : D → Bool} {f : D} (hf : ∀ a, formD f a = g a) {y : D} (r : List D) : evR [f] (y :: r) = (match r with
    | [a] => g a
    | _ => false) := by
  unfold evR
  match r with
  | [] => rfl
  | [a] => simp [hf]
  | _ :: _ :: _ => simp
theorem act_r {x : Str} (c : ¬ x = "force") (r : List D) : actS x r = (match r with
    | [a] => if x = "replace" then isNum a else if x = "forget" then isNum a else if x = "read" then isNm a else if x = "plan" then isGear a else if x = "quiet" then isSet a else false
    | _ => false) := by
  unfold actS
  rw [if_neg c]
theorem is_event_ok (d : D) (s : S) (h : fit d = true) : fnM 1 4 mis_event [d] s = .ok (.dat (.bl (isAct d))) [] s := by
  cases t : tupL d with
  | none =>
    have nt := not_tup h t
    have e : isAct d = false := by simp only [isAct, t]
    clear h
    unfold fnM mis_event
    walk_at "ev"
  | some xs =>
    obtain ⟨hl, hf⟩ := fit_tup t h
    have T := tupF t
    cases xs with
    | nil =>
      have e : isAct d = false := by simp only [isAct, t]
      clear h hf
      unfold fnM mis_event
      walk_at "ev"
    | cons a r =>
      have ha := hf a (by simp)
      have z2 : ¬ ((r.length : Int) + 1 = 0) := by omega
      cases a with
      | str x =>
        have e : isAct d = actS x r := by simp only [isAct, t]
        rw [e]
        by_cases c0 : x = "force"
        · subst c0
          rw [is_event_row d "force" r [.fn "is_number", .fn "is_number"] s t h rfl (by decide) (by
            intro f hf
            simp at hf
            exact ⟨_, hf, .inr (.inr (.inl rfl))⟩), act_f]
          match r with
          | [] => rfl
          | [_] => rfl
          | [a, b] =>
            have q : ∀ a, formD (.fn "is_number") a = isNum a := fun _ => rfl
            simp [evR, q]
          | _ :: _ :: _ :: _ => simp [evR]
        by_cases c1 : x = "replace"
        · subst c1
          rw [is_event_row d "replace" r [.fn "is_number"] s t h rfl (by decide) (by
            intro f hf
            simp at hf
            exact ⟨_, hf, .inr (.inr (.inl rfl))⟩), evR_one (g := isNum) (fun _ => rfl), act_r c0]
          match r with
          | [] => rfl
          | [a] => rfl
          | _ :: _ :: _ => rfl
        by_cases c2 : x = "forget"
        · subst c2
          rw [is_event_row d "forget" r [.fn "is_number"] s t h rfl (by decide) (by
            intro f hf
            simp at hf
            exact ⟨_, hf, .inr (.inr (.inl rfl))⟩), evR_one (g := isNum) (fun _ => rfl), act_r c0]
          match r with
          | [] => rfl
          | [a] => rfl
          | _ :: _ :: _ => rfl
        by_cases c3 : x = "read"
        · subst c3
          rw [is_event_row d "read" r [.fn "is_name"] s t h rfl (by decide) (by
            intro f hf
            simp at hf
            exact ⟨_, hf, .inl rfl⟩), evR_one (g := isNm) (fun _ => rfl), act_r c0]
          match r with
          | [] => rfl
          | [a] => rfl
          | _ :: _ :: _ => rfl
        by_cases c4 : x = "plan"
        · subst c4
          rw [is_event_row d "plan" r [.fn "is_machine"] s t h rfl (by decide) (by
            intro f hf
            simp at hf
            exact ⟨_, hf, .inr (.inl rfl)⟩), evR_one (g := isGear) (fun _ => rfl), act_r c0]
          match r with
          | [] => rfl
          | [a] => rfl
          | _ :: _ :: _ => rfl
        by_cases c5 : x = "quiet"
        · subst c5
          rw [is_event_row d "quiet" r [.fn "is_quiet"] s t h rfl (by decide) (by
            intro f hf
            simp at hf
            exact ⟨_, hf, .inr (.inr (.inr rfl))⟩), evR_one (g := isSet) (fun _ => rfl), act_r c0]
          match r with
          | [] => rfl
          | [a] => rfl
          | _ :: _ :: _ => rfl
        have g : fmGet tFORMS x = none := by
          have ne : ∀ y : Str, ¬ x = y → (y == x) = false := fun y hy => beq_eq_false_iff_ne.mpr fun z => hy z.symm
          unfold fmGet tFORMS
          simp only [List.find?_cons, ne _ c0, ne _ c1, ne _ c2, ne _ c3, ne _ c4, ne _ c5, List.find?_nil]
          rfl
        have e2 : actS x r = false := by
          rw [act_r c0]
          match r with
          | [] => rfl
          | [a] => simp only [c1, c2, c3, c4, c5, if_false]
          | _ :: _ :: _ => rfl
        clear h hf
        unfold fnM mis_event
        walk_at "ev"
      | _ =>
        first
        | (cases ha; done)
        | (have e := isAct_hd t (by intro x z; cases z)
           clear h hf ha
           unfold fnM mis_event
           walk_at "ev"
           done)
        | (have e := isAct_hd t (by intro x z; cases z)
           have hi := not_tup ha rfl
           clear h hf ha
           unfold fnM mis_event
           walk_at "ev"
           done)
end Lw

set_option Elab.async false
set_option linter.all false
set_option autoImplicit false
set_option maxRecDepth 100000
set_option maxHeartbeats 4000000
/-! K78, the plain law: logs; the law's check of one value. -/
namespace Lw
open PySem L2 Mi
local macro_rules | `(tactic| walk_at "ev") => `(tactic| simp [v_ret, v_bnd, v_some, v_none, v_asB, v_tNo, v_tAn, v_tOrr, v_ofB, v_mAn, v_mOrr, v_mNo, v_mIf, v_c3, v_aNil, v_aCons, v_mTup, v_mLst, v_mNtup, v_mLstF, v_m2, v_m1, v_c2, v_mC, v_pNone, v_pSome, v_mSl, v_mCall, v_tIsi, v_frzM, v_datM, v_sNx, v_sSeq, v_sDrop, v_sRet, v_sSet, v_sIf, v_mCF, v_noXF, v_noX, v_iSeq, v_iZip, v_iRng, v_iEnu, v_sUnp, v_tgN, v_tgsNil, v_tgsCons, v_sRaise2, v_sRetV, v_sTry, v_mIxF, v_tNiF, v_sPar, v_bNil, v_bCons, v_fAdd, v_mDix, v_sDst, v_mDcp, v_mSrtSet, v_mTix, v_mRev, v_mVar, v_sApp, w_add, w_sub, w_ixT, w_ixN, w_ixL, w_addT, w_addNT, w_lenT, w_lenN, w_lenL, w_lenS, w_ltI, w_leI, w_gtI, w_geI, w_leI0, w_ltI0, w_eqI, w_neI, w_eqS, w_neS, w_isI, w_isS, w_isT, w_isN, w_isL, w_isB, w_isO, B.frz, List.replicate, w_slT, w_slL, w_topT, w_topN, w_topL, w_zipT, w_gItT, w_gItN, w_gItL, w_tgT, cut1, w_at0, w_at1, w_at2, w_lim, w_ite, putAll, w_at3, w_at4, w_at5, w_tupL, w_tupT, w_tupN, w_lstL, w_lstT, w_intI, w_intB, w_topI, w_topS, w_addII, w_addTT, str_inj, str_beq, v_tNiT, v_sTst, v_mSrtT, v_mCV, w_addLL, w_revT, *])
def isBeg (d : D) : Bool := match tupL d with
  | some [w, g, q] => (match w with
    | .str x => x == "service"
    | _ => false) && (isGear g && isSet q)
  | _ => false
def isLog (d : D) : Bool := match tupL d with
  | some (h :: r) => isBeg h && r.all isAct
  | _ => false
theorem beg_len {d : D} {xs : List D} (t : tupL d = some xs) (c : xs.length ≠ 3) : isBeg d = false := by
  unfold isBeg
  rw [t]
  match xs, c with
  | [], _ => rfl
  | [_], _ => rfl
  | [_, _], _ => rfl
  | [_, _, _], c => exact absurd rfl c
  | _ :: _ :: _ :: _ :: _, _ => rfl
theorem is_beginning_ok (d : D) (s : S) (h : fit d = true) : fnM 1 4 mis_beginning [d] s = .ok (.dat (.bl (isBeg d))) [] s := by
  cases t : tupL d with
  | none =>
    have nt := not_tup h t
    have e : isBeg d = false := by simp only [isBeg, t]
    clear h
    unfold fnM mis_beginning
    walk_at "ev"
  | some xs =>
    obtain ⟨hl, hf⟩ := fit_tup t h
    have T := tupF t
    by_cases c : xs.length = 3
    · obtain ⟨w, g, q, rfl⟩ := len3 c
      have hw := hf w (by simp)
      have h1 := is_machine_ok g s (hf g (by simp))
      have h2 := is_quiet_ok q s (hf q (by simp))
      cases w with
      | str x =>
        have e : isBeg d = (x == "service" && (isGear g && isSet q)) := by simp only [isBeg, t]
        clear h hf
        by_cases cx : x = "service"
        · subst cx
          unfold fnM mis_beginning
          cases qg : isGear g <;> rw [qg] at h1 <;> walk_at "ev"
        · unfold fnM mis_beginning
          walk_at "ev"
      | _ =>
        first
        | (cases hw; done)
        | (have e : isBeg d = false := by simp only [isBeg, t, Bool.false_and]
           clear h hf hw
           unfold fnM mis_beginning
           walk_at "ev"
           done)
        | (have e : isBeg d = false := by simp only [isBeg, t, Bool.false_and]
           have hi := not_tup hw rfl
           clear h hf hw
           unfold fnM mis_beginning
           walk_at "ev"
           done)
    · have c2 : ¬ ((xs.length : Int) = 3) := by omega
      have e := beg_len t c
      clear h hf
      unfold fnM mis_beginning
      walk_at "ev"
theorem is_log_by_kind_ok (d : D) (s : S) (h : fit d = true) : fnM 1 2 mis_log_by_kind [d] s = .ok (.dat (.bl (isLog d))) [] s := by
  cases t : tupL d with
  | none =>
    have nt := not_tup h t
    have e : isLog d = false := by simp only [isLog, t]
    clear h
    unfold fnM mis_log_by_kind
    walk_at "ev"
  | some xs =>
    obtain ⟨hl, hf⟩ := fit_tup t h
    have T := tupF t
    cases xs with
    | nil =>
      have e : isLog d = false := by simp only [isLog, t]
      clear h hf
      unfold fnM mis_log_by_kind
      walk_at "ev"
    | cons a r =>
      have h1 := is_beginning_ok a s (hf a (by simp))
      have z2 : ¬ ((r.length : Int) + 1 = 0) := by omega
      have e : isLog d = (isBeg a && r.all isAct) := by simp only [isLog, t]
      have tt := top_tup t
      have hl2 : r.length ≤ 1000000 := by simp at hl; omega
      have e1 : mLc (iSeq (mSl (mVar 0) (pSome (Mi.ret (.int 1))) pNone)) [1] (tgN 1) (Mi.ret true) (frzM (mCF (noXF (fnM 1 4 mis_event)) (aCons (mVar 1) aNil))) [.dat d, .unb] s = .ok (.own (r.map fun d => .bl (isAct d))) [.dat d, .unb] s := by
        refine lc_map (ds := r) _ ?_ hl2 rfl fun a ha => ?_
        · clear h hf
          walk_at "ev"
        · have := is_event_ok a s (hf a (List.mem_cons_of_mem _ ha))
          clear h hf h1
          walk_at "ev"
      have e2 := ev_all isAct r
      clear h hf
      unfold fnM mis_log_by_kind
      cases q : isBeg a <;> rw [q] at h1 <;> walk_at "ev"
theorem is_log_ok (d : D) (s : S) (h : fit d = true) : fnM 1 1 mis_log [d] s = .ok (.dat (.bl (isLog d))) [] s := by
  have h1 := is_log_by_kind_ok d s h
  clear h
  unfold fnM mis_log
  walk_at "ev"
theorem isBeg_hd {d w g q : D} (t : tupL d = some [w, g, q]) (n : ∀ x, w ≠ .str x) : isBeg d = false := by
  unfold isBeg
  rw [t]
  cases w <;> first | rfl | exact absurd rfl (n _)
theorem law_is_log_ok (d : D) (s : S) (h : fit d = true) : fnM 1 5 m_law_is_log [d] s = .ok (.dat (.bl (isLog d))) [] s := by
  cases t : tupL d with
  | none =>
    have nt := not_tup h t
    have e : isLog d = false := by simp only [isLog, t]
    clear h
    unfold fnM m_law_is_log
    walk_at "ev"
  | some xs =>
    obtain ⟨hl, hf⟩ := fit_tup t h
    have T := tupF t
    have nn := ev_eq_tnil (fit_plain h) t
    cases xs with
    | nil =>
      have e : isLog d = false := by simp only [isLog, t]
      clear h hf
      unfold fnM m_law_is_log
      walk_at "ev"
    | cons a r =>
      have e : isLog d = (isBeg a && r.all isAct) := by simp only [isLog, t]
      have hfa := hf a (by simp)
      rw [e]
      cases ta : tupL a with
      | none =>
        have nt := not_tup hfa ta
        have e : isBeg a = false := by simp only [isBeg, ta]
        clear h hf hfa
        unfold fnM m_law_is_log
        walk_at "ev"
      | some ys =>
        obtain ⟨hly, hfy⟩ := fit_tup ta hfa
        have Ta := tupF ta
        by_cases c : ys.length = 3
        · obtain ⟨w, g, q, rfl⟩ := len3 c
          have hw := hfy w (by simp)
          have h1 := law_is_gear_ok g s (hfy g (by simp))
          have h2 := law_is_set_ok q s (hfy q (by simp))
          cases w with
          | str x =>
            have eb : isBeg a = (x == "service" && (isGear g && isSet q)) := by simp only [isBeg, ta]
            by_cases cx : x = "service"
            · subst cx
              cases qg : isGear g with
              | false =>
                rw [qg] at h1
                clear h hf hfy hfa
                unfold fnM m_law_is_log
                walk_at "ev"
              | true =>
                rw [qg] at h1
                cases qq : isSet q with
                | false =>
                  rw [qq] at h2
                  clear h hf hfy hfa
                  unfold fnM m_law_is_log
                  walk_at "ev"
                | true =>
                  rw [qq] at h2
                  have tt := top_tup t
                  have hl2 : r.length ≤ 1000000 := by simp at hl; omega
                  have hp : plains r = true := plains_mem.mpr fun x hx => fit_plain (hf x (List.mem_cons_of_mem _ hx))
                  have e1 : mLc (iSeq (mSl (mVar 0) (pSome (Mi.ret (.int 1))) pNone)) [4] (tgN 4) (tNo (asB (frzM (mCF (noXF (fnM 1 1 m_law_is_act)) (aCons (mVar 4) aNil))))) (mVar 4) [.dat d, .dat (.str "service"), .dat g, .dat q, .unb] s = .ok (.own (r.filter fun d => !isAct d)) [.dat d, .dat (.str "service"), .dat g, .dat q, .unb] s := by
                    refine lc_flt (ds := r) _ ?_ hl2 rfl fun a ha => ?_
                    · clear h hf hfy hfa h1 h2 hp hw
                      walk_at "ev"
                    · have := law_is_act_ok a s (hf a (List.mem_cons_of_mem _ ha))
                      clear h hf hfy hfa h1 h2 hp hw
                      walk_at "ev"
                  have e4 := ev_eq_nil (plains_filter (fun p => !isAct p) hp)
                  rw [isEmpty_filter] at e4
                  clear h hf hfy hfa hp hw
                  unfold fnM m_law_is_log
                  walk_at "ev"
            · clear h hf hfy hfa
              unfold fnM m_law_is_log
              walk_at "ev"
          | _ =>
            first
            | (cases hw; done)
            | (have eb := isBeg_hd ta (by intro x z; cases z)
               clear h hf hfa hfy hw
               unfold fnM m_law_is_log
               walk_at "ev"
               done)
            | (have eb := isBeg_hd ta (by intro x z; cases z)
               have hi := not_tup hw rfl
               clear h hf hfa hfy hw
               unfold fnM m_law_is_log
               walk_at "ev"
               done)
        · have c2 : ¬ ((ys.length : Int) = 3) := by omega
          have e := beg_len ta c
          clear h hf hfa hfy
          unfold fnM m_law_is_log
          walk_at "ev"
end Lw

set_option Elab.async false
set_option linter.all false
set_option autoImplicit false
set_option maxRecDepth 100000
set_option maxHeartbeats 4000000
/-! Mi, part Show: how long a value's text is, and of which signs. -/
namespace Mi
open PySem L2 PySem.StrLaws PySem.Builtin.Str
theorem sok_append (a b : Str) : PyData.strOk (a ++ b) = (PyData.strOk a && PyData.strOk b) := by
  show (a.cps ++ b.cps).all _ = _
  rw [Array.all_append]
  rfl
theorem sok_ofString (s : String) : PyData.strOk (Str.ofString s) = true := by
  rw [Str.ofString_eq_toList]
  unfold PyData.strOk
  rw [← Array.all_toList, List.all_eq_true]
  intro c hc
  simp at hc
  obtain ⟨ch, _, rfl⟩ := hc
  have : ch.toNat < 0x110000 := by
    have := ch.valid
    unfold Char.toNat
    unfold UInt32.isValidChar Nat.isValidChar at this
    omega
  simpa using this
theorem sok_join (sep : Str) (hs : PyData.strOk sep = true) : ∀ ts : List Str, (∀ t ∈ ts, PyData.strOk t = true) → PyData.strOk (Str.join sep ts) = true
  | [], _ => (by decide +kernel : PyData.strOk Str.empty = true)
  | [x], h => h x (by simp)
  | x :: y :: r, h => by
    show PyData.strOk (x ++ sep ++ Str.join sep (y :: r)) = true
    rw [sok_append, sok_append, h x (by simp), hs, sok_join sep hs (y :: r) fun t ht => h t (List.mem_cons_of_mem _ ht)]
    rfl
theorem rchar_ok : ∀ c, c < 128 → (reprChar 39 c).all (fun d => decide (d < 0x110000)) = true ∧ (reprChar 34 c).all (fun d => decide (d < 0x110000)) = true := by decide +kernel
theorem rfold_ok (q : Nat) (hq : q = 39 ∨ q = 34) : ∀ (l : List Nat) (acc : Array Nat), (∀ c ∈ l, c < 128) → acc.all (· < 0x110000) = true → (l.foldl (fun out c => out ++ (reprChar q c).toArray) acc).all (· < 0x110000) = true
  | [], acc, _, h => h
  | c :: r, acc, hl, h => by
    rw [List.foldl_cons]
    refine rfold_ok q hq r _ (fun d hd => hl d (List.mem_cons_of_mem _ hd)) ?_
    rw [Array.all_append, h, Bool.true_and]
    have := rchar_ok c (hl c List.mem_cons_self)
    rw [← Array.all_toList]
    rcases hq with rfl | rfl
    · exact this.1
    · exact this.2
theorem rtext_ok (x : Str) (hx : ∀ c ∈ x.cps.toList, c < 128) : PyData.strOk (reprText x) = true := by
  unfold reprText PyData.strOk
  have hq : reprQuote x = 39 ∨ reprQuote x = 34 := by
    unfold reprQuote
    split <;> simp
  show ((x.cps.foldl (fun out c => out ++ (reprChar (reprQuote x) c).toArray) #[reprQuote x]).push (reprQuote x)).all _ = true
  rw [← Array.foldl_toList, Array.all_push]
  have h1 := rfold_ok (reprQuote x) hq x.cps.toList #[reprQuote x] hx (by rcases hq with h | h <;> rw [h] <;> decide +kernel)
  rw [h1]
  rcases hq with h | h <;> rw [h] <;> rfl
def okS (x : Str) : Bool := decide (x.length ≤ 12) && x.cps.toList.all fun c => decide (c < 128)
mutual
def cnt : D → Nat
  | .tup xs => cnts xs + 1
  | .lst xs => cnts xs + 1
  | .ntup xs => cnts xs + 1
  | .non => 1
  | .bl _ => 1
  | .int _ => 1
  | .str _ => 1
  | .dK _ _ => 1
  | .dT _ _ => 1
  | .fn _ => 1
  | .root _ => 1
  | .scr _ => 1
def cnts : List D → Nat
  | [] => 0
  | x :: xs => cnt x + cnts xs
end
def isTx : D → Bool
  | .str _ => true
  | _ => false
mutual
/-- the leaves: small texts, ints below a bound -/
def lf (b : Nat) : D → Bool
  | .tup xs => lfs b xs
  | .lst xs => lfs b xs
  | .ntup xs => lfs b xs && (!xs.isEmpty && xs.all isTx)
  | .non => true
  | .bl _ => true
  | .int i => decide (i.natAbs ≤ b)
  | .str x => okS x
  | .dK _ _ => false
  | .dT _ _ => false
  | .fn _ => false
  | .root _ => false
  | .scr _ => false
def lfs (b : Nat) : List D → Bool
  | [] => true
  | x :: xs => lf b x && lfs b xs
end
theorem cnt_pos : ∀ d : D, 1 ≤ cnt d := by
  intro d
  cases d <;> simp only [cnt] <;> omega
theorem cnts_len : ∀ xs : List D, xs.length ≤ cnts xs
  | [] => Nat.le_refl _
  | x :: xs => by
    have := cnts_len xs
    have := cnt_pos x
    simp only [cnts, List.length_cons]
    omega
theorem lfs_mem {b : Nat} : ∀ {xs : List D}, lfs b xs = true ↔ ∀ x ∈ xs, lf b x = true
  | [] => by simp [lfs]
  | x :: xs => by simp [lfs, lfs_mem (xs := xs)]
theorem cnts_mem {x : D} : ∀ {xs : List D}, x ∈ xs → cnt x ≤ cnts xs
  | y :: ys, h => by
    rcases List.mem_cons.mp h with rfl | h
    · simp only [cnts]
      omega
    · have := cnts_mem h
      simp only [cnts]
      omega
theorem cnts_append : ∀ xs ys : List D, cnts (xs ++ ys) = cnts xs + cnts ys
  | [], ys => by simp [cnts]
  | x :: xs, ys => by
    rw [List.cons_append]
    simp only [cnts, cnts_append xs ys]
    omega
mutual
theorem shown_le {b : Nat} (hb : b < 10 ^ 61) : ∀ d : D, lf b d = true → d.py.shown.length + 5 ≤ 160 * cnt d ∧ PyData.strOk d.py.shown = true ∧ d.py.showable = true ∧ d.plain = true
  | .non, _ => ⟨by decide +kernel, by decide +kernel, rfl, rfl⟩
  | .bl true, _ => ⟨by decide +kernel, by decide +kernel, rfl, rfl⟩
  | .bl false, _ => ⟨by decide +kernel, by decide +kernel, rfl, rfl⟩
  | .int i, h => by
    simp only [lf, decide_eq_true_eq] at h
    have h2 : i.natAbs < 10 ^ 61 := by omega
    have h1 := int_text_length_le10 (k := 61) (by decide) h2
    refine ⟨?_, ?_, ?_, rfl⟩
    · simp only [D.py, PyData.shown, cnt]
      rw [ofString_length]
      omega
    · simp only [D.py, PyData.shown]
      exact sok_ofString _
    · simp only [D.py, PyData.showable, decide_eq_true_eq]
      by_cases z : i.natAbs = 0
      · rw [z]
        decide
      · rw [Nat.log2_lt z]
        exact Nat.lt_of_lt_of_le h2 (by decide +kernel)
  | .str x, h => by
    simp only [lf, okS, Bool.and_eq_true, decide_eq_true_eq, List.all_eq_true] at h
    refine ⟨?_, ?_, rfl, rfl⟩
    · simp only [D.py, PyData.shown, cnt]
      have := reprText_len x fun c hc => Nat.lt_of_lt_of_le (h.2 c hc) (by decide)
      omega
    · simp only [D.py, PyData.shown]
      exact rtext_ok x h.2
  | .tup xs, h => by
    obtain ⟨h1, h2, h3, h4⟩ := showns_le hb xs h
    simp only [D.py, PyData.shown, cnt, PyData.showable, D.plain]
    have := tupleText_len_le (PyData.shownAll (pys xs))
    have := cnts_len xs
    refine ⟨?_, ?_, h3, h4⟩
    · have e := shownAll_len xs
      omega
    · unfold tupleText
      rw [sok_append, sok_append, sok_join _ (sok_ofString _) _ h2, sok_ofString, sok_ofString]
      rfl
  | .ntup xs, h => by
    simp only [lf, Bool.and_eq_true] at h
    obtain ⟨h1, h2, h3, h4⟩ := showns_le hb xs h.1
    simp only [D.py, PyData.shown, cnt, PyData.showable, D.plain]
    have := tupleText_len_le (PyData.shownAll (pys xs))
    have := cnts_len xs
    refine ⟨?_, ?_, h3, h4⟩
    · have e := shownAll_len xs
      omega
    · unfold tupleText
      rw [sok_append, sok_append, sok_join _ (sok_ofString _) _ h2, sok_ofString, sok_ofString]
      rfl
  | .lst xs, h => by
    obtain ⟨h1, h2, h3, h4⟩ := showns_le hb xs h
    simp only [D.py, PyData.shown, cnt, PyData.showable, D.plain]
    have := listText_len_le (PyData.shownAll (pys xs))
    have := cnts_len xs
    refine ⟨?_, ?_, h3, h4⟩
    · have e := shownAll_len xs
      omega
    · rw [listText_eq_join, sok_append, sok_append, sok_join _ (sok_ofString _) _ h2, sok_ofString, sok_ofString]
      rfl
  | .dK _ _, h => by cases h
  | .dT _ _, h => by cases h
  | .fn _, h => by cases h
  | .root _, h => by cases h
  | .scr _, h => by cases h
theorem showns_le {b : Nat} (hb : b < 10 ^ 61) : ∀ xs : List D, lfs b xs = true → ((PyData.shownAll (pys xs)).map (·.length)).sum + 5 * xs.length ≤ 160 * cnts xs ∧ (∀ t ∈ PyData.shownAll (pys xs), PyData.strOk t = true) ∧ PyData.showableAll (pys xs) = true ∧ plains xs = true
  | [], _ => ⟨by decide, by decide, rfl, rfl⟩
  | x :: xs, h => by
    simp only [lfs, Bool.and_eq_true] at h
    obtain ⟨h1, h2, h3, h4⟩ := shown_le hb x h.1
    obtain ⟨k1, k2, k3, k4⟩ := showns_le hb xs h.2
    refine ⟨?_, ?_, ?_, ?_⟩
    · simp only [pys, PyData.shownAll, List.map_cons, List.sum_cons, List.length_cons, cnts]
      omega
    · intro t ht
      simp only [pys, PyData.shownAll, List.mem_cons] at ht
      rcases ht with rfl | ht
      · exact h2
      · exact k2 t ht
    · simp only [pys, PyData.showableAll, h3, k3, Bool.and_self]
    · simp only [plains, h4, k4, Bool.and_self]
theorem shownAll_len : ∀ xs : List D, (PyData.shownAll (pys xs)).length = xs.length
  | [] => rfl
  | x :: xs => by simp only [pys, PyData.shownAll, List.length_cons, shownAll_len xs]
end
end Mi

set_option Elab.async false
set_option linter.all false
set_option autoImplicit false
set_option maxRecDepth 100000
set_option maxHeartbeats 4000000
/-! K78, the plain law: the law's check of one value, sizes. -/
namespace Lw
open PySem L2 Mi
local macro_rules | `(tactic| walk_at "ev") => `(tactic| simp [v_ret, v_bnd, v_some, v_none, v_asB, v_tNo, v_tAn, v_tOrr, v_ofB, v_mAn, v_mOrr, v_mNo, v_mIf, v_c3, v_aNil, v_aCons, v_mTup, v_mLst, v_mNtup, v_mLstF, v_m2, v_m1, v_c2, v_mC, v_pNone, v_pSome, v_mSl, v_mCall, v_tIsi, v_frzM, v_datM, v_sNx, v_sSeq, v_sDrop, v_sRet, v_sSet, v_sIf, v_mCF, v_noXF, v_noX, v_iSeq, v_iZip, v_iRng, v_iEnu, v_sUnp, v_tgN, v_tgsNil, v_tgsCons, v_sRaise2, v_sRetV, v_sTry, v_mIxF, v_tNiF, v_sPar, v_bNil, v_bCons, v_fAdd, v_mDix, v_sDst, v_mDcp, v_mSrtSet, v_mTix, v_mRev, v_mVar, v_sApp, w_add, w_sub, w_ixT, w_ixN, w_ixL, w_addT, w_addNT, w_lenT, w_lenN, w_lenL, w_lenS, w_ltI, w_leI, w_gtI, w_geI, w_leI0, w_ltI0, w_eqI, w_neI, w_eqS, w_neS, w_isI, w_isS, w_isT, w_isN, w_isL, w_isB, w_isO, B.frz, List.replicate, w_slT, w_slL, w_topT, w_topN, w_topL, w_zipT, w_gItT, w_gItN, w_gItL, w_tgT, cut1, w_at0, w_at1, w_at2, w_lim, w_ite, putAll, w_at3, w_at4, w_at5, w_tupL, w_tupT, w_tupN, w_lstL, w_lstT, w_intI, w_intB, w_topI, w_topS, w_addII, w_addTT, str_inj, str_beq, v_tNiT, v_sTst, v_mSrtT, v_mCV, w_addLL, w_revT, *])
/-- small values -/
structure Fit (b n h : Nat) (d : D) : Prop where
  lf : lf b d = true
  cnt : cnt d ≤ n
  dep : d.dep ≤ h
theorem Fit.mono {b n h b' n' h' : Nat} {d : D} (x : Fit b n h d) (e1 : b ≤ b') (e2 : n ≤ n') (e3 : h ≤ h') (hl : ∀ d, Mi.lf b d = true → Mi.lf b' d = true) : Fit b' n' h' d := ⟨hl d x.lf, Nat.le_trans x.cnt e2, Nat.le_trans x.dep e3⟩
mutual
theorem fit_lf {b : Nat} : ∀ d : D, Mi.lf b d = true → cnt d ≤ 5000 → fit d = true
  | .non, _, _ => rfl
  | .bl _, _, _ => rfl
  | .int _, _, _ => rfl
  | .str x, h, _ => by
    simp only [Mi.lf, okS, Bool.and_eq_true, decide_eq_true_eq] at h
    simp only [fit, decide_eq_true_eq]
    omega
  | .tup xs, h, c => by
    simp only [Mi.cnt] at c
    have := cnts_len xs
    simp only [fit, Bool.and_eq_true, decide_eq_true_eq]
    exact ⟨by omega, fits_lf xs h (by omega)⟩
  | .lst xs, h, c => by
    simp only [Mi.cnt] at c
    have := cnts_len xs
    simp only [fit, Bool.and_eq_true, decide_eq_true_eq]
    exact ⟨by omega, fits_lf xs h (by omega)⟩
  | .ntup xs, h, c => by
    simp only [Mi.cnt] at c
    simp only [Mi.lf, Bool.and_eq_true] at h
    have := cnts_len xs
    simp only [fit, Bool.and_eq_true, decide_eq_true_eq]
    exact ⟨by omega, fits_lf xs h.1 (by omega), h.2.1, h.2.2⟩
  | .dK _ _, h, _ => by cases h
  | .dT _ _, h, _ => by cases h
  | .fn _, h, _ => by cases h
  | .root _, h, _ => by cases h
  | .scr _, h, _ => by cases h
theorem fits_lf {b : Nat} : ∀ ds : List D, Mi.lfs b ds = true → cnts ds ≤ 5000 → fits ds = true
  | [], _, _ => rfl
  | d :: ds, h, c => by
    simp only [Mi.lfs, Bool.and_eq_true] at h
    simp only [Mi.cnts] at c
    simp only [fits, fit_lf d h.1 (by omega), fits_lf ds h.2 (by omega), Bool.and_self]
end
theorem Fit.fit {b n h : Nat} {d : D} (x : Fit b n h d) (hn : n ≤ 5000) : fit d = true := fit_lf d x.lf (Nat.le_trans x.cnt hn)
theorem top_py (d : D) : d.top.py = d.py := by cases d <;> rfl
theorem top_plain (d : D) : d.top.plain = d.plain := by cases d <;> rfl
theorem top_dep (d : D) : d.top.dep = d.dep := by cases d <;> rfl
theorem Fit.shows {b n h : Nat} {d : D} (x : Fit b n h d) (hb : b < 10 ^ 61) (hn : n ≤ 5000) (hh : h ≤ 60) : tpN gRepr [d] = some (.str d.py.shown) := by
  obtain ⟨h1, h2, h3, h4⟩ := shown_le hb d x.lf
  have e0 : tpN gRepr [d] = (if d.top.plain && d.top.py.showable && decide (d.top.dep ≤ 60) && decide (d.top.py.shown.length ≤ lim) && PyData.strOk d.top.py.shown then some (.str d.top.py.shown) else none) := rfl
  have c1 := x.cnt
  have c2 := x.dep
  have e1 : decide (d.dep ≤ 60) = true := by simp; omega
  have e2 : decide (d.py.shown.length ≤ lim) = true := by
    unfold lim
    simp
    omega
  rw [e0, top_py, top_plain, top_dep, h2, h3, h4, e1, e2]
  rfl
theorem w_reprB (b : Bool) : ∃ z, tpN gRepr [.bl b] = some (.str z) := by
  exact ⟨_, (⟨rfl, Nat.le_refl _, Nat.le_refl _⟩ : Fit 0 1 0 (.bl b)).shows (by decide +kernel) (by decide) (by decide)⟩
theorem eq_strs (a b c : Str) : tp2 cEq (.lst [.str a, .str b, .str c]) (.lst [.str a, .str b, .str c]) = some true := by
  show some (PyData.eqvAll [.str a, .str b, .str c] [.str a, .str b, .str c]) = _
  simp [PyData.eqvAll, PyData.eqv]
theorem law_check_ok {b n h : Nat} {d : D} (x : Fit b n h d) (hb : b < 10 ^ 61) (hn : n ≤ 5000) (hh : h ≤ 60) (s : S) : fnM 1 3 m_law_check [d] s = .ok (.dat (.bl true)) [] s := by
  have hf := x.fit hn
  have h1 := law_is_log_ok d s hf
  have h2 := is_log_ok d s hf
  have h3 := x.shows hb hn hh
  obtain ⟨z, h4⟩ := w_reprB (isLog d)
  have h5 := eq_strs z z d.py.shown
  clear x hf hb hn hh
  unfold fnM m_law_check
  walk_at "ev"
end Lw


set_option Elab.async false
set_option linter.all false
set_option autoImplicit false
set_option maxRecDepth 100000
set_option maxHeartbeats 4000000
namespace Lw
open PySem L2 Mi
theorem plains_ints : ∀ ns : List Int, plains (ns.map D.int) = true
  | [] => rfl
  | n :: ns => by
    show ((D.int n).plain && plains (ns.map D.int)) = true
    rw [plains_ints ns]
    rfl
theorem deps_ints : ∀ ns : List Int, deps (ns.map D.int) = 0
  | [] => rfl
  | n :: ns => by
    show max (D.int n).dep (deps (ns.map D.int)) = 0
    rw [deps_ints ns]
    rfl
theorem ne_nil (ns : List Int) : cNe (.lst (ns.map .int)) (.lst []) = some (!ns.isEmpty) := by
  cases ns with
  | nil => decide +kernel
  | cons n ns =>
    have e1 : eqable (.lst ((n :: ns).map D.int)) (.lst []) = true := by
      have h1 := plains_ints (n :: ns)
      have h2 := deps_ints (n :: ns)
      unfold eqable
      simp only [D.plain, D.dep, h1, h2, plains, deps]
      decide
    have e2 : dEq (.lst ((n :: ns).map D.int)) (.lst []) = false := by
      simp [dEq, D.py, pys, PyData.eqv, PyData.eqvAll]
    unfold cNe
    rw [if_pos e1, e2]
    rfl
abbrev rngS (ns : List Int) (p r c : Int) : S := [.lst [.lst (ns.map .int), .int p, .int r, .int c]]
theorem draw_big (ns : List Int) (p r c n : Int) (hr : 0 < r) (hn : 0 < n) (hn2 : n ≤ 100000) : fnM 2 6 m_law_draw [.root 0, .int n] (rngS ns p r c) = .ok (.dat (.int (r % n))) [] (rngS ns p (r / n) (c + 1)) := by
  have hn0 : n ≠ 0 := by omega
  have hn3 : n.natAbs < 1073741824 := by omega
  have hf : r.fmod n = r % n := Int.fmod_eq_emod_of_nonneg r (by omega)
  have hd : r.fdiv n = r / n := Int.fdiv_eq_ediv_of_nonneg r (by omega)
  unfold fnM m_law_draw
  simp [sSeq, sRset, bnd, m2, mRix, mVar, Mi.ret, lift, tp2, tpN, D.top, gAdd, gMod, gFdv, gInt, sIf, c2, cGt, sSet, datM, mCall, aCons, aNil, sRetV, hr, hn, hn0, hn3, hf, hd, cInt, List.replicate]
/-- the cell that is read -/
def cellOf (ns : List Int) (p : Int) : Int := if ns = [] then 41 else ns.getD (p % ns.length).toNat 0
theorem cell_ok {ns : List Int} (e : ns ≠ []) (p : Int) : ∃ x, atI (ns.map D.int) (p.fmod ns.length) = some (.int x) := by
  have hl0 : (0 : Int) < ns.length := by
    have := List.length_pos_iff.mpr e
    omega
  have h1 : p.fmod ns.length = p % ns.length := Int.fmod_eq_emod_of_nonneg p (by omega)
  have h2 : 0 ≤ p % ns.length := Int.emod_nonneg p (by omega)
  have h3 : p % ns.length < ns.length := Int.emod_lt_of_pos p hl0
  have h4 : (p % (ns.length : Int)).toNat < ns.length := by omega
  refine ⟨ns[(p % ns.length).toNat], ?_⟩
  rw [h1]
  unfold atI ixN
  rw [List.length_map, if_pos h2, if_pos h3]
  simp [h4]
theorem draw_tail (x c n : Int) (hc : 0 ≤ c) (hc2 : c ≤ 100000) : ((x.fmod 1999999927 + 60037 * c + 79).natAbs < 18446744073709551616) ∧ ∀ y : Int, (y.fmod 2147483543 + 9029 * c * c + 31).natAbs < 18446744073709551616 := by
  have h1 : x.fmod 1999999927 = x % 1999999927 := Int.fmod_eq_emod_of_nonneg x (by omega)
  have h2 : 9029 * c * c ≤ 9029 * 100000 * 100000 := Int.mul_le_mul (by omega) hc2 hc (by omega)
  have h3 : 0 ≤ 9029 * c * c := Int.mul_nonneg (by omega) hc
  refine ⟨by omega, fun y => ?_⟩
  have h4 : y.fmod 2147483543 = y % 2147483543 := Int.fmod_eq_emod_of_nonneg y (by omega)
  omega
/-- what a draw leaves -/
def Drawn (ns : List Int) (c n : Int) (x : B) (s : S) : Prop := ∃ v p r, x = .dat (.int v) ∧ s = rngS ns p r (c + 1) ∧ 0 ≤ v ∧ v < n ∧ 0 ≤ p
def R.wpF (r : R B) (Q : B → S → Prop) : Prop := match r with
  | .ok x _ s => Q x s
  | _ => False
theorem draw_cell (ns : List Int) (p r c n : Int) (hl : ns.length ≤ 63) (hp : 0 ≤ p) (hr : ¬ 0 < r) (hc : 0 ≤ c) (hc2 : c < 100000) (hn : 0 < n) (hn2 : n ≤ 100000) : R.wpF (fnM 2 6 m_law_draw [.root 0, .int n] (rngS ns p r c)) (Drawn ns c n) := by
  have hn0 : n ≠ 0 := by omega
  have hn3 : n.natAbs < 1073741824 := by omega
  have ff : ∀ a : Int, 0 ≤ a.fmod n ∧ a.fmod n < n := fun a => by
    rw [Int.fmod_eq_emod_of_nonneg a (by omega : 0 ≤ n)]
    exact ⟨Int.emod_nonneg a hn0, Int.emod_lt_of_pos a hn⟩
  have hp1 : 0 ≤ p + 1 := by omega
  have t4 : (c + 1).natAbs < 9223372036854775808 := by omega
  by_cases e : ns = []
  · subst e
    obtain ⟨t1, t2⟩ := draw_tail 41 (c + 1) n (by omega) (by omega)
    have z : cNe (.lst []) (.lst []) = some false := by decide +kernel
    have t3 : (41 + 60037 * (c + 1) + 79).natAbs < 18446744073709551616 := by omega
    unfold fnM m_law_draw
    simp [R.wpF, Drawn, rngS, sSeq, sRset, bnd, m2, mRix, mVar, Mi.ret, lift, tp2, tpN, D.top, gAdd, gMod, gFdv, gInt, gMul, gPow, gLen, gIx, sIf, c2, cGt, cGe, cLt, sSet, datM, mCall, aCons, aNil, sRetV, hr, hn, hn0, hn3, cInt, List.replicate, mIf, mLst, sRet, tAn, sNx, t1, t2, t4, t3, z, ff, hp1]
  · obtain ⟨x, hx⟩ := cell_ok e p
    obtain ⟨t1, t2⟩ := draw_tail x (c + 1) n (by omega) (by omega)
    have hl0 : ns.length ≠ 0 := fun z => e (List.length_eq_zero_iff.mp z)
    have he : ns.isEmpty = false := by
      cases ns with
      | nil => exact absurd rfl e
      | cons _ _ => rfl
    have e18 : (10 : Int) ^ (18 : Int).toNat = 1000000000000000000 := by decide +kernel
    unfold fnM m_law_draw
    by_cases g1 : (1000000000000000000 : Int) ≤ x
    · by_cases g2 : p < (ns.length : Int)
      · simp [R.wpF, Drawn, rngS, sSeq, sRset, bnd, m2, mRix, mVar, Mi.ret, lift, tp2, tpN, D.top, gAdd, gMod, gFdv, gInt, gMul, gPow, gLen, gIx, sIf, c2, cGt, cGe, cLt, sSet, datM, mCall, aCons, aNil, sRetV, hr, hn, hn0, hn3, cInt, List.replicate, mIf, mLst, sRet, tAn, sNx, t1, t2, t4, ne_nil, ff, hp1, e, he, hx, hl0, e18, g1, g2]
      · simp [R.wpF, Drawn, rngS, sSeq, sRset, bnd, m2, mRix, mVar, Mi.ret, lift, tp2, tpN, D.top, gAdd, gMod, gFdv, gInt, gMul, gPow, gLen, gIx, sIf, c2, cGt, cGe, cLt, sSet, datM, mCall, aCons, aNil, sRetV, hr, hn, hn0, hn3, cInt, List.replicate, mIf, mLst, sRet, tAn, sNx, t1, t2, t4, ne_nil, ff, hp1, e, he, hx, hl0, e18, g1, g2]
    · simp [R.wpF, Drawn, rngS, sSeq, sRset, bnd, m2, mRix, mVar, Mi.ret, lift, tp2, tpN, D.top, gAdd, gMod, gFdv, gInt, gMul, gPow, gLen, gIx, sIf, c2, cGt, cGe, cLt, sSet, datM, mCall, aCons, aNil, sRetV, hr, hn, hn0, hn3, cInt, List.replicate, mIf, mLst, sRet, tAn, sNx, t1, t2, t4, ne_nil, ff, hp1, e, he, hx, hl0, e18, g1]
/-- the shared list of draws, after c of them -/
def Rng (ns : List Int) (c : Int) (s : S) : Prop := ∃ p r, s = rngS ns p r c ∧ 0 ≤ p
theorem draw {ns : List Int} {c n : Int} {s : S} (hl : ns.length ≤ 63) (h : Rng ns c s) (hc : 0 ≤ c) (hc2 : c < 100000) (hn : 0 < n) (hn2 : n ≤ 100000) : R.wpF (fnM 2 6 m_law_draw [.root 0, .int n] s) fun x s' => ∃ v : Int, x = .dat (.int v) ∧ 0 ≤ v ∧ v < n ∧ Rng ns (c + 1) s' := by
  obtain ⟨p, r, rfl, hp⟩ := h
  by_cases hr : 0 < r
  · rw [draw_big ns p r c n hr hn hn2]
    exact ⟨_, rfl, Int.emod_nonneg r (by omega), Int.emod_lt_of_pos r hn, p, _, rfl, hp⟩
  · have q := draw_cell ns p r c n hl hp hr hc hc2 hn hn2
    unfold R.wpF at q ⊢
    revert q
    cases fnM 2 6 m_law_draw [.root 0, .int n] (rngS ns p r c) with
    | ok x e s => exact fun ⟨v, p', r', e1, e2, e3, e4, e5⟩ => ⟨v, e1, e3, e4, p', r', e2, e5⟩
    | exc _ _ _ => exact fun z => z
    | no => exact fun z => z
end Lw

set_option Elab.async false
set_option linter.all false
set_option autoImplicit false
set_option maxRecDepth 100000
set_option maxHeartbeats 4000000
/-! K78, the plain law: what is drawn. -/
namespace Lw
open PySem L2 Mi
local macro_rules | `(tactic| walk_at "ev") => `(tactic| simp [v_ret, v_bnd, v_some, v_none, v_asB, v_tNo, v_tAn, v_tOrr, v_ofB, v_mAn, v_mOrr, v_mNo, v_mIf, v_c3, v_aNil, v_aCons, v_mTup, v_mLst, v_mNtup, v_mLstF, v_m2, v_m1, v_c2, v_mC, v_pNone, v_pSome, v_mSl, v_mCall, v_tIsi, v_frzM, v_datM, v_sNx, v_sSeq, v_sDrop, v_sRet, v_sSet, v_sIf, v_mCF, v_noXF, v_noX, v_iSeq, v_iZip, v_iRng, v_iEnu, v_sUnp, v_tgN, v_tgsNil, v_tgsCons, v_sRaise2, v_sRetV, v_sTry, v_mIxF, v_tNiF, v_sPar, v_bNil, v_bCons, v_fAdd, v_mDix, v_sDst, v_mDcp, v_mSrtSet, v_mTix, v_mRev, v_mVar, v_sApp, w_add, w_sub, w_ixT, w_ixN, w_ixL, w_addT, w_addNT, w_lenT, w_lenN, w_lenL, w_lenS, w_ltI, w_leI, w_gtI, w_geI, w_leI0, w_ltI0, w_eqI, w_neI, w_eqS, w_neS, w_isI, w_isS, w_isT, w_isN, w_isL, w_isB, w_isO, B.frz, List.replicate, w_slT, w_slL, w_topT, w_topN, w_topL, w_zipT, w_gItT, w_gItN, w_gItL, w_tgT, cut1, w_at0, w_at1, w_at2, w_lim, w_ite, putAll, w_at3, w_at4, w_at5, w_tupL, w_tupT, w_tupN, w_lstL, w_lstT, w_intI, w_intB, w_topI, w_topS, w_addII, w_addTT, str_inj, str_beq, v_tNiT, v_sTst, v_mSrtT, v_mCV, w_addLL, w_revT, *])
/-- the list of draws, after at most k of them -/
def RB (ns : List Int) (k : Nat) (s : S) : Prop := ns.length ≤ 63 ∧ ∃ c : Nat, c ≤ k ∧ Rng ns c s
theorem RB.mono {ns : List Int} {k k' : Nat} {s : S} (h : RB ns k s) (e : k ≤ k') : RB ns k' s := by
  obtain ⟨h0, c, h1, h2⟩ := h
  exact ⟨h0, c, Nat.le_trans h1 e, h2⟩
theorem fnM_env {k n : Nat} {m : M Fl} {ds : List D} {s s' : S} {x : B} {e : Mi.Env} (h : fnM k n m ds s = .ok x e s') : e = [] := by
  rw [v_fnM] at h
  by_cases c : ds.length = k
  · rw [if_pos c] at h
    revert h
    cases m (ds.map .dat ++ List.replicate (n - k) .unb) s with
    | ok f e1 s1 =>
      cases f with
      | rt y => intro h; cases h; rfl
      | nx => intro h; cases h; rfl
      | bk => intro h; cases h
      | ct => intro h; cases h
    | exc _ _ _ => intro h; cases h
    | no => intro h; cases h
  · rw [if_neg c] at h
    cases h
theorem draw_ok {ns : List Int} {k : Nat} {s : S} (h : RB ns k s) (hk : k < 90000) (N : Int) (n : Nat) (hN : N = n) (hn : 0 < n) (hn2 : n ≤ 100000) :
    ∃ (v : Nat) (s' : S), fnM 2 6 m_law_draw [.root 0, .int N] s = .ok (.dat (.int (v : Int))) [] s' ∧ v < n ∧ RB ns (k + 1) s' := by
  subst hN
  obtain ⟨h0, c, h1, h2⟩ := h
  have q := draw (n := n) h0 h2 (by omega) (by omega) (by omega) (by omega)
  revert q
  unfold R.wpF
  cases hm : fnM 2 6 m_law_draw [.root 0, .int n] s with
  | exc _ _ _ => exact fun z => z.elim
  | no => exact fun z => z.elim
  | ok x e s' =>
    rintro ⟨v, rfl, p1, p2, p3⟩
    have := fnM_env hm
    subst this
    obtain ⟨w, rfl⟩ := Int.eq_ofNat_of_zero_le p1
    exact ⟨w, s', rfl, by omega, h0, c + 1, by omega, p3⟩
/-- a comprehension that draws -/
theorem lcL_st {vs : List Nat} {g : Tg} {t : M Bool} {m : M D} {e0 : Mi.Env} {J : Nat → S → Prop} {P : D → Prop} : ∀ {ds : List D} {e : Mi.Env} {s : S} {i N : Nat}, clr vs e = e0 → J i s → i + ds.length ≤ N →
    (∀ d ∈ ds, ∀ i s, i < N → J i s → ∃ e1 e2 k s1, g d e0 = some e1 ∧ t e1 s = .ok k e2 s1 ∧ (k = false → clr vs e2 = e0 ∧ J (i + 1) s1) ∧ (k = true → ∃ y e3 s2, m e2 s1 = .ok y e3 s2 ∧ clr vs e3 = e0 ∧ P y ∧ J (i + 1) s2)) →
    ∃ ys s', lcL vs g (noX t) (noX m) ds e s = .ok ys e0 s' ∧ (∀ y ∈ ys, P y) ∧ ys.length ≤ ds.length ∧ J (i + ds.length) s'
  | [], e, s, i, N, h0, hJ, _, _ => ⟨[], s, by show R.ok [] (clr vs e) s = _; rw [h0], fun _ h => (by cases h), Nat.le_refl _, hJ⟩
  | d :: ds, e, s, i, N, h0, hJ, hN, h => by
    rw [List.length_cons] at hN
    obtain ⟨e1, e2, k, s1, h1, h2, h3, h4⟩ := h d List.mem_cons_self i s (by omega) hJ
    unfold lcL
    rw [h0, h1]
    show ∃ ys s', bnd (noX t) _ e1 s = _ ∧ _
    rw [bnd_ok (noX_is h2)]
    have e5 : i + (d :: ds).length = i + 1 + ds.length := by rw [List.length_cons]; omega
    rw [e5]
    cases k with
    | false =>
      obtain ⟨h5, h6⟩ := h3 rfl
      obtain ⟨ys, s', q1, q2, q3, q4⟩ := lcL_st (ds := ds) (P := P) (N := N) h5 h6 (by omega) fun x hx => h x (List.mem_cons_of_mem _ hx)
      rw [if_neg (by decide)]
      exact ⟨ys, s', q1, q2, by rw [List.length_cons]; omega, q4⟩
    | true =>
      obtain ⟨y, e3, s2, h5, h6, h7, h8⟩ := h4 rfl
      obtain ⟨ys, s', q1, q2, q3, q4⟩ := lcL_st (ds := ds) (P := P) (N := N) h6 h8 (by omega) fun x hx => h x (List.mem_cons_of_mem _ hx)
      rw [if_pos rfl, bnd_ok (noX_is h5), bnd_ok q1]
      exact ⟨y :: ys, s', rfl, fun z hz => by rcases List.mem_cons.mp hz with rfl | hz; exact h7; exact q2 z hz, by rw [List.length_cons, List.length_cons]; omega, q4⟩
theorem mLc_st {it : M (List D)} {vs : List Nat} {g : Tg} {t : M Bool} {m : M D} {e e' e0 : Mi.Env} {s s0 : S} {ds : List D} {J : Nat → S → Prop} {P : D → Prop} (hi : it e s = .ok ds e' s0) (hl : ds.length ≤ lim) (h0 : clr vs e' = e0) (hJ : J 0 s0)
    (h : ∀ d ∈ ds, ∀ i s, i < ds.length → J i s → ∃ e1 e2 k s1, g d e0 = some e1 ∧ t e1 s = .ok k e2 s1 ∧ (k = false → clr vs e2 = e0 ∧ J (i + 1) s1) ∧ (k = true → ∃ y e3 s2, m e2 s1 = .ok y e3 s2 ∧ clr vs e3 = e0 ∧ P y ∧ J (i + 1) s2)) :
    ∃ ys s', mLc it vs g t m e s = .ok (.own ys) e0 s' ∧ (∀ y ∈ ys, P y) ∧ ys.length ≤ ds.length ∧ J ds.length s' := by
  obtain ⟨ys, s', q1, q2, q3, q4⟩ := lcL_st (P := P) (N := ds.length) h0 hJ (by omega) h
  refine ⟨ys, s', ?_, q2, q3, by simpa using q4⟩
  unfold mLc
  rw [bnd_ok hi, if_pos hl, bnd_ok q1]
  rfl
/-- [m for x in ds], drawing: as many -/
theorem lcL_stm {i : Nat} {m : M D} {e0 : Mi.Env} {J : Nat → S → Prop} {P : D → Prop} : ∀ {ds : List D} {s : S} {k N : Nat}, e0[i]? = some .unb → J k s → k + ds.length ≤ N →
    (∀ d ∈ ds, ∀ k s, k < N → J k s → ∃ y s2, m (e0.set i (.dat d)) s = .ok y (e0.set i (.dat d)) s2 ∧ P y ∧ J (k + 1) s2) →
    ∃ ys s', lcL [i] (tgN i) (noX (Mi.ret true)) (noX m) ds e0 s = .ok ys e0 s' ∧ (∀ y ∈ ys, P y) ∧ ys.length = ds.length ∧ J (k + ds.length) s'
  | [], s, k, N, h0, hJ, _, _ => ⟨[], s, by show R.ok [] (clr [i] e0) s = _; rw [clr_dat h0], fun _ h => (by cases h), rfl, hJ⟩
  | d :: ds, s, k, N, h0, hJ, hN, h => by
    rw [List.length_cons] at hN
    obtain ⟨y, s2, h1, h2, h3⟩ := h d List.mem_cons_self k s (by omega) hJ
    obtain ⟨ys, s', q1, q2, q3, q4⟩ := lcL_stm (ds := ds) (P := P) (N := N) h0 h3 (by omega) fun x hx => h x (List.mem_cons_of_mem _ hx)
    have e5 : k + (d :: ds).length = k + 1 + ds.length := by rw [List.length_cons]; omega
    rw [e5]
    refine ⟨y :: ys, s', ?_, fun z hz => by rcases List.mem_cons.mp hz with rfl | hz; exact h2; exact q2 z hz, by rw [List.length_cons, List.length_cons, q3], q4⟩
    unfold lcL
    rw [clr_dat h0]
    show bnd (noX (Mi.ret true)) _ (e0.set i (.dat d)) s = _
    rw [bnd_ok (m := noX (Mi.ret true)) (a := true) (e' := e0.set i (.dat d)) (s' := s) rfl, if_pos rfl, bnd_ok (noX_is h1)]
    have q0 : lcL [i] (tgN i) (noX (Mi.ret true)) (noX m) ds (e0.set i (.dat d)) s2 = lcL [i] (tgN i) (noX (Mi.ret true)) (noX m) ds e0 s2 := by
      cases ds with
      | nil =>
        show R.ok [] (clr [i] (e0.set i (.dat d))) s2 = R.ok [] (clr [i] e0) s2
        rw [clr_set h0, clr_dat h0]
      | cons x xs =>
        unfold lcL
        rw [clr_set h0, clr_dat h0]
    rw [bnd_ok (q0.trans q1)]
    rfl
theorem lc_stm {it : M (List D)} {i : Nat} {m : M D} {e e0 : Mi.Env} {s s0 : S} {ds : List D} {J : Nat → S → Prop} {P : D → Prop} (hi : it e s = .ok ds e0 s0) (hl : ds.length ≤ lim) (h0 : e0[i]? = some .unb) (hJ : J 0 s0)
    (h : ∀ d ∈ ds, ∀ k s, k < ds.length → J k s → ∃ y s2, m (e0.set i (.dat d)) s = .ok y (e0.set i (.dat d)) s2 ∧ P y ∧ J (k + 1) s2) :
    ∃ ys s', mLc it [i] (tgN i) (Mi.ret true) m e s = .ok (.own ys) e0 s' ∧ (∀ y ∈ ys, P y) ∧ ys.length = ds.length ∧ J ds.length s' := by
  obtain ⟨ys, s', q1, q2, q3, q4⟩ := lcL_stm (P := P) (N := ds.length) h0 hJ (by omega) h
  refine ⟨ys, s', ?_, q2, q3, by simpa using q4⟩
  unfold mLc
  rw [bnd_ok hi, if_pos hl, bnd_ok q1]
  rfl
/-- a loop with a word -/
theorem forL_st {g : Tg} {m : M Fl} {J : List D → Mi.Env → S → Prop} {all : List D} (h : ∀ pre d post e s, all = pre ++ d :: post → J pre e s → ∃ e1 e2 s2, g d e = some e1 ∧ m e1 s = .ok .nx e2 s2 ∧ J (pre ++ [d]) e2 s2) :
    ∀ {ds pre : List D} {e : Mi.Env} {s : S}, all = pre ++ ds → J pre e s → ∃ e' s', forL g m ds e s = .ok .nx e' s' ∧ J all e' s'
  | [], pre, e, s, ha, hJ => ⟨e, s, rfl, by rw [ha, List.append_nil]; exact hJ⟩
  | d :: ds, pre, e, s, ha, hJ => by
    obtain ⟨e1, e2, s2, h1, h2, h3⟩ := h pre d ds e s ha hJ
    obtain ⟨e', s', q1, q2⟩ := forL_st h (ds := ds) (pre := pre ++ [d]) (by rw [ha, List.append_assoc]; rfl) h3
    refine ⟨e', s', ?_, q2⟩
    unfold forL
    rw [h1]
    show bnd m _ e1 s = _
    rw [bnd_ok h2]
    exact q1
theorem sFor_st {it : M (List D)} {g : Tg} {m : M Fl} {J : List D → Mi.Env → S → Prop} {ds : List D} {e e0 : Mi.Env} {s s0 : S} (hi : it e s = .ok ds e0 s0) (hJ : J [] e0 s0)
    (h : ∀ pre d post e s, ds = pre ++ d :: post → J pre e s → ∃ e1 e2 s2, g d e = some e1 ∧ m e1 s = .ok .nx e2 s2 ∧ J (pre ++ [d]) e2 s2) : ∃ e' s', sFor it g m e s = .ok .nx e' s' ∧ J ds e' s' := by
  obtain ⟨e', s', q1, q2⟩ := forL_st h (pre := []) rfl hJ
  exact ⟨e', s', sFor_is hi q1, q2⟩
/-! ### signs, gears, hushes -/
def SgnL : List (List D) := [[.str "a"], [.str "a", .str "b"], [.str "a", .str "b", .str "c"]]
theorem signs_ok {ns : List Int} {k : Nat} {s : S} (h : RB ns k s) (hk : k < 90000) : ∃ L s', fnM 1 1 m_law_signs [.root 0] s = .ok (.dat (.ntup L)) [] s' ∧ L ∈ SgnL ∧ RB ns (k + 1) s' := by
  obtain ⟨v, s', h1, h2, h3⟩ := draw_ok h hk 4 4 rfl (by decide) (by decide)
  have hv : v = 0 ∨ v = 1 ∨ v = 2 ∨ v = 3 := by omega
  clear h
  unfold fnM m_law_signs
  rcases hv with rfl | rfl | rfl | rfl
  · refine ⟨[.str "a"], s', ?_, by simp [SgnL], h3⟩
    walk_at "ev"
  · refine ⟨[.str "a", .str "b"], s', ?_, by simp [SgnL], h3⟩
    walk_at "ev"
  · refine ⟨[.str "a", .str "b"], s', ?_, by simp [SgnL], h3⟩
    walk_at "ev"
  · refine ⟨[.str "a", .str "b", .str "c"], s', ?_, by simp [SgnL], h3⟩
    walk_at "ev"
def pairD (p : Nat × Str) : D := .tup [.int p.1, .str p.2]
def rowD (r : List (Nat × Str)) : D := .tup (r.map pairD)
def gearD (L : List D) (rows : List (List (Nat × Str))) : D := .tup [.ntup L, .tup (rows.map rowD)]
def WdL : List Str := ["", "x", "y", "no"]
/-- rows of n pairs, states below c -/
def RowsOk (n c : Nat) (rows : List (List (Nat × Str))) : Prop := ∀ r ∈ rows, r.length = n ∧ ∀ p ∈ r, p.1 < c ∧ p.2 ∈ WdL
structure GOk (n : Nat) (rows : List (List (Nat × Str))) : Prop where
  lo : 1 ≤ rows.length
  hi : rows.length ≤ 3
  ok : RowsOk n rows.length rows
theorem all_map {α : Type} {f : α → D} {Q : α → Prop} : ∀ {ys : List D}, (∀ y ∈ ys, ∃ p, y = f p ∧ Q p) → ∃ ps : List α, ys = ps.map f ∧ ∀ p ∈ ps, Q p
  | [], _ => ⟨[], rfl, fun _ h => by cases h⟩
  | y :: ys, h => by
    obtain ⟨p, h1, h2⟩ := h y List.mem_cons_self
    obtain ⟨ps, h3, h4⟩ := all_map (ys := ys) fun z hz => h z (List.mem_cons_of_mem _ hz)
    exact ⟨p :: ps, by rw [h1, h3]; rfl, fun z hz => by rcases List.mem_cons.mp hz with rfl | hz; exact h2; exact h4 z hz⟩
theorem words_ok {ns : List Int} {k : Nat} {s : S} {e : Mi.Env} {n : Nat} {i : Int} (h : RB ns k s) (hk : k < 80000) (he : e[0]? = some (.dat (.root 0))) :
    ∃ (w : Str) (s' : S), (m2 (mLst (aCons (Mi.ret (.str "")) (aCons (Mi.ret (.str "")) (aCons (Mi.ret (.str "x")) (aCons (Mi.ret (.str "y")) (aCons (Mi.ret (.str "no")) aNil)))))) (frzM (mCF (noXF (fnM 2 6 m_law_draw)) (aCons (mVar 0) (aCons (Mi.ret (.int 5)) aNil)))) (tp2 gIx)) e s = .ok (.str w) e s' ∧ w ∈ WdL ∧ RB ns (k + 1) s' := by
  obtain ⟨v, s', h1, h2, h3⟩ := draw_ok h (by omega) 5 5 rfl (by decide) (by decide)
  have hv : v = 0 ∨ v = 1 ∨ v = 2 ∨ v = 3 ∨ v = 4 := by omega
  clear h
  rcases hv with rfl | rfl | rfl | rfl | rfl
  · refine ⟨"", s', ?_, by simp [WdL], h3⟩
    walk_at "ev"
  · refine ⟨"", s', ?_, by simp [WdL], h3⟩
    walk_at "ev"
  · refine ⟨"x", s', ?_, by simp [WdL], h3⟩
    walk_at "ev"
  · refine ⟨"y", s', ?_, by simp [WdL], h3⟩
    walk_at "ev"
  · refine ⟨"no", s', ?_, by simp [WdL], h3⟩
    walk_at "ev"
abbrev grPair : M D := mTup (aCons (frzM (mCF (noXF (fnM 2 6 m_law_draw)) (aCons (mVar 0) (aCons (mVar 3) aNil)))) (aCons (m2 (mLst (aCons (Mi.ret (.str "")) (aCons (Mi.ret (.str "")) (aCons (Mi.ret (.str "x")) (aCons (Mi.ret (.str "y")) (aCons (Mi.ret (.str "no")) aNil)))))) (frzM (mCF (noXF (fnM 2 6 m_law_draw)) (aCons (mVar 0) (aCons (Mi.ret (.int 5)) aNil)))) (tp2 gIx)) aNil))
theorem grPair_ok {ns : List Int} {k : Nat} {s : S} {e : Mi.Env} {c : Nat} (h : RB ns k s) (hk : k < 70000) (he : e[0]? = some (.dat (.root 0))) (h3 : e[3]? = some (.dat (.int (c : Int)))) (hc : 0 < c) (hc2 : c ≤ 3) :
    ∃ y s', grPair e s = .ok y e s' ∧ (∃ p, y = pairD p ∧ p.1 < c ∧ p.2 ∈ WdL) ∧ RB ns (k + 2) s' := by
  obtain ⟨v, s1, a1, a2, a3⟩ := draw_ok h (by omega) c c rfl hc (by omega)
  obtain ⟨w, s2, b1, b2, b3⟩ := words_ok (n := 0) (i := 0) a3 (by omega) he
  refine ⟨pairD (v, w), s2, ?_, ⟨_, rfl, a2, b2⟩, b3⟩
  clear h
  unfold grPair
  generalize m2 (mLst (aCons (Mi.ret (.str "")) (aCons (Mi.ret (.str "")) (aCons (Mi.ret (.str "x")) (aCons (Mi.ret (.str "y")) (aCons (Mi.ret (.str "no")) aNil)))))) (frzM (mCF (noXF (fnM 2 6 m_law_draw)) (aCons (mVar 0) (aCons (Mi.ret (.int 5)) aNil)))) (tp2 gIx) = W at b1 ⊢
  walk_at "ev"
  rfl
theorem gear_ok {ns : List Int} {k : Nat} {s : S} (h : RB ns k s) (hk : k < 60000) (L : List D) (hL : L ∈ SgnL) : ∃ rows s', fnM 2 6 m_law_gear [.root 0, .ntup L] s = .ok (.dat (gearD L rows)) [] s' ∧ GOk L.length rows ∧ RB ns (k + 20) s' := by
  obtain ⟨v, s1, a1, a2, a3⟩ := draw_ok h (by omega) 3 3 rfl (by decide) (by decide)
  have hLl : L.length ≤ 3 := by
    simp [SgnL] at hL
    rcases hL with rfl | rfl | rfl <;> decide
  have loop := sFor_st (it := iRng (mVar 3)) (g := tgN 2) (m := sApp 4 (mCall (aCons (frzM (mLc (iSeq (mVar 1)) [5] (tgN 5) (Mi.ret true) grPair)) aNil) (tpN gTuple))) (ds := upto (v + 1)) (s := s1) (s0 := s1)
    (e := [.dat (.root 0), .dat (.ntup L), .unb, .dat (.int ((1 : Int) + v)), .own [], .unb]) (e0 := [.dat (.root 0), .dat (.ntup L), .unb, .dat (.int ((1 : Int) + v)), .own [], .unb])
    (J := fun pre e s => ∃ x2 rows, e = [.dat (.root 0), .dat (.ntup L), x2, .dat (.int ((1 : Int) + v)), .own (rows.map rowD), .unb] ∧ rows.length = pre.length ∧ RowsOk L.length (v + 1) rows ∧ RB ns (k + 1 + 6 * pre.length) s) ?hi ⟨.unb, [], rfl, rfl, (fun _ h => by cases h), a3⟩ ?st
  case hi =>
    have q : (1 + (v : Int)).toNat = v + 1 := by omega
    have q2 : -(1000000 : Int) ≤ 1 + (v : Int) ∧ (1 : Int) + v ≤ 1000000 := by omega
    clear h hL
    walk_at "ev"
  case st =>
    intro pre d post e s2 hall ⟨x2, rows, he, hr, ho, hb⟩
    have hpl : pre.length + 1 ≤ v + 1 := by
      have := congrArg List.length hall
      simp [upto] at this
      omega
    have comp := lc_stm (it := iSeq (mVar 1)) (i := 5) (m := grPair) (e := [.dat (.root 0), .dat (.ntup L), .dat d, .dat (.int ((1 : Int) + v)), .own (rows.map rowD), .unb]) (e0 := [.dat (.root 0), .dat (.ntup L), .dat d, .dat (.int ((1 : Int) + v)), .own (rows.map rowD), .unb]) (s := s2) (s0 := s2) (ds := L)
      (J := fun j s => RB ns (k + 1 + 6 * pre.length + 2 * j) s) (P := fun y => ∃ p, y = pairD p ∧ p.1 < v + 1 ∧ p.2 ∈ WdL) rfl (Nat.le_trans hLl (by decide)) rfl hb (fun d' hd' j s3 hjl hj => ?_)
    · obtain ⟨ys, s3, c1, c2, c3, c4⟩ := comp
      obtain ⟨ps, rfl, hps⟩ := all_map c2
      have hrl : rows.length < 1000000 := by omega
      have hrl2 : pre.length < 1000000 := by omega
      refine ⟨[.dat (.root 0), .dat (.ntup L), .dat d, .dat (.int ((1 : Int) + v)), .own (rows.map rowD), .unb], [.dat (.root 0), .dat (.ntup L), .dat d, .dat (.int ((1 : Int) + v)), .own ((rows ++ [ps]).map rowD), .unb], s3, ?_, ?_, .dat d, rows ++ [ps], rfl, ?_, ?_, ?_⟩
      · rw [he]
        rfl
      · clear h hL c2 hps ho he
        walk_at "ev"
        rfl
      · simp [hr]
      · intro r hr2
        rcases List.mem_append.mp hr2 with hr2 | hr2
        · exact ho r hr2
        · rw [List.mem_singleton] at hr2
          subst hr2
          exact ⟨by simpa using c3, hps⟩
      · refine c4.mono ?_
        rw [List.length_append, List.length_singleton]
        omega
    · obtain ⟨y, s4, g1, g2, g3⟩ := grPair_ok (e := [.dat (.root 0), .dat (.ntup L), .dat d, .dat (.int ((1 : Int) + v)), .own (rows.map rowD), .dat d']) (c := v + 1) hj (by omega) rfl (by
        show some (B.dat (.int ((1 : Int) + v))) = _
        rw [Int.add_comm]
        rfl) (by omega) (by omega)
      exact ⟨y, s4, g1, g2, g3⟩
  obtain ⟨e', s', l1, x2, rows, rfl, l2, l3, l4⟩ := loop
  have hl : rows.length = v + 1 := by rw [l2]; simp [upto]
  refine ⟨rows, s', ?_, ⟨by omega, by omega, by rw [hl]; exact l3⟩, l4.mono (by simp [upto]; omega)⟩
  clear h hL l3
  unfold grPair at l1
  unfold fnM m_law_gear
  walk_at "ev"
  rfl
end Lw

set_option Elab.async false
set_option linter.all false
set_option autoImplicit false
set_option maxRecDepth 100000
set_option maxHeartbeats 4000000
/-! K78, the plain law: the reference state; what is said; true states. -/
namespace Lw
open PySem L2 Mi
local macro_rules | `(tactic| walk_at "ev") => `(tactic| simp [v_ret, v_bnd, v_some, v_none, v_asB, v_tNo, v_tAn, v_tOrr, v_ofB, v_mAn, v_mOrr, v_mNo, v_mIf, v_c3, v_aNil, v_aCons, v_mTup, v_mLst, v_mNtup, v_mLstF, v_m2, v_m1, v_c2, v_mC, v_pNone, v_pSome, v_mSl, v_mCall, v_tIsi, v_frzM, v_datM, v_sNx, v_sSeq, v_sDrop, v_sRet, v_sSet, v_sIf, v_mCF, v_noXF, v_noX, v_iSeq, v_iZip, v_iRng, v_iEnu, v_sUnp, v_tgN, v_tgsNil, v_tgsCons, v_sRaise2, v_sRetV, v_sTry, v_mIxF, v_tNiF, v_sPar, v_bNil, v_bCons, v_fAdd, v_mDix, v_sDst, v_mDcp, v_mSrtSet, v_mTix, v_mRev, v_mVar, v_sApp, w_add, w_sub, w_ixT, w_ixN, w_ixL, w_addT, w_addNT, w_lenT, w_lenN, w_lenL, w_lenS, w_ltI, w_leI, w_gtI, w_geI, w_leI0, w_ltI0, w_eqI, w_neI, w_eqS, w_neS, w_isI, w_isS, w_isT, w_isN, w_isL, w_isB, w_isO, B.frz, List.replicate, w_slT, w_slL, w_topT, w_topN, w_topL, w_zipT, w_gItT, w_gItN, w_gItL, w_tgT, cut1, w_at0, w_at1, w_at2, w_lim, w_ite, putAll, w_at3, w_at4, w_at5, w_tupL, w_tupT, w_tupN, w_lstL, w_lstT, w_intI, w_intB, w_topI, w_topS, w_addII, w_addTT, str_inj, str_beq, v_tNiT, v_sTst, v_mSrtT, v_mCV, w_addLL, w_revT, *])
def HushL : List D := [.str "no", .str "x", .str "y", .str "zz"]
theorem hush_ok {ns : List Int} {k : Nat} {s : S} (h : RB ns k s) (hk : k < 60000) : ∃ q s', fnM 1 2 m_law_hush [.root 0] s = .ok (.dat (.tup q)) [] s' ∧ (∀ y ∈ q, y ∈ HushL) ∧ q.length ≤ 4 ∧ RB ns (k + 4) s' := by
  have comp := mLc_st (it := iSeq (mTup (aCons (Mi.ret (.str "no")) (aCons (Mi.ret (.str "x")) (aCons (Mi.ret (.str "y")) (aCons (Mi.ret (.str "zz")) aNil)))))) (vs := [1]) (g := tgN 1) (t := c2 (frzM (mCF (noXF (fnM 2 6 m_law_draw)) (aCons (mVar 0) (aCons (Mi.ret (.int 3)) aNil)))) (Mi.ret (.int 0)) (tp2 cEq)) (m := mVar 1)
    (e := [.dat (.root 0), .unb]) (e' := [.dat (.root 0), .unb]) (e0 := [.dat (.root 0), .unb]) (s := s) (s0 := s) (ds := HushL) (J := fun i s => RB ns (k + i) s) (P := fun y => y ∈ HushL) rfl (by decide) rfl h (fun d hd i s1 hi hj => ?_)
  · obtain ⟨ys, s', h1, h2, h3, h4⟩ := comp
    refine ⟨ys, s', ?_, h2, h3, h4⟩
    clear h h2
    unfold fnM m_law_hush
    walk_at "ev"
  · obtain ⟨v, s2, a1, a2, a3⟩ := draw_ok hj (by simp [HushL] at hi; omega) 3 3 rfl (by decide) (by decide)
    refine ⟨[.dat (.root 0), .dat d], [.dat (.root 0), .dat d], ((v : Int) == 0), s2, rfl, ?_, fun _ => ⟨rfl, a3⟩, fun _ => ⟨d, [.dat (.root 0), .dat d], s2, rfl, rfl, hd, a3⟩⟩
    clear h hd hj hi
    walk_at "ev"
def KS : List Key := [.inr "head", .inr "gears", .inr "know", .inr "live", .inr "state", .inr "quiet", .inr "acts", .inr "heard", .inr "told"]
section
variable (a b c d e f g h i y : D)
theorem lk_head : lookK KS [a, b, c, d, e, f, g, h, i] (.inr "head") = some a := rfl
theorem lk_gears : lookK KS [a, b, c, d, e, f, g, h, i] (.inr "gears") = some b := rfl
theorem lk_know : lookK KS [a, b, c, d, e, f, g, h, i] (.inr "know") = some c := rfl
theorem lk_live : lookK KS [a, b, c, d, e, f, g, h, i] (.inr "live") = some d := rfl
theorem lk_state : lookK KS [a, b, c, d, e, f, g, h, i] (.inr "state") = some e := rfl
theorem lk_quiet : lookK KS [a, b, c, d, e, f, g, h, i] (.inr "quiet") = some f := rfl
theorem lk_acts : lookK KS [a, b, c, d, e, f, g, h, i] (.inr "acts") = some g := rfl
theorem lk_heard : lookK KS [a, b, c, d, e, f, g, h, i] (.inr "heard") = some h := rfl
theorem lk_told : lookK KS [a, b, c, d, e, f, g, h, i] (.inr "told") = some i := rfl
theorem tg_gears (env : Mi.Env) (j : Nat) (hj : env[j]? = some (.ownK KS [a, b, c, d, e, f, g, h, i])) : tgD j "gears" y env = some (env.set j (.ownK KS [a, y, c, d, e, f, g, h, i])) := by
  unfold tgD
  rw [hj]
  rfl
theorem tg_know (env : Mi.Env) (j : Nat) (hj : env[j]? = some (.ownK KS [a, b, c, d, e, f, g, h, i])) : tgD j "know" y env = some (env.set j (.ownK KS [a, b, y, d, e, f, g, h, i])) := by
  unfold tgD
  rw [hj]
  rfl
theorem tg_live (env : Mi.Env) (j : Nat) (hj : env[j]? = some (.ownK KS [a, b, c, d, e, f, g, h, i])) : tgD j "live" y env = some (env.set j (.ownK KS [a, b, c, y, e, f, g, h, i])) := by
  unfold tgD
  rw [hj]
  rfl
theorem tg_state (env : Mi.Env) (j : Nat) (hj : env[j]? = some (.ownK KS [a, b, c, d, e, f, g, h, i])) : tgD j "state" y env = some (env.set j (.ownK KS [a, b, c, d, y, f, g, h, i])) := by
  unfold tgD
  rw [hj]
  rfl
theorem tg_quiet (env : Mi.Env) (j : Nat) (hj : env[j]? = some (.ownK KS [a, b, c, d, e, f, g, h, i])) : tgD j "quiet" y env = some (env.set j (.ownK KS [a, b, c, d, e, y, g, h, i])) := by
  unfold tgD
  rw [hj]
  rfl
theorem tg_acts (env : Mi.Env) (j : Nat) (hj : env[j]? = some (.ownK KS [a, b, c, d, e, f, g, h, i])) : tgD j "acts" y env = some (env.set j (.ownK KS [a, b, c, d, e, f, y, h, i])) := by
  unfold tgD
  rw [hj]
  rfl
theorem tg_heard (env : Mi.Env) (j : Nat) (hj : env[j]? = some (.ownK KS [a, b, c, d, e, f, g, h, i])) : tgD j "heard" y env = some (env.set j (.ownK KS [a, b, c, d, e, f, g, y, i])) := by
  unfold tgD
  rw [hj]
  rfl
theorem tg_told (env : Mi.Env) (j : Nat) (hj : env[j]? = some (.ownK KS [a, b, c, d, e, f, g, h, i])) : tgD j "told" y env = some (env.set j (.ownK KS [a, b, c, d, e, f, g, h, y])) := by
  unfold tgD
  rw [hj]
  rfl
end
/-- the reference state -/
structure MSt where
  L : List D
  gs : List (List (List (Nat × Str)))
  ks : List (List Int)
  l : Nat
  st : Nat
  q : List D
  as : List D
  hs : List D
  ts : List D
  hd : D
def MSt.vs (m : MSt) : List D := [m.hd, .tup (m.gs.map (gearD m.L)), .tup (m.ks.map tupI), .int m.l, .int m.st, .tup m.q, .tup m.as, .tup m.hs, .tup m.ts]
abbrev MSt.d (m : MSt) : D := .dK KS m.vs
def StdOk (gs : List (List (List (Nat × Str)))) (k : List Int) : Prop := k.length = gs.length ∧ ∀ (i : Nat) (g : List (List (Nat × Str))), gs[i]? = some g → ∃ x : Nat, k[i]? = some (x : Int) ∧ x < g.length
structure MOk (k : Nat) (m : MSt) : Prop where
  L : m.L ∈ SgnL
  g0 : 1 ≤ m.gs.length
  g3 : m.gs.length ≤ 3
  g : ∀ g ∈ m.gs, GOk m.L.length g
  kl : m.ks.length ≤ 27
  kk : ∀ k ∈ m.ks, StdOk m.gs k
  l : m.l < m.gs.length
  st : ∀ g, m.gs[m.l]? = some g → m.st < g.length
  q : plains m.q = true
  as : m.as.length ≤ k ∧ ∀ a ∈ m.as, Fit (10 ^ 30) 80 10 a
  hs : m.hs.length ≤ k
  ts : m.ts.length ≤ k
  hd : Fit (10 ^ 30) 80 10 m.hd
theorem model_of_ok (L : List D) (g : List (List (Nat × Str))) (q : List D) (s : S) :
    fnM 2 3 m_law_model_of [gearD L g, .tup q] s = .ok (.ownK KS (MSt.vs ⟨L, [g], [[0]], 0, 0, q, [], [], [], .tup [.str "service", gearD L g, .tup q]⟩)) [] s := by
  rfl
/-- what is said, as a tree -/
def sayD (rows : List (List (Nat × Str))) (q : List D) : Nat → Nat → D
  | 0, _ => .tup []
  | n + 1, a => .tup ((rows.getD a []).map fun p => .tup [.str (if (q.any fun z => dEq z (.str p.2)) = true then "" else p.2), sayD rows q n p.1])
theorem w_inS (w : Str) (q : List D) (h : plains q = true) : tp2 cIn (.str w) (.tup q) = some (q.any fun z => dEq z (.str w)) := by
  have e : inOk (.str w) q = true := by
    unfold inOk
    rw [h]
    rfl
  show cIn (.str w) (.tup q) = _
  have : cIn (.str w) (.tup q) = if inOk (.str w) q = true then some (q.any fun z => dEq z (.str w)) else none := rfl
  rw [this, if_pos e]
theorem gear_ix0 (L : List D) (g : List (List (Nat × Str))) : tp2 gIx (gearD L g) (.int 0) = some (.ntup L) := rfl
theorem gear_ix1 (L : List D) (g : List (List (Nat × Str))) : tp2 gIx (gearD L g) (.int 1) = some (.tup (g.map rowD)) := rfl
theorem saying_ok (L : List D) (n : Nat) (rows : List (List (Nat × Str))) (q : List D) (hq : plains q = true) (hn : n ≤ 3) (hr : GOk n rows) : ∀ (f dep a : Nat), dep < f → a < rows.length → ∀ s, f_law_saying f [gearD L rows, .int a, .int dep, .tup q] s = .ok (.dat (sayD rows q dep a)) [] s
  | f + 1, 0, a, _, _, s => rfl
  | f + 1, dep + 1, a, hf, ha, s => by
    have ih := saying_ok L n rows q hq hn hr f dep
    have hrow : rows[a]? = some (rows.getD a []) := by
      rw [List.getD_eq_getElem?_getD, List.getElem?_eq_getElem ha]
      rfl
    have hmem : rows.getD a [] ∈ rows := List.mem_of_getElem? hrow
    obtain ⟨r1, r2⟩ := hr.ok _ hmem
    generalize hR : rows.getD a [] = r at *
    let F : Nat × Str → D := fun p => .tup [.str (if (q.any fun z => dEq z (.str p.2)) = true then "" else p.2), sayD rows q dep p.1]
    have e0 : sayD rows q (dep + 1) a = .tup (r.map F) := by
      simp only [sayD, hR]
      rfl
    have loop := sFor_st (it := iSeq (m2 (m2 (mVar 0) (Mi.ret (.int 1)) (tp2 gIx)) (mVar 1) (tp2 gIx))) (g := tgT 2 (tgsCons (tgN 5) (tgsCons (tgN 6) tgsNil)))
      (m := sApp 4 (mTup (aCons (mIf (c2 (mVar 6) (mVar 3) (tp2 cIn)) (Mi.ret (.str "")) (mVar 6)) (aCons (frzM (mCF (noXF (f_law_saying f)) (aCons (mVar 0) (aCons (mVar 5) (aCons (m2 (mVar 2) (Mi.ret (.int 1)) (tp2 gSub)) (aCons (mVar 3) aNil)))))) aNil))))
      (ds := r.map pairD) (s := s) (s0 := s) (e := [.dat (gearD L rows), .dat (.int a), .dat (.int ((dep : Int) + 1)), .dat (.tup q), .own [], .unb, .unb]) (e0 := [.dat (gearD L rows), .dat (.int a), .dat (.int ((dep : Int) + 1)), .dat (.tup q), .own [], .unb, .unb])
      (J := fun pre e s' => ∃ x5 x6 pp, pre = pp.map pairD ∧ e = [.dat (gearD L rows), .dat (.int a), .dat (.int ((dep : Int) + 1)), .dat (.tup q), .own (pp.map F), x5, x6] ∧ s' = s) ?hi ⟨.unb, .unb, [], rfl, rfl, rfl⟩ ?st
    case hi =>
      have g1 := gear_ix1 L rows
      have g2 : atI (rows.map rowD) (a : Int) = some (rowD r) := by
        rw [Mi.atI_nat, List.getElem?_map, hrow]
        rfl
      have g3 : gIt (rowD r) = some (r.map pairD) := rfl
      clear ih r1 r2 hmem hrow e0
      walk_at "ev"
    case st =>
      rintro pre d post e s2 hall ⟨x5, x6, pp, hpre, rfl, rfl⟩
      have hd : d ∈ r.map pairD := by rw [hall]; simp
      obtain ⟨p, hp, rfl⟩ := List.mem_map.mp hd
      obtain ⟨p1, p2⟩ := r2 p hp
      have hc := ih p.1 (by omega) p1 s2
      have hi := w_inS p.2 q hq
      have hl : pp.length < 1000000 := by
        have := congrArg List.length hall
        rw [List.length_append, List.length_map, hpre, List.length_map, List.length_cons] at this
        omega
      refine ⟨[.dat (gearD L rows), .dat (.int a), .dat (.int ((dep : Int) + 1)), .dat (.tup q), .own (pp.map F), .dat (.int p.1), .dat (.str p.2)], [.dat (gearD L rows), .dat (.int a), .dat (.int ((dep : Int) + 1)), .dat (.tup q), .own ((pp ++ [p]).map F), .dat (.int p.1), .dat (.str p.2)], s2, rfl, ?_, .dat (.int p.1), .dat (.str p.2), pp ++ [p], by rw [hpre, List.map_append]; rfl, rfl, rfl⟩
      have hdep : (dep : Int) + 1 - 1 = (dep : Int) := by omega
      rw [List.map_append]
      have hF : [p].map F = [.tup [.str (if (q.any fun z => dEq z (.str p.2)) = true then "" else p.2), sayD rows q dep p.1]] := rfl
      rw [hF]
      generalize (q.any fun z => dEq z (.str p.2)) = bb at hi ⊢
      clear ih r1 r2 hmem hrow e0 hall hd hp hpre hF
      cases bb <;> walk_at "ev"
    obtain ⟨e', s', l1, x5, x6, pp, l2, rfl, rfl⟩ := loop
    have lq : pp = r := (List.map_inj_right fun x y h => by
      unfold pairD at h
      injection h with h
      simp at h
      exact Prod.ext (by omega) h.2).mp l2.symm
    subst lq
    rw [e0]
    have hz : ¬ ((dep : Int) + 1 = 0) := by omega
    clear ih r1 r2 hmem hrow e0 l2
    show fnM 4 7 (m_law_saying (f_law_saying f)) [gearD L rows, .int a, .int ((dep : Int) + 1), .tup q] s' = _
    unfold fnM m_law_saying
    walk_at "ev"
end Lw

set_option Elab.async false
set_option linter.all false
set_option autoImplicit false
set_option maxRecDepth 100000
set_option maxHeartbeats 4000000
/-! K78, the plain law: true states. -/
namespace Lw
open PySem L2 Mi
local macro_rules | `(tactic| walk_at "ev") => `(tactic| simp [v_ret, v_bnd, v_some, v_none, v_asB, v_tNo, v_tAn, v_tOrr, v_ofB, v_mAn, v_mOrr, v_mNo, v_mIf, v_c3, v_aNil, v_aCons, v_mTup, v_mLst, v_mNtup, v_mLstF, v_m2, v_m1, v_c2, v_mC, v_pNone, v_pSome, v_mSl, v_mCall, v_tIsi, v_frzM, v_datM, v_sNx, v_sSeq, v_sDrop, v_sRet, v_sSet, v_sIf, v_mCF, v_noXF, v_noX, v_iSeq, v_iZip, v_iRng, v_iEnu, v_sUnp, v_tgN, v_tgsNil, v_tgsCons, v_sRaise2, v_sRetV, v_sTry, v_mIxF, v_tNiF, v_sPar, v_bNil, v_bCons, v_fAdd, v_mDix, v_sDst, v_mDcp, v_mSrtSet, v_mTix, v_mRev, v_mVar, v_sApp, w_add, w_sub, w_ixT, w_ixN, w_ixL, w_addT, w_addNT, w_lenT, w_lenN, w_lenL, w_lenS, w_ltI, w_leI, w_gtI, w_geI, w_leI0, w_ltI0, w_eqI, w_neI, w_eqS, w_neS, w_isI, w_isS, w_isT, w_isN, w_isL, w_isB, w_isO, B.frz, List.replicate, w_slT, w_slL, w_topT, w_topN, w_topL, w_zipT, w_gItT, w_gItN, w_gItL, w_tgT, cut1, w_at0, w_at1, w_at2, w_lim, w_ite, putAll, w_at3, w_at4, w_at5, w_tupL, w_tupT, w_tupN, w_lstL, w_lstT, w_intI, w_intB, w_topI, w_topS, w_addII, w_addTT, str_inj, str_beq, v_tNiT, v_sTst, v_mSrtT, v_mCV, w_addLL, w_revT, *])
/-- a comprehension that may change the names' bindings -/
theorem lcL_env {vs : List Nat} {g : Tg} {t : M Bool} {m : M D} {s : S} {E : Mi.Env → Prop} {k : D → Bool} {f : D → D} : ∀ {ds : List D} {e : Mi.Env}, E (clr vs e) →
    (∀ d ∈ ds, ∀ e, E e → ∃ e1 e2, g d e = some e1 ∧ t e1 s = .ok (k d) e2 s ∧ (k d = false → E (clr vs e2)) ∧ (k d = true → ∃ e3, m e2 s = .ok (f d) e3 s ∧ E (clr vs e3))) →
    ∃ e', lcL vs g (noX t) (noX m) ds e s = .ok ((ds.filter k).map f) e' s ∧ E e'
  | [], e, h0, _ => ⟨clr vs e, rfl, h0⟩
  | d :: ds, e, h0, h => by
    obtain ⟨e1, e2, h1, h2, h3, h4⟩ := h d List.mem_cons_self _ h0
    have ih := fun {e : Mi.Env} (q : E (clr vs e)) => lcL_env (ds := ds) q fun x hx => h x (List.mem_cons_of_mem _ hx)
    unfold lcL
    rw [h1]
    show ∃ e', bnd (noX t) _ e1 s = _ ∧ _
    rw [bnd_ok (noX_is h2)]
    by_cases hk : k d = true
    · obtain ⟨e3, h5, h6⟩ := h4 hk
      obtain ⟨e', q1, q2⟩ := ih h6
      rw [if_pos hk, bnd_ok (noX_is h5), bnd_ok q1, List.filter_cons_of_pos hk]
      exact ⟨e', rfl, q2⟩
    · obtain ⟨e', q1, q2⟩ := ih (h3 (by simpa using hk))
      rw [if_neg hk, q1, List.filter_cons_of_neg hk]
      exact ⟨e', rfl, q2⟩
theorem mLc_env {it : M (List D)} {vs : List Nat} {g : Tg} {t : M Bool} {m : M D} {s : S} {e e0 : Mi.Env} {ds : List D} {E : Mi.Env → Prop} (k : D → Bool) (f : D → D) (hi : it e s = .ok ds e0 s) (hl : ds.length ≤ lim) (h0 : E (clr vs e0))
    (h : ∀ d ∈ ds, ∀ e, E e → ∃ e1 e2, g d e = some e1 ∧ t e1 s = .ok (k d) e2 s ∧ (k d = false → E (clr vs e2)) ∧ (k d = true → ∃ e3, m e2 s = .ok (f d) e3 s ∧ E (clr vs e3))) : ∃ e', mLc it vs g t m e s = .ok (.own ((ds.filter k).map f)) e' s ∧ E e' := by
  obtain ⟨e', q1, q2⟩ := lcL_env (k := k) (f := f) h0 h
  refine ⟨e', ?_, q2⟩
  unfold mLc
  rw [bnd_ok hi, if_pos hl, bnd_ok q1]
  rfl
theorem sayD_plain (rows : List (List (Nat × Str))) (q : List D) : ∀ n a, (sayD rows q n a).plain = true ∧ (sayD rows q n a).dep ≤ 2 * n + 1
  | 0, a => ⟨rfl, by simp only [sayD, D.dep, deps]; omega⟩
  | n + 1, a => by
    have ih := sayD_plain rows q n
    simp only [sayD, D.plain, D.dep]
    refine ⟨plains_mem.mpr fun d hd => ?_, ?_⟩
    · obtain ⟨p, _, rfl⟩ := List.mem_map.mp hd
      simp [D.plain, plains, (ih p.1).1]
    · have : deps ((rows.getD a []).map fun p => D.tup [.str (if (q.any fun z => dEq z (.str p.2)) = true then "" else p.2), sayD rows q n p.1]) ≤ 2 * n + 2 := deps_le.mpr fun d hd => by
        obtain ⟨p, _, rfl⟩ := List.mem_map.mp hd
        have := (ih p.1).2
        simp only [D.dep, deps]
        omega
      omega
theorem w_neT {a b : D} (ha : a.plain = true) (hb : b.plain = true) (h : a.dep ≤ 60) : tp2 cNe a b = some (!dEq a b) := by
  have e : eqable a.top b.top = true := by
    unfold eqable
    have : min a.dep b.dep ≤ 60 := Nat.le_trans (Nat.min_le_left _ _) h
    rw [top_plain, top_plain, top_dep, top_dep, ha, hb]
    simp [this]
  show cNe a.top b.top = _
  unfold cNe
  rw [if_pos e]
  unfold dEq
  rw [top_py, top_py]
/-- whether a state says what all these say -/
def trB (rows : List (List (Nat × Str))) (q : List D) (ps : List Nat) (a : Nat) : Bool := ps.all fun p => dEq (sayD rows q rows.length p) (sayD rows q rows.length a)
def trP (rows : List (List (Nat × Str))) (q : List D) (ps : List Nat) : D → Bool
  | .int a => trB rows q ps a.toNat
  | _ => false
def natD (n : Nat) : D := .int (n : Int)
theorem upto_eq (n : Nat) : upto n = (List.range n).map natD := rfl
def neP (rows : List (List (Nat × Str))) (q : List D) (a : Nat) : D → Bool
  | .int p => !dEq (sayD rows q rows.length p.toNat) (sayD rows q rows.length a)
  | _ => false
theorem ne_empty (rows : List (List (Nat × Str))) (q : List D) (ps : List Nat) (a : Nat) : ((ps.map natD).filter (neP rows q a)).isEmpty = trB rows q ps a := by
  unfold trB
  induction ps with
  | nil => rfl
  | cons p ps ih =>
    rw [List.map_cons, List.all_cons, ← ih]
    cases h : dEq (sayD rows q rows.length p) (sayD rows q rows.length a) with
    | true =>
      rw [List.filter_cons_of_neg (by show ¬ (!dEq (sayD rows q rows.length p) (sayD rows q rows.length a)) = true; rw [h]; decide)]
      rfl
    | false =>
      rw [List.filter_cons_of_pos (by show (!dEq (sayD rows q rows.length p) (sayD rows q rows.length a)) = true; rw [h]; rfl)]
      rfl
theorem plains_nat (ps : List Nat) : plains (ps.map natD) = true := plains_mem.mpr fun d hd => by
  obtain ⟨p, _, rfl⟩ := List.mem_map.mp hd
  rfl
theorem true_of_ok (L : List D) (n : Nat) (rows : List (List (Nat × Str))) (q : List D) (ps : List Nat) (hq : plains q = true) (hn : n ≤ 3) (hr : GOk n rows) (hp : ∀ p ∈ ps, p < rows.length) (hl : ps.length ≤ 1000) (s : S) :
    fnM 3 7 m_law_true_of [gearD L rows, .lst (ps.map natD), .tup q] s = .ok (.own ((upto rows.length).filter (trP rows q ps))) [] s := by
  have hr3 := hr.hi
  have hT : ∀ a, a < rows.length → ((List.range rows.length).map fun a => sayD rows q rows.length a)[a]? = some (sayD rows q rows.length a) := fun a ha => by
    simp [ha]
  have g1 := gear_ix1 L rows
  have hlen : (upto rows.length).length ≤ lim := by simp [upto]; unfold lim; omega
  have it1 : ∀ x4 x5 x6, iRng (mVar 3) [B.dat (gearD L rows), B.dat (.lst (ps.map natD)), B.dat (.tup q), B.dat (.int (rows.length : Int)), x4, x5, x6] s = .ok (upto rows.length) [B.dat (gearD L rows), B.dat (.lst (ps.map natD)), B.dat (.tup q), B.dat (.int (rows.length : Int)), x4, x5, x6] s := fun x4 x5 x6 => by
    have q2 : -(1000000 : Int) ≤ (rows.length : Int) := by omega
    have q4 : (rows.length : Int) ≤ 1000000 := by omega
    have q3 : ((rows.length : Int)).toNat = rows.length := by omega
    have q5 : rows.length ≤ 1000000 := by omega
    clear hT hp
    walk_at "ev"
  have c1 := lc_map (it := iRng (mVar 3)) (i := 5) (m := frzM (mCF (noXF (f_law_saying 5)) (aCons (mVar 0) (aCons (mVar 5) (aCons (mVar 3) (aCons (mVar 2) aNil)))))) (s := s) (e := [B.dat (gearD L rows), B.dat (.lst (ps.map natD)), B.dat (.tup q), B.dat (.int (rows.length : Int)), .unb, .unb, .unb]) (e0 := [B.dat (gearD L rows), B.dat (.lst (ps.map natD)), B.dat (.tup q), B.dat (.int (rows.length : Int)), .unb, .unb, .unb]) (ds := upto rows.length)
    (fun d => match d with | .int a => sayD rows q rows.length a.toNat | _ => .non) (it1 _ _ _) hlen rfl ?h2
  case h2 =>
    intro d hd
    rw [upto_eq] at hd
    obtain ⟨a, ha, rfl⟩ := List.mem_map.mp hd
    rw [List.mem_range] at ha
    have hs := saying_ok L n rows q hq hn hr 5 rows.length a (by omega) ha s
    clear hT hp it1
    unfold natD
    walk_at "ev"
  have e1 : (upto rows.length).map (fun d => match d with | .int a => sayD rows q rows.length a.toNat | _ => .non) = ((List.range rows.length).map fun a => sayD rows q rows.length a) := by
    rw [upto_eq, List.map_map]
    rfl
  rw [e1] at c1
  have c2 := mLc_env (it := iRng (mVar 3)) (vs := [5]) (g := tgN 5) (t := c2 (frzM (mLc (iSeq (mVar 1)) [6] (tgN 6) (c2 (m2 (mVar 4) (mVar 6) (tp2 gIx)) (m2 (mVar 4) (mVar 5) (tp2 gIx)) (tp2 cNe)) (mVar 6))) (mLst aNil) (tp2 cEq)) (m := mVar 5) (s := s)
    (e := [B.dat (gearD L rows), B.dat (.lst (ps.map natD)), B.dat (.tup q), B.dat (.int (rows.length : Int)), .own ((List.range rows.length).map fun a => sayD rows q rows.length a), .unb, .unb]) (e0 := [B.dat (gearD L rows), B.dat (.lst (ps.map natD)), B.dat (.tup q), B.dat (.int (rows.length : Int)), .own ((List.range rows.length).map fun a => sayD rows q rows.length a), .unb, .unb]) (ds := upto rows.length)
    (E := fun e => e = [B.dat (gearD L rows), B.dat (.lst (ps.map natD)), B.dat (.tup q), B.dat (.int (rows.length : Int)), .own ((List.range rows.length).map fun a => sayD rows q rows.length a), .unb, .unb] ∨ e = [B.dat (gearD L rows), B.dat (.lst (ps.map natD)), B.dat (.tup q), B.dat (.int (rows.length : Int)), .dat (.lst ((List.range rows.length).map fun a => sayD rows q rows.length a)), .unb, .unb]) (trP rows q ps) (fun d => d) (it1 _ _ _) hlen (.inl rfl) ?h3
  case h3 =>
    intro d hd e he
    rw [upto_eq] at hd
    obtain ⟨a, ha, rfl⟩ := List.mem_map.mp hd
    rw [List.mem_range] at ha
    have ic := mLc_env (it := iSeq (mVar 1)) (vs := [6]) (g := tgN 6) (t := c2 (m2 (mVar 4) (mVar 6) (tp2 gIx)) (m2 (mVar 4) (mVar 5) (tp2 gIx)) (tp2 cNe)) (m := mVar 6) (s := s)
      (e := e.set 5 (.dat (natD a))) (e0 := e.set 5 (.dat (natD a))) (ds := ps.map natD)
      (E := fun e => e = [B.dat (gearD L rows), B.dat (.lst (ps.map natD)), B.dat (.tup q), B.dat (.int (rows.length : Int)), .own ((List.range rows.length).map fun a => sayD rows q rows.length a), .dat (natD a), .unb] ∨ e = [B.dat (gearD L rows), B.dat (.lst (ps.map natD)), B.dat (.tup q), B.dat (.int (rows.length : Int)), .dat (.lst ((List.range rows.length).map fun a => sayD rows q rows.length a)), .dat (natD a), .unb]) (neP rows q a) (fun d => d) ?i1 (by rw [List.length_map]; exact Nat.le_trans hl (by decide)) ?i2 ?i3
    case i1 => rcases he with rfl | rfl <;> rfl
    case i2 =>
      rcases he with rfl | rfl
      · exact .inl rfl
      · exact .inr rfl
    case i3 =>
      intro d2 hd2 e2 he2
      obtain ⟨p, hp2, rfl⟩ := List.mem_map.mp hd2
      have hpl := hp p hp2
      have t1 := hT p hpl
      have t2 := hT a ha
      have b1 : atI ((List.range rows.length).map fun a => sayD rows q rows.length a) (p : Int) = some (sayD rows q rows.length p) := by rw [Mi.atI_nat]; exact t1
      have b2 : atI ((List.range rows.length).map fun a => sayD rows q rows.length a) (a : Int) = some (sayD rows q rows.length a) := by rw [Mi.atI_nat]; exact t2
      have s1 := sayD_plain rows q rows.length p
      have s2 := sayD_plain rows q rows.length a
      have ne := w_neT s1.1 s2.1 (by omega)
      refine ⟨e2.set 6 (.dat (natD p)), [B.dat (gearD L rows), B.dat (.lst (ps.map natD)), B.dat (.tup q), B.dat (.int (rows.length : Int)), .dat (.lst ((List.range rows.length).map fun a => sayD rows q rows.length a)), .dat (natD a), .dat (natD p)], rfl, ?_, fun _ => .inr rfl, fun _ => ⟨[B.dat (gearD L rows), B.dat (.lst (ps.map natD)), B.dat (.tup q), B.dat (.int (rows.length : Int)), .dat (.lst ((List.range rows.length).map fun a => sayD rows q rows.length a)), .dat (natD a), .dat (natD p)], rfl, .inr rfl⟩⟩
      clear hT t1 t2 s1 s2 hp c1 it1 e1 hd2
      have en : neP rows q a (natD p) = !dEq (sayD rows q rows.length p) (sayD rows q rows.length a) := rfl
      rw [en]
      generalize ((List.range rows.length).map fun a => sayD rows q rows.length a) = T at *
      unfold natD at *
      rcases he2 with rfl | rfl <;> walk_at "ev"
    obtain ⟨e3, i4, i5⟩ := ic
    rw [List.map_id'] at i4
    have ie := ev_eq_nil (plains_filter (neP rows q a) (plains_nat ps))
    rw [ne_empty] at ie
    refine ⟨e.set 5 (.dat (natD a)), e3, rfl, ?_, fun _ => ?_, fun _ => ⟨e3, ?_, ?_⟩⟩
    · have et : trP rows q ps (natD a) = trB rows q ps a := rfl
      rw [et]
      clear hT hp c1 it1 e1 he i5
      walk_at "ev"
    · rcases i5 with rfl | rfl
      · exact .inl rfl
      · exact .inr rfl
    · rcases i5 with rfl | rfl <;> rfl
    · rcases i5 with rfl | rfl
      · exact .inl rfl
      · exact .inr rfl
  obtain ⟨e', c3, _⟩ := c2
  rw [List.map_id'] at c3
  have hlr : tpN gLen [.tup (rows.map rowD)] = some (.int (rows.length : Int)) := by
    show some (D.int ((rows.map rowD).length : Int)) = _
    rw [List.length_map]
  clear hT hp it1 e1
  generalize ((List.range rows.length).map fun a => sayD rows q rows.length a) = T at *
  unfold fnM m_law_true_of
  walk_at "ev"
end Lw

set_option Elab.async false
set_option linter.all false
set_option autoImplicit false
set_option maxRecDepth 100000
set_option maxHeartbeats 4000000
/-! K78, the plain law: places, readiness. -/
namespace Lw
open PySem L2 Mi
local macro_rules | `(tactic| walk_at "ev") => `(tactic| simp [v_ret, v_bnd, v_some, v_none, v_asB, v_tNo, v_tAn, v_tOrr, v_ofB, v_mAn, v_mOrr, v_mNo, v_mIf, v_c3, v_aNil, v_aCons, v_mTup, v_mLst, v_mNtup, v_mLstF, v_m2, v_m1, v_c2, v_mC, v_pNone, v_pSome, v_mSl, v_mCall, v_tIsi, v_frzM, v_datM, v_sNx, v_sSeq, v_sDrop, v_sRet, v_sSet, v_sIf, v_mCF, v_noXF, v_noX, v_iSeq, v_iZip, v_iRng, v_iEnu, v_sUnp, v_tgN, v_tgsNil, v_tgsCons, v_sRaise2, v_sRetV, v_sTry, v_mIxF, v_tNiF, v_sPar, v_bNil, v_bCons, v_fAdd, v_mDix, v_sDst, v_mDcp, v_mSrtSet, v_mTix, v_mRev, v_mVar, v_sApp, w_add, w_sub, w_ixT, w_ixN, w_ixL, w_addT, w_addNT, w_lenT, w_lenN, w_lenL, w_lenS, w_ltI, w_leI, w_gtI, w_geI, w_leI0, w_ltI0, w_eqI, w_neI, w_eqS, w_neS, w_isI, w_isS, w_isT, w_isN, w_isL, w_isB, w_isO, B.frz, List.replicate, w_slT, w_slL, w_topT, w_topN, w_topL, w_zipT, w_gItT, w_gItN, w_gItL, w_tgT, cut1, w_at0, w_at1, w_at2, w_lim, w_ite, putAll, w_at3, w_at4, w_at5, w_tupL, w_tupT, w_tupN, w_lstL, w_lstT, w_intI, w_intB, w_topI, w_topS, w_addII, w_addTT, str_inj, str_beq, v_tNiT, v_sTst, v_mSrtT, v_mCV, w_addLL, w_revT, *])
theorem mem_insK {α : Type} {f : α → Int} {x y : α} : ∀ {ys : List α}, y ∈ insK f x ys → y = x ∨ y ∈ ys
  | [], h => by
    rw [insK, List.mem_singleton] at h
    exact .inl h
  | z :: ys, h => by
    unfold insK at h
    split at h
    · rcases List.mem_cons.mp h with h | h
      · exact .inl h
      · exact .inr h
    · split at h
      · exact .inr h
      · rcases List.mem_cons.mp h with rfl | h
        · exact .inr List.mem_cons_self
        · rcases mem_insK h with h | h
          · exact .inl h
          · exact .inr (List.mem_cons_of_mem _ h)
theorem mem_srtK {α : Type} {f : α → Int} {y : α} : ∀ {xs : List α}, y ∈ srtK f xs → y ∈ xs
  | [], h => by cases h
  | x :: xs, h => by
    rcases mem_insK h with rfl | h
    · exact List.mem_cons_self
    · exact List.mem_cons_of_mem _ (mem_srtK h)
theorem len_insK {α : Type} {f : α → Int} {x : α} : ∀ ys : List α, (insK f x ys).length ≤ ys.length + 1
  | [] => Nat.le_refl _
  | y :: ys => by
    have := len_insK (f := f) (x := x) ys
    unfold insK
    split
    · exact Nat.le_refl _
    · split
      · exact Nat.le_succ _
      · rw [List.length_cons, List.length_cons]
        omega
theorem len_srtK {α : Type} {f : α → Int} : ∀ xs : List α, (srtK f xs).length ≤ xs.length
  | [] => Nat.le_refl _
  | x :: xs => by
    have h1 := len_srtK (f := f) xs
    have h2 := len_insK (f := f) (x := x) (srtK f xs)
    show (insK f x (srtK f xs)).length ≤ _
    rw [List.length_cons]
    omega
theorem intsOf_map : ∀ ns : List Int, intsOf (ns.map D.int) = some ns
  | [] => rfl
  | n :: ns => by
    show (intsOf (ns.map D.int)).map (n :: ·) = _
    rw [intsOf_map ns]
    rfl
theorem srt_ints (ns : List Int) (h : ns.length < 64) : gSrtSet (.lst (ns.map D.int)) = some (.lst ((srtK (fun i : Int => i) ns).map .int)) := by
  have e : gSrtSet (.lst (ns.map D.int)) = (match intsOf (ns.map D.int) with
      | some ns => if ns.length < 64 then some (.lst ((srtK (fun i : Int => i) ns).map .int)) else none
      | none => match tupsOf (ns.map D.int) with
        | some (k :: ks) => if (k :: ks).length < 64 ∧ 1 ≤ k.length ∧ ((k :: ks).all fun n => decide (n.length = k.length) && bdB n) = true then some (.lst ((srtK (TS.code 1000) (k :: ks)).map tupI)) else none
        | _ => none) := rfl
  rw [e, intsOf_map]
  exact if_pos h
/-- place i of each standing -/
def plD (i : Nat) : D → D
  | .tup xs => xs.getD i .non
  | _ => .non
theorem places_ok {k : Nat} {m : MSt} (hm : MOk k m) (i : Nat) (g : List (List (Nat × Str))) (hg : m.gs[i]? = some g) :
    ∃ ps : List Nat, (∀ s, fnM 2 3 m_law_places [m.d, .int i] s = .ok (.dat (.lst (ps.map natD))) [] s) ∧ (∀ p ∈ ps, p < g.length) ∧ ps.length ≤ 27 := by
  have e1 : ∃ ns : List Int, (m.ks.map tupI).map (plD i) = ns.map D.int ∧ ns.length = m.ks.length ∧ ∀ n ∈ ns, ∃ p : Nat, n = (p : Int) ∧ p < g.length := by
    refine ⟨m.ks.map fun k => k.getD i 0, ?_, by rw [List.length_map], ?_⟩
    · rw [List.map_map, List.map_map]
      refine List.map_congr_left fun x hx => ?_
      obtain ⟨_, h2⟩ := hm.kk x hx
      obtain ⟨y, h3, _⟩ := h2 i g hg
      show ((x.map D.int).getD i .non) = D.int (x.getD i 0)
      rw [List.getD_eq_getElem?_getD, List.getD_eq_getElem?_getD, List.getElem?_map, h3]
      rfl
    · intro n hn
      obtain ⟨x, hx, rfl⟩ := List.mem_map.mp hn
      obtain ⟨_, h2⟩ := hm.kk x hx
      obtain ⟨y, h3, h4⟩ := h2 i g hg
      refine ⟨y, ?_, h4⟩
      rw [List.getD_eq_getElem?_getD, h3]
      rfl
  obtain ⟨ns, n1, n2, n3⟩ := e1
  have kl := hm.kl
  have sr := srt_ints ns (by omega)
  have sub : ∃ ps : List Nat, (srtK (fun i : Int => i) ns).map D.int = ps.map natD ∧ ∀ p ∈ ps, p < g.length := all_map fun y hy => by
    obtain ⟨z, hz, rfl⟩ := List.mem_map.mp hy
    obtain ⟨p, rfl, hp⟩ := n3 z (mem_srtK hz)
    exact ⟨p, rfl, hp⟩
  obtain ⟨ps, p1, p2⟩ := sub
  have pl : ps.length ≤ 27 := by
    have a := congrArg List.length p1
    rw [List.length_map, List.length_map] at a
    have b := len_srtK (f := fun i : Int => i) ns
    omega
  refine ⟨ps, fun s => ?_, p2, pl⟩
  have c := lc_map (it := iSeq (mDix 0 "know")) (i := 2) (m := m2 (mVar 2) (mVar 1) (tp2 gIx)) (s := s) (e := [.dat m.d, .dat (.int i), .unb]) (e0 := [.dat m.d, .dat (.int i), .unb]) (ds := m.ks.map tupI) (plD i) ?h1 (by rw [List.length_map]; exact Nat.le_trans hm.kl (by decide)) rfl ?h2
  case h1 =>
    unfold MSt.d MSt.vs
    have := lk_know m.hd (.tup (m.gs.map (gearD m.L))) (.tup (m.ks.map tupI)) (.int m.l) (.int m.st) (.tup m.q) (.tup m.as) (.tup m.hs) (.tup m.ts)
    clear hm n3 n1
    walk_at "ev"
  case h2 =>
    intro d hd
    obtain ⟨x, hx, rfl⟩ := List.mem_map.mp hd
    obtain ⟨_, h2⟩ := hm.kk x hx
    obtain ⟨y, h3, _⟩ := h2 i g hg
    have a1 : tp2 gIx (tupI x) (.int (i : Int)) = some (plD i (tupI x)) := by
      show atI (x.map D.int) (i : Int) = some ((x.map D.int).getD i .non)
      rw [Mi.atI_nat, List.getD_eq_getElem?_getD, List.getElem?_map, h3]
      rfl
    clear hm hd h2 n3 n1 hx
    walk_at "ev"
  rw [n1] at c
  rw [p1] at sr
  clear hm n3 n1 p2
  unfold fnM m_law_places
  walk_at "ev"
theorem true_ok {k : Nat} {m : MSt} (hm : MOk k m) (i : Nat) (g : List (List (Nat × Str))) (hg : m.gs[i]? = some g) (q : List D) (hq : plains q = true) :
    ∃ ps : List Nat, ∀ s, fnM 3 3 m_law_true [m.d, .int i, .tup q] s = .ok (.own ((upto g.length).filter (trP g q ps))) [] s := by
  obtain ⟨ps, h1, h2, h3⟩ := places_ok hm i g hg
  have hn : m.L.length ≤ 3 := by
    have := hm.L
    simp [SgnL] at this
    rcases this with h | h | h <;> rw [h] <;> decide
  have h4 := true_of_ok m.L m.L.length g q ps hq hn (hm.g g (List.mem_of_getElem? hg)) h2 (by omega)
  refine ⟨ps, fun s => ?_⟩
  have h1 := h1 s
  have h4 := h4 s
  have lk := lk_gears m.hd (.tup (m.gs.map (gearD m.L))) (.tup (m.ks.map tupI)) (.int m.l) (.int m.st) (.tup m.q) (.tup m.as) (.tup m.hs) (.tup m.ts)
  have ga : atI (m.gs.map (gearD m.L)) (i : Int) = some (gearD m.L g) := by
    rw [Mi.atI_nat, List.getElem?_map, hg]
    rfl
  unfold MSt.d MSt.vs at *
  clear hm h2 h3 hq
  unfold fnM m_law_true
  walk_at "ev"
theorem w_inI (i : Int) (q : List D) (h : plains q = true) : tp2 cIn (.int i) (.lst q) = some (q.any fun z => dEq z (.int i)) := by
  have e : inOk (.int i) q = true := by
    unfold inOk
    rw [h]
    rfl
  have : tp2 cIn (.int i) (.lst q) = if inOk (.int i) q = true then some (q.any fun z => dEq z (.int i)) else none := rfl
  rw [this, if_pos e]
theorem is_true_ok {k : Nat} {m : MSt} (hm : MOk k m) (q : List D) (hq : plains q = true) : ∃ b, ∀ s, fnM 2 2 m_law_is_true [m.d, .tup q] s = .ok (.dat (.bl b)) [] s := by
  obtain ⟨g, hg⟩ : ∃ g, m.gs[m.l]? = some g := ⟨_, List.getElem?_eq_getElem hm.l⟩
  obtain ⟨ps, h1⟩ := true_ok hm m.l g hg q hq
  have h2 := w_inI m.st ((upto g.length).filter (trP g q ps)) (plains_filter _ (plains_nat _))
  refine ⟨((upto g.length).filter (trP g q ps)).any fun z => dEq z (.int m.st), fun s => ?_⟩
  have h1 := h1 s
  have l1 := lk_live m.hd (.tup (m.gs.map (gearD m.L))) (.tup (m.ks.map tupI)) (.int m.l) (.int m.st) (.tup m.q) (.tup m.as) (.tup m.hs) (.tup m.ts)
  have l2 := lk_state m.hd (.tup (m.gs.map (gearD m.L))) (.tup (m.ks.map tupI)) (.int m.l) (.int m.st) (.tup m.q) (.tup m.as) (.tup m.hs) (.tup m.ts)
  unfold MSt.d MSt.vs at *
  clear hm hq hg
  generalize ((upto g.length).filter (trP g q ps)).any (fun z => dEq z (.int m.st)) = bb at h2 ⊢
  unfold fnM m_law_is_true
  walk_at "ev"
end Lw

set_option Elab.async false
set_option linter.all false
set_option autoImplicit false
set_option maxRecDepth 100000
set_option maxHeartbeats 4000000
/-! K78, the plain law: why an event is not possible. -/
namespace Lw
open PySem L2 Mi
local macro_rules | `(tactic| walk_at "ev") => `(tactic| simp [v_ret, v_bnd, v_some, v_none, v_asB, v_tNo, v_tAn, v_tOrr, v_ofB, v_mAn, v_mOrr, v_mNo, v_mIf, v_c3, v_aNil, v_aCons, v_mTup, v_mLst, v_mNtup, v_mLstF, v_m2, v_m1, v_c2, v_mC, v_pNone, v_pSome, v_mSl, v_mCall, v_tIsi, v_frzM, v_datM, v_sNx, v_sSeq, v_sDrop, v_sRet, v_sSet, v_sIf, v_mCF, v_noXF, v_noX, v_iSeq, v_iZip, v_iRng, v_iEnu, v_sUnp, v_tgN, v_tgsNil, v_tgsCons, v_sRaise2, v_sRetV, v_sTry, v_mIxF, v_tNiF, v_sPar, v_bNil, v_bCons, v_fAdd, v_mDix, v_sDst, v_mDcp, v_mSrtSet, v_mTix, v_mRev, v_mVar, v_sApp, w_add, w_sub, w_ixT, w_ixN, w_ixL, w_addT, w_addNT, w_lenT, w_lenN, w_lenL, w_lenS, w_ltI, w_leI, w_gtI, w_geI, w_leI0, w_ltI0, w_eqI, w_neI, w_eqS, w_neS, w_isI, w_isS, w_isT, w_isN, w_isL, w_isB, w_isO, B.frz, List.replicate, w_slT, w_slL, w_topT, w_topN, w_topL, w_zipT, w_gItT, w_gItN, w_gItL, w_tgT, cut1, w_at0, w_at1, w_at2, w_lim, w_ite, putAll, w_at3, w_at4, w_at5, w_tupL, w_tupT, w_tupN, w_lstL, w_lstT, w_intI, w_intB, w_topI, w_topS, w_addII, w_addTT, str_inj, str_beq, v_tNiT, v_sTst, v_mSrtT, v_mCV, w_addLL, w_revT, *])
structure ActOk (m : MSt) (a : D) : Prop where
  fit : Fit (10 ^ 30) 80 10 a
  tup : ∀ xs, tupL a = some xs → a = .tup xs
  plan : ∀ g, a = .tup [.str "plan", g] → isGear g = true → (∃ rows, g = gearD m.L rows ∧ GOk m.L.length rows) ∨ ∃ l, tp2 gIx g (.int 0) = some l ∧ dEq l (.ntup m.L) = false
  quiet : ∀ q, a = .tup [.str "quiet", q] → isSet q = true → ∃ qs, q = .tup qs
inductive Poss (m : MSt) : D → Prop
  | read (w : Str) (j : Nat) : m.L[j]? = some (.str w) → Poss m (.tup [.str "read", .str w])
  | plan (rows : List (List (Nat × Str))) : GOk m.L.length rows → m.gs.length < 3 → Poss m (.tup [.str "plan", gearD m.L rows])
  | replace (v : Nat) (g : List (List (Nat × Str))) (ps : List Nat) : m.gs[v]? = some g → (∀ s, fnM 3 3 m_law_true [m.d, .int v, .tup m.q] s = .ok (.own ((upto g.length).filter (trP g m.q ps))) [] s) → (upto g.length).filter (trP g m.q ps) ≠ [] → Poss m (.tup [.str "replace", .int v])
  | force (v t : Nat) (g : List (List (Nat × Str))) : m.gs[v]? = some g → t < g.length → Poss m (.tup [.str "force", .int v, .int t])
  | quiet (q : List D) : plains q = true → Poss m (.tup [.str "quiet", .tup q])
  | forget (v : Nat) : v < m.gs.length → v ≠ m.l → Poss m (.tup [.str "forget", .int v])
theorem num_int {d : D} (h : isNum d = true) : ∃ v : Nat, d = .int v := by
  cases d with
  | int i =>
    simp only [isNum, decide_eq_true_eq] at h
    obtain ⟨v, rfl⟩ := Int.eq_ofNat_of_zero_le h
    exact ⟨v, rfl⟩
  | _ => cases h
theorem nm_str {d : D} (h : isNm d = true) : ∃ x, d = .str x := by
  cases d with
  | str x => exact ⟨x, rfl⟩
  | _ => cases h
inductive ActF : D → Prop
  | read (w : Str) : ActF (.tup [.str "read", .str w])
  | plan (g : D) : isGear g = true → ActF (.tup [.str "plan", g])
  | replace (v : Nat) : ActF (.tup [.str "replace", .int v])
  | force (v t : Nat) : ActF (.tup [.str "force", .int v, .int t])
  | quiet (q : D) : isSet q = true → ActF (.tup [.str "quiet", q])
  | forget (v : Nat) : ActF (.tup [.str "forget", .int v])
theorem act_forms {a : D} (h : isAct a = true) (ht : ∀ xs, tupL a = some xs → a = .tup xs) : ActF a := by
  unfold isAct at h
  cases t : tupL a with
  | none => rw [t] at h; cases h
  | some xs =>
    rw [t] at h
    rw [ht xs t]
    match xs, h with
    | [], h => cases h
    | .non :: _, h | .bl _ :: _, h | .int _ :: _, h | .tup _ :: _, h | .lst _ :: _, h | .dK _ _ :: _, h | .dT _ _ :: _, h | .fn _ :: _, h | .root _ :: _, h | .ntup _ :: _, h | .scr _ :: _, h => cases h
    | .str x :: r, h =>
      change actS x r = true at h
      by_cases c0 : x = "force"
      · subst c0
        rw [act_f] at h
        match r, h with
        | [a, b], h =>
          simp only [Bool.and_eq_true] at h
          obtain ⟨v, rfl⟩ := num_int h.1
          obtain ⟨t', rfl⟩ := num_int h.2
          exact .force v t'
        | [], h => cases h
        | [_], h => cases h
        | _ :: _ :: _ :: _, h => cases h
      · rw [act_r c0] at h
        match r, h with
        | [], h => cases h
        | _ :: _ :: _, h => cases h
        | [a], h =>
          change (if x = "replace" then isNum a else if x = "forget" then isNum a else if x = "read" then isNm a else if x = "plan" then isGear a else if x = "quiet" then isSet a else false) = true at h
          by_cases c1 : x = "replace"
          · subst c1
            rw [if_pos rfl] at h
            obtain ⟨v, rfl⟩ := num_int h
            exact .replace v
          rw [if_neg c1] at h
          by_cases c2 : x = "forget"
          · subst c2
            rw [if_pos rfl] at h
            obtain ⟨v, rfl⟩ := num_int h
            exact .forget v
          rw [if_neg c2] at h
          by_cases c3 : x = "read"
          · subst c3
            rw [if_pos rfl] at h
            obtain ⟨v, rfl⟩ := nm_str h
            exact .read v
          rw [if_neg c3] at h
          by_cases c4 : x = "plan"
          · subst c4
            rw [if_pos rfl] at h
            exact .plan a h
          rw [if_neg c4] at h
          by_cases c5 : x = "quiet"
          · subst c5
            rw [if_pos rfl] at h
            exact .quiet a h
          rw [if_neg c5] at h
          cases h
theorem lks (m : MSt) : lookK KS m.vs (.inr "head") = some m.hd ∧ lookK KS m.vs (.inr "gears") = some (.tup (m.gs.map (gearD m.L))) ∧ lookK KS m.vs (.inr "know") = some (.tup (m.ks.map tupI)) ∧ lookK KS m.vs (.inr "live") = some (.int m.l) ∧ lookK KS m.vs (.inr "state") = some (.int m.st) ∧
    lookK KS m.vs (.inr "quiet") = some (.tup m.q) ∧ lookK KS m.vs (.inr "acts") = some (.tup m.as) ∧ lookK KS m.vs (.inr "heard") = some (.tup m.hs) ∧ lookK KS m.vs (.inr "told") = some (.tup m.ts) := ⟨rfl, rfl, rfl, rfl, rfl, rfl, rfl, rfl, rfl⟩
theorem atI_g {m : MSt} {i : Nat} {g : List (List (Nat × Str))} (hg : m.gs[i]? = some g) : atI (m.gs.map (gearD m.L)) (i : Int) = some (gearD m.L g) := by
  rw [Mi.atI_nat, List.getElem?_map, hg]
  rfl
def ReasonR (m : MSt) (a : D) : Prop := ∃ r, (∀ s, fnM 2 3 m_law_reason [m.d, a] s = .ok (.dat r) [] s) ∧ (r = .non ∨ ∃ x, r = .str x) ∧ (r = .non → Poss m a)
theorem w_neTm {a b : D} (ha : a.plain = true) (hb : b.plain = true) (h : min a.dep b.dep ≤ 60) : tp2 cNe a b = some (!dEq a b) := by
  have e : eqable a.top b.top = true := by
    unfold eqable
    rw [top_plain, top_plain, top_dep, top_dep, ha, hb]
    simp [h]
  show cNe a.top b.top = _
  unfold cNe
  rw [if_pos e]
  unfold dEq
  rw [top_py, top_py]
theorem sgn_facts {L : List D} (h : L ∈ SgnL) : plains L = true ∧ deps L = 0 ∧ L.length ≤ 3 ∧ 1 ≤ L.length ∧ (∀ d ∈ L, ∃ x, d = .str x ∧ nameS x = true) ∧ isLet (.ntup L) = true ∧ Fit 0 4 1 (.ntup L) := by
  simp [SgnL] at h
  rcases h with rfl | rfl | rfl
  · exact ⟨rfl, rfl, by decide, by decide, by simp [nameS]; decide, by decide, ⟨by decide, by decide, by decide⟩⟩
  · exact ⟨rfl, rfl, by decide, by decide, by simp [nameS]; decide, by decide, ⟨by decide, by decide, by decide⟩⟩
  · exact ⟨rfl, rfl, by decide, by decide, by simp [nameS]; decide, by decide, ⟨by decide, by decide, by decide⟩⟩
theorem reason_no {k : Nat} {m : MSt} (hm : MOk k m) (a : D) (hf : fit a = true) (h : isAct a = false) : ReasonR m a := by
  have h1 := law_is_act_ok a
  refine ⟨.str "shape", fun s => ?_, .inr ⟨_, rfl⟩, fun h => by cases h⟩
  have h1 := h1 s hf
  have lk := lks m
  rw [h] at h1
  clear hm hf
  unfold fnM m_law_reason
  walk_at "ev"
theorem reason_read {k : Nat} {m : MSt} (hm : MOk k m) (hk : k < 60) (w : Str) (hf : fit (.tup [.str "read", .str w]) = true) (h : isAct (.tup [.str "read", .str w]) = true) : ReasonR m (.tup [.str "read", .str w]) := by
  have lk := lks m
  have h1 := law_is_act_ok (.tup [.str "read", .str w])
  rw [h] at h1
  obtain ⟨f1, f2, f3, f4, f5, _⟩ := sgn_facts hm.L
  have i1 : tp2 cIn (.str w) (.ntup m.L) = some (m.L.any fun z => dEq z (.str w)) := w_inS w m.L f1
  have has := hm.as.1
  have n1 : ¬ ((m.as.length : Int) = 60) := by omega
  obtain ⟨g, hg⟩ : ∃ g, m.gs[0]? = some g := ⟨_, List.getElem?_eq_getElem hm.g0⟩
  have g0 : atI (m.gs.map (gearD m.L)) 0 = some (gearD m.L g) := atI_g hg
  have g1 := gear_ix0 m.L g
  cases hb : m.L.any fun z => dEq z (.str w) with
  | true =>
    refine ⟨.non, fun s => ?_, .inl rfl, fun _ => ?_⟩
    · have h1 := h1 s hf
      rw [hb] at i1
      clear hm hf f5 h has hb hg
      unfold fnM m_law_reason
      walk_at "ev"
    · rw [List.any_eq_true] at hb
      obtain ⟨z, hz, he⟩ := hb
      obtain ⟨x, rfl, _⟩ := f5 z hz
      obtain ⟨j, hj⟩ := List.mem_iff_getElem?.mp hz
      have : x = w := by simpa [dEq, D.py, PyData.eqv] using he
      subst this
      exact .read x j hj
  | false =>
    refine ⟨.str "letter", fun s => ?_, .inr ⟨_, rfl⟩, fun h => by cases h⟩
    have h1 := h1 s hf
    rw [hb] at i1
    clear hm hf f5 h has hb hg
    unfold fnM m_law_reason
    walk_at "ev"
theorem reason_plan {k : Nat} {m : MSt} (hm : MOk k m) (hk : k < 60) (g : D) (ha : ActOk m (.tup [.str "plan", g])) (hg : isGear g = true) (h : isAct (.tup [.str "plan", g]) = true) : ReasonR m (.tup [.str "plan", g]) := by
  have lk := lks m
  have hf := ha.fit.fit (by decide)
  have h1 := fun s => law_is_act_ok (.tup [.str "plan", g]) s hf
  rw [h] at h1
  obtain ⟨f1, f2, f3, f4, f5, f6, f7⟩ := sgn_facts hm.L
  have has := hm.as.1
  have n1 : ¬ ((m.as.length : Int) = 60) := by omega
  obtain ⟨g0, hg0⟩ : ∃ g, m.gs[0]? = some g := ⟨_, List.getElem?_eq_getElem hm.g0⟩
  have i0 : atI (m.gs.map (gearD m.L)) 0 = some (gearD m.L g0) := atI_g hg0
  have g1 := gear_ix0 m.L g0
  rcases ha.plan g rfl hg with ⟨rows, rfl, hr⟩ | ⟨l, hl, he⟩
  · have g2 := gear_ix0 m.L rows
    have e1 : tp2 cNe (.ntup m.L) (.ntup m.L) = some false := by
      have := w_neTm (a := .ntup m.L) (b := .ntup m.L) f1 f1 (by simp only [D.dep, f2]; decide)
      rw [this]
      have hs := hm.L
      simp [SgnL] at hs
      rcases hs with hs | hs | hs <;> rw [hs] <;> rfl
    by_cases c : m.gs.length = 3
    · refine ⟨.str "many", fun s => ?_, .inr ⟨_, rfl⟩, fun h => by cases h⟩
      have h1 := h1 s
      clear hm hf f5 h has hg ha hg0
      unfold fnM m_law_reason
      walk_at "ev"
    · have c2 : ¬ ((m.gs.length : Int) = 3) := by omega
      have g3 := hm.g3
      refine ⟨.non, fun s => ?_, .inl rfl, fun _ => .plan rows hr (by omega)⟩
      have h1 := h1 s
      clear hm hf f5 h has hg ha hg0
      unfold fnM m_law_reason
      walk_at "ev"
  · have hpl : l.plain = true := by
      have hgp : g.plain = true := by
        have := fit_plain hf
        simp only [D.plain, plains, Bool.and_true, Bool.true_and] at this
        exact this
      obtain ⟨xs, t⟩ : ∃ xs, tupL g = some xs := by
        unfold isGear at hg
        cases t : tupL g with
        | none => rw [t] at hg; cases hg
        | some xs => exact ⟨xs, rfl⟩
      rw [ev_ix t] at hl
      have : plains xs = true := by rw [← ev_plain t]; exact hgp
      exact plains_mem.mp this l (by
        unfold atI at hl
        cases q : ixN xs.length 0 with
        | none => rw [q] at hl; cases hl
        | some j => rw [q] at hl; exact List.mem_of_getElem? hl)
    have e1 : tp2 cNe l (.ntup m.L) = some true := by
      rw [w_neTm (b := .ntup m.L) hpl f1 (by simp only [D.dep, f2]; exact Nat.le_trans (Nat.min_le_right _ _) (by decide)), he]
      rfl
    refine ⟨.str "letters", fun s => ?_, .inr ⟨_, rfl⟩, fun h => by cases h⟩
    have h1 := h1 s
    clear hm hf f5 h has hg ha hg0
    unfold fnM m_law_reason
    walk_at "ev"
theorem reason_quiet {k : Nat} {m : MSt} (hm : MOk k m) (hk : k < 60) (q : List D) (hf : fit (.tup [.str "quiet", .tup q]) = true) (h : isAct (.tup [.str "quiet", .tup q]) = true) : ReasonR m (.tup [.str "quiet", .tup q]) := by
  have lk := lks m
  have h1 := fun s => law_is_act_ok (.tup [.str "quiet", .tup q]) s hf
  rw [h] at h1
  have hq : plains q = true := by
    have := fit_plain hf
    simp only [D.plain, plains, Bool.and_true, Bool.true_and] at this
    exact this
  have has := hm.as.1
  have n1 : ¬ ((m.as.length : Int) = 60) := by omega
  obtain ⟨b1, t1⟩ := is_true_ok hm m.q hm.q
  obtain ⟨b2, t2⟩ := is_true_ok hm q hq
  cases b1 with
  | false =>
    refine ⟨.non, fun s => ?_, .inl rfl, fun _ => .quiet q hq⟩
    have h1 := h1 s
    have t1 := t1 s
    clear hm hf h has hq
    unfold fnM m_law_reason
    walk_at "ev"
  | true =>
    cases b2 with
    | false =>
      refine ⟨.str "loud", fun s => ?_, .inr ⟨_, rfl⟩, fun h => by cases h⟩
      have h1 := h1 s
      have t1 := t1 s
      have t2 := t2 s
      clear hm hf h has hq
      unfold fnM m_law_reason
      walk_at "ev"
    | true =>
      refine ⟨.non, fun s => ?_, .inl rfl, fun _ => .quiet q hq⟩
      have h1 := h1 s
      have t1 := t1 s
      have t2 := t2 s
      clear hm hf h has hq
      unfold fnM m_law_reason
      walk_at "ev"
theorem reason_force {k : Nat} {m : MSt} (hm : MOk k m) (hk : k < 60) (v t : Nat) (hf : fit (.tup [.str "force", .int v, .int t]) = true) (h : isAct (.tup [.str "force", .int v, .int t]) = true) : ReasonR m (.tup [.str "force", .int v, .int t]) := by
  have lk := lks m
  have h1 := fun s => law_is_act_ok (.tup [.str "force", .int v, .int t]) s hf
  rw [h] at h1
  have has := hm.as.1
  have n1 : ¬ ((m.as.length : Int) = 60) := by omega
  by_cases c : v < m.gs.length
  · obtain ⟨g, hg⟩ : ∃ g, m.gs[v]? = some g := ⟨_, List.getElem?_eq_getElem c⟩
    have g0 := atI_g (m := m) hg
    have g1 := gear_ix1 m.L g
    have c1 : ¬ ((m.gs.length : Int) ≤ v) := by omega
    by_cases c2 : t < g.length
    · have c3 : ¬ ((g.length : Int) ≤ t) := by omega
      refine ⟨.non, fun s => ?_, .inl rfl, fun _ => .force v t g hg c2⟩
      have h1 := h1 s
      have d1 : ¬ (m.gs.length ≤ v) := by omega
      have d3 : ¬ (g.length ≤ t) := by omega
      clear hm hf h has hg
      unfold fnM m_law_reason
      walk_at "ev"
    · have c3 : (g.length : Int) ≤ t := by omega
      refine ⟨.str "state", fun s => ?_, .inr ⟨_, rfl⟩, fun h => by cases h⟩
      have h1 := h1 s
      have d1 : ¬ (m.gs.length ≤ v) := by omega
      have d3 : g.length ≤ t := by omega
      clear hm hf h has hg
      unfold fnM m_law_reason
      walk_at "ev"
  · have c1 : (m.gs.length : Int) ≤ v := by omega
    refine ⟨.str "version", fun s => ?_, .inr ⟨_, rfl⟩, fun h => by cases h⟩
    have h1 := h1 s
    have d1 : m.gs.length ≤ v := by omega
    clear hm hf h has
    unfold fnM m_law_reason
    walk_at "ev"
theorem reason_forget {k : Nat} {m : MSt} (hm : MOk k m) (hk : k < 60) (v : Nat) (hf : fit (.tup [.str "forget", .int v]) = true) (h : isAct (.tup [.str "forget", .int v]) = true) : ReasonR m (.tup [.str "forget", .int v]) := by
  have lk := lks m
  have h1 := fun s => law_is_act_ok (.tup [.str "forget", .int v]) s hf
  rw [h] at h1
  have has := hm.as.1
  have n1 : ¬ ((m.as.length : Int) = 60) := by omega
  by_cases c : v < m.gs.length
  · have d1 : ¬ (m.gs.length ≤ v) := by omega
    by_cases c2 : v = m.l
    · subst c2
      refine ⟨.str "live", fun s => ?_, .inr ⟨_, rfl⟩, fun h => by cases h⟩
      have h1 := h1 s
      clear hm hf h has
      unfold fnM m_law_reason
      walk_at "ev"
    · refine ⟨.non, fun s => ?_, .inl rfl, fun _ => .forget v c c2⟩
      have h1 := h1 s
      have c3 : ¬ ((v : Int) = m.l) := by omega
      clear hm hf h has
      unfold fnM m_law_reason
      walk_at "ev"
  · refine ⟨.str "version", fun s => ?_, .inr ⟨_, rfl⟩, fun h => by cases h⟩
    have h1 := h1 s
    have d1 : m.gs.length ≤ v := by omega
    clear hm hf h has
    unfold fnM m_law_reason
    walk_at "ev"
theorem reason_replace {k : Nat} {m : MSt} (hm : MOk k m) (hk : k < 60) (v : Nat) (hf : fit (.tup [.str "replace", .int v]) = true) (h : isAct (.tup [.str "replace", .int v]) = true) : ReasonR m (.tup [.str "replace", .int v]) := by
  have lk := lks m
  have h1 := fun s => law_is_act_ok (.tup [.str "replace", .int v]) s hf
  rw [h] at h1
  have has := hm.as.1
  have n1 : ¬ ((m.as.length : Int) = 60) := by omega
  obtain ⟨b1, t1⟩ := is_true_ok hm m.q hm.q
  by_cases c : v < m.gs.length
  · have d1 : ¬ (m.gs.length ≤ v) := by omega
    obtain ⟨g, hg⟩ : ∃ g, m.gs[v]? = some g := ⟨_, List.getElem?_eq_getElem c⟩
    obtain ⟨ps, t2⟩ := true_ok hm v g hg m.q hm.q
    have e := ev_eq_nil (plains_filter (trP g m.q ps) (plains_nat (List.range g.length)))
    rw [← upto_eq] at e
    have fin : (∀ s, fnM 2 3 m_law_reason [m.d, .tup [.str "replace", .int v]] s = .ok (.dat (if ((upto g.length).filter (trP g m.q ps)).isEmpty then .str "ready" else .non)) [] s) → ReasonR m (.tup [.str "replace", .int v]) := fun z => by
      cases q : ((upto g.length).filter (trP g m.q ps)).isEmpty with
      | true =>
        rw [q] at z
        exact ⟨_, z, .inr ⟨_, rfl⟩, fun h => by cases h⟩
      | false =>
        rw [q] at z
        exact ⟨_, z, .inl rfl, fun _ => .replace v g ps hg t2 fun y => by rw [y] at q; cases q⟩
    by_cases c2 : v = m.l
    · subst c2
      cases b1 with
      | true =>
        refine ⟨.str "live", fun s => ?_, .inr ⟨_, rfl⟩, fun h => by cases h⟩
        have h1 := h1 s
        have t1 := t1 s
        clear hm hf h has fin hg t2 e
        unfold fnM m_law_reason
        walk_at "ev"
      | false =>
        refine fin fun s => ?_
        have h1 := h1 s
        have t1 := t1 s
        have t2 := t2 s
        clear hm hf h has fin hg
        generalize (upto g.length).filter (trP g m.q ps) = ys at *
        unfold fnM m_law_reason
        cases ys <;> walk_at "ev"
    · refine fin fun s => ?_
      have h1 := h1 s
      have t2 := t2 s
      have c3 : ¬ ((v : Int) = m.l) := by omega
      clear hm hf h has fin hg
      generalize (upto g.length).filter (trP g m.q ps) = ys at *
      unfold fnM m_law_reason
      cases ys <;> walk_at "ev"
  · refine ⟨.str "version", fun s => ?_, .inr ⟨_, rfl⟩, fun h => by cases h⟩
    have h1 := h1 s
    have d1 : m.gs.length ≤ v := by omega
    clear hm hf h has
    unfold fnM m_law_reason
    walk_at "ev"
theorem reason_ok {k : Nat} {m : MSt} (hm : MOk k m) (hk : k < 60) {a : D} (ha : ActOk m a) : ReasonR m a := by
  have hf := ha.fit.fit (by decide)
  cases h : isAct a with
  | false => exact reason_no hm a hf h
  | true =>
    have ff := act_forms h ha.tup
    cases ff with
    | read w => exact reason_read hm hk w hf h
    | plan g hg => exact reason_plan hm hk g ha hg h
    | replace v => exact reason_replace hm hk v hf h
    | force v t => exact reason_force hm hk v t hf h
    | quiet q hq =>
      obtain ⟨qs, rfl⟩ := ha.quiet q rfl hq
      exact reason_quiet hm hk qs hf h
    | forget v => exact reason_forget hm hk v hf h
end Lw

set_option Elab.async false
set_option linter.all false
set_option autoImplicit false
set_option maxRecDepth 100000
set_option maxHeartbeats 4000000
/-! K78, the plain law: reached standings. -/
namespace Lw
open PySem L2 Mi
local macro_rules | `(tactic| walk_at "ev") => `(tactic| simp [v_ret, v_bnd, v_some, v_none, v_asB, v_tNo, v_tAn, v_tOrr, v_ofB, v_mAn, v_mOrr, v_mNo, v_mIf, v_c3, v_aNil, v_aCons, v_mTup, v_mLst, v_mNtup, v_mLstF, v_m2, v_m1, v_c2, v_mC, v_pNone, v_pSome, v_mSl, v_mCall, v_tIsi, v_frzM, v_datM, v_sNx, v_sSeq, v_sDrop, v_sRet, v_sSet, v_sIf, v_mCF, v_noXF, v_noX, v_iSeq, v_iZip, v_iRng, v_iEnu, v_sUnp, v_tgN, v_tgsNil, v_tgsCons, v_sRaise2, v_sRetV, v_sTry, v_mIxF, v_tNiF, v_sPar, v_bNil, v_bCons, v_fAdd, v_mDix, v_sDst, v_mDcp, v_mSrtSet, v_mTix, v_mRev, v_mVar, v_sApp, w_add, w_sub, w_ixT, w_ixN, w_ixL, w_addT, w_addNT, w_lenT, w_lenN, w_lenL, w_lenS, w_ltI, w_leI, w_gtI, w_geI, w_leI0, w_ltI0, w_eqI, w_neI, w_eqS, w_neS, w_isI, w_isS, w_isT, w_isN, w_isL, w_isB, w_isO, B.frz, List.replicate, w_slT, w_slL, w_topT, w_topN, w_topL, w_zipT, w_gItT, w_gItN, w_gItL, w_tgT, cut1, w_at0, w_at1, w_at2, w_lim, w_ite, putAll, w_at3, w_at4, w_at5, w_tupL, w_tupT, w_tupN, w_lstL, w_lstT, w_intI, w_intB, w_topI, w_topS, w_addII, w_addTT, str_inj, str_beq, v_tNiT, v_sTst, v_mSrtT, v_mCV, w_addLL, w_revT, *])
theorem nodup_lt : ∀ (n : Nat) (l : List Nat), l.Nodup → (∀ x ∈ l, x < n) → l.length ≤ n
  | 0, [], _, _ => Nat.le_refl _
  | 0, x :: l, _, h => absurd (h x List.mem_cons_self) (Nat.not_lt_zero _)
  | n + 1, l, hd, h => by
    by_cases c : n ∈ l
    · have h1 := nodup_lt n (l.erase n) (hd.erase n) fun x hx => by
        rw [hd.mem_erase_iff] at hx
        have := h x hx.2
        have := hx.1
        omega
      rw [List.length_erase_of_mem c] at h1
      omega
    · have h1 := nodup_lt n l hd fun x hx => by
        have := h x hx
        have : x ≠ n := fun z => c (z ▸ hx)
        omega
      omega
/-- a standing's number -/
def cd3 : List Int → Nat
  | [] => 0
  | x :: xs => x.toNat + 3 * cd3 xs
def Box (k : List Int) : Prop := ∀ x ∈ k, 0 ≤ x ∧ x < 3
theorem cd3_lt : ∀ {k : List Int} {n : Nat}, Box k → k.length ≤ n → cd3 k < 3 ^ n
  | [], n, _, _ => Nat.pow_pos (by decide)
  | x :: xs, 0, _, h => by cases h
  | x :: xs, n + 1, hb, h => by
    have h1 := cd3_lt (k := xs) (n := n) (fun y hy => hb y (List.mem_cons_of_mem _ hy)) (by simpa using h)
    have h2 := hb x List.mem_cons_self
    simp only [cd3]
    rw [Nat.pow_succ]
    omega
theorem cd3_inj : ∀ {k l : List Int}, Box k → Box l → k.length = l.length → cd3 k = cd3 l → k = l
  | [], [], _, _, _, _ => rfl
  | x :: xs, y :: ys, hk, hl, h, e => by
    have hx := hk x List.mem_cons_self
    have hy := hl y List.mem_cons_self
    simp only [cd3] at e
    have e1 : x = y := by omega
    have e2 : cd3 xs = cd3 ys := by omega
    rw [e1, cd3_inj (fun y hy => hk y (List.mem_cons_of_mem _ hy)) (fun y hy => hl y (List.mem_cons_of_mem _ hy)) (by simpa using h) e2]
  | [], _ :: _, _, _, h, _ => by cases h
  | _ :: _, [], _, _, h, _ => by cases h
theorem std_box {n : Nat} {gs : List (List (List (Nat × Str)))} (hg : ∀ g ∈ gs, GOk n g) {k : List Int} (h : StdOk gs k) : Box k := fun x hx => by
  obtain ⟨i, hi⟩ := List.mem_iff_getElem?.mp hx
  have hl : i < gs.length := by
    rw [← h.1]
    exact (List.getElem?_eq_some_iff.mp hi).1
  obtain ⟨y, h1, h2⟩ := h.2 i gs[i] (List.getElem?_eq_getElem hl)
  rw [hi] at h1
  cases h1
  have := (hg gs[i] (List.getElem_mem hl)).hi
  omega
theorem std_count {n : Nat} {gs : List (List (List (Nat × Str)))} (hg : ∀ g ∈ gs, GOk n g) (h3 : gs.length ≤ 3) {ks : List (List Int)} (hn : ks.Nodup) (h : ∀ k ∈ ks, StdOk gs k) : ks.length ≤ 27 := by
  have h1 : (ks.map cd3).Nodup := by
    rw [List.nodup_iff_pairwise_ne] at hn ⊢
    rw [List.pairwise_map]
    refine List.Pairwise.imp_of_mem ?_ hn
    intro a b ha hb hne he
    exact hne (cd3_inj (std_box hg (h a ha)) (std_box hg (h b hb)) ((h a ha).1.trans (h b hb).1.symm) he)
  have h2 := nodup_lt 27 (ks.map cd3) h1 fun x hx => by
    obtain ⟨k, hk, rfl⟩ := List.mem_map.mp hx
    exact cd3_lt (n := 3) (std_box hg (h k hk)) (by rw [(h k hk).1]; exact h3)
  rwa [List.length_map] at h2
/-- where a letter leads a standing -/
def nxI (g : List (List (Nat × Str))) (x : Int) (j : Nat) : Int := (((g.getD x.toNat []).getD j (0, "")).1 : Int)
def nxStd (gs : List (List (List (Nat × Str)))) (k : List Int) (j : Nat) : List Int := (gs.zip k).map fun p => nxI p.1 p.2 j
theorem nx_ok {n : Nat} {gs : List (List (List (Nat × Str)))} (hg : ∀ g ∈ gs, GOk n g) {k : List Int} (h : StdOk gs k) {j : Nat} (hj : j < n) : StdOk gs (nxStd gs k j) := by
  refine ⟨by unfold nxStd; rw [List.length_map, List.length_zip, h.1, Nat.min_self], fun i g hi => ?_⟩
  obtain ⟨x, h1, h2⟩ := h.2 i g hi
  have e : (gs.zip k)[i]? = some (g, (x : Int)) := by
    rw [List.getElem?_zip_eq_some]
    exact ⟨hi, h1⟩
  obtain ⟨lo, h3, ok⟩ := hg g (List.mem_of_getElem? hi)
  have r0 : g[x]? = some g[x] := List.getElem?_eq_getElem h2
  obtain ⟨r1, r2⟩ := ok g[x] (List.getElem_mem h2)
  have p0 : (g[x])[j]? = some (g[x])[j] := List.getElem?_eq_getElem (by omega)
  refine ⟨((g[x])[j]'(by omega)).1, ?_, (r2 _ (List.getElem_mem _)).1⟩
  unfold nxStd
  rw [List.getElem?_map, e]
  simp only [Option.map_some, nxI, Int.toNat_natCast, List.getD_eq_getElem?_getD, r0, Option.getD_some, p0]
theorem nx_one {L : List D} {n : Nat} {g : List (List (Nat × Str))} (hg : GOk n g) {x : Nat} (hx : x < g.length) {j : Nat} (hj : j < n) : ((tp2 gIx (gearD L g) (.int 1)).bind fun r => (tp2 gIx r (.int x)).bind fun r => (tp2 gIx r (.int j)).bind fun r => tp2 gIx r (.int 0)) = some (.int (nxI g x j)) := by
  obtain ⟨lo, h3, ok⟩ := hg
  have r0 : g[x]? = some g[x] := List.getElem?_eq_getElem hx
  obtain ⟨r1, r2⟩ := ok g[x] (List.getElem_mem hx)
  have p0 : (g[x])[j]? = some (g[x])[j] := List.getElem?_eq_getElem (by omega)
  have e1 : tp2 gIx (D.tup (g.map rowD)) (.int x) = some (rowD g[x]) := by
    show atI (g.map rowD) (x : Int) = _
    rw [Mi.atI_nat, List.getElem?_map, r0]
    rfl
  have e2 : tp2 gIx (rowD g[x]) (.int j) = some (pairD (g[x])[j]) := by
    show atI (g[x].map pairD) (j : Int) = _
    rw [Mi.atI_nat, List.getElem?_map, p0]
    rfl
  have e3 : tp2 gIx (pairD (g[x])[j]) (.int 0) = some (.int ((g[x])[j]).1) := rfl
  rw [gear_ix1, Option.bind_some, e1, Option.bind_some, e2, Option.bind_some, e3]
  simp only [nxI, Int.toNat_natCast, List.getD_eq_getElem?_getD, r0, Option.getD_some, p0]
theorem zip_mem {gs : List (List (List (Nat × Str)))} {n : Nat} (hg : ∀ g ∈ gs, GOk n g) {k : List Int} (h : StdOk gs k) {g : List (List (Nat × Str))} {x : Int} (hp : (g, x) ∈ gs.zip k) : GOk n g ∧ ∃ y : Nat, x = (y : Int) ∧ y < g.length := by
  obtain ⟨i, hi⟩ := List.mem_iff_getElem?.mp hp
  rw [List.getElem?_zip_eq_some] at hi
  obtain ⟨y, h1, h2⟩ := h.2 i g hi.1
  have h3 := hi.2
  simp only [] at h3
  rw [h1] at h3
  cases h3
  exact ⟨hg g (List.mem_of_getElem? hi.1), y, rfl, h2⟩
/-- the comprehension that leads a standing on -/
theorem nx_lc {L : List D} {gs : List (List (List (Nat × Str)))} (hg3 : gs.length ≤ 3) (hg : ∀ g ∈ gs, GOk L.length g) {k : List Int} (h : StdOk gs k) {j : Nat} (hj : j < L.length) {it : M (List D)} {a b : Nat} {m : M D} {e : Mi.Env} {s : S} (hab : a ≠ b)
    (hi : it e s = .ok (zipD (gs.map (gearD L)) (k.map D.int)) e s) (ha : e[a]? = some .unb) (hb : e[b]? = some .unb)
    (hm : ∀ g x, m ((e.set a (.dat g)).set b (.dat x)) s = (match (tp2 gIx g (.int 1)).bind (fun r => (tp2 gIx r x).bind fun r => (tp2 gIx r (.int j)).bind fun r => tp2 gIx r (.int 0)) with
      | some d => .ok d ((e.set a (.dat g)).set b (.dat x)) s
      | none => .no)) :
    mLc it [a, b] (tgT 2 (tgsCons (tgN a) (tgsCons (tgN b) tgsNil))) (Mi.ret true) m e s = .ok (.own ((nxStd gs k j).map D.int)) e s := by
  have ez : (gs.map (gearD L)).zip (k.map D.int) = (gs.zip k).map fun p => (gearD L p.1, D.int p.2) := by
    rw [List.zip_map]
    rfl
  have c := lc_zip (it := it) (i := a) (j := b) (m := m) (e := e) (e0 := e) (s := s) (fun g x => ((tp2 gIx g (.int 1)).bind (fun r => (tp2 gIx r x).bind fun r => (tp2 gIx r (.int j)).bind fun r => tp2 gIx r (.int 0))).getD .non) hi (by rw [List.length_map]; unfold lim; omega) hab ha hb fun g' x' hgx => ?_
  · rw [c, ez, List.map_map]
    congr 2
    unfold nxStd
    rw [List.map_map]
    refine List.map_congr_left fun p hp => ?_
    obtain ⟨o1, y, o2, o3⟩ := zip_mem hg h (g := p.1) (x := p.2) hp
    show (((tp2 gIx (gearD L p.1) (.int 1)).bind (fun r => (tp2 gIx r (.int p.2)).bind fun r => (tp2 gIx r (.int j)).bind fun r => tp2 gIx r (.int 0))).getD .non) = D.int (nxI p.1 p.2 j)
    rw [o2, nx_one o1 o3 hj]
    rfl
  · rw [ez] at hgx
    obtain ⟨p, hp, he⟩ := List.mem_map.mp hgx
    cases he
    obtain ⟨o1, y, o2, o3⟩ := zip_mem hg h (g := p.1) (x := p.2) hp
    rw [hm, o2, nx_one o1 o3 hj]
    rfl
/-! ### the search -/
theorem hasT_mem (ks : List (List Int)) (k : List Int) : hasT ks k = decide (k ∈ ks) := by
  unfold hasT
  rw [Bool.eq_iff_iff, List.any_eq_true, decide_eq_true_eq]
  constructor
  · rintro ⟨z, hz, h⟩
    rw [decide_eq_true_eq] at h
    exact h ▸ hz
  · intro h
    exact ⟨k, h, by simp⟩
theorem intsT_tup (k : List Int) : intsT (tupI k) = some k := intsOf_map k
/-- what the search keeps -/
structure RI (gs : List (List (List (Nat × Str)))) (ks rs : List (List Int)) (M : Nat) : Prop where
  nd : ks.Nodup
  ok : ∀ k ∈ ks, StdOk gs k
  rest : ∀ r ∈ rs, StdOk gs r
  mes : rs.length + 27 ≤ M + ks.length
  ne : ks ≠ []
abbrev rcZip : M B := mLc (Mi.iZip (aCons (mVar 0) (aCons (mVar 3) aNil))) [6, 7] (tgT 2 (tgsCons (tgN 6) (tgsCons (tgN 7) tgsNil))) (Mi.ret true) (m2 (m2 (m2 (m2 (mVar 6) (Mi.ret (.int 1)) (tp2 gIx)) (mVar 7) (tp2 gIx)) (mVar 4) (tp2 gIx)) (Mi.ret (.int 0)) (tp2 gIx))
abbrev rcBody : M Fl := sSeq (sSet 5 (datM (mCall (aCons (frzM rcZip) aNil) (tpN gTuple)))) (sIf (tNiT 1 (mVar 5)) (sSeq (sTst 1 5) (sApp 2 (mVar 5))) sNx)
theorem rcBody_ok {L : List D} {gs : List (List (List (Nat × Str)))} (hL : L.length ≤ 3) (hg3 : gs.length ≤ 3) (hg : ∀ g ∈ gs, GOk L.length g) {k : List Int} (h : StdOk gs k) {j : Nat} (hj : j < L.length) {ks rs : List (List Int)} {M : Nat} (hI : RI gs ks rs M) (hM : M ≤ 2000) (x5 : B) (s : S) :
    ∃ ks' rs' x5', rcBody [.dat (.tup (gs.map (gearD L))), .ownT ks [], .own (rs.map tupI), .dat (tupI k), .dat (.int j), x5, .unb, .unb] s = .ok .nx [.dat (.tup (gs.map (gearD L))), .ownT ks' [], .own (rs'.map tupI), .dat (tupI k), .dat (.int j), x5', .unb, .unb] s ∧ RI gs ks' rs' M := by
  have zi : Mi.iZip (aCons (mVar 0) (aCons (mVar 3) aNil)) [.dat (.tup (gs.map (gearD L))), .ownT ks [], .own (rs.map tupI), .dat (tupI k), .dat (.int j), x5, .unb, .unb] s = .ok (zipD (gs.map (gearD L)) (k.map D.int)) [.dat (.tup (gs.map (gearD L))), .ownT ks [], .own (rs.map tupI), .dat (tupI k), .dat (.int j), x5, .unb, .unb] s := rfl
  have lc := nx_lc (a := 6) (b := 7) (m := m2 (m2 (m2 (m2 (mVar 6) (Mi.ret (.int 1)) (tp2 gIx)) (mVar 7) (tp2 gIx)) (mVar 4) (tp2 gIx)) (Mi.ret (.int 0)) (tp2 gIx)) hg3 hg h hj (by decide) zi rfl rfl (fun g x => by
    clear zi hI hg h
    cases q1 : tp2 gIx g (.int 1) with
    | none => walk_at "ev"
    | some r1 =>
      cases q2 : tp2 gIx r1 x with
      | none => walk_at "ev"
      | some r2 =>
        cases q3 : tp2 gIx r2 (.int j) with
        | none => walk_at "ev"
        | some r3 =>
          cases q4 : tp2 gIx r3 (.int 0) with
          | none => walk_at "ev"
          | some r4 => walk_at "ev")
  have nok := nx_ok hg h hj
  generalize nxStd gs k j = z at lc nok
  have it1 : intsT (.tup (z.map D.int)) = some z := intsT_tup z
  by_cases c : z ∈ ks
  · have hc : hasT ks z = true := by rw [hasT_mem]; simp [c]
    refine ⟨ks, rs, .dat (tupI z), ?_, hI⟩
    unfold tupI at *
    clear hI hg h nok zi
    unfold rcBody
    walk_at "ev"
  · have hc : hasT ks z = false := by rw [hasT_mem]; simp [c]
    have nd2 : (ks ++ [z]).Nodup := by
      rw [List.nodup_append]
      exact ⟨hI.nd, by simp, fun a ha b hb => by
        rw [List.mem_singleton] at hb
        subst hb
        exact fun q => c (q ▸ ha)⟩
    have ok2 : ∀ k ∈ ks ++ [z], StdOk gs k := fun k hk => by
      rcases List.mem_append.mp hk with hk | hk
      · exact hI.ok k hk
      · rw [List.mem_singleton] at hk
        exact hk ▸ nok
    have cnt := std_count hg hg3 nd2 ok2
    have mes := hI.mes
    rw [List.length_append, List.length_singleton] at cnt
    refine ⟨ks ++ [z], rs ++ [z], .dat (tupI z), ?_, nd2, ok2, fun r hr => ?_, by simp only [List.length_append, List.length_singleton]; omega, by simp⟩
    · have b1 : ks.length < 100000 := by omega
      have b2 : rs.length < 1000000 := by omega
      have m1 : (rs ++ [z]).map tupI = rs.map tupI ++ [tupI z] := by simp
      rw [m1]
      unfold tupI at *
      clear hI hg h nok zi nd2 ok2
      unfold rcBody
      walk_at "ev"
    · rcases List.mem_append.mp hr with hr | hr
      · exact hI.rest r hr
      · rw [List.mem_singleton] at hr
        exact hr ▸ nok
abbrev rcFor : M Fl := sFor (iRng (mCall (aCons (m2 (m2 (mVar 0) (Mi.ret (.int 0)) (tp2 gIx)) (Mi.ret (.int 0)) (tp2 gIx)) aNil) (tpN gLen))) (tgN 4) rcBody
theorem rcFor_ok {L : List D} {gs : List (List (List (Nat × Str)))} (hL : L.length ≤ 3) (hg0 : 1 ≤ gs.length) (hg3 : gs.length ≤ 3) (hg : ∀ g ∈ gs, GOk L.length g) {k : List Int} (h : StdOk gs k) {ks rs : List (List Int)} {M : Nat} (hI : RI gs ks rs M) (hM : M ≤ 2000) (x4 x5 : B) (s : S) :
    ∃ ks' rs' x4' x5', rcFor [.dat (.tup (gs.map (gearD L))), .ownT ks [], .own (rs.map tupI), .dat (tupI k), x4, x5, .unb, .unb] s = .ok .nx [.dat (.tup (gs.map (gearD L))), .ownT ks' [], .own (rs'.map tupI), .dat (tupI k), x4', x5', .unb, .unb] s ∧ RI gs ks' rs' M := by
  have loop := sFor_st (it := iRng (mCall (aCons (m2 (m2 (mVar 0) (Mi.ret (.int 0)) (tp2 gIx)) (Mi.ret (.int 0)) (tp2 gIx)) aNil) (tpN gLen))) (g := tgN 4) (m := rcBody) (ds := upto L.length) (s := s) (s0 := s)
    (e := [.dat (.tup (gs.map (gearD L))), .ownT ks [], .own (rs.map tupI), .dat (tupI k), x4, x5, .unb, .unb]) (e0 := [.dat (.tup (gs.map (gearD L))), .ownT ks [], .own (rs.map tupI), .dat (tupI k), x4, x5, .unb, .unb])
    (J := fun _ e s' => s' = s ∧ ∃ ks' rs' x4' x5', e = [.dat (.tup (gs.map (gearD L))), .ownT ks' [], .own (rs'.map tupI), .dat (tupI k), x4', x5', .unb, .unb] ∧ RI gs ks' rs' M) ?hi ⟨rfl, ks, rs, x4, x5, rfl, hI⟩ ?st
  case hi =>
    obtain ⟨g, hg'⟩ : ∃ g, gs[0]? = some g := ⟨_, List.getElem?_eq_getElem hg0⟩
    have a0 : atI (gs.map (gearD L)) 0 = some (gearD L g) := by
      have := Mi.atI_nat (gs.map (gearD L)) 0
      rw [List.getElem?_map, hg'] at this
      exact this
    have a1 := gear_ix0 L g
    have q3 : ((L.length : Int)).toNat = L.length := by omega
    have q4 : -(1000000 : Int) ≤ (L.length : Int) := by omega
    have q5 : (L.length : Int) ≤ 1000000 := by omega
    have q6 : L.length ≤ 1000000 := by omega
    clear hI hg h
    walk_at "ev"
  case st =>
    rintro pre d post e s2 hall ⟨rfl, ks1, rs1, x4', x5', rfl, hI1⟩
    have hd : d ∈ upto L.length := by rw [hall]; simp
    rw [upto_eq] at hd
    obtain ⟨j, hj, rfl⟩ := List.mem_map.mp hd
    rw [List.mem_range] at hj
    obtain ⟨ks2, rs2, x5'', b1, b2⟩ := rcBody_ok hL hg3 hg h hj hI1 hM x5' s2
    exact ⟨_, _, s2, rfl, b1, rfl, ks2, rs2, _, x5'', rfl, b2⟩
  obtain ⟨e', s', l1, rfl, ks', rs', x4', x5', rfl, l2⟩ := loop
  exact ⟨ks', rs', x4', x5', l1, l2⟩
abbrev rcWh : M Fl := sSeq (sPop 3 2) rcFor
theorem plains_tups (rs : List (List Int)) : plains (rs.map tupI) = true := plains_mem.mpr fun d hd => by
  obtain ⟨k, _, rfl⟩ := List.mem_map.mp hd
  show plains (k.map D.int) = true
  exact plains_mem.mpr fun d hd => by
    obtain ⟨p, _, rfl⟩ := List.mem_map.mp hd
    rfl
theorem rcWh_ok {L : List D} {gs : List (List (List (Nat × Str)))} (hL : L.length ≤ 3) (hg0 : 1 ≤ gs.length) (hg3 : gs.length ≤ 3) (hg : ∀ g ∈ gs, GOk L.length g) : ∀ (M : Nat) {ks rs : List (List Int)} (hI : RI gs ks rs M) (hM : M ≤ 900) (f : Nat) (hf : M < f) (x3 x4 x5 : B) (s : S),
    ∃ ks' x3' x4' x5', whileL (tOwnNe 2) rcWh f [.dat (.tup (gs.map (gearD L))), .ownT ks [], .own (rs.map tupI), x3, x4, x5, .unb, .unb] s = .ok .nx [.dat (.tup (gs.map (gearD L))), .ownT ks' [], .own [], x3', x4', x5', .unb, .unb] s ∧ RI gs ks' [] 900 := by
  intro M
  induction M with
  | zero =>
    intro ks rs hI hM f hf x3 x4 x5 s
    have := hI.mes
    have := std_count hg hg3 hI.nd hI.ok
    have : rs = [] := by
      cases rs with
      | nil => rfl
      | cons r rs => simp at *; omega
    subst this
    match f, hf with
    | f + 1, _ => exact ⟨ks, x3, x4, x5, rfl, hI.nd, hI.ok, hI.rest, by simp at *; omega, hI.ne⟩
  | succ M ih =>
    intro ks rs hI hM f hf x3 x4 x5 s
    match f, hf with
    | f + 1, hf =>
      have hc := std_count hg hg3 hI.nd hI.ok
      have hm := hI.mes
      by_cases c : rs = []
      · subst c
        exact ⟨ks, x3, x4, x5, rfl, hI.nd, hI.ok, hI.rest, by simp at *; omega, hI.ne⟩
      · obtain ⟨pre, r, rfl⟩ : ∃ pre r, rs = pre ++ [r] := ⟨rs.dropLast, rs.getLast c, (List.dropLast_concat_getLast c).symm⟩
        have h1 : tOwnNe 2 [.dat (.tup (gs.map (gearD L))), .ownT ks [], .own ((pre ++ [r]).map tupI), x3, x4, x5, .unb, .unb] s = .ok true [.dat (.tup (gs.map (gearD L))), .ownT ks [], .own ((pre ++ [r]).map tupI), x3, x4, x5, .unb, .unb] s := by
          show (if plains ((pre ++ [r]).map tupI) = true then R.ok (!((pre ++ [r]).map tupI).isEmpty) _ s else R.no) = _
          rw [if_pos (plains_tups _)]
          simp
        have h2 : sPop 3 2 [.dat (.tup (gs.map (gearD L))), .ownT ks [], .own ((pre ++ [r]).map tupI), x3, x4, x5, .unb, .unb] s = .ok .nx [.dat (.tup (gs.map (gearD L))), .ownT ks [], .own (pre.map tupI), .dat (tupI r), x4, x5, .unb, .unb] s := by
          have e1 : ((pre ++ [r]).map tupI)[((pre ++ [r]).map tupI).length - 1]? = some (tupI r) := by simp
          have e2 : ((pre ++ [r]).map tupI).dropLast = pre.map tupI := by simp
          show (match ((pre ++ [r]).map tupI)[((pre ++ [r]).map tupI).length - 1]? with
            | some d => R.ok Fl.nx (List.set (List.set _ 2 (.own ((pre ++ [r]).map tupI).dropLast)) 3 (.dat d)) s
            | none => R.no) = _
          rw [e1, e2]
          rfl
        have hI2 : RI gs ks pre M := ⟨hI.nd, hI.ok, fun r hr => hI.rest r (List.mem_append_left _ hr), by
          rw [List.length_append, List.length_singleton] at hm
          omega, hI.ne⟩
        obtain ⟨ks2, rs2, x4', x5', b1, b2⟩ := rcFor_ok hL hg0 hg3 hg (hI.rest r (List.mem_append_right _ (by simp))) hI2 (by omega) x4 x5 s
        obtain ⟨ks3, x3', x4'', x5'', c1, c2⟩ := ih b2 (by omega) f (by omega) (.dat (tupI r)) x4' x5' s
        refine ⟨ks3, x3', x4'', x5'', ?_, c2⟩
        unfold whileL
        rw [bnd_ok h1, if_pos rfl]
        have h3 : rcWh [.dat (.tup (gs.map (gearD L))), .ownT ks [], .own ((pre ++ [r]).map tupI), x3, x4, x5, .unb, .unb] s = .ok .nx [.dat (.tup (gs.map (gearD L))), .ownT ks2 [], .own (rs2.map tupI), .dat (tupI r), x4', x5', .unb, .unb] s := by
          show bnd (sPop 3 2) _ _ s = _
          rw [bnd_ok h2]
          exact b1
        rw [bnd_ok h3]
        exact c1
theorem std0 {n : Nat} {gs : List (List (List (Nat × Str)))} (hg : ∀ g ∈ gs, GOk n g) : StdOk gs (List.replicate gs.length 0) := by
  refine ⟨by simp, fun i g hi => ⟨0, ?_, (hg g (List.mem_of_getElem? hi)).lo⟩⟩
  have := (List.getElem?_eq_some_iff.mp hi).1
  simp [List.getElem?_replicate, this]
theorem mulT (n : Nat) (h1 : 1 ≤ n) (h3 : n ≤ 3) : tp2 gMul (.tup [.int 0]) (.int n) = some (tupI (List.replicate n 0)) := by
  have : n = 1 ∨ n = 2 ∨ n = 3 := by omega
  rcases this with rfl | rfl | rfl <;> rfl
theorem std_sort {n : Nat} {gs : List (List (List (Nat × Str)))} (hg : ∀ g ∈ gs, GOk n g) (h1 : 1 ≤ gs.length) {k : List Int} {ks : List (List Int)} (h : ∀ z ∈ k :: ks, StdOk gs z) : 1 ≤ k.length ∧ ((k :: ks).all fun n => decide (n.length = k.length) && bdB n) = true := by
  have hk := (h k List.mem_cons_self).1
  refine ⟨by omega, ?_⟩
  rw [List.all_eq_true]
  intro z hz
  rw [Bool.and_eq_true, decide_eq_true_eq]
  refine ⟨(h z hz).1.trans hk.symm, ?_⟩
  unfold bdB
  rw [List.all_eq_true]
  intro x hx
  have := std_box hg (h z hz) x hx
  simp
  omega
theorem fn_run {k n : Nat} {m : M Fl} {ds : List D} {s s' : S} {x : B} {e' : Mi.Env} (hl : ds.length = k) (h : m (ds.map .dat ++ List.replicate (n - k) .unb) s = .ok (.rt x) e' s') : fnM k n m ds s = .ok x [] s' := by
  rw [v_fnM, if_pos hl, h]
theorem seq_is {m n : M Fl} {e e1 : Mi.Env} {s s1 : S} {r : Mi.R Fl} (h1 : m e s = .ok .nx e1 s1) (h2 : n e1 s1 = r) : sSeq m n e s = r := by
  rw [v_sSeq, bnd_ok h1]
  exact h2
theorem ret_is {mx : M B} {x : B} {e e1 : Mi.Env} {s s1 : S} (h : mx e s = .ok x e1 s1) : sRet mx e s = .ok (.rt x) e1 s1 := by
  rw [v_sRet, bnd_ok h]
  rfl
theorem dat_is {ma : M D} {d : D} {e e1 : Mi.Env} {s s1 : S} (h : ma e s = .ok d e1 s1) : datM ma e s = .ok (.dat d) e1 s1 := by
  rw [v_datM, bnd_ok h]
  rfl
theorem reached_ok {L : List D} {gs : List (List (List (Nat × Str)))} (hL : L.length ≤ 3) (hg0 : 1 ≤ gs.length) (hg3 : gs.length ≤ 3) (hg : ∀ g ∈ gs, GOk L.length g) (s : S) : ∃ ks : List (List Int), fnM 1 8 m_law_reached [.tup (gs.map (gearD L))] s = .ok (.dat (.lst (ks.map tupI))) [] s ∧ ks.length ≤ 27 ∧ ∀ k ∈ ks, StdOk gs k := by
  have hI : RI gs [List.replicate gs.length 0] [List.replicate gs.length 0] 27 := ⟨by simp, fun k hk => by
    rw [List.mem_singleton] at hk
    exact hk ▸ std0 hg, fun k hk => by
    rw [List.mem_singleton] at hk
    exact hk ▸ std0 hg, by simp, by simp⟩
  obtain ⟨ks, x3, x4, x5, b1, b2⟩ := rcWh_ok hL hg0 hg3 hg 27 hI (by decide) 1000 (by decide) .unb .unb .unb s
  have hc := std_count hg hg3 b2.nd b2.ok
  have h1 : sPar [1, 2] (bCons (mDispT (m2 (mTup (aCons (Mi.ret (.int 0)) aNil)) (mCall (aCons (mVar 0) aNil) (tpN gLen)) (tp2 gMul))) (bCons (mLstF (aCons (m2 (mTup (aCons (Mi.ret (.int 0)) aNil)) (mCall (aCons (mVar 0) aNil) (tpN gLen)) (tp2 gMul)) aNil)) bNil)) [.dat (.tup (gs.map (gearD L))), .unb, .unb, .unb, .unb, .unb, .unb, .unb] s =
      .ok .nx [.dat (.tup (gs.map (gearD L))), .ownT [List.replicate gs.length 0] [], .own ([List.replicate gs.length (0 : Int)].map tupI), .unb, .unb, .unb, .unb, .unb] s := by
    have e1 := mulT gs.length hg0 hg3
    have e2 : tpN gLen [.tup (gs.map (gearD L))] = some (.int gs.length) := by
      show some (D.int ((gs.map (gearD L)).length : Int)) = _
      rw [List.length_map]
    have e3 := intsT_tup (List.replicate gs.length 0)
    have v_mDispT : ∀ (m : M D) (e : Mi.Env) (s : S), mDispT m e s = bnd m (fun d => lift ((intsT d).map fun k => .ownT [k] [])) e s := fun _ _ _ => rfl
    generalize List.replicate gs.length (0 : Int) = z at e1 e3 ⊢
    clear hI b1 b2 hc hg
    walk_at "ev"
  cases ks with
  | nil => exact absurd rfl b2.ne
  | cons k ks =>
    obtain ⟨c1, c2⟩ := std_sort hg hg0 b2.ok
    have h2 : mSrtT 1 [.dat (.tup (gs.map (gearD L))), .ownT (k :: ks) [], .own [], x3, x4, x5, .unb, .unb] s = .ok (.lst ((srtK (TS.code 1000) (k :: ks)).map tupI)) [.dat (.tup (gs.map (gearD L))), .ownT (k :: ks) [], .own [], x3, x4, x5, .unb, .unb] s := by
      show (if (k :: ks).length < 64 ∧ 1 ≤ k.length ∧ ((k :: ks).all fun n => decide (n.length = k.length) && bdB n) = true then R.ok (D.lst ((srtK (TS.code 1000) (k :: ks)).map tupI)) _ s else R.no) = R.ok _ _ _
      rw [if_pos ⟨by omega, c1, c2⟩]
    refine ⟨srtK (TS.code 1000) (k :: ks), ?_, Nat.le_trans (len_srtK _) hc, fun z hz => b2.ok z (mem_srtK hz)⟩
    generalize srtK (TS.code 1000) (k :: ks) = z at h2 ⊢
    refine fn_run rfl (e' := [.dat (.tup (gs.map (gearD L))), .ownT (k :: ks) [], .own [], x3, x4, x5, .unb, .unb]) ?_
    unfold m_law_reached
    refine seq_is h1 (seq_is b1 ?_)
    exact ret_is (dat_is h2)
end Lw

set_option Elab.async false
set_option linter.all false
set_option autoImplicit false
set_option maxRecDepth 100000
set_option maxHeartbeats 4000000
/-! K78, the plain law: the state after a letter. -/
namespace Lw
open PySem L2 Mi
local macro_rules | `(tactic| walk_at "ev") => `(tactic| simp [v_ret, v_bnd, v_some, v_none, v_asB, v_tNo, v_tAn, v_tOrr, v_ofB, v_mAn, v_mOrr, v_mNo, v_mIf, v_c3, v_aNil, v_aCons, v_mTup, v_mLst, v_mNtup, v_mLstF, v_m2, v_m1, v_c2, v_mC, v_pNone, v_pSome, v_mSl, v_mCall, v_tIsi, v_frzM, v_datM, v_sNx, v_sSeq, v_sDrop, v_sRet, v_sSet, v_sIf, v_mCF, v_noXF, v_noX, v_iSeq, v_iZip, v_iRng, v_iEnu, v_sUnp, v_tgN, v_tgsNil, v_tgsCons, v_sRaise2, v_sRetV, v_sTry, v_mIxF, v_tNiF, v_sPar, v_bNil, v_bCons, v_fAdd, v_mDix, v_sDst, v_mDcp, v_mSrtSet, v_mTix, v_mRev, v_mVar, v_sApp, w_add, w_sub, w_ixT, w_ixN, w_ixL, w_addT, w_addNT, w_lenT, w_lenN, w_lenL, w_lenS, w_ltI, w_leI, w_gtI, w_geI, w_leI0, w_ltI0, w_eqI, w_neI, w_eqS, w_neS, w_isI, w_isS, w_isT, w_isN, w_isL, w_isB, w_isO, B.frz, List.replicate, w_slT, w_slL, w_topT, w_topN, w_topL, w_zipT, w_gItT, w_gItN, w_gItL, w_tgT, cut1, w_at0, w_at1, w_at2, w_lim, w_ite, putAll, w_at3, w_at4, w_at5, w_tupL, w_tupT, w_tupN, w_lstL, w_lstT, w_intI, w_intB, w_topI, w_topS, w_addII, w_addTT, str_inj, str_beq, v_tNiT, v_sTst, v_mSrtT, v_mCV, w_addLL, w_revT, *])
theorem intsOf_tup (k : List Int) (ks : List D) : intsOf (tupI k :: ks) = none := rfl
theorem tupsOf_map : ∀ ks : List (List Int), tupsOf (ks.map tupI) = some ks
  | [] => rfl
  | k :: ks => by
    show (match intsOf (k.map D.int), tupsOf (ks.map tupI) with
      | some i, some r => some (i :: r)
      | _, _ => none) = _
    rw [intsOf_map, tupsOf_map ks]
theorem srt_tups {n : Nat} {gs : List (List (List (Nat × Str)))} (hg : ∀ g ∈ gs, GOk n g) (h1 : 1 ≤ gs.length) {zs : List (List Int)} (h : ∀ z ∈ zs, StdOk gs z) (hl : zs.length ≤ 27) : ∃ rs : List (List Int), gSrtSet (.lst (zs.map tupI)) = some (.lst (rs.map tupI)) ∧ rs.length ≤ 27 ∧ ∀ r ∈ rs, StdOk gs r := by
  cases zs with
  | nil => exact ⟨[], rfl, by decide, fun _ h => by cases h⟩
  | cons k ks =>
    obtain ⟨c1, c2⟩ := std_sort hg h1 h
    refine ⟨srtK (TS.code 1000) (k :: ks), ?_, Nat.le_trans (len_srtK _) hl, fun z hz => h z (mem_srtK hz)⟩
    show (match tupsOf ((k :: ks).map tupI) with
      | some (k :: ks) => if (k :: ks).length < 64 ∧ 1 ≤ k.length ∧ ((k :: ks).all fun n => decide (n.length = k.length) && bdB n) = true then some (D.lst ((srtK (TS.code 1000) (k :: ks)).map tupI)) else none
      | _ => none) = _
    rw [tupsOf_map]
    show (if (k :: ks).length < 64 ∧ 1 ≤ k.length ∧ ((k :: ks).all fun n => decide (n.length = k.length) && bdB n) = true then some (D.lst ((srtK (TS.code 1000) (k :: ks)).map tupI)) else none) = _
    rw [if_pos ⟨by omega, c1, c2⟩]
theorem tix_ok {L : List D} (hL : L ∈ SgnL) {w : Str} {j : Nat} (hj : L[j]? = some (.str w)) : ∃ i : Nat, gTix (.ntup L) (.str w) = some (.int i) ∧ i < L.length := by
  simp [SgnL] at hL
  have hm := List.mem_of_getElem? hj
  rcases hL with rfl | rfl | rfl
  · simp at hm
    subst hm
    exact ⟨0, rfl, by decide⟩
  · simp at hm
    rcases hm with rfl | rfl
    · exact ⟨0, rfl, by decide⟩
    · exact ⟨1, rfl, by decide⟩
  · simp at hm
    rcases hm with rfl | rfl | rfl
    · exact ⟨0, rfl, by decide⟩
    · exact ⟨1, rfl, by decide⟩
    · exact ⟨2, rfl, by decide⟩
/-- a state's own dict, with one thing put -/
theorem tk_gears (m : MSt) (i : Nat) (y : List (List (List (Nat × Str)))) (env : Mi.Env) (h : env[i]? = some (.ownK KS m.vs)) : tgD i "gears" (.tup (y.map (gearD m.L))) env = some (env.set i (.ownK KS (MSt.vs { m with gs := y }))) := tg_gears _ _ _ _ _ _ _ _ _ _ env i h
theorem tk_know (m : MSt) (i : Nat) (y : List (List Int)) (env : Mi.Env) (h : env[i]? = some (.ownK KS m.vs)) : tgD i "know" (.tup (y.map tupI)) env = some (env.set i (.ownK KS (MSt.vs { m with ks := y }))) := tg_know _ _ _ _ _ _ _ _ _ _ env i h
theorem tk_live (m : MSt) (i : Nat) (y : Nat) (env : Mi.Env) (h : env[i]? = some (.ownK KS m.vs)) : tgD i "live" (.int (y : Int)) env = some (env.set i (.ownK KS (MSt.vs { m with l := y }))) := tg_live _ _ _ _ _ _ _ _ _ _ env i h
theorem tk_state (m : MSt) (i : Nat) (y : Nat) (env : Mi.Env) (h : env[i]? = some (.ownK KS m.vs)) : tgD i "state" (.int (y : Int)) env = some (env.set i (.ownK KS (MSt.vs { m with st := y }))) := tg_state _ _ _ _ _ _ _ _ _ _ env i h
theorem tk_quiet (m : MSt) (i : Nat) (y : List D) (env : Mi.Env) (h : env[i]? = some (.ownK KS m.vs)) : tgD i "quiet" (.tup y) env = some (env.set i (.ownK KS (MSt.vs { m with q := y }))) := tg_quiet _ _ _ _ _ _ _ _ _ _ env i h
theorem tk_acts (m : MSt) (i : Nat) (y : List D) (env : Mi.Env) (h : env[i]? = some (.ownK KS m.vs)) : tgD i "acts" (.tup y) env = some (env.set i (.ownK KS (MSt.vs { m with as := y }))) := tg_acts _ _ _ _ _ _ _ _ _ _ env i h
theorem tk_heard (m : MSt) (i : Nat) (y : List D) (env : Mi.Env) (h : env[i]? = some (.ownK KS m.vs)) : tgD i "heard" (.tup y) env = some (env.set i (.ownK KS (MSt.vs { m with hs := y }))) := tg_heard _ _ _ _ _ _ _ _ _ _ env i h
theorem tk_told (m : MSt) (i : Nat) (y : List D) (env : Mi.Env) (h : env[i]? = some (.ownK KS m.vs)) : tgD i "told" (.tup y) env = some (env.set i (.ownK KS (MSt.vs { m with ts := y }))) := tg_told _ _ _ _ _ _ _ _ _ _ env i h
theorem read_ok {k : Nat} {m : MSt} (hm : MOk k m) (hk : k ≤ 100) {w : Str} {j : Nat} (hj : m.L[j]? = some (.str w)) (s : S) :
    ∃ ks' st' t, fnM 2 12 m_law_read [m.d, .str w] s = .ok (.ownK KS (MSt.vs { m with ks := ks', st := st', hs := m.hs ++ [.str w], ts := m.ts ++ [t] })) [] s ∧ ks'.length ≤ 27 ∧ (∀ k ∈ ks', StdOk m.gs k) ∧ (∀ g, m.gs[m.l]? = some g → st' < g.length) ∧ ∃ a b c, t = .tup [a, b, .str c] := by
  have lk := lks m
  obtain ⟨f1, f2, f3, f4, f5, f6, f7⟩ := sgn_facts hm.L
  obtain ⟨i, ti, il⟩ := tix_ok hm.L hj
  obtain ⟨g0, hg0⟩ : ∃ g, m.gs[0]? = some g := ⟨_, List.getElem?_eq_getElem hm.g0⟩
  obtain ⟨g, hg⟩ : ∃ g, m.gs[m.l]? = some g := ⟨_, List.getElem?_eq_getElem hm.l⟩
  have a0 : atI (m.gs.map (gearD m.L)) 0 = some (gearD m.L g0) := atI_g hg0
  have al := atI_g (m := m) hg
  have b0 := gear_ix0 m.L g0
  have b1 := gear_ix1 m.L g
  obtain ⟨lo, h3, ok⟩ := hm.g g (List.mem_of_getElem? hg)
  have hst := hm.st g hg
  have r0 : g[m.st]? = some g[m.st] := List.getElem?_eq_getElem hst
  obtain ⟨r1, r2⟩ := ok g[m.st] (List.getElem_mem hst)
  have p0 : (g[m.st])[i]? = some (g[m.st])[i] := List.getElem?_eq_getElem (by omega)
  obtain ⟨q1, q2⟩ := r2 (g[m.st])[i] (List.getElem_mem _)
  have e1 : atI (g.map rowD) (m.st : Int) = some (rowD g[m.st]) := by
    rw [Mi.atI_nat, List.getElem?_map, r0]
    rfl
  have e2 : tp2 gIx (rowD g[m.st]) (.int i) = some (pairD (g[m.st])[i]) := by
    show atI (g[m.st].map pairD) (i : Int) = _
    rw [Mi.atI_nat, List.getElem?_map, p0]
    rfl
  have hkl := hm.kl
  have hls := hm.hs
  have hts := hm.ts
  generalize (g[m.st])[i] = p at e2 q1 q2
  have iq := w_inS p.2 m.q hm.q
  have z0 : sPar [5, 6, 7] (bCons (mDcp (mVar 0)) (bCons (datM (mDix 0 "gears")) (bCons (datM (mDix 0 "live")) bNil))) [.dat m.d, .dat (.str w), .unb, .unb, .unb, .unb, .unb, .unb, .unb, .unb, .unb, .unb] s = .ok .nx [.dat m.d, .dat (.str w), .unb, .unb, .unb, (.ownK KS m.vs), .dat (.tup (m.gs.map (gearD m.L))), .dat (.int m.l), .unb, .unb, .unb, .unb] s := by
    clear hm ok r2 q2
    walk_at "ev"
  have z1 : sSet 2 (datM (mTix (m2 (m2 (mVar 6) (Mi.ret (.int 0)) (tp2 gIx)) (Mi.ret (.int 0)) (tp2 gIx)) (mVar 1))) [.dat m.d, .dat (.str w), .unb, .unb, .unb, (.ownK KS m.vs), .dat (.tup (m.gs.map (gearD m.L))), .dat (.int m.l), .unb, .unb, .unb, .unb] s = .ok .nx [.dat m.d, .dat (.str w), .dat (.int i), .unb, .unb, (.ownK KS m.vs), .dat (.tup (m.gs.map (gearD m.L))), .dat (.int m.l), .unb, .unb, .unb, .unb] s := by
    clear hm ok r2 q2
    walk_at "ev"
  have hp0 : pairD p = .tup [.int p.1, .str p.2] := rfl
  have z2 : sUnp (tgT 2 (tgsCons (tgN 8) (tgsCons (tgN 3) tgsNil))) (m2 (m2 (m2 (m2 (mVar 6) (mVar 7) (tp2 gIx)) (Mi.ret (.int 1)) (tp2 gIx)) (mDix 0 "state") (tp2 gIx)) (mVar 2) (tp2 gIx)) [.dat m.d, .dat (.str w), .dat (.int i), .unb, .unb, (.ownK KS m.vs), .dat (.tup (m.gs.map (gearD m.L))), .dat (.int m.l), .unb, .unb, .unb, .unb] s = .ok .nx [.dat m.d, .dat (.str w), .dat (.int i), .dat (.str p.2), .unb, (.ownK KS m.vs), .dat (.tup (m.gs.map (gearD m.L))), .dat (.int m.l), .dat (.int p.1), .unb, .unb, .unb] s := by
    clear hm ok r2 q2
    walk_at "ev"
  have z3 : sSet 3 (mIf (c2 (mVar 3) (mDix 0 "quiet") (tp2 cIn)) (datM (Mi.ret (.str ""))) (datM (mVar 3))) [.dat m.d, .dat (.str w), .dat (.int i), .dat (.str p.2), .unb, (.ownK KS m.vs), .dat (.tup (m.gs.map (gearD m.L))), .dat (.int m.l), .dat (.int p.1), .unb, .unb, .unb] s = .ok .nx [.dat m.d, .dat (.str w), .dat (.int i), .dat (D.str (if (m.q.any fun z => dEq z (D.str p.2)) = true then "" else p.2)), .unb, (.ownK KS m.vs), .dat (.tup (m.gs.map (gearD m.L))), .dat (.int m.l), .dat (.int p.1), .unb, .unb, .unb] s := by
    generalize (m.q.any fun z => dEq z (.str p.2)) = bb at iq ⊢
    clear hm ok r2 q2
    cases bb <;> walk_at "ev"
  generalize hw2 : (D.str (if (m.q.any fun z => dEq z (D.str p.2)) = true then "" else p.2)) = w2 at z3
  obtain ⟨u2, rfl⟩ : ∃ u2, w2 = D.str u2 := ⟨_, hw2.symm⟩
  have z4 : sSet 4 (mLc (iSeq (mDix 0 "know")) [9] (tgN 9) (Mi.ret true) (mCall (aCons (frzM (mLc (Mi.iZip (aCons (mVar 6) (aCons (mVar 9) aNil))) [10, 11] (tgT 2 (tgsCons (tgN 10) (tgsCons (tgN 11) tgsNil))) (Mi.ret true) (m2 (m2 (m2 (m2 (mVar 10) (Mi.ret (.int 1)) (tp2 gIx)) (mVar 11) (tp2 gIx)) (mVar 2) (tp2 gIx)) (Mi.ret (.int 0)) (tp2 gIx)))) aNil) (tpN gTuple))) [.dat m.d, .dat (.str w), .dat (.int i), .dat (.str u2), .unb, (.ownK KS m.vs), .dat (.tup (m.gs.map (gearD m.L))), .dat (.int m.l), .dat (.int p.1), .unb, .unb, .unb] s = .ok .nx [.dat m.d, .dat (.str w), .dat (.int i), .dat (.str u2), .own ((m.ks.map fun k => nxStd m.gs k i).map tupI), (.ownK KS m.vs), .dat (.tup (m.gs.map (gearD m.L))), .dat (.int m.l), .dat (.int p.1), .unb, .unb, .unb] s := by
    have c := lc_map (it := iSeq (mDix 0 "know")) (i := 9) (m := mCall (aCons (frzM (mLc (Mi.iZip (aCons (mVar 6) (aCons (mVar 9) aNil))) [10, 11] (tgT 2 (tgsCons (tgN 10) (tgsCons (tgN 11) tgsNil))) (Mi.ret true) (m2 (m2 (m2 (m2 (mVar 10) (Mi.ret (.int 1)) (tp2 gIx)) (mVar 11) (tp2 gIx)) (mVar 2) (tp2 gIx)) (Mi.ret (.int 0)) (tp2 gIx)))) aNil) (tpN gTuple)) (s := s)
      (e := [.dat m.d, .dat (.str w), .dat (.int i), .dat (.str u2), .unb, (.ownK KS m.vs), .dat (.tup (m.gs.map (gearD m.L))), .dat (.int m.l), .dat (.int p.1), .unb, .unb, .unb]) (e0 := [.dat m.d, .dat (.str w), .dat (.int i), .dat (.str u2), .unb, (.ownK KS m.vs), .dat (.tup (m.gs.map (gearD m.L))), .dat (.int m.l), .dat (.int p.1), .unb, .unb, .unb]) (ds := m.ks.map tupI) (fun d => match intsT d with
        | some k => tupI (nxStd m.gs k i)
        | none => .non) (by clear hm ok r2 q2; walk_at "ev") (by rw [List.length_map]; unfold lim; omega) rfl ?hh
    case hh =>
      intro d hd
      obtain ⟨kk, hkk, rfl⟩ := List.mem_map.mp hd
      have hs := hm.kk kk hkk
      have zi : Mi.iZip (aCons (mVar 6) (aCons (mVar 9) aNil)) [.dat m.d, .dat (.str w), .dat (.int i), .dat (.str u2), .unb, (.ownK KS m.vs), .dat (.tup (m.gs.map (gearD m.L))), .dat (.int m.l), .dat (.int p.1), .dat (tupI kk), .unb, .unb] s = .ok (zipD (m.gs.map (gearD m.L)) (kk.map D.int)) [.dat m.d, .dat (.str w), .dat (.int i), .dat (.str u2), .unb, (.ownK KS m.vs), .dat (.tup (m.gs.map (gearD m.L))), .dat (.int m.l), .dat (.int p.1), .dat (tupI kk), .unb, .unb] s := rfl
      have lc := nx_lc (a := 10) (b := 11) (j := i) (m := m2 (m2 (m2 (m2 (mVar 10) (Mi.ret (.int 1)) (tp2 gIx)) (mVar 11) (tp2 gIx)) (mVar 2) (tp2 gIx)) (Mi.ret (.int 0)) (tp2 gIx)) hm.g3 hm.g hs il (by decide) zi rfl rfl (fun g x => by
        clear zi hm ok r2 q2 lk hs hd e1 e2 al a0 b0 b1 f1 f2 f5 f6 f7 hw2 iq ti z0 z1 z2 z3 hp0
        cases q1 : tp2 gIx g (.int 1) with
        | none => walk_at "ev"
        | some r1 =>
          cases q2 : tp2 gIx r1 x with
          | none => walk_at "ev"
          | some r2 =>
            cases q3 : tp2 gIx r2 (.int i) with
            | none => walk_at "ev"
            | some r3 =>
              cases q4 : tp2 gIx r3 (.int 0) with
              | none => walk_at "ev"
              | some r4 => walk_at "ev")
      have it := intsT_tup kk
      clear hm ok r2 q2 lk hs hd e1 e2 al a0 b0 b1 f1 f2 f5 f6 f7 hw2 iq ti z0 z1 z2 z3 hp0 zi
      walk_at "ev"
      rfl
    have em : (m.ks.map tupI).map (fun d => match intsT d with
        | some k => tupI (nxStd m.gs k i)
        | none => .non) = (m.ks.map fun k => nxStd m.gs k i).map tupI := by
      rw [List.map_map, List.map_map]
      refine List.map_congr_left fun kk hkk => ?_
      show (match intsT (tupI kk) with
        | some k => tupI (nxStd m.gs k i)
        | none => .non) = _
      rw [intsT_tup]
      rfl
    rw [em] at c
    clear hm ok r2 q2 lk
    walk_at "ev"
  have zs : ∀ z ∈ m.ks.map (fun k => nxStd m.gs k i), StdOk m.gs z := fun z hz => by
    obtain ⟨kk, hkk, rfl⟩ := List.mem_map.mp hz
    exact nx_ok hm.g (hm.kk kk hkk) il
  obtain ⟨rs, s1, s2, s3⟩ := srt_tups hm.g hm.g0 zs (by rw [List.length_map]; exact hm.kl)
  generalize (m.ks.map fun k => nxStd m.gs k i) = zz at z4 s1
  have z5 : sUnp (tgT 2 (tgsCons (tgD 5 "know") (tgsCons (tgD 5 "state") tgsNil))) (mTup (aCons (mCall (aCons (mSrtSet (mVar 4)) aNil) (tpN gTuple)) (aCons (mVar 8) aNil))) [.dat m.d, .dat (.str w), .dat (.int i), .dat (.str u2), .own (zz.map tupI), (.ownK KS m.vs), .dat (.tup (m.gs.map (gearD m.L))), .dat (.int m.l), .dat (.int p.1), .unb, .unb, .unb] s = .ok .nx [.dat m.d, .dat (.str w), .dat (.int i), .dat (.str u2), .dat (.lst (zz.map tupI)), (.ownK KS (MSt.vs { m with ks := rs, st := p.1 })), .dat (.tup (m.gs.map (gearD m.L))), .dat (.int m.l), .dat (.int p.1), .unb, .unb, .unb] s := by
    have t1 := tk_know m 5 rs
    have t2 := tk_state { m with ks := rs } 5 p.1
    clear hm ok r2 q2 lk z0 z1 z2 z3 z4
    walk_at "ev"
  have z6 : sDst 5 "heard" (m2 (mDix 0 "heard") (mTup (aCons (mVar 1) aNil)) (tp2 gAdd)) [.dat m.d, .dat (.str w), .dat (.int i), .dat (.str u2), .dat (.lst (zz.map tupI)), (.ownK KS (MSt.vs { m with ks := rs, st := p.1 })), .dat (.tup (m.gs.map (gearD m.L))), .dat (.int m.l), .dat (.int p.1), .unb, .unb, .unb] s = .ok .nx [.dat m.d, .dat (.str w), .dat (.int i), .dat (.str u2), .dat (.lst (zz.map tupI)), (.ownK KS (MSt.vs { m with ks := rs, st := p.1, hs := m.hs ++ [.str w] })), .dat (.tup (m.gs.map (gearD m.L))), .dat (.int m.l), .dat (.int p.1), .unb, .unb, .unb] s := by
    have t1 := tk_heard { m with ks := rs, st := p.1 } 5 (m.hs ++ [.str w])
    have l1 : m.hs.length + 1 ≤ 1000000 := by omega
    clear hm ok r2 q2 z0 z1 z2 z3 z4 z5
    walk_at "ev"
  have z7 : sDst 5 "told" (m2 (mDix 0 "told") (mTup (aCons (mTup (aCons (m2 (mVar 6) (mVar 7) (tp2 gIx)) (aCons (mDix 0 "quiet") (aCons (mVar 3) aNil)))) aNil)) (tp2 gAdd)) [.dat m.d, .dat (.str w), .dat (.int i), .dat (.str u2), .dat (.lst (zz.map tupI)), (.ownK KS (MSt.vs { m with ks := rs, st := p.1, hs := m.hs ++ [.str w] })), .dat (.tup (m.gs.map (gearD m.L))), .dat (.int m.l), .dat (.int p.1), .unb, .unb, .unb] s = .ok .nx [.dat m.d, .dat (.str w), .dat (.int i), .dat (.str u2), .dat (.lst (zz.map tupI)), (.ownK KS (MSt.vs { m with ks := rs, st := p.1, hs := m.hs ++ [.str w], ts := m.ts ++ [.tup [gearD m.L g, .tup m.q, .str u2]] })), .dat (.tup (m.gs.map (gearD m.L))), .dat (.int m.l), .dat (.int p.1), .unb, .unb, .unb] s := by
    have t1 := tk_told { m with ks := rs, st := p.1, hs := m.hs ++ [.str w] } 5 (m.ts ++ [.tup [gearD m.L g, .tup m.q, .str u2]])
    have l1 : m.ts.length + 1 ≤ 1000000 := by omega
    clear hm ok r2 q2 z0 z1 z2 z3 z4 z5 z6
    walk_at "ev"
  have z8 : sRetV 5 [.dat m.d, .dat (.str w), .dat (.int i), .dat (.str u2), .dat (.lst (zz.map tupI)), (.ownK KS (MSt.vs { m with ks := rs, st := p.1, hs := m.hs ++ [.str w], ts := m.ts ++ [.tup [gearD m.L g, .tup m.q, .str u2]] })), .dat (.tup (m.gs.map (gearD m.L))), .dat (.int m.l), .dat (.int p.1), .unb, .unb, .unb] s = .ok (.rt (.ownK KS (MSt.vs { m with ks := rs, st := p.1, hs := m.hs ++ [.str w], ts := m.ts ++ [.tup [gearD m.L g, .tup m.q, .str u2]] }))) [.dat m.d, .dat (.str w), .dat (.int i), .dat (.str u2), .dat (.lst (zz.map tupI)), (.ownK KS (MSt.vs { m with ks := rs, st := p.1, hs := m.hs ++ [.str w], ts := m.ts ++ [.tup [gearD m.L g, .tup m.q, .str u2]] })), .dat (.tup (m.gs.map (gearD m.L))), .dat (.int m.l), .dat (.int p.1), .unb, .unb, .unb] s := rfl
  refine ⟨rs, p.1, .tup [gearD m.L g, .tup m.q, .str u2], ?_, s2, s3, fun g' hg' => ?_, _, _, _, rfl⟩
  · exact fn_run rfl (seq_is z0 (seq_is z1 (seq_is z2 (seq_is z3 (seq_is z4 (seq_is z5 (seq_is z6 (seq_is z7 z8))))))))
  · rw [hg] at hg'
    cases hg'
    exact q1
end Lw

set_option Elab.async false
set_option linter.all false
set_option autoImplicit false
set_option maxRecDepth 100000
set_option maxHeartbeats 4000000
/-! K78, the plain law: the state after an event. -/
namespace Lw
open PySem L2 Mi
local macro_rules | `(tactic| walk_at "ev") => `(tactic| simp [v_ret, v_bnd, v_some, v_none, v_asB, v_tNo, v_tAn, v_tOrr, v_ofB, v_mAn, v_mOrr, v_mNo, v_mIf, v_c3, v_aNil, v_aCons, v_mTup, v_mLst, v_mNtup, v_mLstF, v_m2, v_m1, v_c2, v_mC, v_pNone, v_pSome, v_mSl, v_mCall, v_tIsi, v_frzM, v_datM, v_sNx, v_sSeq, v_sDrop, v_sRet, v_sSet, v_sIf, v_mCF, v_noXF, v_noX, v_iSeq, v_iZip, v_iRng, v_iEnu, v_sUnp, v_tgN, v_tgsNil, v_tgsCons, v_sRaise2, v_sRetV, v_sTry, v_mIxF, v_tNiF, v_sPar, v_bNil, v_bCons, v_fAdd, v_mDix, v_sDst, v_mDcp, v_mSrtSet, v_mTix, v_mRev, v_mVar, v_sApp, w_add, w_sub, w_ixT, w_ixN, w_ixL, w_addT, w_addNT, w_lenT, w_lenN, w_lenL, w_lenS, w_ltI, w_leI, w_gtI, w_geI, w_leI0, w_ltI0, w_eqI, w_neI, w_eqS, w_neS, w_isI, w_isS, w_isT, w_isN, w_isL, w_isB, w_isO, B.frz, List.replicate, w_slT, w_slL, w_topT, w_topN, w_topL, w_zipT, w_gItT, w_gItN, w_gItL, w_tgT, cut1, w_at0, w_at1, w_at2, w_lim, w_ite, putAll, w_at3, w_at4, w_at5, w_tupL, w_tupT, w_tupN, w_lstL, w_lstT, w_intI, w_intB, w_topI, w_topS, w_addII, w_addTT, str_inj, str_beq, v_tNiT, v_sTst, v_mSrtT, v_mCV, w_addLL, w_revT, *])
theorem if_yes {t : M Bool} {m n : M Fl} {e : Mi.Env} {s : S} (h : t e s = .ok true e s) : sIf t m n e s = m e s := by
  rw [v_sIf, bnd_ok h, if_pos rfl]
theorem if_no {t : M Bool} {m n : M Fl} {e : Mi.Env} {s : S} (h : t e s = .ok false e s) : sIf t m n e s = n e s := by
  rw [v_sIf, bnd_ok h, if_neg (by decide)]
theorem gears_len (m : MSt) : (m.gs.map (gearD m.L)).length = m.gs.length := List.length_map _
/-- what an event leaves -/
def MovedR (k : Nat) (m : MSt) (a : D) (s : S) : Prop := ∃ m' : MSt, fnM 2 5 m_law_moved [m.d, a] s = .ok (.ownK KS m'.vs) [] s ∧ MOk (k + 1) m' ∧ m'.L = m.L ∧ (∀ w, a = .tup [.str "read", w] → ∃ pre x y z, m'.ts = pre ++ [.tup [x, y, .str z]])
theorem fit_acts {k : Nat} {m : MSt} (hm : MOk k m) {a : D} (ha : Fit (10 ^ 30) 80 10 a) : (m.as ++ [a]).length ≤ k + 1 ∧ ∀ x ∈ m.as ++ [a], Fit (10 ^ 30) 80 10 x := by
  refine ⟨by rw [List.length_append, List.length_singleton]; have := hm.as.1; omega, fun x hx => ?_⟩
  rcases List.mem_append.mp hx with hx | hx
  · exact hm.as.2 x hx
  · rw [List.mem_singleton] at hx
    exact hx ▸ ha
theorem mv_acts (m m1 : MSt) (a : D) (h1 : m.as.length ≤ 1000) (x3 x4 : B) (s : S) : (sDst 2 "acts" (m2 (mDix 0 "acts") (mTup (aCons (mVar 1) aNil)) (tp2 gAdd)) : M Fl) [.dat m.d, .dat a, .ownK KS m1.vs, x3, x4] s = .ok .nx [.dat m.d, .dat a, .ownK KS (MSt.vs { m1 with as := m.as ++ [a] }), x3, x4] s := by
  have lk := lks m
  have t := tk_acts m1 2 (m.as ++ [a])
  have l1 : m.as.length + 1 ≤ 1000000 := by omega
  walk_at "ev"
theorem moved_read {k : Nat} {m : MSt} (hm : MOk k m) (hk : k ≤ 50) {w : Str} {j : Nat} (hj : m.L[j]? = some (.str w)) (hf : Fit (10 ^ 30) 80 10 (.tup [.str "read", .str w])) (s : S) : MovedR k m (.tup [.str "read", .str w]) s := by
  obtain ⟨ks, st, t, r1, r2, r3, r4, x, y, z, rfl⟩ := read_ok hm (by omega) hj s
  have ha := hm.as.1
  obtain ⟨fa, fb⟩ := fit_acts hm hf
  have z0 : (sSet 2 (mIf (c2 (m2 (mVar 1) (Mi.ret (.int 0)) (tp2 gIx)) (Mi.ret (.str "read")) (tp2 cEq)) (mCF (noXF (fnM 2 12 m_law_read)) (aCons (mVar 0) (aCons (m2 (mVar 1) (Mi.ret (.int 1)) (tp2 gIx)) aNil))) (mDcp (mVar 0))) : M Fl) [.dat m.d, .dat (.tup [.str "read", .str w]), .unb, .unb, .unb] s = .ok .nx [.dat m.d, .dat (.tup [.str "read", .str w]), .ownK KS (MSt.vs { m with ks := ks, st := st, hs := m.hs ++ [.str w], ts := m.ts ++ [.tup [x, y, .str z]] }), .unb, .unb] s := by
    clear hm hf fa fb r3 r4
    walk_at "ev"
  have z1 := mv_acts m { m with ks := ks, st := st, hs := m.hs ++ [.str w], ts := m.ts ++ [.tup [x, y, .str z]] } (.tup [.str "read", .str w]) (by omega) .unb .unb s
  have z2 : (sIf (c2 (m2 (mVar 1) (Mi.ret (.int 0)) (tp2 gIx)) (Mi.ret (.str "plan")) (tp2 cEq)) (sSeq (sDst 2 "gears" (m2 (mDix 0 "gears") (mTup (aCons (m2 (mVar 1) (Mi.ret (.int 1)) (tp2 gIx)) aNil)) (tp2 gAdd))) (sDst 2 "know" (mCall (aCons (frzM (mLc (iSeq (frzM (mCF (noXF (fnM 1 8 m_law_reached)) (aCons (mDix 2 "gears") aNil)))) [3] (tgN 3) (c2 (mSl (mVar 3) pNone (pSome (Mi.ret (.int (-1))))) (mDix 0 "know") (tp2 cIn)) (mVar 3))) aNil) (tpN gTuple)))) (sIf (c2 (m2 (mVar 1) (Mi.ret (.int 0)) (tp2 gIx)) (Mi.ret (.str "replace")) (tp2 cEq)) (sUnp (tgT 2 (tgsCons (tgD 2 "live") (tgsCons (tgD 2 "state") tgsNil))) (mTup (aCons (m2 (mVar 1) (Mi.ret (.int 1)) (tp2 gIx)) (aCons (m2 (frzM (mCF (noXF (fnM 3 3 m_law_true)) (aCons (mVar 0) (aCons (m2 (mVar 1) (Mi.ret (.int 1)) (tp2 gIx)) (aCons (mDix 0 "quiet") aNil))))) (Mi.ret (.int 0)) (tp2 gIx)) aNil)))) (sIf (c2 (m2 (mVar 1) (Mi.ret (.int 0)) (tp2 gIx)) (Mi.ret (.str "force")) (tp2 cEq)) (sUnp (tgT 2 (tgsCons (tgD 2 "live") (tgsCons (tgD 2 "state") tgsNil))) (mTup (aCons (m2 (mVar 1) (Mi.ret (.int 1)) (tp2 gIx)) (aCons (m2 (mVar 1) (Mi.ret (.int 2)) (tp2 gIx)) aNil)))) (sIf (c2 (m2 (mVar 1) (Mi.ret (.int 0)) (tp2 gIx)) (Mi.ret (.str "quiet")) (tp2 cEq)) (sDst 2 "quiet" (m2 (mVar 1) (Mi.ret (.int 1)) (tp2 gIx))) (sIf (c2 (m2 (mVar 1) (Mi.ret (.int 0)) (tp2 gIx)) (Mi.ret (.str "forget")) (tp2 cEq)) (sSeq (sSet 4 (datM (m2 (mVar 1) (Mi.ret (.int 1)) (tp2 gIx)))) (sSeq (sDst 2 "gears" (m2 (mSl (mDix 0 "gears") pNone (pSome (mVar 4))) (mSl (mDix 0 "gears") (pSome (m2 (mVar 4) (Mi.ret (.int 1)) (tp2 gAdd))) pNone) (tp2 gAdd))) (sSeq (sDst 2 "know" (mCall (aCons (mSrtSet (frzM (mLc (iSeq (mDix 0 "know")) [3] (tgN 3) (Mi.ret true) (m2 (mSl (mVar 3) pNone (pSome (mVar 4))) (mSl (mVar 3) (pSome (m2 (mVar 4) (Mi.ret (.int 1)) (tp2 gAdd))) pNone) (tp2 gAdd))))) aNil) (tpN gTuple))) (sDst 2 "live" (m2 (mDix 0 "live") (mCall (aCons (mC (tp2 cLt) (mVar 4) (mDix 0 "live")) aNil) (tpN gInt)) (tp2 gSub)))))) sNx)))) : M Fl) [.dat m.d, .dat (.tup [.str "read", .str w]), .ownK KS (MSt.vs { m with ks := ks, st := st, hs := m.hs ++ [.str w], ts := m.ts ++ [.tup [x, y, .str z]], as := m.as ++ [.tup [.str "read", .str w]] }), .unb, .unb] s = .ok .nx [.dat m.d, .dat (.tup [.str "read", .str w]), .ownK KS (MSt.vs { m with ks := ks, st := st, hs := m.hs ++ [.str w], ts := m.ts ++ [.tup [x, y, .str z]], as := m.as ++ [.tup [.str "read", .str w]] }), .unb, .unb] s := by
    clear hm hf fa fb r3 r4
    walk_at "ev"
  refine ⟨{ m with ks := ks, st := st, hs := m.hs ++ [.str w], ts := m.ts ++ [.tup [x, y, .str z]], as := m.as ++ [.tup [.str "read", .str w]] }, fn_run rfl (seq_is z0 (seq_is z1 (seq_is z2 rfl))), ?_, rfl, fun w hw => ⟨m.ts, x, y, z, rfl⟩⟩
  have h1 := hm.hs
  have h2 := hm.ts
  exact ⟨hm.L, hm.g0, hm.g3, hm.g, r2, r3, hm.l, r4, hm.q, ⟨fa, fb⟩, by show (m.hs ++ _).length ≤ _; rw [List.length_append, List.length_singleton]; omega, by show (m.ts ++ _).length ≤ _; rw [List.length_append, List.length_singleton]; omega, hm.hd⟩
theorem mv_copy (m : MSt) (x : Str) (r : List D) (hx : ¬ x = "read") (s : S) : (sSet 2 (mIf (c2 (m2 (mVar 1) (Mi.ret (.int 0)) (tp2 gIx)) (Mi.ret (.str "read")) (tp2 cEq)) (mCF (noXF (fnM 2 12 m_law_read)) (aCons (mVar 0) (aCons (m2 (mVar 1) (Mi.ret (.int 1)) (tp2 gIx)) aNil))) (mDcp (mVar 0))) : M Fl) [.dat m.d, .dat (.tup (.str x :: r)), .unb, .unb, .unb] s = .ok .nx [.dat m.d, .dat (.tup (.str x :: r)), .ownK KS m.vs, .unb, .unb] s := by
  walk_at "ev"
theorem moved_force {k : Nat} {m : MSt} (hm : MOk k m) (hk : k ≤ 50) {v t : Nat} {g : List (List (Nat × Str))} (hg : m.gs[v]? = some g) (ht : t < g.length) (hf : Fit (10 ^ 30) 80 10 (.tup [.str "force", .int v, .int t])) (s : S) : MovedR k m (.tup [.str "force", .int v, .int t]) s := by
  have ha := hm.as.1
  have lk := lks m
  obtain ⟨fa, fb⟩ := fit_acts hm hf
  have z0 := mv_copy m "force" [.int v, .int t] (by decide) s
  have z1 := mv_acts m m (.tup [.str "force", .int v, .int t]) (by omega) .unb .unb s
  have z2 : (sIf (c2 (m2 (mVar 1) (Mi.ret (.int 0)) (tp2 gIx)) (Mi.ret (.str "plan")) (tp2 cEq)) (sSeq (sDst 2 "gears" (m2 (mDix 0 "gears") (mTup (aCons (m2 (mVar 1) (Mi.ret (.int 1)) (tp2 gIx)) aNil)) (tp2 gAdd))) (sDst 2 "know" (mCall (aCons (frzM (mLc (iSeq (frzM (mCF (noXF (fnM 1 8 m_law_reached)) (aCons (mDix 2 "gears") aNil)))) [3] (tgN 3) (c2 (mSl (mVar 3) pNone (pSome (Mi.ret (.int (-1))))) (mDix 0 "know") (tp2 cIn)) (mVar 3))) aNil) (tpN gTuple)))) (sIf (c2 (m2 (mVar 1) (Mi.ret (.int 0)) (tp2 gIx)) (Mi.ret (.str "replace")) (tp2 cEq)) (sUnp (tgT 2 (tgsCons (tgD 2 "live") (tgsCons (tgD 2 "state") tgsNil))) (mTup (aCons (m2 (mVar 1) (Mi.ret (.int 1)) (tp2 gIx)) (aCons (m2 (frzM (mCF (noXF (fnM 3 3 m_law_true)) (aCons (mVar 0) (aCons (m2 (mVar 1) (Mi.ret (.int 1)) (tp2 gIx)) (aCons (mDix 0 "quiet") aNil))))) (Mi.ret (.int 0)) (tp2 gIx)) aNil)))) (sIf (c2 (m2 (mVar 1) (Mi.ret (.int 0)) (tp2 gIx)) (Mi.ret (.str "force")) (tp2 cEq)) (sUnp (tgT 2 (tgsCons (tgD 2 "live") (tgsCons (tgD 2 "state") tgsNil))) (mTup (aCons (m2 (mVar 1) (Mi.ret (.int 1)) (tp2 gIx)) (aCons (m2 (mVar 1) (Mi.ret (.int 2)) (tp2 gIx)) aNil)))) (sIf (c2 (m2 (mVar 1) (Mi.ret (.int 0)) (tp2 gIx)) (Mi.ret (.str "quiet")) (tp2 cEq)) (sDst 2 "quiet" (m2 (mVar 1) (Mi.ret (.int 1)) (tp2 gIx))) (sIf (c2 (m2 (mVar 1) (Mi.ret (.int 0)) (tp2 gIx)) (Mi.ret (.str "forget")) (tp2 cEq)) (sSeq (sSet 4 (datM (m2 (mVar 1) (Mi.ret (.int 1)) (tp2 gIx)))) (sSeq (sDst 2 "gears" (m2 (mSl (mDix 0 "gears") pNone (pSome (mVar 4))) (mSl (mDix 0 "gears") (pSome (m2 (mVar 4) (Mi.ret (.int 1)) (tp2 gAdd))) pNone) (tp2 gAdd))) (sSeq (sDst 2 "know" (mCall (aCons (mSrtSet (frzM (mLc (iSeq (mDix 0 "know")) [3] (tgN 3) (Mi.ret true) (m2 (mSl (mVar 3) pNone (pSome (mVar 4))) (mSl (mVar 3) (pSome (m2 (mVar 4) (Mi.ret (.int 1)) (tp2 gAdd))) pNone) (tp2 gAdd))))) aNil) (tpN gTuple))) (sDst 2 "live" (m2 (mDix 0 "live") (mCall (aCons (mC (tp2 cLt) (mVar 4) (mDix 0 "live")) aNil) (tpN gInt)) (tp2 gSub)))))) sNx)))) : M Fl) [.dat m.d, .dat (.tup [.str "force", .int v, .int t]), .ownK KS (MSt.vs { m with as := m.as ++ [.tup [.str "force", .int v, .int t]] }), .unb, .unb] s = .ok .nx [.dat m.d, .dat (.tup [.str "force", .int v, .int t]), .ownK KS (MSt.vs { m with as := m.as ++ [.tup [.str "force", .int v, .int t]], l := v, st := t }), .unb, .unb] s := by
    have t1 := tk_live { m with as := m.as ++ [.tup [.str "force", .int v, .int t]] } 2 v
    have t2 := tk_state { m with as := m.as ++ [.tup [.str "force", .int v, .int t]], l := v } 2 t
    clear hm hf fa fb z0 z1
    walk_at "ev"
  refine ⟨{ m with as := m.as ++ [.tup [.str "force", .int v, .int t]], l := v, st := t }, fn_run rfl (seq_is z0 (seq_is z1 (seq_is z2 rfl))), ?_, rfl, fun w hw => by cases hw⟩
  exact ⟨hm.L, hm.g0, hm.g3, hm.g, hm.kl, hm.kk, (List.getElem?_eq_some_iff.mp hg).1, fun g' hg' => by
    change m.gs[v]? = some g' at hg'
    rw [hg] at hg'
    cases hg'
    exact ht, hm.q, ⟨fa, fb⟩, Nat.le_trans hm.hs (Nat.le_succ _), Nat.le_trans hm.ts (Nat.le_succ _), hm.hd⟩
theorem moved_quiet {k : Nat} {m : MSt} (hm : MOk k m) (hk : k ≤ 50) {q : List D} (hq : plains q = true) (hf : Fit (10 ^ 30) 80 10 (.tup [.str "quiet", .tup q])) (s : S) : MovedR k m (.tup [.str "quiet", .tup q]) s := by
  have ha := hm.as.1
  have lk := lks m
  obtain ⟨fa, fb⟩ := fit_acts hm hf
  have z0 := mv_copy m "quiet" [.tup q] (by decide) s
  have z1 := mv_acts m m (.tup [.str "quiet", .tup q]) (by omega) .unb .unb s
  have z2 : (sIf (c2 (m2 (mVar 1) (Mi.ret (.int 0)) (tp2 gIx)) (Mi.ret (.str "plan")) (tp2 cEq)) (sSeq (sDst 2 "gears" (m2 (mDix 0 "gears") (mTup (aCons (m2 (mVar 1) (Mi.ret (.int 1)) (tp2 gIx)) aNil)) (tp2 gAdd))) (sDst 2 "know" (mCall (aCons (frzM (mLc (iSeq (frzM (mCF (noXF (fnM 1 8 m_law_reached)) (aCons (mDix 2 "gears") aNil)))) [3] (tgN 3) (c2 (mSl (mVar 3) pNone (pSome (Mi.ret (.int (-1))))) (mDix 0 "know") (tp2 cIn)) (mVar 3))) aNil) (tpN gTuple)))) (sIf (c2 (m2 (mVar 1) (Mi.ret (.int 0)) (tp2 gIx)) (Mi.ret (.str "replace")) (tp2 cEq)) (sUnp (tgT 2 (tgsCons (tgD 2 "live") (tgsCons (tgD 2 "state") tgsNil))) (mTup (aCons (m2 (mVar 1) (Mi.ret (.int 1)) (tp2 gIx)) (aCons (m2 (frzM (mCF (noXF (fnM 3 3 m_law_true)) (aCons (mVar 0) (aCons (m2 (mVar 1) (Mi.ret (.int 1)) (tp2 gIx)) (aCons (mDix 0 "quiet") aNil))))) (Mi.ret (.int 0)) (tp2 gIx)) aNil)))) (sIf (c2 (m2 (mVar 1) (Mi.ret (.int 0)) (tp2 gIx)) (Mi.ret (.str "force")) (tp2 cEq)) (sUnp (tgT 2 (tgsCons (tgD 2 "live") (tgsCons (tgD 2 "state") tgsNil))) (mTup (aCons (m2 (mVar 1) (Mi.ret (.int 1)) (tp2 gIx)) (aCons (m2 (mVar 1) (Mi.ret (.int 2)) (tp2 gIx)) aNil)))) (sIf (c2 (m2 (mVar 1) (Mi.ret (.int 0)) (tp2 gIx)) (Mi.ret (.str "quiet")) (tp2 cEq)) (sDst 2 "quiet" (m2 (mVar 1) (Mi.ret (.int 1)) (tp2 gIx))) (sIf (c2 (m2 (mVar 1) (Mi.ret (.int 0)) (tp2 gIx)) (Mi.ret (.str "forget")) (tp2 cEq)) (sSeq (sSet 4 (datM (m2 (mVar 1) (Mi.ret (.int 1)) (tp2 gIx)))) (sSeq (sDst 2 "gears" (m2 (mSl (mDix 0 "gears") pNone (pSome (mVar 4))) (mSl (mDix 0 "gears") (pSome (m2 (mVar 4) (Mi.ret (.int 1)) (tp2 gAdd))) pNone) (tp2 gAdd))) (sSeq (sDst 2 "know" (mCall (aCons (mSrtSet (frzM (mLc (iSeq (mDix 0 "know")) [3] (tgN 3) (Mi.ret true) (m2 (mSl (mVar 3) pNone (pSome (mVar 4))) (mSl (mVar 3) (pSome (m2 (mVar 4) (Mi.ret (.int 1)) (tp2 gAdd))) pNone) (tp2 gAdd))))) aNil) (tpN gTuple))) (sDst 2 "live" (m2 (mDix 0 "live") (mCall (aCons (mC (tp2 cLt) (mVar 4) (mDix 0 "live")) aNil) (tpN gInt)) (tp2 gSub)))))) sNx)))) : M Fl) [.dat m.d, .dat (.tup [.str "quiet", .tup q]), .ownK KS (MSt.vs { m with as := m.as ++ [.tup [.str "quiet", .tup q]] }), .unb, .unb] s = .ok .nx [.dat m.d, .dat (.tup [.str "quiet", .tup q]), .ownK KS (MSt.vs { m with as := m.as ++ [.tup [.str "quiet", .tup q]], q := q }), .unb, .unb] s := by
    have t1 := tk_quiet { m with as := m.as ++ [.tup [.str "quiet", .tup q]] } 2 q
    clear hm hf fa fb z0 z1
    walk_at "ev"
  refine ⟨{ m with as := m.as ++ [.tup [.str "quiet", .tup q]], q := q }, fn_run rfl (seq_is z0 (seq_is z1 (seq_is z2 rfl))), ?_, rfl, fun w hw => by cases hw⟩
  exact ⟨hm.L, hm.g0, hm.g3, hm.g, hm.kl, hm.kk, hm.l, hm.st, hq, ⟨fa, fb⟩, Nat.le_trans hm.hs (Nat.le_succ _), Nat.le_trans hm.ts (Nat.le_succ _), hm.hd⟩
theorem moved_replace {k : Nat} {m : MSt} (hm : MOk k m) (hk : k ≤ 50) {v : Nat} {g : List (List (Nat × Str))} {ps : List Nat} (hg : m.gs[v]? = some g) (ht : ∀ s, fnM 3 3 m_law_true [m.d, .int v, .tup m.q] s = .ok (.own ((upto g.length).filter (trP g m.q ps))) [] s) (hn : (upto g.length).filter (trP g m.q ps) ≠ []) (hf : Fit (10 ^ 30) 80 10 (.tup [.str "replace", .int v])) (s : S) : MovedR k m (.tup [.str "replace", .int v]) s := by
  have ha := hm.as.1
  have lk := lks m
  obtain ⟨fa, fb⟩ := fit_acts hm hf
  obtain ⟨t, tl, e1, e2⟩ : ∃ (t : Nat) (tl : List D), (upto g.length).filter (trP g m.q ps) = natD t :: tl ∧ t < g.length := by
    cases q : (upto g.length).filter (trP g m.q ps) with
    | nil => exact absurd q hn
    | cons x tl =>
      have : x ∈ (upto g.length).filter (trP g m.q ps) := by rw [q]; exact List.mem_cons_self
      have := (List.mem_filter.mp this).1
      rw [upto_eq] at this
      obtain ⟨t, ht, rfl⟩ := List.mem_map.mp this
      exact ⟨t, tl, rfl, List.mem_range.mp ht⟩
  have ht := ht s
  rw [e1] at ht
  have en : natD t = .int (t : Int) := rfl
  have z0 := mv_copy m "replace" [.int v] (by decide) s
  have z1 := mv_acts m m (.tup [.str "replace", .int v]) (by omega) .unb .unb s
  have z2 : (sIf (c2 (m2 (mVar 1) (Mi.ret (.int 0)) (tp2 gIx)) (Mi.ret (.str "plan")) (tp2 cEq)) (sSeq (sDst 2 "gears" (m2 (mDix 0 "gears") (mTup (aCons (m2 (mVar 1) (Mi.ret (.int 1)) (tp2 gIx)) aNil)) (tp2 gAdd))) (sDst 2 "know" (mCall (aCons (frzM (mLc (iSeq (frzM (mCF (noXF (fnM 1 8 m_law_reached)) (aCons (mDix 2 "gears") aNil)))) [3] (tgN 3) (c2 (mSl (mVar 3) pNone (pSome (Mi.ret (.int (-1))))) (mDix 0 "know") (tp2 cIn)) (mVar 3))) aNil) (tpN gTuple)))) (sIf (c2 (m2 (mVar 1) (Mi.ret (.int 0)) (tp2 gIx)) (Mi.ret (.str "replace")) (tp2 cEq)) (sUnp (tgT 2 (tgsCons (tgD 2 "live") (tgsCons (tgD 2 "state") tgsNil))) (mTup (aCons (m2 (mVar 1) (Mi.ret (.int 1)) (tp2 gIx)) (aCons (m2 (frzM (mCF (noXF (fnM 3 3 m_law_true)) (aCons (mVar 0) (aCons (m2 (mVar 1) (Mi.ret (.int 1)) (tp2 gIx)) (aCons (mDix 0 "quiet") aNil))))) (Mi.ret (.int 0)) (tp2 gIx)) aNil)))) (sIf (c2 (m2 (mVar 1) (Mi.ret (.int 0)) (tp2 gIx)) (Mi.ret (.str "force")) (tp2 cEq)) (sUnp (tgT 2 (tgsCons (tgD 2 "live") (tgsCons (tgD 2 "state") tgsNil))) (mTup (aCons (m2 (mVar 1) (Mi.ret (.int 1)) (tp2 gIx)) (aCons (m2 (mVar 1) (Mi.ret (.int 2)) (tp2 gIx)) aNil)))) (sIf (c2 (m2 (mVar 1) (Mi.ret (.int 0)) (tp2 gIx)) (Mi.ret (.str "quiet")) (tp2 cEq)) (sDst 2 "quiet" (m2 (mVar 1) (Mi.ret (.int 1)) (tp2 gIx))) (sIf (c2 (m2 (mVar 1) (Mi.ret (.int 0)) (tp2 gIx)) (Mi.ret (.str "forget")) (tp2 cEq)) (sSeq (sSet 4 (datM (m2 (mVar 1) (Mi.ret (.int 1)) (tp2 gIx)))) (sSeq (sDst 2 "gears" (m2 (mSl (mDix 0 "gears") pNone (pSome (mVar 4))) (mSl (mDix 0 "gears") (pSome (m2 (mVar 4) (Mi.ret (.int 1)) (tp2 gAdd))) pNone) (tp2 gAdd))) (sSeq (sDst 2 "know" (mCall (aCons (mSrtSet (frzM (mLc (iSeq (mDix 0 "know")) [3] (tgN 3) (Mi.ret true) (m2 (mSl (mVar 3) pNone (pSome (mVar 4))) (mSl (mVar 3) (pSome (m2 (mVar 4) (Mi.ret (.int 1)) (tp2 gAdd))) pNone) (tp2 gAdd))))) aNil) (tpN gTuple))) (sDst 2 "live" (m2 (mDix 0 "live") (mCall (aCons (mC (tp2 cLt) (mVar 4) (mDix 0 "live")) aNil) (tpN gInt)) (tp2 gSub)))))) sNx)))) : M Fl) [.dat m.d, .dat (.tup [.str "replace", .int v]), .ownK KS (MSt.vs { m with as := m.as ++ [.tup [.str "replace", .int v]] }), .unb, .unb] s = .ok .nx [.dat m.d, .dat (.tup [.str "replace", .int v]), .ownK KS (MSt.vs { m with as := m.as ++ [.tup [.str "replace", .int v]], l := v, st := t }), .unb, .unb] s := by
    have t1 := tk_live { m with as := m.as ++ [.tup [.str "replace", .int v]] } 2 v
    have t2 := tk_state { m with as := m.as ++ [.tup [.str "replace", .int v]], l := v } 2 t
    clear hm hf fa fb z0 z1
    walk_at "ev"
  refine ⟨{ m with as := m.as ++ [.tup [.str "replace", .int v]], l := v, st := t }, fn_run rfl (seq_is z0 (seq_is z1 (seq_is z2 rfl))), ?_, rfl, fun w hw => by cases hw⟩
  exact ⟨hm.L, hm.g0, hm.g3, hm.g, hm.kl, hm.kk, (List.getElem?_eq_some_iff.mp hg).1, fun g' hg' => by
    change m.gs[v]? = some g' at hg'
    rw [hg] at hg'
    cases hg'
    exact e2, hm.q, ⟨fa, fb⟩, Nat.le_trans hm.hs (Nat.le_succ _), Nat.le_trans hm.ts (Nat.le_succ _), hm.hd⟩
def plP (ks : List (List Int)) : D → Bool
  | .tup xs => (ks.map tupI).any fun z => dEq z (.tup (cutD xs none (some (-1))))
  | _ => false
theorem ints_plain (k : List Int) : plains (k.map D.int) = true := plains_mem.mpr fun d hd => by
  obtain ⟨p, _, rfl⟩ := List.mem_map.mp hd
  rfl
theorem ints_deps (k : List Int) : deps (k.map D.int) = 0 := Nat.le_zero.mp (deps_le.mpr fun d hd => by
  obtain ⟨p, _, rfl⟩ := List.mem_map.mp hd
  exact Nat.le_refl _)
theorem cut_mem {α : Type} {xs : List α} {lo hi : Option Int} {x : α} (h : x ∈ cutD xs lo hi) : x ∈ xs := List.mem_of_mem_drop (List.mem_of_mem_take h)
theorem w_inT (xs : List D) (ds : List D) (h1 : plains xs = true) (h2 : plains ds = true) (h3 : deps xs ≤ 50) : tp2 cIn (.tup xs) (.tup ds) = some (ds.any fun z => dEq z (.tup xs)) := by
  have e : inOk (.tup xs) ds = true := by
    unfold inOk
    have : D.dep (.tup xs) ≤ 60 := by
      show deps xs + 1 ≤ 60
      omega
    have e2 : D.plain (.tup xs) = true := h1
    rw [e2, h2, Bool.true_and, Bool.true_and, decide_eq_true_eq]
    exact this
  show (if inOk (.tup xs) ds = true then some (ds.any fun z => dEq z (.tup xs)) else none) = _
  rw [if_pos e]
theorem filter_tups (p : D → Bool) : ∀ ks : List (List Int), ∃ ks2 : List (List Int), (ks.map tupI).filter p = ks2.map tupI ∧ ks2.length ≤ ks.length ∧ ∀ k ∈ ks2, k ∈ ks
  | [] => ⟨[], rfl, Nat.le_refl _, fun _ h => h⟩
  | k :: ks => by
    obtain ⟨ks2, h1, h2, h3⟩ := filter_tups p ks
    cases hp : p (tupI k) with
    | true => exact ⟨k :: ks2, by rw [List.map_cons, List.filter_cons_of_pos hp, h1]; rfl, by rw [List.length_cons, List.length_cons]; omega, fun z hz => by
        rcases List.mem_cons.mp hz with rfl | hz
        · exact List.mem_cons_self
        · exact List.mem_cons_of_mem _ (h3 z hz)⟩
    | false => exact ⟨ks2, by rw [List.map_cons, List.filter_cons_of_neg (by rw [hp]; decide), h1], by rw [List.length_cons]; omega, fun z hz => List.mem_cons_of_mem _ (h3 z hz)⟩
theorem moved_plan {k : Nat} {m : MSt} (hm : MOk k m) (hk : k ≤ 50) {rows : List (List (Nat × Str))} (hr : GOk m.L.length rows) (h3 : m.gs.length < 3) (hf : Fit (10 ^ 30) 80 10 (.tup [.str "plan", gearD m.L rows])) (s : S) : MovedR k m (.tup [.str "plan", gearD m.L rows]) s := by
  have ha := hm.as.1
  have lk := lks m
  have hkl := hm.kl
  obtain ⟨f1, f2, f3, f4, f5, f6, f7⟩ := sgn_facts hm.L
  obtain ⟨fa, fb⟩ := fit_acts hm hf
  have hg' : ∀ g ∈ m.gs ++ [rows], GOk m.L.length g := fun g hg => by
    rcases List.mem_append.mp hg with hg | hg
    · exact hm.g g hg
    · rw [List.mem_singleton] at hg
      exact hg ▸ hr
  have hl0 : 1 ≤ (m.gs ++ [rows]).length := by rw [List.length_append, List.length_singleton]; omega
  have hl3 : (m.gs ++ [rows]).length ≤ 3 := by rw [List.length_append, List.length_singleton]; omega
  obtain ⟨ks, k1, k2, k3⟩ := reached_ok f3 hl0 hl3 hg' s
  obtain ⟨ks2, p1, p2, p3⟩ := filter_tups (plP m.ks) ks
  have z0 := mv_copy m "plan" [gearD m.L rows] (by decide) s
  have z1 := mv_acts m m (.tup [.str "plan", gearD m.L rows]) (by omega) .unb .unb s
  have y1 : (sDst 2 "gears" (m2 (mDix 0 "gears") (mTup (aCons (m2 (mVar 1) (Mi.ret (.int 1)) (tp2 gIx)) aNil)) (tp2 gAdd)) : M Fl) [.dat m.d, .dat (.tup [.str "plan", gearD m.L rows]), .ownK KS (MSt.vs { m with as := m.as ++ [.tup [.str "plan", gearD m.L rows]] }), .unb, .unb] s = .ok .nx [.dat m.d, .dat (.tup [.str "plan", gearD m.L rows]), .ownK KS (MSt.vs { m with as := m.as ++ [.tup [.str "plan", gearD m.L rows]], gs := m.gs ++ [rows] }), .unb, .unb] s := by
    have t1 := tk_gears { m with as := m.as ++ [.tup [.str "plan", gearD m.L rows]] } 2 (m.gs ++ [rows])
    simp only [List.map_append, List.map_cons, List.map_nil] at t1
    have l1 : m.gs.length + 1 ≤ 1000000 := by omega
    clear hm hf fa fb z0 z1 f5 hr hg' p1 k1 k3 p3
    walk_at "ev"
  have y2 : (sDst 2 "know" (mCall (aCons (frzM (mLc (iSeq (frzM (mCF (noXF (fnM 1 8 m_law_reached)) (aCons (mDix 2 "gears") aNil)))) [3] (tgN 3) (c2 (mSl (mVar 3) pNone (pSome (Mi.ret (.int (-1))))) (mDix 0 "know") (tp2 cIn)) (mVar 3))) aNil) (tpN gTuple)) : M Fl) [.dat m.d, .dat (.tup [.str "plan", gearD m.L rows]), .ownK KS (MSt.vs { m with as := m.as ++ [.tup [.str "plan", gearD m.L rows]], gs := m.gs ++ [rows] }), .unb, .unb] s = .ok .nx [.dat m.d, .dat (.tup [.str "plan", gearD m.L rows]), .ownK KS (MSt.vs { m with as := m.as ++ [.tup [.str "plan", gearD m.L rows]], gs := m.gs ++ [rows], ks := ks2 }), .unb, .unb] s := by
    have lk2 := lks { m with as := m.as ++ [.tup [.str "plan", gearD m.L rows]], gs := m.gs ++ [rows] }
    have it : (iSeq (frzM (mCF (noXF (fnM 1 8 m_law_reached)) (aCons (mDix 2 "gears") aNil))) : M (List D)) [.dat m.d, .dat (.tup [.str "plan", gearD m.L rows]), .ownK KS (MSt.vs { m with as := m.as ++ [.tup [.str "plan", gearD m.L rows]], gs := m.gs ++ [rows] }), .unb, .unb] s = .ok (ks.map tupI) [.dat m.d, .dat (.tup [.str "plan", gearD m.L rows]), .ownK KS (MSt.vs { m with as := m.as ++ [.tup [.str "plan", gearD m.L rows]], gs := m.gs ++ [rows] }), .unb, .unb] s := by
      simp only [List.map_append, List.map_cons, List.map_nil] at k1
      clear hm hf fa fb z0 z1 f5 hr hg' p1 k3 p3 y1 lk
      walk_at "ev"
    have c := lc_flt (plP m.ks) (t := c2 (mSl (mVar 3) pNone (pSome (Mi.ret (.int (-1))))) (mDix 0 "know") (tp2 cIn)) (i := 3) it (by rw [List.length_map]; unfold lim; omega) rfl ?hh
    case hh =>
      intro d hd
      obtain ⟨z, hz, rfl⟩ := List.mem_map.mp hd
      have e1 := w_inT (cutD (z.map D.int) none (some (-1))) (m.ks.map tupI) (plains_mem.mpr fun x hx => plains_mem.mp (ints_plain z) x (cut_mem hx)) (plains_tups _) (deps_le.mpr fun x hx => by
        have := deps_le.mp (Nat.le_of_eq (ints_deps z)) x (cut_mem hx)
        omega)
      have e2 : plP m.ks (tupI z) = (m.ks.map tupI).any fun y => dEq y (.tup (cutD (z.map D.int) none (some (-1)))) := rfl
      rw [e2]
      have e3 : (tupI z).top = .tup (z.map D.int) := rfl
      clear hm hf fa fb z0 z1 f5 hr hg' p1 k1 k3 p3 y1 e2 it lk2 hd
      walk_at "ev"
    rw [p1] at c
    have t1 := tk_know { m with as := m.as ++ [.tup [.str "plan", gearD m.L rows]], gs := m.gs ++ [rows] } 2 ks2
    clear hm hf fa fb z0 z1 f5 hr hg' p1 k3 p3 y1 it k1
    walk_at "ev"
  have z2 : (sIf (c2 (m2 (mVar 1) (Mi.ret (.int 0)) (tp2 gIx)) (Mi.ret (.str "plan")) (tp2 cEq)) (sSeq (sDst 2 "gears" (m2 (mDix 0 "gears") (mTup (aCons (m2 (mVar 1) (Mi.ret (.int 1)) (tp2 gIx)) aNil)) (tp2 gAdd))) (sDst 2 "know" (mCall (aCons (frzM (mLc (iSeq (frzM (mCF (noXF (fnM 1 8 m_law_reached)) (aCons (mDix 2 "gears") aNil)))) [3] (tgN 3) (c2 (mSl (mVar 3) pNone (pSome (Mi.ret (.int (-1))))) (mDix 0 "know") (tp2 cIn)) (mVar 3))) aNil) (tpN gTuple)))) (sIf (c2 (m2 (mVar 1) (Mi.ret (.int 0)) (tp2 gIx)) (Mi.ret (.str "replace")) (tp2 cEq)) (sUnp (tgT 2 (tgsCons (tgD 2 "live") (tgsCons (tgD 2 "state") tgsNil))) (mTup (aCons (m2 (mVar 1) (Mi.ret (.int 1)) (tp2 gIx)) (aCons (m2 (frzM (mCF (noXF (fnM 3 3 m_law_true)) (aCons (mVar 0) (aCons (m2 (mVar 1) (Mi.ret (.int 1)) (tp2 gIx)) (aCons (mDix 0 "quiet") aNil))))) (Mi.ret (.int 0)) (tp2 gIx)) aNil)))) (sIf (c2 (m2 (mVar 1) (Mi.ret (.int 0)) (tp2 gIx)) (Mi.ret (.str "force")) (tp2 cEq)) (sUnp (tgT 2 (tgsCons (tgD 2 "live") (tgsCons (tgD 2 "state") tgsNil))) (mTup (aCons (m2 (mVar 1) (Mi.ret (.int 1)) (tp2 gIx)) (aCons (m2 (mVar 1) (Mi.ret (.int 2)) (tp2 gIx)) aNil)))) (sIf (c2 (m2 (mVar 1) (Mi.ret (.int 0)) (tp2 gIx)) (Mi.ret (.str "quiet")) (tp2 cEq)) (sDst 2 "quiet" (m2 (mVar 1) (Mi.ret (.int 1)) (tp2 gIx))) (sIf (c2 (m2 (mVar 1) (Mi.ret (.int 0)) (tp2 gIx)) (Mi.ret (.str "forget")) (tp2 cEq)) (sSeq (sSet 4 (datM (m2 (mVar 1) (Mi.ret (.int 1)) (tp2 gIx)))) (sSeq (sDst 2 "gears" (m2 (mSl (mDix 0 "gears") pNone (pSome (mVar 4))) (mSl (mDix 0 "gears") (pSome (m2 (mVar 4) (Mi.ret (.int 1)) (tp2 gAdd))) pNone) (tp2 gAdd))) (sSeq (sDst 2 "know" (mCall (aCons (mSrtSet (frzM (mLc (iSeq (mDix 0 "know")) [3] (tgN 3) (Mi.ret true) (m2 (mSl (mVar 3) pNone (pSome (mVar 4))) (mSl (mVar 3) (pSome (m2 (mVar 4) (Mi.ret (.int 1)) (tp2 gAdd))) pNone) (tp2 gAdd))))) aNil) (tpN gTuple))) (sDst 2 "live" (m2 (mDix 0 "live") (mCall (aCons (mC (tp2 cLt) (mVar 4) (mDix 0 "live")) aNil) (tpN gInt)) (tp2 gSub)))))) sNx)))) : M Fl) [.dat m.d, .dat (.tup [.str "plan", gearD m.L rows]), .ownK KS (MSt.vs { m with as := m.as ++ [.tup [.str "plan", gearD m.L rows]] }), .unb, .unb] s = .ok .nx [.dat m.d, .dat (.tup [.str "plan", gearD m.L rows]), .ownK KS (MSt.vs { m with as := m.as ++ [.tup [.str "plan", gearD m.L rows]], gs := m.gs ++ [rows], ks := ks2 }), .unb, .unb] s := by
    have tt : (c2 (m2 (mVar 1) (Mi.ret (.int 0)) (tp2 gIx)) (Mi.ret (.str "plan")) (tp2 cEq) : M Bool) [.dat m.d, .dat (.tup [.str "plan", gearD m.L rows]), .ownK KS (MSt.vs { m with as := m.as ++ [.tup [.str "plan", gearD m.L rows]] }), .unb, .unb] s = .ok true [.dat m.d, .dat (.tup [.str "plan", gearD m.L rows]), .ownK KS (MSt.vs { m with as := m.as ++ [.tup [.str "plan", gearD m.L rows]] }), .unb, .unb] s := rfl
    rw [v_sIf, bnd_ok tt, if_pos rfl]
    exact seq_is y1 y2
  refine ⟨{ m with as := m.as ++ [.tup [.str "plan", gearD m.L rows]], gs := m.gs ++ [rows], ks := ks2 }, fn_run rfl (seq_is z0 (seq_is z1 (seq_is z2 rfl))), ?_, rfl, fun w hw => by cases hw⟩
  refine ⟨hm.L, hl0, hl3, hg', Nat.le_trans p2 k2, fun z hz => k3 z (p3 z hz), ?_, fun g hg => hm.st g ?_, hm.q, ⟨fa, fb⟩, Nat.le_trans hm.hs (Nat.le_succ _), Nat.le_trans hm.ts (Nat.le_succ _), hm.hd⟩
  · show m.l < (m.gs ++ [rows]).length
    have := hm.l
    rw [List.length_append, List.length_singleton]
    omega
  · change (m.gs ++ [rows])[m.l]? = some g at hg
    rwa [List.getElem?_append_left hm.l] at hg
theorem cut_at {α : Type} (xs : List α) (v : Nat) : cutD xs none (some (v : Int)) = xs.take v := cutD_to xs v
theorem cut_af {α : Type} (xs : List α) (v : Nat) : cutD xs (some ((v : Int) + 1)) none = xs.drop (v + 1) := cutD_from xs (v + 1)
theorem er_get {α : Type} (xs : List α) (v i : Nat) : (xs.take v ++ xs.drop (v + 1))[i]? = if i < v then xs[i]? else xs[i + 1]? := by
  rw [← List.eraseIdx_eq_take_drop_succ, List.getElem?_eraseIdx]
theorem er_len {α : Type} (xs : List α) (v : Nat) (h : v < xs.length) : (xs.take v ++ xs.drop (v + 1)).length = xs.length - 1 := by
  rw [← List.eraseIdx_eq_take_drop_succ, List.length_eraseIdx_of_lt h]
theorem moved_forget {k : Nat} {m : MSt} (hm : MOk k m) (hk : k ≤ 50) {v : Nat} (hv : v < m.gs.length) (hne : v ≠ m.l) (hf : Fit (10 ^ 30) 80 10 (.tup [.str "forget", .int v])) (s : S) : MovedR k m (.tup [.str "forget", .int v]) s := by
  have ha := hm.as.1
  have lk := lks m
  have hkl := hm.kl
  have h3 := hm.g3
  have hl := hm.l
  obtain ⟨fa, fb⟩ := fit_acts hm hf
  have el := er_len m.gs v hv
  have hg' : ∀ g ∈ m.gs.take v ++ m.gs.drop (v + 1), GOk m.L.length g := fun g hg => by
    rcases List.mem_append.mp hg with hg | hg
    · exact hm.g g (List.mem_of_mem_take hg)
    · exact hm.g g (List.mem_of_mem_drop hg)
  have hl0 : 1 ≤ (m.gs.take v ++ m.gs.drop (v + 1)).length := by rw [el]; omega
  have hl3 : (m.gs.take v ++ m.gs.drop (v + 1)).length ≤ 3 := by rw [el]; omega
  have zs : ∀ z ∈ m.ks.map (fun k => k.take v ++ k.drop (v + 1)), StdOk (m.gs.take v ++ m.gs.drop (v + 1)) z := fun z hz => by
    obtain ⟨kk, hkk, rfl⟩ := List.mem_map.mp hz
    obtain ⟨q1, q2⟩ := hm.kk kk hkk
    refine ⟨by rw [el, er_len kk v (by omega), q1], fun i g hi => ?_⟩
    rw [er_get] at hi ⊢
    by_cases c : i < v
    · rw [if_pos c] at hi ⊢
      exact q2 i g hi
    · rw [if_neg c] at hi ⊢
      exact q2 (i + 1) g hi
  obtain ⟨rs, s1, s2, s3⟩ := srt_tups hg' hl0 zs (by rw [List.length_map]; exact hm.kl)
  have z0 := mv_copy m "forget" [.int v] (by decide) s
  have z1 := mv_acts m m (.tup [.str "forget", .int v]) (by omega) .unb .unb s
  have y0 : (sSet 4 (datM (m2 (mVar 1) (Mi.ret (.int 1)) (tp2 gIx))) : M Fl) [.dat m.d, .dat (.tup [.str "forget", .int v]), .ownK KS (MSt.vs { m with as := m.as ++ [.tup [.str "forget", .int v]] }), .unb, .unb] s = .ok .nx [.dat m.d, .dat (.tup [.str "forget", .int v]), .ownK KS (MSt.vs { m with as := m.as ++ [.tup [.str "forget", .int v]] }), .unb, .dat (.int v)] s := rfl
  have y1 : (sDst 2 "gears" (m2 (mSl (mDix 0 "gears") pNone (pSome (mVar 4))) (mSl (mDix 0 "gears") (pSome (m2 (mVar 4) (Mi.ret (.int 1)) (tp2 gAdd))) pNone) (tp2 gAdd)) : M Fl) [.dat m.d, .dat (.tup [.str "forget", .int v]), .ownK KS (MSt.vs { m with as := m.as ++ [.tup [.str "forget", .int v]] }), .unb, .dat (.int v)] s = .ok .nx [.dat m.d, .dat (.tup [.str "forget", .int v]), .ownK KS (MSt.vs { m with as := m.as ++ [.tup [.str "forget", .int v]], gs := m.gs.take v ++ m.gs.drop (v + 1) }), .unb, .dat (.int v)] s := by
    have t1 := tk_gears { m with as := m.as ++ [.tup [.str "forget", .int v]] } 2 (m.gs.take v ++ m.gs.drop (v + 1))
    simp only [List.map_append, List.map_take, List.map_drop] at t1
    have c1 := cut_at (m.gs.map (gearD m.L)) v
    have c2 := cut_af (m.gs.map (gearD m.L)) v
    have l1 : min v m.gs.length + (m.gs.length - (v + 1)) ≤ 1000000 := by omega
    clear hm hf fa fb z0 z1 hg' zs s1 s3 y0
    walk_at "ev"
  have y2 : (sDst 2 "know" (mCall (aCons (mSrtSet (frzM (mLc (iSeq (mDix 0 "know")) [3] (tgN 3) (Mi.ret true) (m2 (mSl (mVar 3) pNone (pSome (mVar 4))) (mSl (mVar 3) (pSome (m2 (mVar 4) (Mi.ret (.int 1)) (tp2 gAdd))) pNone) (tp2 gAdd))))) aNil) (tpN gTuple)) : M Fl) [.dat m.d, .dat (.tup [.str "forget", .int v]), .ownK KS (MSt.vs { m with as := m.as ++ [.tup [.str "forget", .int v]], gs := m.gs.take v ++ m.gs.drop (v + 1) }), .unb, .dat (.int v)] s = .ok .nx [.dat m.d, .dat (.tup [.str "forget", .int v]), .ownK KS (MSt.vs { m with as := m.as ++ [.tup [.str "forget", .int v]], gs := m.gs.take v ++ m.gs.drop (v + 1), ks := rs }), .unb, .dat (.int v)] s := by
    have it : (iSeq (mDix 0 "know") : M (List D)) [.dat m.d, .dat (.tup [.str "forget", .int v]), .ownK KS (MSt.vs { m with as := m.as ++ [.tup [.str "forget", .int v]], gs := m.gs.take v ++ m.gs.drop (v + 1) }), .unb, .dat (.int v)] s = .ok (m.ks.map tupI) [.dat m.d, .dat (.tup [.str "forget", .int v]), .ownK KS (MSt.vs { m with as := m.as ++ [.tup [.str "forget", .int v]], gs := m.gs.take v ++ m.gs.drop (v + 1) }), .unb, .dat (.int v)] s := by
      clear hm hf fa fb z0 z1 hg' zs s1 s3 y0 y1
      walk_at "ev"
    have c := lc_map (fun d => match intsT d with
        | some k => tupI (k.take v ++ k.drop (v + 1))
        | none => .non) (m := m2 (mSl (mVar 3) pNone (pSome (mVar 4))) (mSl (mVar 3) (pSome (m2 (mVar 4) (Mi.ret (.int 1)) (tp2 gAdd))) pNone) (tp2 gAdd)) (i := 3) it (by rw [List.length_map]; unfold lim; omega) rfl ?hh
    case hh =>
      intro d hd
      obtain ⟨z, hz, rfl⟩ := List.mem_map.mp hd
      obtain ⟨q1, _⟩ := hm.kk z hz
      have c1 := cut_at (z.map D.int) v
      have c2 := cut_af (z.map D.int) v
      have l1 : min v z.length + (z.length - (v + 1)) ≤ 1000000 := by omega
      have l2 : min v m.gs.length + (m.gs.length - (v + 1)) ≤ 1000000 := by omega
      have it := intsT_tup z
      have e3 : (tupI z).top = .tup (z.map D.int) := rfl
      have e4 : tupI (z.take v ++ z.drop (v + 1)) = .tup ((z.map D.int).take v ++ (z.map D.int).drop (v + 1)) := by
        unfold tupI
        rw [List.map_append, List.map_take, List.map_drop]
      clear hm hf fa fb z0 z1 hg' zs s1 s3 y0 y1 hd
      rw [it]
      simp only [e4]
      walk_at "ev"
    have em : (m.ks.map tupI).map (fun d => match intsT d with
        | some k => tupI (k.take v ++ k.drop (v + 1))
        | none => .non) = (m.ks.map fun k => k.take v ++ k.drop (v + 1)).map tupI := by
      rw [List.map_map, List.map_map]
      refine List.map_congr_left fun kk hkk => ?_
      show (match intsT (tupI kk) with
        | some k => tupI (k.take v ++ k.drop (v + 1))
        | none => .non) = _
      rw [intsT_tup]
      rfl
    rw [em] at c
    generalize (m.ks.map fun k => k.take v ++ k.drop (v + 1)) = zz at c s1
    have t1 := tk_know { m with as := m.as ++ [.tup [.str "forget", .int v]], gs := m.gs.take v ++ m.gs.drop (v + 1) } 2 rs
    clear hm hf fa fb z0 z1 hg' zs s3 y0 y1 it lk
    walk_at "ev"
  have y3 : (sDst 2 "live" (m2 (mDix 0 "live") (mCall (aCons (mC (tp2 cLt) (mVar 4) (mDix 0 "live")) aNil) (tpN gInt)) (tp2 gSub)) : M Fl) [.dat m.d, .dat (.tup [.str "forget", .int v]), .ownK KS (MSt.vs { m with as := m.as ++ [.tup [.str "forget", .int v]], gs := m.gs.take v ++ m.gs.drop (v + 1), ks := rs }), .unb, .dat (.int v)] s = .ok .nx [.dat m.d, .dat (.tup [.str "forget", .int v]), .ownK KS (MSt.vs { m with as := m.as ++ [.tup [.str "forget", .int v]], gs := m.gs.take v ++ m.gs.drop (v + 1), ks := rs, l := if v < m.l then m.l - 1 else m.l }), .unb, .dat (.int v)] s := by
    have t1 := tk_live { m with as := m.as ++ [.tup [.str "forget", .int v]], gs := m.gs.take v ++ m.gs.drop (v + 1), ks := rs } 2 (if v < m.l then m.l - 1 else m.l)
    by_cases c : v < m.l
    · have e1 : ((m.l - 1 : Nat) : Int) = (m.l : Int) - 1 := by omega
      rw [if_pos c] at t1 ⊢
      rw [e1] at t1
      clear hm hf fa fb z0 z1 hg' zs s1 s3 y0 y1 y2
      walk_at "ev"
    · rw [if_neg c] at t1 ⊢
      have c' : m.l ≤ v := by omega
      clear hm hf fa fb z0 z1 hg' zs s1 s3 y0 y1 y2
      walk_at "ev"
  have z2 : (sIf (c2 (m2 (mVar 1) (Mi.ret (.int 0)) (tp2 gIx)) (Mi.ret (.str "plan")) (tp2 cEq)) (sSeq (sDst 2 "gears" (m2 (mDix 0 "gears") (mTup (aCons (m2 (mVar 1) (Mi.ret (.int 1)) (tp2 gIx)) aNil)) (tp2 gAdd))) (sDst 2 "know" (mCall (aCons (frzM (mLc (iSeq (frzM (mCF (noXF (fnM 1 8 m_law_reached)) (aCons (mDix 2 "gears") aNil)))) [3] (tgN 3) (c2 (mSl (mVar 3) pNone (pSome (Mi.ret (.int (-1))))) (mDix 0 "know") (tp2 cIn)) (mVar 3))) aNil) (tpN gTuple)))) (sIf (c2 (m2 (mVar 1) (Mi.ret (.int 0)) (tp2 gIx)) (Mi.ret (.str "replace")) (tp2 cEq)) (sUnp (tgT 2 (tgsCons (tgD 2 "live") (tgsCons (tgD 2 "state") tgsNil))) (mTup (aCons (m2 (mVar 1) (Mi.ret (.int 1)) (tp2 gIx)) (aCons (m2 (frzM (mCF (noXF (fnM 3 3 m_law_true)) (aCons (mVar 0) (aCons (m2 (mVar 1) (Mi.ret (.int 1)) (tp2 gIx)) (aCons (mDix 0 "quiet") aNil))))) (Mi.ret (.int 0)) (tp2 gIx)) aNil)))) (sIf (c2 (m2 (mVar 1) (Mi.ret (.int 0)) (tp2 gIx)) (Mi.ret (.str "force")) (tp2 cEq)) (sUnp (tgT 2 (tgsCons (tgD 2 "live") (tgsCons (tgD 2 "state") tgsNil))) (mTup (aCons (m2 (mVar 1) (Mi.ret (.int 1)) (tp2 gIx)) (aCons (m2 (mVar 1) (Mi.ret (.int 2)) (tp2 gIx)) aNil)))) (sIf (c2 (m2 (mVar 1) (Mi.ret (.int 0)) (tp2 gIx)) (Mi.ret (.str "quiet")) (tp2 cEq)) (sDst 2 "quiet" (m2 (mVar 1) (Mi.ret (.int 1)) (tp2 gIx))) (sIf (c2 (m2 (mVar 1) (Mi.ret (.int 0)) (tp2 gIx)) (Mi.ret (.str "forget")) (tp2 cEq)) (sSeq (sSet 4 (datM (m2 (mVar 1) (Mi.ret (.int 1)) (tp2 gIx)))) (sSeq (sDst 2 "gears" (m2 (mSl (mDix 0 "gears") pNone (pSome (mVar 4))) (mSl (mDix 0 "gears") (pSome (m2 (mVar 4) (Mi.ret (.int 1)) (tp2 gAdd))) pNone) (tp2 gAdd))) (sSeq (sDst 2 "know" (mCall (aCons (mSrtSet (frzM (mLc (iSeq (mDix 0 "know")) [3] (tgN 3) (Mi.ret true) (m2 (mSl (mVar 3) pNone (pSome (mVar 4))) (mSl (mVar 3) (pSome (m2 (mVar 4) (Mi.ret (.int 1)) (tp2 gAdd))) pNone) (tp2 gAdd))))) aNil) (tpN gTuple))) (sDst 2 "live" (m2 (mDix 0 "live") (mCall (aCons (mC (tp2 cLt) (mVar 4) (mDix 0 "live")) aNil) (tpN gInt)) (tp2 gSub)))))) sNx)))) : M Fl) [.dat m.d, .dat (.tup [.str "forget", .int v]), .ownK KS (MSt.vs { m with as := m.as ++ [.tup [.str "forget", .int v]] }), .unb, .unb] s = .ok .nx [.dat m.d, .dat (.tup [.str "forget", .int v]), .ownK KS (MSt.vs { m with as := m.as ++ [.tup [.str "forget", .int v]], gs := m.gs.take v ++ m.gs.drop (v + 1), ks := rs, l := if v < m.l then m.l - 1 else m.l }), .unb, .dat (.int v)] s := by
    have yy := seq_is y0 (seq_is y1 (seq_is y2 y3))
    clear hm hf fa fb z0 z1 hg' zs s1 s3 y0 y1 y2 y3
    exact (if_no rfl).trans ((if_no rfl).trans ((if_no rfl).trans ((if_no rfl).trans ((if_yes rfl).trans yy))))
  refine ⟨{ m with as := m.as ++ [.tup [.str "forget", .int v]], gs := m.gs.take v ++ m.gs.drop (v + 1), ks := rs, l := if v < m.l then m.l - 1 else m.l }, fn_run rfl (seq_is z0 (seq_is z1 (seq_is z2 rfl))), ?_, rfl, fun w hw => by cases hw⟩
  refine ⟨hm.L, hl0, hl3, hg', s2, s3, ?_, fun g hg => hm.st g ?_, hm.q, ⟨fa, fb⟩, Nat.le_trans hm.hs (Nat.le_succ _), Nat.le_trans hm.ts (Nat.le_succ _), hm.hd⟩
  · show (if v < m.l then m.l - 1 else m.l) < (m.gs.take v ++ m.gs.drop (v + 1)).length
    rw [el]
    split <;> omega
  · change (m.gs.take v ++ m.gs.drop (v + 1))[if v < m.l then m.l - 1 else m.l]? = some g at hg
    rw [er_get] at hg
    by_cases c : v < m.l
    · rw [if_pos c, if_neg (by omega)] at hg
      have : m.l - 1 + 1 = m.l := by omega
      rwa [this] at hg
    · rw [if_neg c, if_pos (by omega)] at hg
      exact hg
theorem moved_ok {k : Nat} {m : MSt} (hm : MOk k m) (hk : k ≤ 50) {a : D} (hf : Fit (10 ^ 30) 80 10 a) (h : Poss m a) (s : S) : MovedR k m a s := by
  cases h with
  | read w j hj => exact moved_read hm hk hj hf s
  | plan rows hr h3 => exact moved_plan hm hk hr h3 hf s
  | replace v g ps hg ht hn => exact moved_replace hm hk hg ht hn hf s
  | force v t g hg ht => exact moved_force hm hk hg ht hf s
  | quiet q hq => exact moved_quiet hm hk hq hf s
  | forget v hv hn => exact moved_forget hm hk hv hn hf s
end Lw

set_option Elab.async false
set_option linter.all false
set_option autoImplicit false
set_option maxRecDepth 100000
set_option maxHeartbeats 4000000
/-! K78, the plain law: the next state; drawn events; new states. -/
namespace Lw
open PySem L2 Mi
local macro_rules | `(tactic| walk_at "ev") => `(tactic| simp [v_ret, v_bnd, v_some, v_none, v_asB, v_tNo, v_tAn, v_tOrr, v_ofB, v_mAn, v_mOrr, v_mNo, v_mIf, v_c3, v_aNil, v_aCons, v_mTup, v_mLst, v_mNtup, v_mLstF, v_m2, v_m1, v_c2, v_mC, v_pNone, v_pSome, v_mSl, v_mCall, v_tIsi, v_frzM, v_datM, v_sNx, v_sSeq, v_sDrop, v_sRet, v_sSet, v_sIf, v_mCF, v_noXF, v_noX, v_iSeq, v_iZip, v_iRng, v_iEnu, v_sUnp, v_tgN, v_tgsNil, v_tgsCons, v_sRaise2, v_sRetV, v_sTry, v_mIxF, v_tNiF, v_sPar, v_bNil, v_bCons, v_fAdd, v_mDix, v_sDst, v_mDcp, v_mSrtSet, v_mTix, v_mRev, v_mVar, v_sApp, w_add, w_sub, w_ixT, w_ixN, w_ixL, w_addT, w_addNT, w_lenT, w_lenN, w_lenL, w_lenS, w_ltI, w_leI, w_gtI, w_geI, w_leI0, w_ltI0, w_eqI, w_neI, w_eqS, w_neS, w_isI, w_isS, w_isT, w_isN, w_isL, w_isB, w_isO, B.frz, List.replicate, w_slT, w_slL, w_topT, w_topN, w_topL, w_zipT, w_gItT, w_gItN, w_gItL, w_tgT, cut1, w_at0, w_at1, w_at2, w_lim, w_ite, putAll, w_at3, w_at4, w_at5, w_tupL, w_tupT, w_tupN, w_lstL, w_lstT, w_intI, w_intB, w_topI, w_topS, w_addII, w_addTT, str_inj, str_beq, v_tNiT, v_sTst, v_mSrtT, v_mCV, w_addLL, w_revT, *])
theorem w_isnS (x : Str) : tp2 cIsn (.str x) .non = some true := rfl
theorem w_isnN : tp2 cIsn .non .non = some false := rfl
theorem atI_last {α : Type} (pre : List α) (x : α) : atI (pre ++ [x]) (-1) = some x := by
  unfold atI ixN
  rw [if_neg (by decide), if_pos (by rw [List.length_append, List.length_singleton]; omega)]
  show (pre ++ [x])[(-1 + ((pre ++ [x]).length : Int)).toNat]? = _
  have : (-1 + ((pre ++ [x]).length : Int)).toNat = pre.length := by
    rw [List.length_append, List.length_singleton]
    omega
  rw [this]
  simp
theorem next_ok {k : Nat} {m : MSt} (hm : MOk k m) (hk : k ≤ 50) {a : D} (ha : ActOk m a) (s : S) : ∃ (m' : MSt) (o : D), fnM 2 4 m_law_next [m.d, a] s = .ok (.dat (.tup [m'.d, o])) [] s ∧ MOk (k + 1) m' ∧ m'.L = m.L := by
  obtain ⟨r, r1, r2, r3⟩ := reason_ok hm (by omega) ha
  have r1 := r1 s
  rcases r2 with rfl | ⟨x, rfl⟩
  · have hp := r3 rfl
    obtain ⟨m', v1, v2, v3, v4⟩ := moved_ok hm hk ha.fit hp s
    have lk := lks m'
    have hn := w_isnN
    have fin : ∀ o : D, fnM 2 4 m_law_next [m.d, a] s = .ok (.dat (.tup [m'.d, o])) [] s → ∃ (m' : MSt) (o : D), fnM 2 4 m_law_next [m.d, a] s = .ok (.dat (.tup [m'.d, o])) [] s ∧ MOk (k + 1) m' ∧ m'.L = m.L := fun o h => ⟨m', o, h, v2, v3⟩
    have other : ∀ (x : Str) (rr : List D), a = .tup (.str x :: rr) → ¬ x = "read" → ∃ (m' : MSt) (o : D), fnM 2 4 m_law_next [m.d, a] s = .ok (.dat (.tup [m'.d, o])) [] s ∧ MOk (k + 1) m' ∧ m'.L = m.L := fun x rr he hx => by
      refine fin (.tup [.str "returned", .str ""]) ?_
      subst he
      clear hm ha hp v2 v4 fin r3
      unfold fnM m_law_next
      walk_at "ev"
    cases hp with
    | read w j hj =>
      obtain ⟨pre, x, y, z, hz⟩ := v4 (.str w) rfl
      have al := atI_last pre (D.tup [x, y, .str z])
      rw [hz] at lk
      refine fin (.tup [.str "returned", .str z]) ?_
      clear hm ha v2 v4 fin r3 hj other
      unfold fnM m_law_next
      walk_at "ev"
    | plan rows hr h3 => exact other _ _ rfl (by decide)
    | replace v g ps hg ht hn => exact other _ _ rfl (by decide)
    | force v t g hg ht => exact other _ _ rfl (by decide)
    | quiet q hq => exact other _ _ rfl (by decide)
    | forget v hv hn => exact other _ _ rfl (by decide)
  · have hs := w_isnS x
    refine ⟨m, .tup [.str "InvalidEvent", a, .str x], ?_, ⟨hm.L, hm.g0, hm.g3, hm.g, hm.kl, hm.kk, hm.l, hm.st, hm.q, ⟨Nat.le_trans hm.as.1 (Nat.le_succ _), hm.as.2⟩, Nat.le_trans hm.hs (Nat.le_succ _), Nat.le_trans hm.ts (Nat.le_succ _), hm.hd⟩, rfl⟩
    clear hm ha r3
    unfold fnM m_law_next
    walk_at "ev"
/-- the events that are usually not possible -/
def oddL (m : MSt) (g0 : List (List (Nat × Str))) : List D := [.tup [.str "read", .str "zz"], .tup [.str "read", .str ""], .tup [.str "read", .non], .tup [.str "read"], .tup [.str "plan", .tup [.tup [.str "z"], .tup [.tup [.tup [.int 0, .str ""]]]]], .tup [.str "plan", .non], .tup [.str "plan", .tup [.ntup m.L, .tup []]], .tup [.str "plan", .tup [.ntup m.L, .tup (g0.map rowD ++ [.tup []])]], .tup [.str "plan", .lst [.ntup m.L, .tup (g0.map rowD)]], .tup [.str "plan", gearD m.L g0], .tup [.str "replace", .int m.gs.length], .tup [.str "replace", .int (-1)], .tup [.str "replace", .bl true], .tup [.str "replace", .int m.l], .tup [.str "replace"], .tup [.str "force", .int m.gs.length, .int 0], .tup [.str "force", .int 0, .int 9], .tup [.str "force", .int 0], .tup [.str "force", .int 0, .bl false], .tup [.str "force", .int 0, .int (-1)], .tup [.str "quiet", .tup [.str "y", .str "x"]], .tup [.str "quiet", .tup [.str ""]], .tup [.str "quiet", .str "x"], .tup [.str "quiet", .lst [.str "x"]], .tup [.str "quiet", .tup [.str "x", .str "x"]], .tup [.str "forget", .int (m.gs.length + 5)], .tup [.str "forget", .int m.l], .tup [.str "forget", .non], .tup [.str "stop"], .non, .tup [], .lst [.str "read", .str "a"]]
theorem gear_dec (L : List D) (g : List (List (Nat × Str))) : gearD L g = .tup [.ntup L, .tup (g.map rowD)] := rfl
theorem odd_ev {ns : List Int} {k d : Nat} {m : MSt} (hm : MOk k m) {s0 : S} (h : RB ns d s0) (hd : d < 60000) (g0 : List (List (Nat × Str))) (hg0 : m.gs[0]? = some g0) : ∃ (v : Nat) (a : D) (s' : S), fnM 2 5 m_law_odd [.root 0, m.d] s0 = .ok (.dat a) [] s' ∧ (oddL m g0)[v]? = some a ∧ RB ns (d + 1) s' := by
  obtain ⟨v, s', a1, a2, a3⟩ := draw_ok h (by omega) 32 32 rfl (by decide) (by decide)
  have lk := lks m
  have i0 : atI (m.gs.map (gearD m.L)) 0 = some (gearD m.L g0) := atI_g hg0
  have q0 := gear_ix0 m.L g0
  have q1 := gear_ix1 m.L g0
  have gl : tpN gList [gearD m.L g0] = some (.lst [.ntup m.L, .tup (g0.map rowD)]) := rfl
  have h3 : (g0.map rowD).length + 1 ≤ 1000000 := by
    have := (hm.g g0 (List.mem_of_getElem? hg0)).hi
    rw [List.length_map]
    omega
  rw [List.length_map] at h3
  have hl : v < (oddL m g0).length := a2
  refine ⟨v, (oddL m g0)[v], s', ?_, List.getElem?_eq_getElem hl, a3⟩
  have at1 : atI (oddL m g0) (v : Int) = some (oddL m g0)[v] := by rw [Mi.atI_nat]; exact List.getElem?_eq_getElem hl
  generalize hx : (oddL m g0)[v] = x at at1 ⊢
  generalize hs : s0 = s at a1 ⊢
  clear hm h a3 hx hl hg0 hs
  have z0 : (sPar [3, 4] (bCons (datM (m2 (mDix 1 "gears") (Mi.ret (.int 0)) (tp2 gIx))) (bCons (datM (mCall (aCons (mDix 1 "gears") aNil) (tpN gLen))) bNil)) : M Fl) [.dat (.root 0), .dat m.d, .unb, .unb, .unb] s = .ok .nx [.dat (.root 0), .dat m.d, .unb, .dat (gearD m.L g0), .dat (.int m.gs.length)] s := by
    walk_at "ev"
  have z1 : (sSet 2 (mLstF (aCons (mTup (aCons (Mi.ret (.str "read")) (aCons (Mi.ret (.str "zz")) aNil))) (aCons (mTup (aCons (Mi.ret (.str "read")) (aCons (Mi.ret (.str "")) aNil))) (aCons (mTup (aCons (Mi.ret (.str "read")) (aCons (Mi.ret .non) aNil))) (aCons (mTup (aCons (Mi.ret (.str "read")) aNil)) (aCons (mTup (aCons (Mi.ret (.str "plan")) (aCons (mTup (aCons (mTup (aCons (Mi.ret (.str "z")) aNil)) (aCons (mTup (aCons (mTup (aCons (mTup (aCons (Mi.ret (.int 0)) (aCons (Mi.ret (.str "")) aNil))) aNil)) aNil)) aNil))) aNil))) (aCons (mTup (aCons (Mi.ret (.str "plan")) (aCons (Mi.ret .non) aNil))) aNil))))))) : M Fl) [.dat (.root 0), .dat m.d, .unb, .dat (gearD m.L g0), .dat (.int m.gs.length)] s = .ok .nx [.dat (.root 0), .dat m.d, .own [.tup [.str "read", .str "zz"], .tup [.str "read", .str ""], .tup [.str "read", .non], .tup [.str "read"], .tup [.str "plan", .tup [.tup [.str "z"], .tup [.tup [.tup [.int 0, .str ""]]]]], .tup [.str "plan", .non]], .dat (gearD m.L g0), .dat (.int m.gs.length)] s := by
    walk_at "ev"
  have z2 : (sSet 2 (fAdd (mVar 2) (mLst (aCons (mTup (aCons (Mi.ret (.str "plan")) (aCons (mTup (aCons (m2 (mVar 3) (Mi.ret (.int 0)) (tp2 gIx)) (aCons (mTup aNil) aNil))) aNil))) (aCons (mTup (aCons (Mi.ret (.str "plan")) (aCons (mTup (aCons (m2 (mVar 3) (Mi.ret (.int 0)) (tp2 gIx)) (aCons (m2 (m2 (mVar 3) (Mi.ret (.int 1)) (tp2 gIx)) (mTup (aCons (mTup aNil) aNil)) (tp2 gAdd)) aNil))) aNil))) (aCons (mTup (aCons (Mi.ret (.str "plan")) (aCons (mCall (aCons (mVar 3) aNil) (tpN gList)) aNil))) (aCons (mTup (aCons (Mi.ret (.str "plan")) (aCons (mVar 3) aNil))) aNil)))))) : M Fl) [.dat (.root 0), .dat m.d, .own [.tup [.str "read", .str "zz"], .tup [.str "read", .str ""], .tup [.str "read", .non], .tup [.str "read"], .tup [.str "plan", .tup [.tup [.str "z"], .tup [.tup [.tup [.int 0, .str ""]]]]], .tup [.str "plan", .non]], .dat (gearD m.L g0), .dat (.int m.gs.length)] s = .ok .nx [.dat (.root 0), .dat m.d, .own [.tup [.str "read", .str "zz"], .tup [.str "read", .str ""], .tup [.str "read", .non], .tup [.str "read"], .tup [.str "plan", .tup [.tup [.str "z"], .tup [.tup [.tup [.int 0, .str ""]]]]], .tup [.str "plan", .non], .tup [.str "plan", .tup [.ntup m.L, .tup []]], .tup [.str "plan", .tup [.ntup m.L, .tup (g0.map rowD ++ [.tup []])]], .tup [.str "plan", .lst [.ntup m.L, .tup (g0.map rowD)]], .tup [.str "plan", gearD m.L g0]], .dat (gearD m.L g0), .dat (.int m.gs.length)] s := by
    walk_at "ev"
  have z3 : (sSet 2 (fAdd (mVar 2) (mLst (aCons (mTup (aCons (Mi.ret (.str "replace")) (aCons (mVar 4) aNil))) (aCons (mTup (aCons (Mi.ret (.str "replace")) (aCons (Mi.ret (.int (-1))) aNil))) (aCons (mTup (aCons (Mi.ret (.str "replace")) (aCons (Mi.ret (.bl true)) aNil))) (aCons (mTup (aCons (Mi.ret (.str "replace")) (aCons (mDix 1 "live") aNil))) (aCons (mTup (aCons (Mi.ret (.str "replace")) aNil)) aNil))))))) : M Fl) [.dat (.root 0), .dat m.d, .own [.tup [.str "read", .str "zz"], .tup [.str "read", .str ""], .tup [.str "read", .non], .tup [.str "read"], .tup [.str "plan", .tup [.tup [.str "z"], .tup [.tup [.tup [.int 0, .str ""]]]]], .tup [.str "plan", .non], .tup [.str "plan", .tup [.ntup m.L, .tup []]], .tup [.str "plan", .tup [.ntup m.L, .tup (g0.map rowD ++ [.tup []])]], .tup [.str "plan", .lst [.ntup m.L, .tup (g0.map rowD)]], .tup [.str "plan", gearD m.L g0]], .dat (gearD m.L g0), .dat (.int m.gs.length)] s = .ok .nx [.dat (.root 0), .dat m.d, .own [.tup [.str "read", .str "zz"], .tup [.str "read", .str ""], .tup [.str "read", .non], .tup [.str "read"], .tup [.str "plan", .tup [.tup [.str "z"], .tup [.tup [.tup [.int 0, .str ""]]]]], .tup [.str "plan", .non], .tup [.str "plan", .tup [.ntup m.L, .tup []]], .tup [.str "plan", .tup [.ntup m.L, .tup (g0.map rowD ++ [.tup []])]], .tup [.str "plan", .lst [.ntup m.L, .tup (g0.map rowD)]], .tup [.str "plan", gearD m.L g0], .tup [.str "replace", .int m.gs.length], .tup [.str "replace", .int (-1)], .tup [.str "replace", .bl true], .tup [.str "replace", .int m.l], .tup [.str "replace"]], .dat (gearD m.L g0), .dat (.int m.gs.length)] s := by
    walk_at "ev"
  have z4 : (sSet 2 (fAdd (mVar 2) (mLst (aCons (mTup (aCons (Mi.ret (.str "force")) (aCons (mVar 4) (aCons (Mi.ret (.int 0)) aNil)))) (aCons (mTup (aCons (Mi.ret (.str "force")) (aCons (Mi.ret (.int 0)) (aCons (Mi.ret (.int 9)) aNil)))) (aCons (mTup (aCons (Mi.ret (.str "force")) (aCons (Mi.ret (.int 0)) aNil))) (aCons (mTup (aCons (Mi.ret (.str "force")) (aCons (Mi.ret (.int 0)) (aCons (Mi.ret (.bl false)) aNil)))) (aCons (mTup (aCons (Mi.ret (.str "force")) (aCons (Mi.ret (.int 0)) (aCons (Mi.ret (.int (-1))) aNil)))) aNil))))))) : M Fl) [.dat (.root 0), .dat m.d, .own [.tup [.str "read", .str "zz"], .tup [.str "read", .str ""], .tup [.str "read", .non], .tup [.str "read"], .tup [.str "plan", .tup [.tup [.str "z"], .tup [.tup [.tup [.int 0, .str ""]]]]], .tup [.str "plan", .non], .tup [.str "plan", .tup [.ntup m.L, .tup []]], .tup [.str "plan", .tup [.ntup m.L, .tup (g0.map rowD ++ [.tup []])]], .tup [.str "plan", .lst [.ntup m.L, .tup (g0.map rowD)]], .tup [.str "plan", gearD m.L g0], .tup [.str "replace", .int m.gs.length], .tup [.str "replace", .int (-1)], .tup [.str "replace", .bl true], .tup [.str "replace", .int m.l], .tup [.str "replace"]], .dat (gearD m.L g0), .dat (.int m.gs.length)] s = .ok .nx [.dat (.root 0), .dat m.d, .own [.tup [.str "read", .str "zz"], .tup [.str "read", .str ""], .tup [.str "read", .non], .tup [.str "read"], .tup [.str "plan", .tup [.tup [.str "z"], .tup [.tup [.tup [.int 0, .str ""]]]]], .tup [.str "plan", .non], .tup [.str "plan", .tup [.ntup m.L, .tup []]], .tup [.str "plan", .tup [.ntup m.L, .tup (g0.map rowD ++ [.tup []])]], .tup [.str "plan", .lst [.ntup m.L, .tup (g0.map rowD)]], .tup [.str "plan", gearD m.L g0], .tup [.str "replace", .int m.gs.length], .tup [.str "replace", .int (-1)], .tup [.str "replace", .bl true], .tup [.str "replace", .int m.l], .tup [.str "replace"], .tup [.str "force", .int m.gs.length, .int 0], .tup [.str "force", .int 0, .int 9], .tup [.str "force", .int 0], .tup [.str "force", .int 0, .bl false], .tup [.str "force", .int 0, .int (-1)]], .dat (gearD m.L g0), .dat (.int m.gs.length)] s := by
    walk_at "ev"
  have z5 : (sSet 2 (fAdd (mVar 2) (mLst (aCons (mTup (aCons (Mi.ret (.str "quiet")) (aCons (mTup (aCons (Mi.ret (.str "y")) (aCons (Mi.ret (.str "x")) aNil))) aNil))) (aCons (mTup (aCons (Mi.ret (.str "quiet")) (aCons (mTup (aCons (Mi.ret (.str "")) aNil)) aNil))) (aCons (mTup (aCons (Mi.ret (.str "quiet")) (aCons (Mi.ret (.str "x")) aNil))) (aCons (mTup (aCons (Mi.ret (.str "quiet")) (aCons (mLst (aCons (Mi.ret (.str "x")) aNil)) aNil))) (aCons (mTup (aCons (Mi.ret (.str "quiet")) (aCons (mTup (aCons (Mi.ret (.str "x")) (aCons (Mi.ret (.str "x")) aNil))) aNil))) aNil))))))) : M Fl) [.dat (.root 0), .dat m.d, .own [.tup [.str "read", .str "zz"], .tup [.str "read", .str ""], .tup [.str "read", .non], .tup [.str "read"], .tup [.str "plan", .tup [.tup [.str "z"], .tup [.tup [.tup [.int 0, .str ""]]]]], .tup [.str "plan", .non], .tup [.str "plan", .tup [.ntup m.L, .tup []]], .tup [.str "plan", .tup [.ntup m.L, .tup (g0.map rowD ++ [.tup []])]], .tup [.str "plan", .lst [.ntup m.L, .tup (g0.map rowD)]], .tup [.str "plan", gearD m.L g0], .tup [.str "replace", .int m.gs.length], .tup [.str "replace", .int (-1)], .tup [.str "replace", .bl true], .tup [.str "replace", .int m.l], .tup [.str "replace"], .tup [.str "force", .int m.gs.length, .int 0], .tup [.str "force", .int 0, .int 9], .tup [.str "force", .int 0], .tup [.str "force", .int 0, .bl false], .tup [.str "force", .int 0, .int (-1)]], .dat (gearD m.L g0), .dat (.int m.gs.length)] s = .ok .nx [.dat (.root 0), .dat m.d, .own [.tup [.str "read", .str "zz"], .tup [.str "read", .str ""], .tup [.str "read", .non], .tup [.str "read"], .tup [.str "plan", .tup [.tup [.str "z"], .tup [.tup [.tup [.int 0, .str ""]]]]], .tup [.str "plan", .non], .tup [.str "plan", .tup [.ntup m.L, .tup []]], .tup [.str "plan", .tup [.ntup m.L, .tup (g0.map rowD ++ [.tup []])]], .tup [.str "plan", .lst [.ntup m.L, .tup (g0.map rowD)]], .tup [.str "plan", gearD m.L g0], .tup [.str "replace", .int m.gs.length], .tup [.str "replace", .int (-1)], .tup [.str "replace", .bl true], .tup [.str "replace", .int m.l], .tup [.str "replace"], .tup [.str "force", .int m.gs.length, .int 0], .tup [.str "force", .int 0, .int 9], .tup [.str "force", .int 0], .tup [.str "force", .int 0, .bl false], .tup [.str "force", .int 0, .int (-1)], .tup [.str "quiet", .tup [.str "y", .str "x"]], .tup [.str "quiet", .tup [.str ""]], .tup [.str "quiet", .str "x"], .tup [.str "quiet", .lst [.str "x"]], .tup [.str "quiet", .tup [.str "x", .str "x"]]], .dat (gearD m.L g0), .dat (.int m.gs.length)] s := by
    walk_at "ev"
  have z6 : (sSet 2 (fAdd (mVar 2) (mLst (aCons (mTup (aCons (Mi.ret (.str "forget")) (aCons (m2 (mVar 4) (Mi.ret (.int 5)) (tp2 gAdd)) aNil))) (aCons (mTup (aCons (Mi.ret (.str "forget")) (aCons (mDix 1 "live") aNil))) (aCons (mTup (aCons (Mi.ret (.str "forget")) (aCons (Mi.ret .non) aNil))) (aCons (mTup (aCons (Mi.ret (.str "stop")) aNil)) (aCons (Mi.ret .non) (aCons (mTup aNil) aNil)))))))) : M Fl) [.dat (.root 0), .dat m.d, .own [.tup [.str "read", .str "zz"], .tup [.str "read", .str ""], .tup [.str "read", .non], .tup [.str "read"], .tup [.str "plan", .tup [.tup [.str "z"], .tup [.tup [.tup [.int 0, .str ""]]]]], .tup [.str "plan", .non], .tup [.str "plan", .tup [.ntup m.L, .tup []]], .tup [.str "plan", .tup [.ntup m.L, .tup (g0.map rowD ++ [.tup []])]], .tup [.str "plan", .lst [.ntup m.L, .tup (g0.map rowD)]], .tup [.str "plan", gearD m.L g0], .tup [.str "replace", .int m.gs.length], .tup [.str "replace", .int (-1)], .tup [.str "replace", .bl true], .tup [.str "replace", .int m.l], .tup [.str "replace"], .tup [.str "force", .int m.gs.length, .int 0], .tup [.str "force", .int 0, .int 9], .tup [.str "force", .int 0], .tup [.str "force", .int 0, .bl false], .tup [.str "force", .int 0, .int (-1)], .tup [.str "quiet", .tup [.str "y", .str "x"]], .tup [.str "quiet", .tup [.str ""]], .tup [.str "quiet", .str "x"], .tup [.str "quiet", .lst [.str "x"]], .tup [.str "quiet", .tup [.str "x", .str "x"]]], .dat (gearD m.L g0), .dat (.int m.gs.length)] s = .ok .nx [.dat (.root 0), .dat m.d, .own [.tup [.str "read", .str "zz"], .tup [.str "read", .str ""], .tup [.str "read", .non], .tup [.str "read"], .tup [.str "plan", .tup [.tup [.str "z"], .tup [.tup [.tup [.int 0, .str ""]]]]], .tup [.str "plan", .non], .tup [.str "plan", .tup [.ntup m.L, .tup []]], .tup [.str "plan", .tup [.ntup m.L, .tup (g0.map rowD ++ [.tup []])]], .tup [.str "plan", .lst [.ntup m.L, .tup (g0.map rowD)]], .tup [.str "plan", gearD m.L g0], .tup [.str "replace", .int m.gs.length], .tup [.str "replace", .int (-1)], .tup [.str "replace", .bl true], .tup [.str "replace", .int m.l], .tup [.str "replace"], .tup [.str "force", .int m.gs.length, .int 0], .tup [.str "force", .int 0, .int 9], .tup [.str "force", .int 0], .tup [.str "force", .int 0, .bl false], .tup [.str "force", .int 0, .int (-1)], .tup [.str "quiet", .tup [.str "y", .str "x"]], .tup [.str "quiet", .tup [.str ""]], .tup [.str "quiet", .str "x"], .tup [.str "quiet", .lst [.str "x"]], .tup [.str "quiet", .tup [.str "x", .str "x"]], .tup [.str "forget", .int (m.gs.length + 5)], .tup [.str "forget", .int m.l], .tup [.str "forget", .non], .tup [.str "stop"], .non, .tup []], .dat (gearD m.L g0), .dat (.int m.gs.length)] s := by
    walk_at "ev"
  have z7 : (sApp 2 (mLst (aCons (Mi.ret (.str "read")) (aCons (Mi.ret (.str "a")) aNil))) : M Fl) [.dat (.root 0), .dat m.d, .own [.tup [.str "read", .str "zz"], .tup [.str "read", .str ""], .tup [.str "read", .non], .tup [.str "read"], .tup [.str "plan", .tup [.tup [.str "z"], .tup [.tup [.tup [.int 0, .str ""]]]]], .tup [.str "plan", .non], .tup [.str "plan", .tup [.ntup m.L, .tup []]], .tup [.str "plan", .tup [.ntup m.L, .tup (g0.map rowD ++ [.tup []])]], .tup [.str "plan", .lst [.ntup m.L, .tup (g0.map rowD)]], .tup [.str "plan", gearD m.L g0], .tup [.str "replace", .int m.gs.length], .tup [.str "replace", .int (-1)], .tup [.str "replace", .bl true], .tup [.str "replace", .int m.l], .tup [.str "replace"], .tup [.str "force", .int m.gs.length, .int 0], .tup [.str "force", .int 0, .int 9], .tup [.str "force", .int 0], .tup [.str "force", .int 0, .bl false], .tup [.str "force", .int 0, .int (-1)], .tup [.str "quiet", .tup [.str "y", .str "x"]], .tup [.str "quiet", .tup [.str ""]], .tup [.str "quiet", .str "x"], .tup [.str "quiet", .lst [.str "x"]], .tup [.str "quiet", .tup [.str "x", .str "x"]], .tup [.str "forget", .int (m.gs.length + 5)], .tup [.str "forget", .int m.l], .tup [.str "forget", .non], .tup [.str "stop"], .non, .tup []], .dat (gearD m.L g0), .dat (.int m.gs.length)] s = .ok .nx [.dat (.root 0), .dat m.d, .own [.tup [.str "read", .str "zz"], .tup [.str "read", .str ""], .tup [.str "read", .non], .tup [.str "read"], .tup [.str "plan", .tup [.tup [.str "z"], .tup [.tup [.tup [.int 0, .str ""]]]]], .tup [.str "plan", .non], .tup [.str "plan", .tup [.ntup m.L, .tup []]], .tup [.str "plan", .tup [.ntup m.L, .tup (g0.map rowD ++ [.tup []])]], .tup [.str "plan", .lst [.ntup m.L, .tup (g0.map rowD)]], .tup [.str "plan", gearD m.L g0], .tup [.str "replace", .int m.gs.length], .tup [.str "replace", .int (-1)], .tup [.str "replace", .bl true], .tup [.str "replace", .int m.l], .tup [.str "replace"], .tup [.str "force", .int m.gs.length, .int 0], .tup [.str "force", .int 0, .int 9], .tup [.str "force", .int 0], .tup [.str "force", .int 0, .bl false], .tup [.str "force", .int 0, .int (-1)], .tup [.str "quiet", .tup [.str "y", .str "x"]], .tup [.str "quiet", .tup [.str ""]], .tup [.str "quiet", .str "x"], .tup [.str "quiet", .lst [.str "x"]], .tup [.str "quiet", .tup [.str "x", .str "x"]], .tup [.str "forget", .int (m.gs.length + 5)], .tup [.str "forget", .int m.l], .tup [.str "forget", .non], .tup [.str "stop"], .non, .tup [], .lst [.str "read", .str "a"]], .dat (gearD m.L g0), .dat (.int m.gs.length)] s := by
    walk_at "ev"
  have z8 : (sRet (datM (m2 (mVar 2) (frzM (mCF (noXF (fnM 2 6 m_law_draw)) (aCons (mVar 0) (aCons (mCall (aCons (mVar 2) aNil) (tpN gLen)) aNil)))) (tp2 gIx))) : M Fl) [.dat (.root 0), .dat m.d, .own [.tup [.str "read", .str "zz"], .tup [.str "read", .str ""], .tup [.str "read", .non], .tup [.str "read"], .tup [.str "plan", .tup [.tup [.str "z"], .tup [.tup [.tup [.int 0, .str ""]]]]], .tup [.str "plan", .non], .tup [.str "plan", .tup [.ntup m.L, .tup []]], .tup [.str "plan", .tup [.ntup m.L, .tup (g0.map rowD ++ [.tup []])]], .tup [.str "plan", .lst [.ntup m.L, .tup (g0.map rowD)]], .tup [.str "plan", gearD m.L g0], .tup [.str "replace", .int m.gs.length], .tup [.str "replace", .int (-1)], .tup [.str "replace", .bl true], .tup [.str "replace", .int m.l], .tup [.str "replace"], .tup [.str "force", .int m.gs.length, .int 0], .tup [.str "force", .int 0, .int 9], .tup [.str "force", .int 0], .tup [.str "force", .int 0, .bl false], .tup [.str "force", .int 0, .int (-1)], .tup [.str "quiet", .tup [.str "y", .str "x"]], .tup [.str "quiet", .tup [.str ""]], .tup [.str "quiet", .str "x"], .tup [.str "quiet", .lst [.str "x"]], .tup [.str "quiet", .tup [.str "x", .str "x"]], .tup [.str "forget", .int (m.gs.length + 5)], .tup [.str "forget", .int m.l], .tup [.str "forget", .non], .tup [.str "stop"], .non, .tup [], .lst [.str "read", .str "a"]], .dat (gearD m.L g0), .dat (.int m.gs.length)] s = .ok (.rt (.dat x)) [.dat (.root 0), .dat m.d, .dat (.lst [.tup [.str "read", .str "zz"], .tup [.str "read", .str ""], .tup [.str "read", .non], .tup [.str "read"], .tup [.str "plan", .tup [.tup [.str "z"], .tup [.tup [.tup [.int 0, .str ""]]]]], .tup [.str "plan", .non], .tup [.str "plan", .tup [.ntup m.L, .tup []]], .tup [.str "plan", .tup [.ntup m.L, .tup (g0.map rowD ++ [.tup []])]], .tup [.str "plan", .lst [.ntup m.L, .tup (g0.map rowD)]], .tup [.str "plan", gearD m.L g0], .tup [.str "replace", .int m.gs.length], .tup [.str "replace", .int (-1)], .tup [.str "replace", .bl true], .tup [.str "replace", .int m.l], .tup [.str "replace"], .tup [.str "force", .int m.gs.length, .int 0], .tup [.str "force", .int 0, .int 9], .tup [.str "force", .int 0], .tup [.str "force", .int 0, .bl false], .tup [.str "force", .int 0, .int (-1)], .tup [.str "quiet", .tup [.str "y", .str "x"]], .tup [.str "quiet", .tup [.str ""]], .tup [.str "quiet", .str "x"], .tup [.str "quiet", .lst [.str "x"]], .tup [.str "quiet", .tup [.str "x", .str "x"]], .tup [.str "forget", .int (m.gs.length + 5)], .tup [.str "forget", .int m.l], .tup [.str "forget", .non], .tup [.str "stop"], .non, .tup [], .lst [.str "read", .str "a"]]), .dat (gearD m.L g0), .dat (.int m.gs.length)] s' := by
    unfold oddL at at1
    walk_at "ev"
  exact fn_run rfl (seq_is z0 (seq_is z1 (seq_is z2 (seq_is z3 (seq_is z4 (seq_is z5 (seq_is z6 (seq_is z7 z8))))))))
end Lw

set_option Elab.async false
set_option linter.all false
set_option autoImplicit false
set_option maxRecDepth 100000
set_option maxHeartbeats 4000000
/-! K78, the plain law: drawn events. -/
namespace Lw
open PySem L2 Mi
local macro_rules | `(tactic| walk_at "ev") => `(tactic| simp [v_ret, v_bnd, v_some, v_none, v_asB, v_tNo, v_tAn, v_tOrr, v_ofB, v_mAn, v_mOrr, v_mNo, v_mIf, v_c3, v_aNil, v_aCons, v_mTup, v_mLst, v_mNtup, v_mLstF, v_m2, v_m1, v_c2, v_mC, v_pNone, v_pSome, v_mSl, v_mCall, v_tIsi, v_frzM, v_datM, v_sNx, v_sSeq, v_sDrop, v_sRet, v_sSet, v_sIf, v_mCF, v_noXF, v_noX, v_iSeq, v_iZip, v_iRng, v_iEnu, v_sUnp, v_tgN, v_tgsNil, v_tgsCons, v_sRaise2, v_sRetV, v_sTry, v_mIxF, v_tNiF, v_sPar, v_bNil, v_bCons, v_fAdd, v_mDix, v_sDst, v_mDcp, v_mSrtSet, v_mTix, v_mRev, v_mVar, v_sApp, w_add, w_sub, w_ixT, w_ixN, w_ixL, w_addT, w_addNT, w_lenT, w_lenN, w_lenL, w_lenS, w_ltI, w_leI, w_gtI, w_geI, w_leI0, w_ltI0, w_eqI, w_neI, w_eqS, w_neS, w_isI, w_isS, w_isT, w_isN, w_isL, w_isB, w_isO, B.frz, List.replicate, w_slT, w_slL, w_topT, w_topN, w_topL, w_zipT, w_gItT, w_gItN, w_gItL, w_tgT, cut1, w_at0, w_at1, w_at2, w_lim, w_ite, putAll, w_at3, w_at4, w_at5, w_tupL, w_tupT, w_tupN, w_lstL, w_lstT, w_intI, w_intB, w_topI, w_topS, w_addII, w_addTT, str_inj, str_beq, v_tNiT, v_sTst, v_mSrtT, v_mCV, w_addLL, w_revT, *])
theorem act_other {m : MSt} {x : Str} {r : List D} (h1 : ¬ x = "plan") (h2 : ¬ x = "quiet") (hf : Fit (10 ^ 30) 80 10 (.tup (.str x :: r))) : ActOk m (.tup (.str x :: r)) where
  fit := hf
  tup := fun xs h => by cases h; rfl
  plan := fun g h => by cases h; exact absurd rfl h1
  quiet := fun q h => by cases h; exact absurd rfl h2
theorem act_plan {m : MSt} {g : D} (hg : isGear g = false) (hf : Fit (10 ^ 30) 80 10 (.tup [.str "plan", g])) : ActOk m (.tup [.str "plan", g]) where
  fit := hf
  tup := fun xs h => by cases h; rfl
  plan := fun g' h h2 => by cases h; rw [hg] at h2; cases h2
  quiet := fun q h => by cases h
theorem act_quiet {m : MSt} {q : D} (hq : isSet q = false ∨ ∃ qs, q = .tup qs) (hf : Fit (10 ^ 30) 80 10 (.tup [.str "quiet", q])) : ActOk m (.tup [.str "quiet", q]) where
  fit := hf
  tup := fun xs h => by cases h; rfl
  plan := fun g' h h2 => by cases h
  quiet := fun q' h h2 => by
    cases h
    rcases hq with h | h
    · rw [h] at h2
      cases h2
    · exact h
theorem act_val {m : MSt} {a : D} (h : ∀ xs, a ≠ .tup xs) (h2 : tupL a = none) (hf : Fit (10 ^ 30) 80 10 a) : ActOk m a where
  fit := hf
  tup := fun xs h3 => by rw [h2] at h3; cases h3
  plan := fun g' h3 => absurd h3 (h _)
  quiet := fun q' h3 => absurd h3 (h _)
theorem wd_ok {w : Str} (h : w ∈ WdL) : okS w = true ∧ isWd (.str w) = true := by
  simp [WdL] at h
  rcases h with rfl | rfl | rfl | rfl <;> exact ⟨by decide, by decide⟩
theorem fit_pair {c : Nat} {p : Nat × Str} (h1 : p.1 < c) (h2 : p.2 ∈ WdL) (hc : c ≤ 3) : Fit (10 ^ 30) 3 1 (pairD p) := by
  refine ⟨?_, by simp [pairD, Mi.cnt, cnts], by simp [pairD, D.dep, deps]⟩
  simp only [pairD, Mi.lf, lfs, Bool.and_true, Bool.and_eq_true, decide_eq_true_eq]
  have : (10 : Nat) ^ 30 = 1000000000000000000000000000000 := by decide
  exact ⟨by omega, (wd_ok h2).1⟩
theorem lfs_of {b : Nat} {xs : List D} (h : ∀ x ∈ xs, Mi.lf b x = true) : lfs b xs = true := lfs_mem.mpr h
theorem cnts_of {c : Nat} : ∀ {xs : List D}, (∀ x ∈ xs, cnt x ≤ c) → cnts xs ≤ c * xs.length
  | [], _ => Nat.le_refl _
  | x :: xs, h => by
    have h1 := h x List.mem_cons_self
    have h2 := cnts_of (xs := xs) fun y hy => h y (List.mem_cons_of_mem _ hy)
    simp only [cnts, List.length_cons]
    rw [Nat.mul_add]
    omega
theorem fit_tupl {b n h : Nat} {xs : List D} (hx : ∀ x ∈ xs, Fit b n h x) : Fit b (n * xs.length + 1) (h + 1) (.tup xs) := by
  refine ⟨lfs_of fun x hq => (hx x hq).lf, ?_, ?_⟩
  · have := cnts_of fun x hq => (hx x hq).cnt
    simp only [Mi.cnt]
    omega
  · have : deps xs ≤ h := deps_le.mpr fun x hq => (hx x hq).dep
    simp only [D.dep]
    omega
theorem fit_row {n c : Nat} {r : List (Nat × Str)} (h1 : r.length = n) (h2 : ∀ p ∈ r, p.1 < c ∧ p.2 ∈ WdL) (hn : n ≤ 3) (hc : c ≤ 3) : Fit (10 ^ 30) 10 2 (rowD r) := by
  have := fit_tupl (b := 10 ^ 30) (n := 3) (h := 1) (xs := r.map pairD) fun x hx => by
    obtain ⟨p, hp, rfl⟩ := List.mem_map.mp hx
    exact fit_pair (h2 p hp).1 (h2 p hp).2 hc
  rw [List.length_map, h1] at this
  exact ⟨this.lf, by have := this.cnt; unfold rowD; omega, this.dep⟩
mutual
theorem lf_mono {b b' : Nat} (h : b ≤ b') : ∀ d, Mi.lf b d = true → Mi.lf b' d = true
  | .non, _ => rfl
  | .bl _, _ => rfl
  | .int i, hi => by
    simp only [Mi.lf, decide_eq_true_eq] at hi ⊢
    omega
  | .str x, hx => hx
  | .tup xs, hx => lfs_mono h xs hx
  | .lst xs, hx => lfs_mono h xs hx
  | .ntup xs, hx => by
    simp only [Mi.lf, Bool.and_eq_true] at hx ⊢
    exact ⟨lfs_mono h xs hx.1, hx.2⟩
  | .dK _ _, hx => by cases hx
  | .dT _ _, hx => by cases hx
  | .fn _, hx => by cases hx
  | .root _, hx => by cases hx
  | .scr _, hx => by cases hx
theorem lfs_mono {b b' : Nat} (h : b ≤ b') : ∀ ds, lfs b ds = true → lfs b' ds = true
  | [], _ => rfl
  | d :: ds, hx => by
    simp only [lfs, Bool.and_eq_true] at hx ⊢
    exact ⟨lf_mono h d hx.1, lfs_mono h ds hx.2⟩
end
theorem Fit.le {b n h b' n' h' : Nat} {d : D} (x : Fit b n h d) (e1 : b ≤ b') (e2 : n ≤ n') (e3 : h ≤ h') : Fit b' n' h' d := ⟨lf_mono e1 d x.lf, Nat.le_trans x.cnt e2, Nat.le_trans x.dep e3⟩
theorem fit2 {b n1 n2 h : Nat} {x y : D} (h1 : Fit b n1 h x) (h2 : Fit b n2 h y) : Fit b (n1 + n2 + 1) (h + 1) (.tup [x, y]) := by
  refine ⟨by simp only [Mi.lf, lfs, h1.lf, h2.lf, Bool.and_self], ?_, ?_⟩
  · have := h1.cnt
    have := h2.cnt
    simp only [Mi.cnt, cnts]
    omega
  · have := h1.dep
    have := h2.dep
    simp only [D.dep, deps]
    omega
theorem fit3 {b n1 n2 n3 h : Nat} {x y z : D} (h1 : Fit b n1 h x) (h2 : Fit b n2 h y) (h3 : Fit b n3 h z) : Fit b (n1 + n2 + n3 + 1) (h + 1) (.tup [x, y, z]) := by
  refine ⟨by simp only [Mi.lf, lfs, h1.lf, h2.lf, h3.lf, Bool.and_self], ?_, ?_⟩
  · have := h1.cnt
    have := h2.cnt
    have := h3.cnt
    simp only [Mi.cnt, cnts]
    omega
  · have := h1.dep
    have := h2.dep
    have := h3.dep
    simp only [D.dep, deps]
    omega
theorem fit_str {b h : Nat} {x : Str} (hx : okS x = true) : Fit b 1 h (.str x) := ⟨hx, Nat.le_refl _, Nat.zero_le _⟩
theorem fit_int {b h : Nat} {i : Int} (hx : i.natAbs ≤ b) : Fit b 1 h (.int i) := ⟨by simpa [Mi.lf] using hx, Nat.le_refl _, Nat.zero_le _⟩
theorem fit_sgn {L : List D} (h : L ∈ SgnL) : Fit (10 ^ 30) 4 4 (.ntup L) := (sgn_facts h).2.2.2.2.2.2.le (by omega) (Nat.le_refl _) (by omega)
theorem fit_rows {n : Nat} {g : List (List (Nat × Str))} (hg : GOk n g) (hn : n ≤ 3) : ∀ x ∈ g.map rowD, Fit (10 ^ 30) 10 2 x := fun x hx => by
  obtain ⟨r, hr, rfl⟩ := List.mem_map.mp hx
  obtain ⟨h1, h2⟩ := hg.ok r hr
  exact fit_row h1 h2 hn hg.hi
theorem fit_gear {L : List D} {g : List (List (Nat × Str))} (hL : L ∈ SgnL) (hg : GOk L.length g) : Fit (10 ^ 30) 36 5 (gearD L g) := by
  have f := sgn_facts hL
  have h1 := fit_tupl (fit_rows hg f.2.2.1)
  have hh := hg.hi
  have h2 : Fit (10 ^ 30) 31 4 (.tup (g.map rowD)) := h1.le (Nat.le_refl _) (by rw [List.length_map]; omega) (by omega)
  exact fit2 (fit_sgn hL) h2
theorem is_gear_gear {L : List D} {g : List (List (Nat × Str))} (hL : L ∈ SgnL) (hg : GOk L.length g) : isGear (gearD L g) = true := by
  have f := sgn_facts hL
  have e1 : tupL (gearD L g) = some [.ntup L, .tup (g.map rowD)] := rfl
  have e2 : tupL (.tup (g.map rowD)) = some (g.map rowD) := rfl
  have e3 : lenD (.ntup L) = L.length := rfl
  have e4 : (g.map rowD).isEmpty = false := by
    have := hg.lo
    cases g with
    | nil => cases this
    | cons _ _ => rfl
  rw [not_gear e1 e2, f.2.2.2.2.2.1, e3, e4, Bool.true_and, Bool.not_false, Bool.true_and, List.all_eq_true]
  intro x hx
  obtain ⟨r, hr, rfl⟩ := List.mem_map.mp hx
  obtain ⟨h1, h2⟩ := hg.ok r hr
  have e5 : tupL (rowD r) = some (r.map pairD) := rfl
  unfold isRow
  rw [e5]
  simp only [List.length_map, h1, decide_true, Bool.true_and]
  rw [List.all_eq_true]
  intro y hy
  obtain ⟨p, hp, rfl⟩ := List.mem_map.mp hy
  obtain ⟨q1, q2⟩ := h2 p hp
  have e6 : tupL (pairD p) = some [.int p.1, .str p.2] := rfl
  have e7 : (0 : Int) ≤ (p.1 : Int) := by omega
  have e8 : (p.1 : Int) < (g.length : Int) := by omega
  unfold isPr
  rw [e6]
  simp only [e7, e8, (wd_ok q2).2, decide_true, Bool.and_self]
theorem odd_acts {k : Nat} {m : MSt} (hm : MOk k m) (g0 : List (List (Nat × Str))) (hg0 : m.gs[0]? = some g0) : ∀ a ∈ oddL m g0, ActOk m a := by
  have hg := hm.g g0 (List.mem_of_getElem? hg0)
  have f := sgn_facts hm.L
  have hG := fit_gear hm.L hg
  have h3 := hm.g3
  have hl := hm.l
  have hb : (10 : Nat) ^ 30 = 1000000000000000000000000000000 := by decide
  have fc : Fit (10 ^ 30) 1 9 (.int m.gs.length) := fit_int (by rw [hb]; omega)
  have fl : Fit (10 ^ 30) 1 9 (.int m.l) := fit_int (by rw [hb]; omega)
  have f5 : Fit (10 ^ 30) 1 9 (.int ((m.gs.length : Int) + 5)) := fit_int (by rw [hb]; omega)
  have f0 : Fit (10 ^ 30) 1 9 (.int 0) := fit_int (by decide)
  have ok : ∀ {n : Nat} {d : D}, Fit (10 ^ 30) n 9 d → n ≤ 70 → ∀ {x : Str}, okS x = true → Fit (10 ^ 30) 80 10 (.tup [.str x, d]) := by
    intro n d h1 h2 x hx
    exact (fit2 (fit_str hx) h1).le (Nat.le_refl _) (by omega) (Nat.le_refl _)
  have hrows := fit_rows hg f.2.2.1
  have hrl := hg.hi
  have fr : Fit (10 ^ 30) 41 8 (.tup (g0.map rowD ++ [.tup []])) := by
    have := fit_tupl (b := 10 ^ 30) (n := 10) (h := 2) (xs := g0.map rowD ++ [.tup []]) fun x hx => by
      rcases List.mem_append.mp hx with hx | hx
      · exact hrows x hx
      · rw [List.mem_singleton] at hx
        subst hx
        exact ⟨rfl, by decide, by decide⟩
    refine this.le (Nat.le_refl _) ?_ (by omega)
    rw [List.length_append, List.length_map, List.length_singleton]
    omega
  have frs : Fit (10 ^ 30) 31 8 (.tup (g0.map rowD)) := (fit_tupl hrows).le (Nat.le_refl _) (by rw [List.length_map]; omega) (by omega)
  have fs : Fit (10 ^ 30) 4 8 (.ntup m.L) := (fit_sgn hm.L).le (Nat.le_refl _) (Nat.le_refl _) (by omega)
  have fz : Fit (10 ^ 30) 20 9 (.tup [.tup [.str "z"], .tup [.tup [.tup [.int 0, .str ""]]]]) := ⟨by decide, by decide, by decide⟩
  intro a ha
  simp only [oddL, List.mem_cons, List.not_mem_nil, or_false] at ha
  rcases ha with rfl | rfl | rfl | rfl | rfl | rfl | rfl | rfl | rfl | rfl | rfl | rfl | rfl | rfl | rfl | rfl | rfl | rfl | rfl | rfl | rfl | rfl | rfl | rfl | rfl | rfl | rfl | rfl | rfl | rfl | rfl | rfl
  · exact act_other (by decide) (by decide) (ok (fit_str (by decide)) (by decide) (by decide))
  · exact act_other (by decide) (by decide) (ok (fit_str (by decide)) (by decide) (by decide))
  · exact act_other (by decide) (by decide) (⟨by decide, by decide, by decide⟩)
  · exact act_other (by decide) (by decide) (⟨by decide, by decide, by decide⟩)
  · refine ⟨ok fz (by decide) (by decide), fun xs h => by cases h; rfl, fun g h h2 => ?_, fun q h => by cases h⟩
    cases h
    refine .inr ⟨.tup [.str "z"], rfl, ?_⟩
    have hL := hm.L
    simp [SgnL] at hL
    rcases hL with h | h | h <;> rw [h] <;> rfl
  · exact act_plan rfl ⟨by decide, by decide, by decide⟩
  · have f1 : Fit (10 ^ 30) 1 8 (.tup []) := ⟨by decide, by decide, by decide⟩
    exact act_plan (by simp [isGear, tupL]) (ok ((fit2 fs f1).le (Nat.le_refl _) (Nat.le_refl _) (by omega)) (by decide) (by decide))
  · refine act_plan ?_ (ok ((fit2 fs fr).le (Nat.le_refl _) (Nat.le_refl _) (by omega)) (by decide) (by decide))
    have hn : isRow (lenD (.ntup m.L)) (g0.map rowD ++ [D.tup []]).length (.tup []) = false := by
      show (decide (0 = m.L.length) && true) = false
      have : ¬ 0 = m.L.length := by omega
      simp [this]
    have e1 : tupL (.tup [.ntup m.L, .tup (g0.map rowD ++ [.tup []])]) = some [.ntup m.L, .tup (g0.map rowD ++ [.tup []])] := rfl
    have e2 : tupL (D.tup (g0.map rowD ++ [.tup []])) = some (g0.map rowD ++ [.tup []]) := rfl
    rw [not_gear e1 e2, List.all_append, List.all_cons, hn]
    simp
  · have fl2 : Fit (10 ^ 30) 36 9 (.lst [.ntup m.L, .tup (g0.map rowD)]) := by
      have a1 := fs.cnt
      have a2 := frs.cnt
      have a3 := fs.dep
      have a4 := frs.dep
      refine ⟨?_, ?_, ?_⟩
      · show lfs _ [.ntup m.L, .tup (g0.map rowD)] = true
        simp only [lfs, fs.lf, frs.lf, Bool.and_self]
      · show cnts [.ntup m.L, .tup (g0.map rowD)] + 1 ≤ 36
        simp only [cnts]
        omega
      · show deps [.ntup m.L, .tup (g0.map rowD)] + 1 ≤ 9
        simp only [deps]
        omega
    exact act_plan rfl (ok fl2 (by decide) (by decide))
  · refine ⟨ok (hG.le (Nat.le_refl _) (Nat.le_refl _) (by omega)) (by decide) (by decide), fun xs h => by cases h; rfl, fun g h h2 => ?_, fun q h => by cases h⟩
    cases h
    exact .inl ⟨g0, rfl, hg⟩
  · exact act_other (by decide) (by decide) (ok fc (by decide) (by decide))
  · exact act_other (by decide) (by decide) (⟨by decide, by decide, by decide⟩)
  · exact act_other (by decide) (by decide) (⟨by decide, by decide, by decide⟩)
  · exact act_other (by decide) (by decide) (ok fl (by decide) (by decide))
  · exact act_other (by decide) (by decide) (⟨by decide, by decide, by decide⟩)
  · exact act_other (by decide) (by decide) ((fit3 (fit_str (by decide)) fc f0).le (Nat.le_refl _) (by decide) (Nat.le_refl _))
  · exact act_other (by decide) (by decide) (⟨by decide, by decide, by decide⟩)
  · exact act_other (by decide) (by decide) (⟨by decide, by decide, by decide⟩)
  · exact act_other (by decide) (by decide) (⟨by decide, by decide, by decide⟩)
  · exact act_other (by decide) (by decide) (⟨by decide, by decide, by decide⟩)
  · exact act_quiet (.inr ⟨_, rfl⟩) ⟨by decide, by decide, by decide⟩
  · exact act_quiet (.inr ⟨_, rfl⟩) ⟨by decide, by decide, by decide⟩
  · exact act_quiet (.inl rfl) ⟨by decide, by decide, by decide⟩
  · exact act_quiet (.inl rfl) ⟨by decide, by decide, by decide⟩
  · exact act_quiet (.inr ⟨_, rfl⟩) ⟨by decide, by decide, by decide⟩
  · exact act_other (by decide) (by decide) (ok f5 (by decide) (by decide))
  · exact act_other (by decide) (by decide) (ok fl (by decide) (by decide))
  · exact act_other (by decide) (by decide) (⟨by decide, by decide, by decide⟩)
  · exact act_other (by decide) (by decide) (⟨by decide, by decide, by decide⟩)
  · exact act_val (fun _ h => by cases h) rfl ⟨by decide, by decide, by decide⟩
  · exact ⟨⟨by decide, by decide, by decide⟩, fun xs h => (by cases h; rfl), fun g h => (by cases h), fun q h => (by cases h)⟩
  · exact act_val (fun _ h => by cases h) rfl ⟨by decide, by decide, by decide⟩
theorem w_in456 (v : Nat) : tp2 cIn (.int v) (.tup [.int 4, .int 5, .int 6]) = some ((4 : Int) == v || ((5 : Int) == v || ((6 : Int) == v || false))) := rfl
theorem in_lits : tp2 cIn (.int 4) (.tup [.int 4, .int 5, .int 6]) = some true ∧ tp2 cIn (.int 5) (.tup [.int 4, .int 5, .int 6]) = some true ∧ tp2 cIn (.int 6) (.tup [.int 4, .int 5, .int 6]) = some true ∧ tp2 cIn (.int 7) (.tup [.int 4, .int 5, .int 6]) = some false ∧ tp2 cIn (.int 8) (.tup [.int 4, .int 5, .int 6]) = some false ∧ tp2 cIn (.int 9) (.tup [.int 4, .int 5, .int 6]) = some false := ⟨rfl, rfl, rfl, rfl, rfl, rfl⟩
theorem hush_facts {q : List D} (h : ∀ y ∈ q, y ∈ HushL) (hl : q.length ≤ 4) : Fit (10 ^ 30) 5 1 (.tup q) := by
  have := fit_tupl (b := 10 ^ 30) (n := 1) (h := 0) (xs := q) fun x hx => by
    have := h x hx
    simp [HushL] at this
    rcases this with rfl | rfl | rfl | rfl <;> exact ⟨by decide, by decide, by decide⟩
  exact this.le (Nat.le_refl _) (by omega) (Nat.le_refl _)
theorem act_ok {ns : List Int} {k d : Nat} {m : MSt} (hm : MOk k m) {s : S} (h : RB ns d s) (hd : d < 50000) : ∃ (a : D) (s' : S), fnM 2 6 m_law_act [.root 0, m.d] s = .ok (.dat a) [] s' ∧ ActOk m a ∧ RB ns (d + 30) s' := by
  obtain ⟨v, s1, a1, a2, a3⟩ := draw_ok h (by omega) 15 15 rfl (by decide) (by decide)
  have lk := lks m
  have f := sgn_facts hm.L
  have h3 := hm.g3
  have h0 := hm.g0
  have hb : (10 : Nat) ^ 30 = 1000000000000000000000000000000 := by decide
  obtain ⟨g0, hg0⟩ : ∃ g, m.gs[0]? = some g := ⟨_, List.getElem?_eq_getElem hm.g0⟩
  have i0 : atI (m.gs.map (gearD m.L)) 0 = some (gearD m.L g0) := atI_g hg0
  have q0 := gear_ix0 m.L g0
  have z0 : (sPar [2, 3, 4] (bCons (mCF (noXF (fnM 2 6 m_law_draw)) (aCons (mVar 0) (aCons (Mi.ret (.int 15)) aNil))) (bCons (datM (mCall (aCons (mDix 1 "gears") aNil) (tpN gLen))) (bCons (datM (m2 (m2 (mDix 1 "gears") (Mi.ret (.int 0)) (tp2 gIx)) (Mi.ret (.int 0)) (tp2 gIx))) bNil))) : M Fl) [.dat (.root 0), .dat m.d, .unb, .unb, .unb, .unb] s = .ok .nx [.dat (.root 0), .dat m.d, .dat (.int v), .dat (.int m.gs.length), .dat (.ntup m.L), .unb] s1 := by
    clear hm f
    walk_at "ev"
  have fin : ∀ (a : D) (e : Mi.Env) (s' : S), (sSeq (sIf (c2 (mVar 2) (Mi.ret (.int 2)) (tp2 cLt)) (sRet (mCF (noXF (fnM 2 5 m_law_odd)) (aCons (mVar 0) (aCons (mVar 1) aNil)))) sNx) (sSeq (sIf (tAn (c2 (mVar 2) (Mi.ret (.int 4)) (tp2 cLt)) (c2 (mVar 3) (Mi.ret (.int 3)) (tp2 cLt))) (sRet (datM (mTup (aCons (Mi.ret (.str "plan")) (aCons (frzM (mCF (noXF (fnM 2 6 m_law_gear)) (aCons (mVar 0) (aCons (mVar 4) aNil)))) aNil))))) sNx) (sSeq (sIf (c2 (mVar 2) (mTup (aCons (Mi.ret (.int 4)) (aCons (Mi.ret (.int 5)) (aCons (Mi.ret (.int 6)) aNil)))) (tp2 cIn)) (sRet (datM (mTup (aCons (Mi.ret (.str "replace")) (aCons (frzM (mCF (noXF (fnM 2 6 m_law_draw)) (aCons (mVar 0) (aCons (mVar 3) aNil)))) aNil))))) sNx) (sSeq (sIf (c2 (mVar 2) (Mi.ret (.int 7)) (tp2 cEq)) (sSeq (sSet 5 (mCF (noXF (fnM 2 6 m_law_draw)) (aCons (mVar 0) (aCons (mVar 3) aNil)))) (sRet (datM (mTup (aCons (Mi.ret (.str "force")) (aCons (mVar 5) (aCons (frzM (mCF (noXF (fnM 2 6 m_law_draw)) (aCons (mVar 0) (aCons (mCall (aCons (m2 (m2 (mDix 1 "gears") (mVar 5) (tp2 gIx)) (Mi.ret (.int 1)) (tp2 gIx)) aNil) (tpN gLen)) aNil)))) aNil))))))) sNx) (sSeq (sIf (c2 (mVar 2) (Mi.ret (.int 8)) (tp2 cEq)) (sRet (datM (mTup (aCons (Mi.ret (.str "quiet")) (aCons (frzM (mCF (noXF (fnM 1 2 m_law_hush)) (aCons (mVar 0) aNil))) aNil))))) sNx) (sRet (mIf (c2 (mVar 2) (Mi.ret (.int 9)) (tp2 cEq)) (datM (mTup (aCons (Mi.ret (.str "forget")) (aCons (frzM (mCF (noXF (fnM 2 6 m_law_draw)) (aCons (mVar 0) (aCons (mVar 3) aNil)))) aNil)))) (datM (mTup (aCons (Mi.ret (.str "read")) (aCons (m2 (mVar 4) (frzM (mCF (noXF (fnM 2 6 m_law_draw)) (aCons (mVar 0) (aCons (mCall (aCons (mVar 4) aNil) (tpN gLen)) aNil)))) (tp2 gIx)) aNil)))))))))) : M Fl) [.dat (.root 0), .dat m.d, .dat (.int v), .dat (.int m.gs.length), .dat (.ntup m.L), .unb] s1 = .ok (.rt (.dat a)) e s' → fnM 2 6 m_law_act [.root 0, m.d] s = .ok (.dat a) [] s' := fun a e s' hx => fn_run rfl (seq_is z0 hx)
  have int_ok : ∀ n : Nat, n ≤ 100 → Fit (10 ^ 30) 1 9 (.int n) := fun n hn => fit_int (by rw [hb]; omega)
  have ok1 : ∀ {x : Str} {d : D} {n : Nat}, Fit (10 ^ 30) n 9 d → n ≤ 70 → okS x = true → Fit (10 ^ 30) 80 10 (.tup [.str x, d]) := by
    intro x d n h1 h2 hx
    exact (fit2 (fit_str hx) h1).le (Nat.le_refl _) (by omega) (Nat.le_refl _)
  clear z0
  by_cases c1 : v < 2
  · obtain ⟨u, a, s2, b1, b2, b3⟩ := odd_ev hm a3 (by omega) g0 hg0
    refine ⟨a, s2, fin a [.dat (.root 0), .dat m.d, .dat (.int v), .dat (.int m.gs.length), .dat (.ntup m.L), .unb] s2 ?_, odd_acts hm g0 hg0 a (List.mem_of_getElem? b2), b3.mono (by omega)⟩
    have c1' : (v : Int) < 2 := by omega
    clear hm f fin int_ok ok1 b2 h
    walk_at "ev"
  · by_cases cc : v < 4 ∧ m.gs.length < 3
    · obtain ⟨rows, s2, b1, b2, b3⟩ := gear_ok a3 (by omega) m.L hm.L
      have hG := fit_gear hm.L b2
      refine ⟨.tup [.str "plan", gearD m.L rows], s2, fin _ [.dat (.root 0), .dat m.d, .dat (.int v), .dat (.int m.gs.length), .dat (.ntup m.L), .unb] s2 ?_, ⟨ok1 (hG.le (Nat.le_refl _) (Nat.le_refl _) (by omega)) (by decide) (by decide), fun xs h => (by cases h; rfl), fun g h h2 => (by cases h; exact .inl ⟨rows, rfl, b2⟩), fun q h => (by cases h)⟩, b3.mono (by omega)⟩
      obtain ⟨c3, c4⟩ := cc
      have c1' : ¬ (v : Int) < 2 := by omega
      have c3' : (v : Int) < 4 := by omega
      have c4' : (m.gs.length : Int) < 3 := by omega
      clear hm f fin int_ok ok1 b2 hG h
      walk_at "ev"
    · have e1 : (sIf (c2 (mVar 2) (Mi.ret (.int 2)) (tp2 cLt)) (sRet (mCF (noXF (fnM 2 5 m_law_odd)) (aCons (mVar 0) (aCons (mVar 1) aNil)))) sNx : M Fl) [.dat (.root 0), .dat m.d, .dat (.int v), .dat (.int m.gs.length), .dat (.ntup m.L), .unb] s1 = .ok .nx [.dat (.root 0), .dat m.d, .dat (.int v), .dat (.int m.gs.length), .dat (.ntup m.L), .unb] s1 := by
        have c1' : ¬ (v : Int) < 2 := by omega
        clear hm f fin int_ok ok1 h
        walk_at "ev"
      have e2 : (sIf (tAn (c2 (mVar 2) (Mi.ret (.int 4)) (tp2 cLt)) (c2 (mVar 3) (Mi.ret (.int 3)) (tp2 cLt))) (sRet (datM (mTup (aCons (Mi.ret (.str "plan")) (aCons (frzM (mCF (noXF (fnM 2 6 m_law_gear)) (aCons (mVar 0) (aCons (mVar 4) aNil)))) aNil))))) sNx : M Fl) [.dat (.root 0), .dat m.d, .dat (.int v), .dat (.int m.gs.length), .dat (.ntup m.L), .unb] s1 = .ok .nx [.dat (.root 0), .dat m.d, .dat (.int v), .dat (.int m.gs.length), .dat (.ntup m.L), .unb] s1 := by
        by_cases c3 : v < 4
        · have c4 : ¬ m.gs.length < 3 := fun z => cc ⟨c3, z⟩
          have c3' : (v : Int) < 4 := by omega
          have c4' : ¬ (m.gs.length : Int) < 3 := by omega
          clear hm f fin int_ok ok1 h e1 cc
          walk_at "ev"
        · have c3' : ¬ (v : Int) < 4 := by omega
          clear hm f fin int_ok ok1 h e1 cc
          walk_at "ev"
      have fin2 : ∀ (a : D) (e : Mi.Env) (s' : S), (sSeq (sIf (c2 (mVar 2) (mTup (aCons (Mi.ret (.int 4)) (aCons (Mi.ret (.int 5)) (aCons (Mi.ret (.int 6)) aNil)))) (tp2 cIn)) (sRet (datM (mTup (aCons (Mi.ret (.str "replace")) (aCons (frzM (mCF (noXF (fnM 2 6 m_law_draw)) (aCons (mVar 0) (aCons (mVar 3) aNil)))) aNil))))) sNx) (sSeq (sIf (c2 (mVar 2) (Mi.ret (.int 7)) (tp2 cEq)) (sSeq (sSet 5 (mCF (noXF (fnM 2 6 m_law_draw)) (aCons (mVar 0) (aCons (mVar 3) aNil)))) (sRet (datM (mTup (aCons (Mi.ret (.str "force")) (aCons (mVar 5) (aCons (frzM (mCF (noXF (fnM 2 6 m_law_draw)) (aCons (mVar 0) (aCons (mCall (aCons (m2 (m2 (mDix 1 "gears") (mVar 5) (tp2 gIx)) (Mi.ret (.int 1)) (tp2 gIx)) aNil) (tpN gLen)) aNil)))) aNil))))))) sNx) (sSeq (sIf (c2 (mVar 2) (Mi.ret (.int 8)) (tp2 cEq)) (sRet (datM (mTup (aCons (Mi.ret (.str "quiet")) (aCons (frzM (mCF (noXF (fnM 1 2 m_law_hush)) (aCons (mVar 0) aNil))) aNil))))) sNx) (sRet (mIf (c2 (mVar 2) (Mi.ret (.int 9)) (tp2 cEq)) (datM (mTup (aCons (Mi.ret (.str "forget")) (aCons (frzM (mCF (noXF (fnM 2 6 m_law_draw)) (aCons (mVar 0) (aCons (mVar 3) aNil)))) aNil)))) (datM (mTup (aCons (Mi.ret (.str "read")) (aCons (m2 (mVar 4) (frzM (mCF (noXF (fnM 2 6 m_law_draw)) (aCons (mVar 0) (aCons (mCall (aCons (mVar 4) aNil) (tpN gLen)) aNil)))) (tp2 gIx)) aNil)))))))) : M Fl) [.dat (.root 0), .dat m.d, .dat (.int v), .dat (.int m.gs.length), .dat (.ntup m.L), .unb] s1 = .ok (.rt (.dat a)) e s' → fnM 2 6 m_law_act [.root 0, m.d] s = .ok (.dat a) [] s' := fun a e s' hx => fin a e s' (seq_is e1 (seq_is e2 hx))
      clear e1 e2 fin
      have i456 := w_in456 v
      have il := in_lits
      by_cases c5 : v = 4 ∨ v = 5 ∨ v = 6
      · obtain ⟨u, s2, b1, b2, b3⟩ := draw_ok a3 (by omega) m.gs.length m.gs.length rfl (by omega) (by omega)
        refine ⟨.tup [.str "replace", .int u], s2, fin2 _ [.dat (.root 0), .dat m.d, .dat (.int v), .dat (.int m.gs.length), .dat (.ntup m.L), .unb] s2 ?_, act_other (by decide) (by decide) (ok1 (int_ok u (by omega)) (by decide) (by decide)), b3.mono (by omega)⟩
        clear hm f fin2 int_ok ok1 h
        rcases c5 with rfl | rfl | rfl <;> walk_at "ev"
      · have i2 : tp2 cIn (.int v) (.tup [.int 4, .int 5, .int 6]) = some false := by
          rw [i456]
          have x4 : ((4 : Int) == v) = false := by simp; omega
          have x5 : ((5 : Int) == v) = false := by simp; omega
          have x6 : ((6 : Int) == v) = false := by simp; omega
          rw [x4, x5, x6]
          rfl
        clear i456
        by_cases c7 : v = 7
        · subst c7
          obtain ⟨u, s2, b1, b2, b3⟩ := draw_ok a3 (by omega) m.gs.length m.gs.length rfl (by omega) (by omega)
          obtain ⟨g, hg⟩ : ∃ g, m.gs[u]? = some g := ⟨_, List.getElem?_eq_getElem b2⟩
          have gok := hm.g g (List.mem_of_getElem? hg)
          have g1 := gok.lo
          have g2 := gok.hi
          have iu := atI_g (m := m) hg
          have qu := gear_ix1 m.L g
          obtain ⟨w, s3, d1, d2, d3⟩ := draw_ok b3 (by omega) g.length g.length rfl (by omega) (by omega)
          refine ⟨.tup [.str "force", .int u, .int w], s3, fin2 _ [.dat (.root 0), .dat m.d, .dat (.int 7), .dat (.int m.gs.length), .dat (.ntup m.L), .dat (.int u)] s3 ?_, act_other (by decide) (by decide) ((fit3 (fit_str (by decide)) (int_ok u (by omega)) (int_ok w (by omega))).le (Nat.le_refl _) (by decide) (Nat.le_refl _)), d3.mono (by omega)⟩
          clear hm f fin2 int_ok ok1 h gok
          walk_at "ev"
        · by_cases c8 : v = 8
          · subst c8
            obtain ⟨q, s2, b1, b2, b3, b4⟩ := hush_ok a3 (by omega)
            have hq := hush_facts b2 b3
            refine ⟨.tup [.str "quiet", .tup q], s2, fin2 _ [.dat (.root 0), .dat m.d, .dat (.int 8), .dat (.int m.gs.length), .dat (.ntup m.L), .unb] s2 ?_, act_quiet (.inr ⟨q, rfl⟩) (ok1 (hq.le (Nat.le_refl _) (Nat.le_refl _) (by omega)) (by decide) (by decide)), b4.mono (by omega)⟩
            clear hm f fin2 int_ok ok1 h b2 hq
            walk_at "ev"
          · have n7 : ((v : Int) == 7) = false := by simp; omega
            have n7' : ¬ (v : Int) = 7 := by omega
            have n8' : ¬ (v : Int) = 8 := by omega
            by_cases c9 : v = 9
            · subst c9
              obtain ⟨u, s2, b1, b2, b3⟩ := draw_ok a3 (by omega) m.gs.length m.gs.length rfl (by omega) (by omega)
              refine ⟨.tup [.str "forget", .int u], s2, fin2 _ [.dat (.root 0), .dat m.d, .dat (.int 9), .dat (.int m.gs.length), .dat (.ntup m.L), .unb] s2 ?_, act_other (by decide) (by decide) (ok1 (int_ok u (by omega)) (by decide) (by decide)), b3.mono (by omega)⟩
              clear hm f fin2 int_ok ok1 h
              walk_at "ev"
            · have n9' : ¬ (v : Int) = 9 := by omega
              have fL := f.2.2.1
              have fL1 := f.2.2.2.1
              obtain ⟨u, s2, b1, b2, b3⟩ := draw_ok a3 (by omega) m.L.length m.L.length rfl (by omega) (by omega)
              obtain ⟨x, hx⟩ : ∃ x, m.L[u]? = some x := ⟨_, List.getElem?_eq_getElem b2⟩
              obtain ⟨w, rfl, hw⟩ := f.2.2.2.2.1 x (List.mem_of_getElem? hx)
              have iu : atI m.L (u : Int) = some (.str w) := by rw [Mi.atI_nat]; exact hx
              have hfw : Fit (10 ^ 30) 1 9 (.str w) := by
                have := f.2.2.2.2.2.2.lf
                simp only [Mi.lf, Bool.and_eq_true] at this
                exact ⟨lf_mono (Nat.zero_le _) _ (lfs_mem.mp this.1 _ (List.mem_of_getElem? hx)), Nat.le_refl _, Nat.zero_le _⟩
              refine ⟨.tup [.str "read", .str w], s2, fin2 _ [.dat (.root 0), .dat m.d, .dat (.int v), .dat (.int m.gs.length), .dat (.ntup m.L), .unb] s2 ?_, act_other (by decide) (by decide) (ok1 hfw (by decide) (by decide)), b3.mono (by omega)⟩
              clear hm f fin2 int_ok ok1 h hfw
              walk_at "ev"
end Lw

set_option Elab.async false
set_option linter.all false
set_option autoImplicit false
set_option maxRecDepth 100000
set_option maxHeartbeats 4000000
/-! K78, the plain law: one change at a drawn place. -/
namespace Lw
open PySem L2 Mi
local macro_rules | `(tactic| walk_at "ev") => `(tactic| simp [v_ret, v_bnd, v_some, v_none, v_asB, v_tNo, v_tAn, v_tOrr, v_ofB, v_mAn, v_mOrr, v_mNo, v_mIf, v_c3, v_aNil, v_aCons, v_mTup, v_mLst, v_mNtup, v_mLstF, v_m2, v_m1, v_c2, v_mC, v_pNone, v_pSome, v_mSl, v_mCall, v_tIsi, v_frzM, v_datM, v_sNx, v_sSeq, v_sDrop, v_sRet, v_sSet, v_sIf, v_mCF, v_noXF, v_noX, v_iSeq, v_iZip, v_iRng, v_iEnu, v_sUnp, v_tgN, v_tgsNil, v_tgsCons, v_sRaise2, v_sRetV, v_sTry, v_mIxF, v_tNiF, v_sPar, v_bNil, v_bCons, v_fAdd, v_mDix, v_sDst, v_mDcp, v_mSrtSet, v_mTix, v_mRev, v_mVar, v_sApp, w_add, w_sub, w_ixT, w_ixN, w_ixL, w_addT, w_addNT, w_lenT, w_lenN, w_lenL, w_lenS, w_ltI, w_leI, w_gtI, w_geI, w_leI0, w_ltI0, w_eqI, w_neI, w_eqS, w_neS, w_isI, w_isS, w_isT, w_isN, w_isL, w_isB, w_isO, B.frz, List.replicate, w_slT, w_slL, w_topT, w_topN, w_topL, w_zipT, w_gItT, w_gItN, w_gItL, w_tgT, cut1, w_at0, w_at1, w_at2, w_lim, w_ite, putAll, w_at3, w_at4, w_at5, w_tupL, w_tupT, w_tupN, w_lstL, w_lstT, w_intI, w_intB, w_topI, w_topS, w_addII, w_addTT, str_inj, str_beq, v_tNiT, v_sTst, v_mSrtT, v_mCV, w_addLL, w_revT, *])
theorem if_yes' {t : M Bool} {m n : M Fl} {e : Mi.Env} {s s1 : S} (h : t e s = .ok true e s1) : sIf t m n e s = m e s1 := by
  rw [v_sIf, bnd_ok h, if_pos rfl]
theorem cnts_take_drop (xs : List D) (v : Nat) : cnts (xs.take v) + cnts (xs.drop v) = cnts xs := by
  rw [← cnts_append, List.take_append_drop]
theorem cnts_drop_le (xs : List D) (v : Nat) : cnts (xs.drop v) ≤ cnts xs := by
  have := cnts_take_drop xs v
  omega
theorem cnts_take_le (xs : List D) (v : Nat) : cnts (xs.take v) ≤ cnts xs := by
  have := cnts_take_drop xs v
  omega
theorem cnts_rev : ∀ xs : List D, cnts xs.reverse = cnts xs
  | [] => rfl
  | x :: xs => by
    rw [List.reverse_cons, cnts_append, cnts_rev xs]
    simp only [cnts]
    omega
theorem fit_seq {b n h : Nat} {d : D} {xs ys : List D} (hd : Fit b n h d) (t : tupL d = some xs) (hy : ∀ y ∈ ys, y ∈ xs) (hc : cnts ys ≤ 2 * cnts xs) : Fit b (2 * n) h (.tup ys) ∧ Fit b (2 * n) h (.lst ys) := by
  have h1 : lfs b xs = true := by
    have := hd.lf
    rcases tupL_cases t with rfl | rfl
    · exact this
    · simp only [Mi.lf, Bool.and_eq_true] at this
      exact this.1
  have h2 : cnt d = cnts xs + 1 := by
    rcases tupL_cases t with rfl | rfl <;> rfl
  have h3 := ev_dep t
  have c := hd.cnt
  have e := hd.dep
  have l : lfs b ys = true := lfs_mem.mpr fun y q => lfs_mem.mp h1 y (hy y q)
  have dp : deps ys ≤ deps xs := deps_le.mpr fun y q => deps_le.mp (Nat.le_refl _) y (hy y q)
  exact ⟨⟨l, by simp only [Mi.cnt]; omega, by simp only [D.dep]; omega⟩, ⟨l, by simp only [Mi.cnt]; omega, by simp only [D.dep]; omega⟩⟩
theorem item_fit {b n h : Nat} {d x : D} {xs : List D} (hd : Fit b n h d) (t : tupL d = some xs) (hx : x ∈ xs) : Fit b n (h - 1) x ∧ 1 ≤ h ∧ cnt x ≤ cnts xs ∧ cnts xs + 1 ≤ n ∧ lfs b xs = true ∧ deps xs + 1 ≤ h := by
  have h1 : lfs b xs = true := by
    have := hd.lf
    rcases tupL_cases t with rfl | rfl
    · exact this
    · simp only [Mi.lf, Bool.and_eq_true] at this
      exact this.1
  have h2 : cnt d = cnts xs + 1 := by
    rcases tupL_cases t with rfl | rfl <;> rfl
  have h3 := ev_dep t
  have c := hd.cnt
  have e := hd.dep
  have c1 := cnts_mem hx
  have d1 := deps_le.mp (Nat.le_refl (deps xs)) x hx
  exact ⟨⟨lfs_mem.mp h1 x hx, by omega, by omega⟩, by omega, c1, by omega, h1, by omega⟩
theorem cut_b {α : Type} (xs : List α) (v : Nat) : ∀ x ∈ cutD xs (some (v : Int)) (some ((v : Int) + 1)), x ∈ xs.drop v := fun x hx => by
  unfold cutD at hx
  rw [HT.sIx_nat] at hx
  have := List.mem_of_mem_take hx
  by_cases h : v ≤ xs.length
  · rwa [Nat.min_eq_left h] at this
  · rw [Nat.min_eq_right (by omega), List.drop_of_length_le (Nat.le_refl _)] at this
    cases this
theorem cut_blen (xs : List D) (v : Nat) : cnts (cutD xs (some (v : Int)) (some ((v : Int) + 1))) ≤ cnts (xs.drop v) ∧ (cutD xs (some (v : Int)) (some ((v : Int) + 1))).length ≤ xs.length := by
  unfold cutD
  rw [HT.sIx_nat]
  refine ⟨?_, by rw [List.length_take, List.length_drop]; omega⟩
  by_cases h : v ≤ xs.length
  · rw [Nat.min_eq_left h]
    exact cnts_take_le _ _
  · rw [Nat.min_eq_right (by omega)]
    have : xs.drop xs.length = [] := List.drop_of_length_le (Nat.le_refl _)
    rw [this, List.take_nil]
    exact Nat.zero_le _
theorem new_model_ok {ns : List Int} {k : Nat} {s : S} (h : RB ns k s) (hk : k < 40000) : ∃ (m : MSt) (s' : S), fnM 1 3 m_law_new_model [.root 0] s = .ok (.ownK KS m.vs) [] s' ∧ MOk 0 m ∧ RB ns (k + 40) s' := by
  obtain ⟨L, s1, a1, a2, a3⟩ := signs_ok h (by omega)
  obtain ⟨g, s2, b1, b2, b3⟩ := gear_ok a3 (by omega) L a2
  obtain ⟨v, s3, c1, c2, c3⟩ := draw_ok b3 (by omega) 3 3 rfl (by decide) (by decide)
  have f := sgn_facts a2
  have hG := fit_gear a2 b2
  have b00 := b2.lo
  have mk : ∀ q : List D, (∀ y ∈ q, y ∈ HushL) → q.length ≤ 4 → MOk 0 ⟨L, [g], [[0]], 0, 0, q, [], [], [], .tup [.str "service", gearD L g, .tup q]⟩ := fun q hq hl => by
    have fq := hush_facts hq hl
    refine ⟨a2, by simp, by simp, fun g' hg' => ?_, by simp, fun z hz => ?_, by simp, fun g' hg' => ?_, ?_, ⟨by simp, fun a ha => by cases ha⟩, by simp, by simp, ?_⟩
    · rw [List.mem_singleton] at hg'
      exact hg' ▸ b2
    · rw [List.mem_singleton] at hz
      subst hz
      exact std0 (gs := [g]) fun g' hg' => by
        rw [List.mem_singleton] at hg'
        exact hg' ▸ b2
    · change [g][0]? = some g' at hg'
      cases hg'
      exact b00
    · exact plains_mem.mpr fun y hy => by
        have := hq y hy
        simp [HushL] at this
        rcases this with rfl | rfl | rfl | rfl <;> rfl
    · exact (fit3 (fit_str (by decide)) hG (fq.le (Nat.le_refl _) (Nat.le_refl _) (by omega))).le (Nat.le_refl _) (by decide) (by omega)
  by_cases c : v = 0
  · subst c
    obtain ⟨q, s4, d1, d2, d3, d4⟩ := hush_ok c3 (by omega)
    have mo := model_of_ok L g q s4
    refine ⟨_, s4, ?_, mk q d2 d3, d4.mono (by omega)⟩
    generalize MSt.vs ⟨L, [g], [[0]], 0, 0, q, [], [], [], .tup [.str "service", gearD L g, .tup q]⟩ = z at mo ⊢
    clear h mk f hG d2 a2 b2
    unfold fnM m_law_new_model
    walk_at "ev"
  · have mo := model_of_ok L g [] s3
    have c' : ¬ (v : Int) = 0 := by omega
    refine ⟨_, s3, ?_, mk [] (fun y hy => by cases hy) (by simp), c3.mono (by omega)⟩
    generalize MSt.vs ⟨L, [g], [[0]], 0, 0, [], [], [], [], .tup [.str "service", gearD L g, .tup []]⟩ = z at mo ⊢
    clear h mk f hG a2 b2
    unfold fnM m_law_new_model
    walk_at "ev"
abbrev chRest : M Fl := sSeq (sIf (tAn (asB (tIsi (mVar 1) "int")) (tNo (asB (tIsi (mVar 1) "bool")))) (sRet (datM (m2 (mLst (aCons (m2 (mVar 1) (Mi.ret (.int 1)) (tp2 gAdd)) (aCons (m2 (Mi.ret (.int (-1))) (mVar 1) (tp2 gSub)) (aCons (Mi.ret (.int 0)) (aCons (mC (tp2 cEq) (mVar 1) (Mi.ret (.int 1))) (aCons (Mi.ret .non) (aCons (Mi.ret (.str "1")) aNil))))))) (frzM (mCF (noXF (fnM 2 6 m_law_draw)) (aCons (mVar 0) (aCons (Mi.ret (.int 6)) aNil)))) (tp2 gIx)))) sNx) (sSeq (sSet 2 (mLstF (aCons (Mi.ret (.str "a")) (aCons (Mi.ret (.str "b")) (aCons (Mi.ret (.str "zz")) (aCons (Mi.ret (.str "read")) (aCons (Mi.ret (.str "plan")) (aCons (Mi.ret (.str "quiet")) (aCons (Mi.ret (.str "force")) (aCons (Mi.ret (.str "service")) (aCons (Mi.ret (.str "")) (aCons (Mi.ret (.str "Ab")) (aCons (Mi.ret (.str "abcdefghi")) (aCons (Mi.ret (.int 1)) (aCons (Mi.ret .non) (aCons (Mi.ret (.bl true)) aNil)))))))))))))))) (sRet (datM (m2 (mVar 2) (frzM (mCF (noXF (fnM 2 6 m_law_draw)) (aCons (mVar 0) (aCons (Mi.ret (.int 14)) aNil)))) (tp2 gIx)))))
abbrev chTup : M Fl := sSeq (sSet 3 (mCF (noXF (fnM 2 6 m_law_draw)) (aCons (mVar 0) (aCons (m2 (mCall (aCons (mVar 1) aNil) (tpN gLen)) (Mi.ret (.int 1)) (tp2 gAdd)) aNil)))) (sSeq (sSet 2 (mLstF (aCons (m2 (mSl (mVar 1) pNone (pSome (mVar 3))) (mSl (mVar 1) (pSome (m2 (mVar 3) (Mi.ret (.int 1)) (tp2 gAdd))) pNone) (tp2 gAdd)) (aCons (m2 (m2 (mSl (mVar 1) pNone (pSome (mVar 3))) (mSl (mVar 1) (pSome (mVar 3)) (pSome (m2 (mVar 3) (Mi.ret (.int 1)) (tp2 gAdd)))) (tp2 gAdd)) (mSl (mVar 1) (pSome (mVar 3)) pNone) (tp2 gAdd)) (aCons (mRev (mVar 1)) aNil))))) (sRet (datM (m2 (m2 (mVar 2) (mLst (aCons (mCall (aCons (mVar 1) aNil) (tpN gList)) (aCons (m2 (mVar 1) (mTup (aCons (Mi.ret (.str "a")) aNil)) (tp2 gAdd)) (aCons (mTup aNil) aNil)))) (tp2 gAdd)) (frzM (mCF (noXF (fnM 2 6 m_law_draw)) (aCons (mVar 0) (aCons (Mi.ret (.int 6)) aNil)))) (tp2 gIx)))))
theorem ch_mem {α : Type} {l : List α} {v : Nat} (h : v < l.length) : ∃ x, l[v]? = some x ∧ atI l (v : Int) = some x ∧ x ∈ l := ⟨l[v], List.getElem?_eq_getElem h, by rw [Mi.atI_nat]; exact List.getElem?_eq_getElem h, List.getElem_mem h⟩
/-- neither a tuple nor an int -/
theorem ch_leaf {ns : List Int} {k : Nat} {d : D} {s : S} (hr : RB ns k s) (hk : k < 80000) (h1 : cIsi "int" d = some false) : ∃ d' s', chRest [.dat (.root 0), .dat d, .unb, .unb] s = .ok (.rt (.dat d')) [.dat (.root 0), .dat d, .dat (.lst [.str "a", .str "b", .str "zz", .str "read", .str "plan", .str "quiet", .str "force", .str "service", .str "", .str "Ab", .str "abcdefghi", .int 1, .non, .bl true]), .unb] s' ∧ Fit 1 1 0 d' ∧ RB ns (k + 1) s' := by
  obtain ⟨v, s', a1, a2, a3⟩ := draw_ok hr (by omega) 14 14 rfl (by decide) (by decide)
  obtain ⟨x, x1, x2, x3⟩ := ch_mem (l := ([.str "a", .str "b", .str "zz", .str "read", .str "plan", .str "quiet", .str "force", .str "service", .str "", .str "Ab", .str "abcdefghi", .int 1, .non, .bl true] : List D)) (v := v) a2
  refine ⟨x, s', ?_, ?_, a3⟩
  · clear hr a3 x3 x1
    unfold chRest
    walk_at "ev"
  · simp only [List.mem_cons, List.not_mem_nil, or_false] at x3
    rcases x3 with rfl | rfl | rfl | rfl | rfl | rfl | rfl | rfl | rfl | rfl | rfl | rfl | rfl | rfl <;> exact ⟨by decide, by decide, by decide⟩
theorem ch_int {ns : List Int} {k b : Nat} {i : Int} {s : S} (hr : RB ns k s) (hk : k < 80000) (hi : i.natAbs ≤ b) : ∃ d' s', chRest [.dat (.root 0), .dat (.int i), .unb, .unb] s = .ok (.rt (.dat d')) [.dat (.root 0), .dat (.int i), .unb, .unb] s' ∧ Fit (b + 1) 1 0 d' ∧ RB ns (k + 1) s' := by
  obtain ⟨v, s', a1, a2, a3⟩ := draw_ok hr (by omega) 6 6 rfl (by decide) (by decide)
  obtain ⟨x, x1, x2, x3⟩ := ch_mem (l := [D.int (i + 1), .int (-1 - i), .int 0, .bl (i == 1), .non, .str "1"]) (v := v) a2
  refine ⟨x, s', ?_, ?_, a3⟩
  · clear hr a3 x3 x1
    unfold chRest
    walk_at "ev"
  · simp only [List.mem_cons, List.not_mem_nil, or_false] at x3
    rcases x3 with rfl | rfl | rfl | rfl | rfl | rfl
    · exact fit_int (by omega)
    · exact fit_int (by omega)
    · exact fit_int (by omega)
    · exact ⟨rfl, Nat.le_refl _, Nat.le_refl _⟩
    · exact ⟨rfl, Nat.le_refl _, Nat.le_refl _⟩
    · exact ⟨(by decide : Mi.lf 0 (.str "1") = true), Nat.le_refl _, Nat.le_refl _⟩
theorem ch_tup {ns : List Int} {k b n h : Nat} {d : D} {xs : List D} {s : S} (hr : RB ns k s) (hk : k < 80000) (t : tupL d = some xs) (hd : Fit b n h d) (hn : n ≤ 5000) : ∃ d' s' e', chTup [.dat (.root 0), .dat d, .unb, .unb] s = .ok (.rt (.dat d')) e' s' ∧ Fit b (2 * n) h d' ∧ RB ns (k + 2) s' := by
  have hl := cnts_len xs
  have hc : cnts xs + 1 ≤ n := by
    have := hd.cnt
    have : cnt d = cnts xs + 1 := by rcases tupL_cases t with rfl | rfl <;> rfl
    omega
  have hh : 1 ≤ h := by
    have := hd.dep
    have := ev_dep t
    omega
  obtain ⟨u, s1, a1, a2, a3⟩ := draw_ok hr (by omega) ((xs.length : Int) + 1) (xs.length + 1) rfl (by omega) (by omega)
  obtain ⟨v, s2, b1, b2, b3⟩ := draw_ok a3 (by omega) 6 6 rfl (by decide) (by decide)
  have T := tupF t
  have tt := top_tup t
  obtain ⟨x, x1, x2, x3⟩ := ch_mem (l := ([.tup (xs.take u ++ xs.drop (u + 1)), .tup (xs.take u ++ (cutD xs (some (u : Int)) (some ((u : Int) + 1)) ++ xs.drop u)), .tup xs.reverse, .lst xs, .tup (xs ++ [.str "a"]), .tup []] : List D)) (v := v) b2
  obtain ⟨cb1, cb2⟩ := cut_blen xs u
  have cb := cut_b xs u
  have td := cnts_take_drop xs u
  have dl : cnts (xs.drop (u + 1)) ≤ cnts (xs.drop u) := by
    have : xs.drop (u + 1) = (xs.drop u).drop 1 := by rw [List.drop_drop]
    rw [this]
    exact cnts_drop_le _ _
  refine ⟨x, s2, [.dat (.root 0), .dat d, .dat (.lst [.tup (xs.take u ++ xs.drop (u + 1)), .tup (xs.take u ++ (cutD xs (some (u : Int)) (some ((u : Int) + 1)) ++ xs.drop u)), .tup xs.reverse]), .dat (.int u)], ?_, ?_, b3⟩
  · have c1 := cut_at xs u
    have c2 := cut_af xs u
    have c3 : cutD xs (some (u : Int)) none = xs.drop u := cutD_from xs u
    have ad : ∀ ys zs : List D, tp2 gAdd (.tup ys) (.tup zs) = if ys.length + zs.length ≤ 1000000 then some (.tup (ys ++ zs)) else none := fun _ _ => rfl
    have adn : tp2 gAdd d (.tup [.str "a"]) = some (.tup (xs ++ [.str "a"])) := by
      show gAdd d.top (.tup [.str "a"]) = _
      rw [tt]
      show (if xs.length + 1 ≤ lim then some (D.tup (xs ++ [.str "a"])) else none) = _
      rw [if_pos (by unfold lim; omega)]
    have gl : tpN gList [d] = some (.lst xs) := by
      show gList [d.top] = _
      rw [tt]
      rfl
    have l1 : min u xs.length + (xs.length - (u + 1)) ≤ 1000000 := by omega
    have l2 : min u xs.length + (cutD xs (some (u : Int)) (some ((u : Int) + 1))).length ≤ 1000000 := by omega
    have l3 : min u xs.length + (cutD xs (some (u : Int)) (some ((u : Int) + 1))).length + (xs.length - u) ≤ 1000000 := by omega
    clear hr a3 b3 x3 x1 hd cb cb1 cb2 td dl
    generalize hzz : cutD xs (some (u : Int)) (some ((u : Int) + 1)) = zz at *
    unfold chTup
    walk_at "ev"
  · simp only [List.mem_cons, List.not_mem_nil, or_false] at x3
    have nil : Fit b (2 * n) h (.tup []) := ⟨rfl, by simp only [Mi.cnt, cnts]; omega, by simp only [D.dep, deps]; omega⟩
    rcases x3 with rfl | rfl | rfl | rfl | rfl | rfl
    · exact (fit_seq hd t (fun y hy => (List.mem_append.mp hy).elim List.mem_of_mem_take List.mem_of_mem_drop) (by rw [cnts_append]; omega)).1
    · refine (fit_seq hd t (fun y hy => ?_) (by rw [cnts_append, cnts_append]; omega)).1
      rcases List.mem_append.mp hy with hy | hy
      · exact List.mem_of_mem_take hy
      · rcases List.mem_append.mp hy with hy | hy
        · exact List.mem_of_mem_drop (cb y hy)
        · exact List.mem_of_mem_drop hy
    · exact (fit_seq hd t (fun y hy => List.mem_reverse.mp hy) (by rw [cnts_rev]; omega)).1
    · exact (fit_seq hd t (fun y hy => hy) (by omega)).2
    · have h1 : lfs b xs = true := by
        have := hd.lf
        rcases tupL_cases t with rfl | rfl
        · exact this
        · simp only [Mi.lf, Bool.and_eq_true] at this
          exact this.1
      have h3 := ev_dep t
      have e := hd.dep
      refine ⟨lfs_mem.mpr fun y hy => ?_, by simp only [Mi.cnt, cnts_append, cnts]; omega, ?_⟩
      · rcases List.mem_append.mp hy with hy | hy
        · exact lfs_mem.mp h1 y hy
        · rw [List.mem_singleton] at hy
          subst hy
          exact (by decide : Mi.lf 0 (.str "a") = true)
      · have : deps (xs ++ [.str "a"]) ≤ deps xs := deps_le.mpr fun y hy => by
          rcases List.mem_append.mp hy with hy | hy
          · exact deps_le.mp (Nat.le_refl _) y hy
          · rw [List.mem_singleton] at hy
            subst hy
            exact Nat.zero_le _
        simp only [D.dep]
        omega
    · exact nil
theorem changed_ok {ns : List Int} : ∀ (f b n h k : Nat) (d : D) (s : S), h < f → Fit b n h d → n ≤ 5000 → RB ns k s → k + 3 * f < 80000 → ∃ d' s', f_law_changed f [.root 0, d] s = .ok (.dat d') [] s' ∧ Fit (b + 1) (2 * n) h d' ∧ RB ns (k + 3 * f) s'
  | f + 1, b, n, h, k, d, s, hf, hd, hn, hr, hk => by
    have ih := changed_ok (ns := ns) f
    show ∃ d' s', fnM 2 4 (m_law_changed (f_law_changed f)) [.root 0, d] s = _ ∧ _
    have n1 : 1 ≤ n := Nat.le_trans (cnt_pos d) hd.cnt
    cases t : tupL d with
    | none =>
      have hft := hd.fit hn
      have nt := not_tup hft t
      have e1 : (sIf (tAn (asB (tIsi (mVar 1) "tuple")) (tAn (c2 (mVar 1) (mTup aNil) (tp2 cNe)) (c2 (frzM (mCF (noXF (fnM 2 6 m_law_draw)) (aCons (mVar 0) (aCons (Mi.ret (.int 6)) aNil)))) (Mi.ret (.int 0)) (tp2 cGt)))) (sSeq (sSet 3 (mCF (noXF (fnM 2 6 m_law_draw)) (aCons (mVar 0) (aCons (mCall (aCons (mVar 1) aNil) (tpN gLen)) aNil)))) (sRet (fAdd (m2 (mSl (mVar 1) pNone (pSome (mVar 3))) (mTup (aCons (frzM (mCF (noXF (f_law_changed f)) (aCons (mVar 0) (aCons (m2 (mVar 1) (mVar 3) (tp2 gIx)) aNil)))) aNil)) (tp2 gAdd)) (mSl (mVar 1) (pSome (m2 (mVar 3) (Mi.ret (.int 1)) (tp2 gAdd))) pNone)))) sNx : M Fl) [.dat (.root 0), .dat d, .unb, .unb] s = .ok .nx [.dat (.root 0), .dat d, .unb, .unb] s := by
        clear hft hd hr ih
        walk_at "ev"
      have e2 : (sIf (asB (tIsi (mVar 1) "tuple")) (sSeq (sSet 3 (mCF (noXF (fnM 2 6 m_law_draw)) (aCons (mVar 0) (aCons (m2 (mCall (aCons (mVar 1) aNil) (tpN gLen)) (Mi.ret (.int 1)) (tp2 gAdd)) aNil)))) (sSeq (sSet 2 (mLstF (aCons (m2 (mSl (mVar 1) pNone (pSome (mVar 3))) (mSl (mVar 1) (pSome (m2 (mVar 3) (Mi.ret (.int 1)) (tp2 gAdd))) pNone) (tp2 gAdd)) (aCons (m2 (m2 (mSl (mVar 1) pNone (pSome (mVar 3))) (mSl (mVar 1) (pSome (mVar 3)) (pSome (m2 (mVar 3) (Mi.ret (.int 1)) (tp2 gAdd)))) (tp2 gAdd)) (mSl (mVar 1) (pSome (mVar 3)) pNone) (tp2 gAdd)) (aCons (mRev (mVar 1)) aNil))))) (sRet (datM (m2 (m2 (mVar 2) (mLst (aCons (mCall (aCons (mVar 1) aNil) (tpN gList)) (aCons (m2 (mVar 1) (mTup (aCons (Mi.ret (.str "a")) aNil)) (tp2 gAdd)) (aCons (mTup aNil) aNil)))) (tp2 gAdd)) (frzM (mCF (noXF (fnM 2 6 m_law_draw)) (aCons (mVar 0) (aCons (Mi.ret (.int 6)) aNil)))) (tp2 gIx)))))) sNx : M Fl) [.dat (.root 0), .dat d, .unb, .unb] s = .ok .nx [.dat (.root 0), .dat d, .unb, .unb] s := by
        clear hft hd hr ih
        walk_at "ev"
      by_cases hi : ∃ i, d = .int i
      · obtain ⟨i, rfl⟩ := hi
        have hb : i.natAbs ≤ b := by simpa [Mi.lf] using hd.lf
        obtain ⟨d', s', c1, c2, c3⟩ := ch_int hr (by omega) hb
        exact ⟨d', s', fn_run rfl (seq_is e1 (seq_is e2 c1)), c2.le (Nat.le_refl _) (by omega) (Nat.zero_le _), c3.mono (by omega)⟩
      · by_cases hb : ∃ i, d = .bl i
        · obtain ⟨i, rfl⟩ := hb
          obtain ⟨v, s', a1, a2, a3⟩ := draw_ok hr (by omega) 14 14 rfl (by decide) (by decide)
          obtain ⟨x, x1, x2, x3⟩ := ch_mem (l := ([.str "a", .str "b", .str "zz", .str "read", .str "plan", .str "quiet", .str "force", .str "service", .str "", .str "Ab", .str "abcdefghi", .int 1, .non, .bl true] : List D)) (v := v) a2
          have c1 : chRest [.dat (.root 0), .dat (.bl i), .unb, .unb] s = .ok (.rt (.dat x)) [.dat (.root 0), .dat (.bl i), .dat (.lst [.str "a", .str "b", .str "zz", .str "read", .str "plan", .str "quiet", .str "force", .str "service", .str "", .str "Ab", .str "abcdefghi", .int 1, .non, .bl true]), .unb] s' := by
            clear hr a3 x3 x1 ih e1 e2 hd hft
            unfold chRest
            walk_at "ev"
          refine ⟨x, s', fn_run rfl (seq_is e1 (seq_is e2 c1)), ?_, a3.mono (by omega)⟩
          have : Fit 1 1 0 x := by
            simp only [List.mem_cons, List.not_mem_nil, or_false] at x3
            rcases x3 with rfl | rfl | rfl | rfl | rfl | rfl | rfl | rfl | rfl | rfl | rfl | rfl | rfl | rfl <;> exact ⟨by decide, by decide, by decide⟩
          exact this.le (by omega) (by omega) (Nat.zero_le _)
        · have ni : cIsi "int" d = some false := by
            rcases fit_kind hft with ⟨xs, t'⟩ | ⟨_, kk⟩
            · rw [t] at t'
              cases t'
            · rcases kk with rfl | ⟨j, rfl⟩ | ⟨j, rfl⟩ | ⟨_, rfl⟩ | ⟨_, rfl⟩
              · rfl
              · exact absurd ⟨j, rfl⟩ hb
              · exact absurd ⟨j, rfl⟩ hi
              · rfl
              · rfl
          obtain ⟨d', s', c1, c2, c3⟩ := ch_leaf hr (by omega) ni
          exact ⟨d', s', fn_run rfl (seq_is e1 (seq_is e2 c1)), c2.le (by omega) (by omega) (Nat.zero_le _), c3.mono (by omega)⟩
    | some xs =>
      have T := tupF t
      have hft := hd.fit hn
      have hpl := fit_plain hft
      have nn := ev_ne_tnil hpl t
      have second : ∀ (k2 : Nat) (s2 : S), RB ns k2 s2 → k2 ≤ k + 1 → (sIf (tAn (asB (tIsi (mVar 1) "tuple")) (tAn (c2 (mVar 1) (mTup aNil) (tp2 cNe)) (c2 (frzM (mCF (noXF (fnM 2 6 m_law_draw)) (aCons (mVar 0) (aCons (Mi.ret (.int 6)) aNil)))) (Mi.ret (.int 0)) (tp2 cGt)))) (sSeq (sSet 3 (mCF (noXF (fnM 2 6 m_law_draw)) (aCons (mVar 0) (aCons (mCall (aCons (mVar 1) aNil) (tpN gLen)) aNil)))) (sRet (fAdd (m2 (mSl (mVar 1) pNone (pSome (mVar 3))) (mTup (aCons (frzM (mCF (noXF (f_law_changed f)) (aCons (mVar 0) (aCons (m2 (mVar 1) (mVar 3) (tp2 gIx)) aNil)))) aNil)) (tp2 gAdd)) (mSl (mVar 1) (pSome (m2 (mVar 3) (Mi.ret (.int 1)) (tp2 gAdd))) pNone)))) sNx : M Fl) [.dat (.root 0), .dat d, .unb, .unb] s = .ok .nx [.dat (.root 0), .dat d, .unb, .unb] s2 → ∃ d' s', fnM 2 4 (m_law_changed (f_law_changed f)) [.root 0, d] s = .ok (.dat d') [] s' ∧ Fit (b + 1) (2 * n) h d' ∧ RB ns (k + 3 * (f + 1)) s' := fun k2 s2 hr2 hk2 e1 => by
        obtain ⟨d', s', e', c1, c2, c3⟩ := ch_tup hr2 (by omega) t hd hn
        have tt : ((asB (tIsi (mVar 1) "tuple")) : M Bool) [.dat (.root 0), .dat d, .unb, .unb] s2 = .ok true [.dat (.root 0), .dat d, .unb, .unb] s2 := by
          clear e1 c1 hd hft ih
          walk_at "ev"
        have e2 : ∀ r : M Fl, sSeq (sIf (asB (tIsi (mVar 1) "tuple")) (sSeq (sSet 3 (mCF (noXF (fnM 2 6 m_law_draw)) (aCons (mVar 0) (aCons (m2 (mCall (aCons (mVar 1) aNil) (tpN gLen)) (Mi.ret (.int 1)) (tp2 gAdd)) aNil)))) (sSeq (sSet 2 (mLstF (aCons (m2 (mSl (mVar 1) pNone (pSome (mVar 3))) (mSl (mVar 1) (pSome (m2 (mVar 3) (Mi.ret (.int 1)) (tp2 gAdd))) pNone) (tp2 gAdd)) (aCons (m2 (m2 (mSl (mVar 1) pNone (pSome (mVar 3))) (mSl (mVar 1) (pSome (mVar 3)) (pSome (m2 (mVar 3) (Mi.ret (.int 1)) (tp2 gAdd)))) (tp2 gAdd)) (mSl (mVar 1) (pSome (mVar 3)) pNone) (tp2 gAdd)) (aCons (mRev (mVar 1)) aNil))))) (sRet (datM (m2 (m2 (mVar 2) (mLst (aCons (mCall (aCons (mVar 1) aNil) (tpN gList)) (aCons (m2 (mVar 1) (mTup (aCons (Mi.ret (.str "a")) aNil)) (tp2 gAdd)) (aCons (mTup aNil) aNil)))) (tp2 gAdd)) (frzM (mCF (noXF (fnM 2 6 m_law_draw)) (aCons (mVar 0) (aCons (Mi.ret (.int 6)) aNil)))) (tp2 gIx)))))) sNx) r [.dat (.root 0), .dat d, .unb, .unb] s2 = .ok (.rt (.dat d')) e' s' := fun r => by
          have := (if_yes (m := chTup) (n := sNx) tt).trans c1
          exact bnd_ok this
        exact ⟨d', s', fn_run rfl (seq_is e1 (e2 _)), c2.le (by omega) (Nat.le_refl _) (Nat.le_refl _), c3.mono (by omega)⟩
      cases xs with
      | nil =>
        refine second k s hr (by omega) ?_
        clear second ih hd hft hr
        walk_at "ev"
      | cons x0 xr =>
        generalize hxs : x0 :: xr = xs at *
        have hne : xs.isEmpty = false := by rw [← hxs]; rfl
        rw [hne] at nn
        have hl0 : 0 < xs.length := by rw [← hxs]; simp
        have hl := cnts_len xs
        have hc : cnts xs + 1 ≤ n := by
          have := hd.cnt
          have : cnt d = cnts xs + 1 := by rcases tupL_cases t with rfl | rfl <;> rfl
          omega
        obtain ⟨v1, s1, a1, a2, a3⟩ := draw_ok hr (by omega) 6 6 rfl (by decide) (by decide)
        by_cases cv : v1 = 0
        · subst cv
          refine second (k + 1) s1 a3 (Nat.le_refl _) ?_
          clear second ih hd hft hr a3
          walk_at "ev"
        · obtain ⟨v2, s2, b1, b2, b3⟩ := draw_ok a3 (by omega) xs.length xs.length rfl hl0 (by omega)
          obtain ⟨x, x1, x2, x3⟩ := ch_mem (l := xs) b2
          obtain ⟨f1, f2, f3, f4, f5, f6⟩ := item_fit hd t x3
          obtain ⟨x', s3, w1, w2, w3⟩ := ih b (cnt x) (h - 1) (k + 2) x s2 (by omega) ⟨f1.lf, Nat.le_refl _, f1.dep⟩ (by omega) b3 (by omega)
          have td := cnts_take_drop xs v2
          have dx : xs.drop v2 = x :: xs.drop (v2 + 1) := by
            rw [List.drop_eq_getElem_cons b2]
            congr 1
            rw [List.getElem?_eq_getElem b2] at x1
            exact Option.some.inj x1
          rw [dx] at td
          simp only [cnts] at td
          refine ⟨.tup (xs.take v2 ++ x' :: xs.drop (v2 + 1)), s3, ?_, ⟨lfs_mem.mpr fun y hy => ?_, ?_, ?_⟩, w3.mono (by omega)⟩
          · have c1' := cut_at xs v2
            have c2' := cut_af xs v2
            have tt := top_tup t
            have cv' : 0 < v1 := by omega
            have l1 : min v2 xs.length + 1 ≤ 1000000 := by omega
            have l2 : min v2 xs.length + (1 + (xs.length - (v2 + 1))) ≤ 1000000 := by omega
            have l3 : min v2 xs.length + 1 + (xs.length - (v2 + 1)) ≤ 1000000 := by omega
            have e1 : (sSeq (sSet 3 (mCF (noXF (fnM 2 6 m_law_draw)) (aCons (mVar 0) (aCons (mCall (aCons (mVar 1) aNil) (tpN gLen)) aNil)))) (sRet (fAdd (m2 (mSl (mVar 1) pNone (pSome (mVar 3))) (mTup (aCons (frzM (mCF (noXF (f_law_changed f)) (aCons (mVar 0) (aCons (m2 (mVar 1) (mVar 3) (tp2 gIx)) aNil)))) aNil)) (tp2 gAdd)) (mSl (mVar 1) (pSome (m2 (mVar 3) (Mi.ret (.int 1)) (tp2 gAdd))) pNone))) : M Fl) [.dat (.root 0), .dat d, .unb, .unb] s1 = .ok (.rt (.dat (.tup (xs.take v2 ++ x' :: xs.drop (v2 + 1))))) [.dat (.root 0), .dat d, .unb, .dat (.int v2)] s3 := by
              clear second ih hd hft hr a3 b3 w3 w2 f1 f5 hxs td dx
              walk_at "ev"
            have tst : ((tAn (asB (tIsi (mVar 1) "tuple")) (tAn (c2 (mVar 1) (mTup aNil) (tp2 cNe)) (c2 (frzM (mCF (noXF (fnM 2 6 m_law_draw)) (aCons (mVar 0) (aCons (Mi.ret (.int 6)) aNil)))) (Mi.ret (.int 0)) (tp2 cGt)))) : M Bool) [.dat (.root 0), .dat d, .unb, .unb] s = .ok true [.dat (.root 0), .dat d, .unb, .unb] s1 := by
              clear second ih hd hft hr a3 b3 w3 w2 f1 f5 hxs td dx e1 w1
              walk_at "ev"
            refine fn_run rfl (e' := [.dat (.root 0), .dat d, .unb, .dat (.int v2)]) ?_
            unfold m_law_changed
            exact bnd_ok ((if_yes' tst).trans e1)
          · rcases List.mem_append.mp hy with hy | hy
            · exact lf_mono (Nat.le_succ _) _ (lfs_mem.mp f5 y (List.mem_of_mem_take hy))
            · rcases List.mem_cons.mp hy with hy | hy
              · exact hy ▸ w2.lf
              · exact lf_mono (Nat.le_succ _) _ (lfs_mem.mp f5 y (List.mem_of_mem_drop hy))
          · have := w2.cnt
            simp only [Mi.cnt, cnts_append, cnts]
            omega
          · have : deps (xs.take v2 ++ x' :: xs.drop (v2 + 1)) ≤ h - 1 := deps_le.mpr fun y hy => by
              rcases List.mem_append.mp hy with hy | hy
              · have := deps_le.mp (Nat.le_refl (deps xs)) y (List.mem_of_mem_take hy)
                omega
              · rcases List.mem_cons.mp hy with hy | hy
                · exact hy ▸ w2.dep
                · have := deps_le.mp (Nat.le_refl (deps xs)) y (List.mem_of_mem_drop hy)
                  omega
            simp only [D.dep]
            omega
end Lw

set_option Elab.async false
set_option linter.all false
set_option autoImplicit false
set_option maxRecDepth 100000
set_option maxHeartbeats 8000000
/-! K78, the plain law: the law's own def. -/
namespace Lw
open PySem L2 Mi
local macro_rules | `(tactic| walk_at "ev") => `(tactic| simp [v_ret, v_bnd, v_some, v_none, v_asB, v_tNo, v_tAn, v_tOrr, v_ofB, v_mAn, v_mOrr, v_mNo, v_mIf, v_c3, v_aNil, v_aCons, v_mTup, v_mLst, v_mNtup, v_mLstF, v_m2, v_m1, v_c2, v_mC, v_pNone, v_pSome, v_mSl, v_mCall, v_tIsi, v_frzM, v_datM, v_sNx, v_sSeq, v_sDrop, v_sRet, v_sSet, v_sIf, v_mCF, v_noXF, v_noX, v_iSeq, v_iZip, v_iRng, v_iEnu, v_sUnp, v_tgN, v_tgsNil, v_tgsCons, v_sRaise2, v_sRetV, v_sTry, v_mIxF, v_tNiF, v_sPar, v_bNil, v_bCons, v_fAdd, v_mDix, v_sDst, v_mDcp, v_mSrtSet, v_mTix, v_mRev, v_mVar, v_sApp, w_add, w_sub, w_ixT, w_ixN, w_ixL, w_addT, w_addNT, w_lenT, w_lenN, w_lenL, w_lenS, w_ltI, w_leI, w_gtI, w_geI, w_leI0, w_ltI0, w_eqI, w_neI, w_eqS, w_neS, w_isI, w_isS, w_isT, w_isN, w_isL, w_isB, w_isO, B.frz, List.replicate, w_slT, w_slL, w_topT, w_topN, w_topL, w_zipT, w_gItT, w_gItN, w_gItL, w_tgT, cut1, w_at0, w_at1, w_at2, w_lim, w_ite, putAll, w_at3, w_at4, w_at5, w_tupL, w_tupT, w_tupN, w_lstL, w_lstT, w_intI, w_intB, w_topI, w_topS, w_addII, w_addTT, str_inj, str_beq, v_tNiT, v_sTst, v_mSrtT, v_mCV, w_addLL, w_revT, *])
def OLD : D := .tup [.tup [.str "a", .str "b"], .tup [.tup [.tup [.int 1, .str ""], .tup [.int 0, .str ""]], .tup [.tup [.int 0, .str ""], .tup [.int 1, .str ""]]]]
def NEW : D := .tup [.tup [.str "a", .str "b"], .tup [.tup [.tup [.int 1, .str ""], .tup [.int 2, .str "no"]], .tup [.tup [.int 0, .str ""], .tup [.int 2, .str "yes"]], .tup [.tup [.int 2, .str ""], .tup [.int 2, .str ""]]]]
def HEAD : D := .tup [.str "service", OLD, .tup [.str "no", .str "x"]]
def ACTS : List D := [.tup [.str "read", .str "zz"], .tup [.str "plan", NEW], .tup [.str "replace", .int (10 ^ 59)], .tup [.str "quiet", .tup []], .tup [.str "force", .int (10 ^ 59), .int 0], .tup [.str "quiet", .tup [.str "a", .str "b"]], .tup [.str "forget", .int 7], .tup [.str "plan", .tup [.tup [.str "z"], .tup [.tup [.tup [.int 0, .str "x"]]]]]]
def FIXED : D := .tup (HEAD :: ACTS)
def V7 (own : D) : List D := [FIXED, own, .tup [], HEAD, .tup ACTS, .lst (HEAD :: ACTS), .non, .str "service", .int 0, .tup [HEAD, HEAD], .tup [.tup [.str "service", OLD]]]
def V8 (own : D) : List D := V7 own ++ [.tup [.lst [.str "service", OLD, .tup [.str "no", .str "x"]]]]
def V9 (own : D) : List D := V8 own ++ [.tup [HEAD, .tup [.str "plan", .tup [.tup [.str "a", .str "b", .str "c", .str "d"], .tup [.tup [.tup [.int 0, .str "x"], .tup [.int 0, .str "x"], .tup [.int 0, .str "x"], .tup [.int 0, .str "x"]], .tup [.tup [.int 1, .str "x"], .tup [.int 1, .str "x"], .tup [.int 1, .str "x"], .tup [.int 1, .str "x"]], .tup [.tup [.int 2, .str "x"], .tup [.int 2, .str "x"], .tup [.int 2, .str "x"], .tup [.int 2, .str "x"]], .tup [.tup [.int 3, .str "x"], .tup [.int 3, .str "x"], .tup [.int 3, .str "x"], .tup [.int 3, .str "x"]], .tup [.tup [.int 4, .str "x"], .tup [.int 4, .str "x"], .tup [.int 4, .str "x"], .tup [.int 4, .str "x"]], .tup [.tup [.int 5, .str "x"], .tup [.int 5, .str "x"], .tup [.int 5, .str "x"], .tup [.int 5, .str "x"]], .tup [.tup [.int 6, .str "x"], .tup [.int 6, .str "x"], .tup [.int 6, .str "x"], .tup [.int 6, .str "x"]], .tup [.tup [.int 7, .str "x"], .tup [.int 7, .str "x"], .tup [.int 7, .str "x"], .tup [.int 7, .str "x"]], .tup [.tup [.int 8, .str "x"], .tup [.int 8, .str "x"], .tup [.int 8, .str "x"], .tup [.int 8, .str "x"]], .tup [.tup [.int 9, .str "x"], .tup [.int 9, .str "x"], .tup [.int 9, .str "x"], .tup [.int 9, .str "x"]], .tup [.tup [.int 10, .str "x"], .tup [.int 10, .str "x"], .tup [.int 10, .str "x"], .tup [.int 10, .str "x"]], .tup [.tup [.int 11, .str "x"], .tup [.int 11, .str "x"], .tup [.int 11, .str "x"], .tup [.int 11, .str "x"]], .tup [.tup [.int 12, .str "x"], .tup [.int 12, .str "x"], .tup [.int 12, .str "x"], .tup [.int 12, .str "x"]], .tup [.tup [.int 13, .str "x"], .tup [.int 13, .str "x"], .tup [.int 13, .str "x"], .tup [.int 13, .str "x"]]]]]]]
def V10 (own : D) : List D := V9 own ++ [.tup [HEAD, .tup [.str "read", .str "zz"], .tup [.str "read", .str "zz"], .tup [.str "read", .str "zz"], .tup [.str "read", .str "zz"], .tup [.str "read", .str "zz"], .tup [.str "read", .str "zz"], .tup [.str "read", .str "zz"], .tup [.str "read", .str "zz"], .tup [.str "read", .str "zz"], .tup [.str "read", .str "zz"], .tup [.str "read", .str "zz"], .tup [.str "read", .str "zz"], .tup [.str "read", .str "zz"], .tup [.str "read", .str "zz"], .tup [.str "read", .str "zz"], .tup [.str "read", .str "zz"], .tup [.str "read", .str "zz"], .tup [.str "read", .str "zz"], .tup [.str "read", .str "zz"], .tup [.str "read", .str "zz"], .tup [.str "read", .str "zz"], .tup [.str "read", .str "zz"], .tup [.str "read", .str "zz"], .tup [.str "read", .str "zz"], .tup [.str "read", .str "zz"], .tup [.str "read", .str "zz"], .tup [.str "read", .str "zz"], .tup [.str "read", .str "zz"], .tup [.str "read", .str "zz"], .tup [.str "read", .str "zz"], .tup [.str "read", .str "zz"], .tup [.str "read", .str "zz"], .tup [.str "read", .str "zz"], .tup [.str "read", .str "zz"], .tup [.str "read", .str "zz"], .tup [.str "read", .str "zz"], .tup [.str "read", .str "zz"], .tup [.str "read", .str "zz"], .tup [.str "read", .str "zz"], .tup [.str "read", .str "zz"], .tup [.str "read", .str "zz"], .tup [.str "read", .str "zz"], .tup [.str "read", .str "zz"], .tup [.str "read", .str "zz"], .tup [.str "read", .str "zz"], .tup [.str "read", .str "zz"], .tup [.str "read", .str "zz"], .tup [.str "read", .str "zz"], .tup [.str "read", .str "zz"], .tup [.str "read", .str "zz"], .tup [.str "read", .str "zz"], .tup [.str "read", .str "zz"], .tup [.str "read", .str "zz"], .tup [.str "read", .str "zz"], .tup [.str "read", .str "zz"], .tup [.str "read", .str "zz"], .tup [.str "read", .str "zz"], .tup [.str "read", .str "zz"], .tup [.str "read", .str "zz"], .tup [.str "read", .str "zz"], .tup [.str "read", .str "zz"]], .tup [.tup [.str "service", .tup [.tup [], .tup [.tup []]], .tup []]]]
def V11 (own : D) : List D := V10 own ++ [.tup [HEAD, .tup [.str "plan", .tup [.tup [.str "a", .str "a"], .tup [.tup [.tup [.int 0, .str ""], .tup [.int 0, .str ""]]]]]]]
def O12 : List D := [.tup [.int 0, .str "Service"], .tup [.int 1, .non], .tup [.int 1, .tup [.tup [.str "a", .str "b"], .tup []]], .tup [.int 1, .tup [.tup [.str "a", .str "b"], .tup [.tup [.tup [.int 1, .str ""], .tup [.int 0, .str ""]]]]], .tup [.int 1, .lst [.tup [.str "a", .str "b"], .tup [.tup [.tup [.int 1, .str ""], .tup [.int 0, .str ""]], .tup [.tup [.int 0, .str ""], .tup [.int 1, .str ""]]]]], .tup [.int 2, .str "x"]]
def O13 : List D := O12 ++ [.tup [.int 1, .tup [.tup [.str "b", .str "a"], .tup [.tup [.tup [.int 1, .str ""], .tup [.int 0, .str ""]], .tup [.tup [.int 0, .str ""], .tup [.int 1, .str ""]]]]], .tup [.int 2, .tup [.str "x", .str "no"]]]
def O14 : List D := O13 ++ [.tup [.int 2, .lst [.str "no"]], .tup [.int 2, .tup [.str ""]], .tup [.int 2, .non], .tup [.int 2, .tup [.str "no", .str "no"]]]
def V15 (own : D) : List D := V11 own ++ [.tup [.tup [.str "Service", OLD, .tup [.str "no", .str "x"]]], .tup [.tup [.str "service", .non, .tup [.str "no", .str "x"]]], .tup [.tup [.str "service", .tup [.tup [.str "a", .str "b"], .tup []], .tup [.str "no", .str "x"]]], .tup [.tup [.str "service", .tup [.tup [.str "a", .str "b"], .tup [.tup [.tup [.int 1, .str ""], .tup [.int 0, .str ""]]]], .tup [.str "no", .str "x"]]], .tup [.tup [.str "service", .lst [.tup [.str "a", .str "b"], .tup [.tup [.tup [.int 1, .str ""], .tup [.int 0, .str ""]], .tup [.tup [.int 0, .str ""], .tup [.int 1, .str ""]]]], .tup [.str "no", .str "x"]]], .tup [.tup [.str "service", OLD, .str "x"]], .tup [.tup [.str "service", .tup [.tup [.str "b", .str "a"], .tup [.tup [.tup [.int 1, .str ""], .tup [.int 0, .str ""]], .tup [.tup [.int 0, .str ""], .tup [.int 1, .str ""]]]], .tup [.str "no", .str "x"]]], .tup [.tup [.str "service", OLD, .tup [.str "x", .str "no"]]], .tup [.tup [.str "service", OLD, .lst [.str "no"]]], .tup [.tup [.str "service", OLD, .tup [.str ""]]], .tup [.tup [.str "service", OLD, .non]], .tup [.tup [.str "service", OLD, .tup [.str "no", .str "no"]]]]
theorem pow59 : tp2 gPow (.int 10) (.int 59) = some (.int (10 ^ 59)) := by
  have e : tp2 gPow (.int 10) (.int 59) = if (0 : Int) ≤ 59 ∧ (59 : Int) ≤ 1000000 ∧ (10 : Int).natAbs < 2 ^ 64 then some (.int (10 ^ (59 : Int).toNat)) else none := rfl
  rw [e, if_pos (by decide)]
  rw [show (59 : Int).toNat = 59 from rfl]
section
variable (ns : List Int) (m : MSt) (x3 x16 : B) (s : S) (own : D)
theorem law3 : (sPar [7, 8] (bCons (mCF (noXF (fnM 0 0 m_law_old)) aNil) (bCons (mCF (noXF (fnM 0 0 m_law_new)) aNil) bNil)) : M Fl) [.dat (.scr ns), .dat (.root 0), .dat m.d, x3, .unb, .unb, .unb, .unb, .unb, .unb, .unb, .unb, .unb, .unb, .unb, .unb, x16] s = .ok .nx [.dat (.scr ns), .dat (.root 0), .dat m.d, x3, .unb, .unb, .unb, .dat OLD, .dat NEW, .unb, .unb, .unb, .unb, .unb, .unb, .unb, x16] s := by
  kernel_rfl
theorem law4 : (sPar [9, 4] (bCons (datM (mTup (aCons (Mi.ret (.str "service")) (aCons (mVar 7) (aCons (mTup (aCons (Mi.ret (.str "no")) (aCons (Mi.ret (.str "x")) aNil))) aNil))))) (bCons (mLstF (aCons (mTup (aCons (Mi.ret (.str "read")) (aCons (Mi.ret (.str "zz")) aNil))) (aCons (mTup (aCons (Mi.ret (.str "plan")) (aCons (mVar 8) aNil))) (aCons (mTup (aCons (Mi.ret (.str "replace")) (aCons (m2 (Mi.ret (.int 10)) (Mi.ret (.int 59)) (tp2 gPow)) aNil))) (aCons (mTup (aCons (Mi.ret (.str "quiet")) (aCons (mTup aNil) aNil))) aNil))))) bNil)) : M Fl) [.dat (.scr ns), .dat (.root 0), .dat m.d, x3, .unb, .unb, .unb, .dat OLD, .dat NEW, .unb, .unb, .unb, .unb, .unb, .unb, .unb, x16] s = .ok .nx [.dat (.scr ns), .dat (.root 0), .dat m.d, x3, .own (ACTS.take 4), .unb, .unb, .dat OLD, .dat NEW, .dat HEAD, .unb, .unb, .unb, .unb, .unb, .unb, x16] s := by
  have p := pow59
  have e1 : HEAD = .tup [.str "service", OLD, .tup [.str "no", .str "x"]] := rfl
  have e2 : ACTS.take 4 = [.tup [.str "read", .str "zz"], .tup [.str "plan", NEW], .tup [.str "replace", .int (10 ^ 59)], .tup [.str "quiet", .tup []]] := rfl
  rw [e1, e2]
  walk_at "ev"
theorem law5 : (sSet 4 (fAdd (mVar 4) (mLst (aCons (mTup (aCons (Mi.ret (.str "force")) (aCons (m2 (Mi.ret (.int 10)) (Mi.ret (.int 59)) (tp2 gPow)) (aCons (Mi.ret (.int 0)) aNil)))) (aCons (mTup (aCons (Mi.ret (.str "quiet")) (aCons (mTup (aCons (Mi.ret (.str "a")) (aCons (Mi.ret (.str "b")) aNil))) aNil))) (aCons (mTup (aCons (Mi.ret (.str "forget")) (aCons (Mi.ret (.int 7)) aNil))) (aCons (mTup (aCons (Mi.ret (.str "plan")) (aCons (mTup (aCons (mTup (aCons (Mi.ret (.str "z")) aNil)) (aCons (mTup (aCons (mTup (aCons (mTup (aCons (Mi.ret (.int 0)) (aCons (Mi.ret (.str "x")) aNil))) aNil)) aNil)) aNil))) aNil))) aNil)))))) : M Fl) [.dat (.scr ns), .dat (.root 0), .dat m.d, x3, .own (ACTS.take 4), .unb, .unb, .dat OLD, .dat NEW, .dat HEAD, .unb, .unb, .unb, .unb, .unb, .unb, x16] s = .ok .nx [.dat (.scr ns), .dat (.root 0), .dat m.d, x3, .own ACTS, .unb, .unb, .dat OLD, .dat NEW, .dat HEAD, .unb, .unb, .unb, .unb, .unb, .unb, x16] s := by
  have p := pow59
  have e1 : ACTS = [.tup [.str "read", .str "zz"], .tup [.str "plan", NEW], .tup [.str "replace", .int (10 ^ 59)], .tup [.str "quiet", .tup []], .tup [.str "force", .int (10 ^ 59), .int 0], .tup [.str "quiet", .tup [.str "a", .str "b"]], .tup [.str "forget", .int 7], .tup [.str "plan", .tup [.tup [.str "z"], .tup [.tup [.tup [.int 0, .str "x"]]]]]] := rfl
  have e2 : ACTS.take 4 = [.tup [.str "read", .str "zz"], .tup [.str "plan", NEW], .tup [.str "replace", .int (10 ^ 59)], .tup [.str "quiet", .tup []]] := rfl
  rw [e2, e1]
  walk_at "ev"
theorem law6 (hl : m.as.length ≤ 1000) : (sPar [10, 11] (bCons (fAdd (mTup (aCons (mVar 9) aNil)) (mCall (aCons (mVar 4) aNil) (tpN gTuple))) (bCons (fAdd (mTup (aCons (mDix 2 "head") aNil)) (mDix 2 "acts")) bNil)) : M Fl) [.dat (.scr ns), .dat (.root 0), .dat m.d, x3, .own ACTS, .unb, .unb, .dat OLD, .dat NEW, .dat HEAD, .unb, .unb, .unb, .unb, .unb, .unb, x16] s = .ok .nx [.dat (.scr ns), .dat (.root 0), .dat m.d, x3, .dat (.lst ACTS), .unb, .unb, .dat OLD, .dat NEW, .dat HEAD, .dat FIXED, .dat (.tup (m.hd :: m.as)), .unb, .unb, .unb, .unb, x16] s := by
  have lk := lks m
  have h1 : 1 + m.as.length ≤ 1000000 := by omega
  have h2 : m.as.length + 1 ≤ 1000000 := by omega
  have e1 : FIXED = .tup (HEAD :: ACTS) := rfl
  have e3 : 1 + ACTS.length ≤ 1000000 := by decide
  rw [e1]
  walk_at "ev"
theorem law7 : (sSet 5 (mLstF (aCons (mVar 10) (aCons (mVar 11) (aCons (mTup aNil) (aCons (mVar 9) (aCons (mSl (mVar 10) (pSome (Mi.ret (.int 1))) pNone) (aCons (mCall (aCons (mVar 10) aNil) (tpN gList)) (aCons (Mi.ret .non) (aCons (Mi.ret (.str "service")) (aCons (Mi.ret (.int 0)) (aCons (mTup (aCons (mVar 9) (aCons (mVar 9) aNil))) (aCons (mTup (aCons (mSl (mVar 9) pNone (pSome (Mi.ret (.int 2)))) aNil)) aNil)))))))))))) : M Fl) [.dat (.scr ns), .dat (.root 0), .dat m.d, x3, .dat (.lst ACTS), .unb, .unb, .dat OLD, .dat NEW, .dat HEAD, .dat FIXED, .dat own, .unb, .unb, .unb, .unb, x16] s = .ok .nx [.dat (.scr ns), .dat (.root 0), .dat m.d, x3, .dat (.lst ACTS), .own (V7 own), .unb, .dat OLD, .dat NEW, .dat HEAD, .dat FIXED, .dat own, .unb, .unb, .unb, .unb, x16] s := by
  kernel_rfl
theorem law8 : (sApp 5 (mTup (aCons (mCall (aCons (mVar 9) aNil) (tpN gList)) aNil)) : M Fl) [.dat (.scr ns), .dat (.root 0), .dat m.d, x3, .dat (.lst ACTS), .own (V7 own), .unb, .dat OLD, .dat NEW, .dat HEAD, .dat FIXED, .dat own, .unb, .unb, .unb, .unb, x16] s = .ok .nx [.dat (.scr ns), .dat (.root 0), .dat m.d, x3, .dat (.lst ACTS), .own (V8 own), .unb, .dat OLD, .dat NEW, .dat HEAD, .dat FIXED, .dat own, .unb, .unb, .unb, .unb, x16] s := by
  kernel_rfl
theorem law9 : (sApp 5 (mTup (aCons (mVar 9) (aCons (mTup (aCons (Mi.ret (.str "plan")) (aCons (mTup (aCons (mTup (aCons (Mi.ret (.str "a")) (aCons (Mi.ret (.str "b")) (aCons (Mi.ret (.str "c")) (aCons (Mi.ret (.str "d")) aNil))))) (aCons (mCall (aCons (frzM (mLc (iRng (Mi.ret (.int 14))) [12] (tgN 12) (Mi.ret true) (m2 (mTup (aCons (mTup (aCons (mVar 12) (aCons (Mi.ret (.str "x")) aNil))) aNil)) (Mi.ret (.int 4)) (tp2 gMul)))) aNil) (tpN gTuple)) aNil))) aNil))) aNil))) : M Fl) [.dat (.scr ns), .dat (.root 0), .dat m.d, x3, .dat (.lst ACTS), .own (V8 own), .unb, .dat OLD, .dat NEW, .dat HEAD, .dat FIXED, .dat own, .unb, .unb, .unb, .unb, x16] s = .ok .nx [.dat (.scr ns), .dat (.root 0), .dat m.d, x3, .dat (.lst ACTS), .own (V9 own), .unb, .dat OLD, .dat NEW, .dat HEAD, .dat FIXED, .dat own, .unb, .unb, .unb, .unb, x16] s := by
  kernel_rfl
theorem law10 : (sSet 5 (fAdd (mVar 5) (mLst (aCons (m2 (mTup (aCons (mVar 9) aNil)) (m2 (mTup (aCons (mTup (aCons (Mi.ret (.str "read")) (aCons (Mi.ret (.str "zz")) aNil))) aNil)) (Mi.ret (.int 61)) (tp2 gMul)) (tp2 gAdd)) (aCons (mTup (aCons (mTup (aCons (Mi.ret (.str "service")) (aCons (mTup (aCons (mTup aNil) (aCons (mTup (aCons (mTup aNil) aNil)) aNil))) (aCons (mTup aNil) aNil)))) aNil)) aNil)))) : M Fl) [.dat (.scr ns), .dat (.root 0), .dat m.d, x3, .dat (.lst ACTS), .own (V9 own), .unb, .dat OLD, .dat NEW, .dat HEAD, .dat FIXED, .dat own, .unb, .unb, .unb, .unb, x16] s = .ok .nx [.dat (.scr ns), .dat (.root 0), .dat m.d, x3, .dat (.lst ACTS), .own (V10 own), .unb, .dat OLD, .dat NEW, .dat HEAD, .dat FIXED, .dat own, .unb, .unb, .unb, .unb, x16] s := by
  kernel_rfl
theorem law11 : (sApp 5 (mTup (aCons (mVar 9) (aCons (mTup (aCons (Mi.ret (.str "plan")) (aCons (mTup (aCons (mTup (aCons (Mi.ret (.str "a")) (aCons (Mi.ret (.str "a")) aNil))) (aCons (mTup (aCons (mTup (aCons (mTup (aCons (Mi.ret (.int 0)) (aCons (Mi.ret (.str "")) aNil))) (aCons (mTup (aCons (Mi.ret (.int 0)) (aCons (Mi.ret (.str "")) aNil))) aNil))) aNil)) aNil))) aNil))) aNil))) : M Fl) [.dat (.scr ns), .dat (.root 0), .dat m.d, x3, .dat (.lst ACTS), .own (V10 own), .unb, .dat OLD, .dat NEW, .dat HEAD, .dat FIXED, .dat own, .unb, .unb, .unb, .unb, x16] s = .ok .nx [.dat (.scr ns), .dat (.root 0), .dat m.d, x3, .dat (.lst ACTS), .own (V11 own), .unb, .dat OLD, .dat NEW, .dat HEAD, .dat FIXED, .dat own, .unb, .unb, .unb, .unb, x16] s := by
  kernel_rfl
theorem law12 : (sSet 6 (mLstF (aCons (mTup (aCons (Mi.ret (.int 0)) (aCons (Mi.ret (.str "Service")) aNil))) (aCons (mTup (aCons (Mi.ret (.int 1)) (aCons (Mi.ret .non) aNil))) (aCons (mTup (aCons (Mi.ret (.int 1)) (aCons (mTup (aCons (m2 (mVar 7) (Mi.ret (.int 0)) (tp2 gIx)) (aCons (mTup aNil) aNil))) aNil))) (aCons (mTup (aCons (Mi.ret (.int 1)) (aCons (mTup (aCons (m2 (mVar 7) (Mi.ret (.int 0)) (tp2 gIx)) (aCons (mSl (m2 (mVar 7) (Mi.ret (.int 1)) (tp2 gIx)) pNone (pSome (Mi.ret (.int 1)))) aNil))) aNil))) (aCons (mTup (aCons (Mi.ret (.int 1)) (aCons (mCall (aCons (mVar 7) aNil) (tpN gList)) aNil))) (aCons (mTup (aCons (Mi.ret (.int 2)) (aCons (Mi.ret (.str "x")) aNil))) aNil))))))) : M Fl) [.dat (.scr ns), .dat (.root 0), .dat m.d, x3, .dat (.lst ACTS), .own (V11 own), .unb, .dat OLD, .dat NEW, .dat HEAD, .dat FIXED, .dat own, .unb, .unb, .unb, .unb, x16] s = .ok .nx [.dat (.scr ns), .dat (.root 0), .dat m.d, x3, .dat (.lst ACTS), .own (V11 own), .own O12, .dat OLD, .dat NEW, .dat HEAD, .dat FIXED, .dat own, .unb, .unb, .unb, .unb, x16] s := by
  kernel_rfl
theorem law13 : (sSet 6 (fAdd (mVar 6) (mLst (aCons (mTup (aCons (Mi.ret (.int 1)) (aCons (mTup (aCons (mRev (m2 (mVar 7) (Mi.ret (.int 0)) (tp2 gIx))) (aCons (m2 (mVar 7) (Mi.ret (.int 1)) (tp2 gIx)) aNil))) aNil))) (aCons (mTup (aCons (Mi.ret (.int 2)) (aCons (mTup (aCons (Mi.ret (.str "x")) (aCons (Mi.ret (.str "no")) aNil))) aNil))) aNil)))) : M Fl) [.dat (.scr ns), .dat (.root 0), .dat m.d, x3, .dat (.lst ACTS), .own (V11 own), .own O12, .dat OLD, .dat NEW, .dat HEAD, .dat FIXED, .dat own, .unb, .unb, .unb, .unb, x16] s = .ok .nx [.dat (.scr ns), .dat (.root 0), .dat m.d, x3, .dat (.lst ACTS), .own (V11 own), .own O13, .dat OLD, .dat NEW, .dat HEAD, .dat FIXED, .dat own, .unb, .unb, .unb, .unb, x16] s := by
  kernel_rfl
theorem law14 : (sSet 6 (fAdd (mVar 6) (mLst (aCons (mTup (aCons (Mi.ret (.int 2)) (aCons (mLst (aCons (Mi.ret (.str "no")) aNil)) aNil))) (aCons (mTup (aCons (Mi.ret (.int 2)) (aCons (mTup (aCons (Mi.ret (.str "")) aNil)) aNil))) (aCons (mTup (aCons (Mi.ret (.int 2)) (aCons (Mi.ret .non) aNil))) (aCons (mTup (aCons (Mi.ret (.int 2)) (aCons (mTup (aCons (Mi.ret (.str "no")) (aCons (Mi.ret (.str "no")) aNil))) aNil))) aNil)))))) : M Fl) [.dat (.scr ns), .dat (.root 0), .dat m.d, x3, .dat (.lst ACTS), .own (V11 own), .own O13, .dat OLD, .dat NEW, .dat HEAD, .dat FIXED, .dat own, .unb, .unb, .unb, .unb, x16] s = .ok .nx [.dat (.scr ns), .dat (.root 0), .dat m.d, x3, .dat (.lst ACTS), .own (V11 own), .own O14, .dat OLD, .dat NEW, .dat HEAD, .dat FIXED, .dat own, .unb, .unb, .unb, .unb, x16] s := by
  kernel_rfl
theorem law15 : (sFor (iSeq (mVar 6)) (tgT 2 (tgsCons (tgN 12) (tgsCons (tgN 13) tgsNil))) (sApp 5 (mTup (aCons (m2 (m2 (mSl (mVar 9) pNone (pSome (mVar 12))) (mTup (aCons (mVar 13) aNil)) (tp2 gAdd)) (mSl (mVar 9) (pSome (m2 (mVar 12) (Mi.ret (.int 1)) (tp2 gAdd))) pNone) (tp2 gAdd)) aNil))) : M Fl) [.dat (.scr ns), .dat (.root 0), .dat m.d, x3, .dat (.lst ACTS), .own (V11 own), .own O14, .dat OLD, .dat NEW, .dat HEAD, .dat FIXED, .dat own, .unb, .unb, .unb, .unb, x16] s = .ok .nx [.dat (.scr ns), .dat (.root 0), .dat m.d, x3, .dat (.lst ACTS), .own (V15 own), .dat (.lst O14), .dat OLD, .dat NEW, .dat HEAD, .dat FIXED, .dat own, .dat (.int 2), .dat (.tup [.str "no", .str "no"]), .unb, .unb, x16] s := by
  kernel_rfl
end
end Lw

set_option Elab.async false
set_option linter.all false
set_option autoImplicit false
set_option maxRecDepth 100000
set_option maxHeartbeats 8000000
/-! K78, the plain law: True at every script. -/
namespace Lw
open PySem L2 Mi
local macro_rules | `(tactic| walk_at "ev") => `(tactic| simp [v_ret, v_bnd, v_some, v_none, v_asB, v_tNo, v_tAn, v_tOrr, v_ofB, v_mAn, v_mOrr, v_mNo, v_mIf, v_c3, v_aNil, v_aCons, v_mTup, v_mLst, v_mNtup, v_mLstF, v_m2, v_m1, v_c2, v_mC, v_pNone, v_pSome, v_mSl, v_mCall, v_tIsi, v_frzM, v_datM, v_sNx, v_sSeq, v_sDrop, v_sRet, v_sSet, v_sIf, v_mCF, v_noXF, v_noX, v_iSeq, v_iZip, v_iRng, v_iEnu, v_sUnp, v_tgN, v_tgsNil, v_tgsCons, v_sRaise2, v_sRetV, v_sTry, v_mIxF, v_tNiF, v_sPar, v_bNil, v_bCons, v_fAdd, v_mDix, v_sDst, v_mDcp, v_mSrtSet, v_mTix, v_mRev, v_mVar, v_sApp, w_add, w_sub, w_ixT, w_ixN, w_ixL, w_addT, w_addNT, w_lenT, w_lenN, w_lenL, w_lenS, w_ltI, w_leI, w_gtI, w_geI, w_leI0, w_ltI0, w_eqI, w_neI, w_eqS, w_neS, w_isI, w_isS, w_isT, w_isN, w_isL, w_isB, w_isO, B.frz, List.replicate, w_slT, w_slL, w_topT, w_topN, w_topL, w_zipT, w_gItT, w_gItN, w_gItL, w_tgT, cut1, w_at0, w_at1, w_at2, w_lim, w_ite, putAll, w_at3, w_at4, w_at5, w_tupL, w_tupT, w_tupN, w_lstL, w_lstT, w_intI, w_intB, w_topI, w_topS, w_addII, w_addTT, str_inj, str_beq, v_tNiT, v_sTst, v_mSrtT, v_mCV, w_addLL, w_revT, *])
/-- a value that the law may check -/
abbrev Good (d : D) : Prop := Fit (10 ^ 60) 5000 15 d
theorem pw : (10 : Nat) ^ 30 ≤ 10 ^ 59 ∧ (10 : Nat) ^ 59 + 2 ≤ 10 ^ 60 ∧ (10 : Nat) ^ 60 < 10 ^ 61 := by decide +kernel
theorem fixed_fit : Fit (10 ^ 59) 200 11 FIXED := ⟨by decide +kernel, by decide +kernel, by decide +kernel⟩
theorem head_fit : Fit (10 ^ 59) 40 6 HEAD := ⟨by decide +kernel, by decide +kernel, by decide +kernel⟩
theorem acts_fit : ∀ a ∈ ACTS, Fit (10 ^ 59) 60 9 a := by
  have h : ACTS.all (fun a => Mi.lf (10 ^ 59) a && (decide (cnt a ≤ 60) && decide (a.dep ≤ 9))) = true := by decide +kernel
  intro a ha
  have := List.all_eq_true.mp h a ha
  simp only [Bool.and_eq_true, decide_eq_true_eq] at this
  exact ⟨this.1, this.2.1, this.2.2⟩
def goodB (d : D) : Bool := Mi.lf (10 ^ 60) d && (decide (cnt d ≤ 5000) && decide (d.dep ≤ 15))
theorem good_of {d : D} (h : goodB d = true) : Good d := by
  unfold goodB at h
  simp only [Bool.and_eq_true, decide_eq_true_eq] at h
  exact ⟨h.1, h.2.1, h.2.2⟩
/-- the constants among the values -/
theorem v15_good (own : D) (h : Good own) : ∀ d ∈ V15 own, Good d := by
  have e : ∃ a b : List D, V15 own = a ++ own :: b ∧ a.all goodB = true ∧ b.all goodB = true := ⟨[FIXED], (V15 .non).drop 2, by kernel_rfl, by decide +kernel, by decide +kernel⟩
  obtain ⟨a, b, e, h1, h2⟩ := e
  rw [e]
  intro d hd
  rcases List.mem_append.mp hd with hd | hd
  · exact good_of (List.all_eq_true.mp h1 d hd)
  · rcases List.mem_cons.mp hd with rfl | hd
    · exact h
    · exact good_of (List.all_eq_true.mp h2 d hd)
theorem v15_len (own : D) : (V15 own).length ≤ 100 := by
  have : (V15 own).length = (V15 .non).length := by kernel_rfl
  rw [this]
  decide +kernel
theorem fixed_log : isLog FIXED = true := by decide +kernel
theorem own_fit {k : Nat} {m : MSt} (hm : MOk k m) (hk : k ≤ 8) : Fit (10 ^ 59) 730 11 (.tup (m.hd :: m.as)) := by
  have hp := pw.1
  have := fit_tupl (b := 10 ^ 59) (n := 80) (h := 10) (xs := m.hd :: m.as) fun x hx => by
    rcases List.mem_cons.mp hx with rfl | hx
    · exact hm.hd.le hp (Nat.le_refl _) (Nat.le_refl _)
    · exact (hm.as.2 x hx).le hp (Nat.le_refl _) (Nat.le_refl _)
  have ha := hm.as.1
  exact this.le (Nat.le_refl _) (by rw [List.length_cons]; omega) (Nat.le_refl _)
theorem law0 (ns : List Int) (h : ns.length ≤ 63) : ∃ s, (sRoot 1 (mCF (noXF (fnM 1 1 m_law_source)) (aCons (mVar 0) aNil)) : M Fl) [.dat (.scr ns), .unb, .unb, .unb, .unb, .unb, .unb, .unb, .unb, .unb, .unb, .unb, .unb, .unb, .unb, .unb, .unb] [] = .ok .nx [.dat (.scr ns), .dat (.root 0), .unb, .unb, .unb, .unb, .unb, .unb, .unb, .unb, .unb, .unb, .unb, .unb, .unb, .unb, .unb] s ∧ RB ns 0 s := by
  have c : cutD (ns.map D.int) none (some 63) = ns.map D.int := by
    have := cutD_to (ns.map D.int) 63
    rw [List.take_of_length_le (by rw [List.length_map]; exact h)] at this
    exact this
  refine ⟨rngS ns 0 0 0, ?_, h, 0, Nat.le_refl _, 0, 0, rfl, Int.le_refl _⟩
  have h1 : fnM 1 1 m_law_source [.scr ns] [] = .ok (.own [.lst (ns.map .int), .int 0, .int 0, .int 0]) [] [] := by
    have e : gSl (.scr ns) none (some 63) = some (.lst (ns.map .int)) := by
      show some (D.lst (cutD (ns.map D.int) none (some 63))) = _
      rw [c]
    have tp : (D.scr ns).top = .scr ns := rfl
    unfold fnM m_law_source
    walk_at "ev"
  have h2 : (mCF (noXF (fnM 1 1 m_law_source)) (aCons (mVar 0) aNil) : M B) [.dat (.scr ns), .unb, .unb, .unb, .unb, .unb, .unb, .unb, .unb, .unb, .unb, .unb, .unb, .unb, .unb, .unb, .unb] [] = .ok (.own [.lst (ns.map .int), .int 0, .int 0, .int 0]) [.dat (.scr ns), .unb, .unb, .unb, .unb, .unb, .unb, .unb, .unb, .unb, .unb, .unb, .unb, .unb, .unb, .unb, .unb] [] := by
    walk_at "ev"
  show bnd _ _ _ _ = _
  rw [bnd_ok h2]
  rfl
theorem law1 {ns : List Int} {s : S} (h : RB ns 0 s) : ∃ m s', (sSet 2 (mCF (noXF (fnM 1 3 m_law_new_model)) (aCons (mVar 1) aNil)) : M Fl) [.dat (.scr ns), .dat (.root 0), .unb, .unb, .unb, .unb, .unb, .unb, .unb, .unb, .unb, .unb, .unb, .unb, .unb, .unb, .unb] s = .ok .nx [.dat (.scr ns), .dat (.root 0), .ownK KS m.vs, .unb, .unb, .unb, .unb, .unb, .unb, .unb, .unb, .unb, .unb, .unb, .unb, .unb, .unb] s' ∧ MOk 0 m ∧ RB ns 40 s' := by
  obtain ⟨m, s', h1, h2, h3⟩ := new_model_ok h (by decide)
  refine ⟨m, s', ?_, h2, h3⟩
  clear h h2 h3
  walk_at "ev"
theorem law2 {ns : List Int} {m0 : MSt} {s0 : S} (hm : MOk 0 m0) (h : RB ns 40 s0) : ∃ m x3 x16 s', (sFor (iRng (Mi.ret (.int 8))) (tgN 3) (sUnp (tgT 2 (tgsCons (tgN 2) (tgsCons (tgN 16) tgsNil))) (frzM (mCF (noXF (fnM 2 4 m_law_next)) (aCons (mVar 2) (aCons (frzM (mCF (noXF (fnM 2 6 m_law_act)) (aCons (mVar 1) (aCons (mVar 2) aNil)))) aNil))))) : M Fl) [.dat (.scr ns), .dat (.root 0), .ownK KS m0.vs, .unb, .unb, .unb, .unb, .unb, .unb, .unb, .unb, .unb, .unb, .unb, .unb, .unb, .unb] s0 = .ok .nx [.dat (.scr ns), .dat (.root 0), .dat m.d, x3, .unb, .unb, .unb, .unb, .unb, .unb, .unb, .unb, .unb, .unb, .unb, .unb, x16] s' ∧ MOk 8 m ∧ RB ns 400 s' := by
  have loop := sFor_st (it := iRng (Mi.ret (.int 8))) (g := tgN 3) (m := sUnp (tgT 2 (tgsCons (tgN 2) (tgsCons (tgN 16) tgsNil))) (frzM (mCF (noXF (fnM 2 4 m_law_next)) (aCons (mVar 2) (aCons (frzM (mCF (noXF (fnM 2 6 m_law_act)) (aCons (mVar 1) (aCons (mVar 2) aNil)))) aNil))))) (ds := upto 8) (s := s0) (s0 := s0) (e := [.dat (.scr ns), .dat (.root 0), .ownK KS m0.vs, .unb, .unb, .unb, .unb, .unb, .unb, .unb, .unb, .unb, .unb, .unb, .unb, .unb, .unb]) (e0 := [.dat (.scr ns), .dat (.root 0), .ownK KS m0.vs, .unb, .unb, .unb, .unb, .unb, .unb, .unb, .unb, .unb, .unb, .unb, .unb, .unb, .unb])
    (J := fun pre e s => ∃ m x2 x3 x16, e = [.dat (.scr ns), .dat (.root 0), x2, x3, .unb, .unb, .unb, .unb, .unb, .unb, .unb, .unb, .unb, .unb, .unb, .unb, x16] ∧ (x2 = .dat m.d ∨ (pre = [] ∧ x2 = .ownK KS m.vs)) ∧ MOk pre.length m ∧ RB ns (40 + 40 * pre.length) s) rfl ⟨m0, _, _, _, rfl, .inr ⟨rfl, rfl⟩, hm, h⟩ ?st
  case st =>
    rintro pre d post e s hall ⟨m, x2, x3, x16, rfl, hx, hm, hr⟩
    have hpl : pre.length < 8 := by
      have := congrArg List.length hall
      simp [upto] at this
      omega
    obtain ⟨a, s1, a1, a2, a3⟩ := act_ok hm hr (by omega)
    obtain ⟨m', o, b1, b2, b3⟩ := next_ok hm (by omega) a2 s1
    have st : (sUnp (tgT 2 (tgsCons (tgN 2) (tgsCons (tgN 16) tgsNil))) (frzM (mCF (noXF (fnM 2 4 m_law_next)) (aCons (mVar 2) (aCons (frzM (mCF (noXF (fnM 2 6 m_law_act)) (aCons (mVar 1) (aCons (mVar 2) aNil)))) aNil)))) : M Fl) [.dat (.scr ns), .dat (.root 0), x2, .dat d, .unb, .unb, .unb, .unb, .unb, .unb, .unb, .unb, .unb, .unb, .unb, .unb, x16] s = .ok .nx [.dat (.scr ns), .dat (.root 0), .dat m'.d, .dat d, .unb, .unb, .unb, .unb, .unb, .unb, .unb, .unb, .unb, .unb, .unb, .unb, .dat o] s1 := by
      clear hm hr a2 a3 b2 hall
      rcases hx with rfl | ⟨_, rfl⟩ <;> walk_at "ev"
    exact ⟨_, _, s1, rfl, st, m', _, _, _, rfl, .inl rfl, by rw [List.length_append]; exact b2, a3.mono (by rw [List.length_append, List.length_singleton]; omega)⟩
  obtain ⟨e', s', l1, m, x2, x3, x16, rfl, hx, l2, l3⟩ := loop
  rcases hx with rfl | ⟨hx, _⟩
  · exact ⟨m, x3, x16, s', l1, l2, l3.mono (by decide)⟩
  · cases hx
theorem law16 {ns : List Int} {m : MSt} (hm : MOk 8 m) {own : D} {x3 x16 : B} {s : S} (h : RB ns 400 s) : ∃ ys s', (sSet 5 (fAdd (mVar 5) (frzM (mLc (iRng (Mi.ret (.int 8))) [3] (tgN 3) (Mi.ret true) (mTup (aCons (mVar 9) (aCons (frzM (mCF (noXF (fnM 2 5 m_law_odd)) (aCons (mVar 1) (aCons (mVar 2) aNil)))) aNil)))))) : M Fl) [.dat (.scr ns), .dat (.root 0), .dat m.d, x3, .dat (.lst ACTS), .own (V15 own), .dat (.lst O14), .dat OLD, .dat NEW, .dat HEAD, .dat FIXED, .dat own, .dat (.int 2), .dat (.tup [.str "no", .str "no"]), .unb, .unb, x16] s = .ok .nx [.dat (.scr ns), .dat (.root 0), .dat m.d, .unb, .dat (.lst ACTS), .own (V15 own ++ ys), .dat (.lst O14), .dat OLD, .dat NEW, .dat HEAD, .dat FIXED, .dat own, .dat (.int 2), .dat (.tup [.str "no", .str "no"]), .unb, .unb, x16] s' ∧ (∀ y ∈ ys, Good y) ∧ ys.length = 8 ∧ RB ns 420 s' := by
  obtain ⟨g0, hg0⟩ : ∃ g, m.gs[0]? = some g := ⟨_, List.getElem?_eq_getElem hm.g0⟩
  have c : ∃ ys s', (mLc (iRng (Mi.ret (.int 8))) [3] (tgN 3) (Mi.ret true) (mTup (aCons (mVar 9) (aCons (frzM (mCF (noXF (fnM 2 5 m_law_odd)) (aCons (mVar 1) (aCons (mVar 2) aNil)))) aNil))) : M B) [.dat (.scr ns), .dat (.root 0), .dat m.d, x3, .dat (.lst ACTS), .dat (.lst (V15 own)), .dat (.lst O14), .dat OLD, .dat NEW, .dat HEAD, .dat FIXED, .dat own, .dat (.int 2), .dat (.tup [.str "no", .str "no"]), .unb, .unb, x16] s = .ok (.own ys) [.dat (.scr ns), .dat (.root 0), .dat m.d, .unb, .dat (.lst ACTS), .dat (.lst (V15 own)), .dat (.lst O14), .dat OLD, .dat NEW, .dat HEAD, .dat FIXED, .dat own, .dat (.int 2), .dat (.tup [.str "no", .str "no"]), .unb, .unb, x16] s' ∧ (∀ y ∈ ys, Good y) ∧ ys.length = 8 ∧ RB ns 420 s' := by
    obtain ⟨ys, s', q1, q2, q3, q4⟩ := lcL_stm (i := 3) (m := mTup (aCons (mVar 9) (aCons (frzM (mCF (noXF (fnM 2 5 m_law_odd)) (aCons (mVar 1) (aCons (mVar 2) aNil)))) aNil))) (e0 := [.dat (.scr ns), .dat (.root 0), .dat m.d, .unb, .dat (.lst ACTS), .dat (.lst (V15 own)), .dat (.lst O14), .dat OLD, .dat NEW, .dat HEAD, .dat FIXED, .dat own, .dat (.int 2), .dat (.tup [.str "no", .str "no"]), .unb, .unb, x16]) (J := fun j s => RB ns (400 + j) s) (P := Good) (ds := upto 8) (s := s) (k := 0) (N := 8) rfl h (by decide) (fun d hd j s hj hr => by
      obtain ⟨v, a, s1, a1, a2, a3⟩ := odd_ev hm hr (by omega) g0 hg0
      have ha := (odd_acts hm g0 hg0 a (List.mem_of_getElem? a2)).fit
      refine ⟨.tup [HEAD, a], s1, ?_, ?_, a3⟩
      · clear hm h hr a3 ha a2 hd
        walk_at "ev"
      · have hp := pw
        exact (fit2 (head_fit.le (by omega) (Nat.le_refl _) (by decide)) (ha.le (by omega) (Nat.le_refl _) (Nat.le_refl _) : Fit (10 ^ 60) 80 10 a)).le (Nat.le_refl _) (by decide) (by decide))
    refine ⟨ys, s', ?_, q2, q3, q4.mono (by decide)⟩
    have hi : (iRng (Mi.ret (.int 8)) : M (List D)) [.dat (.scr ns), .dat (.root 0), .dat m.d, x3, .dat (.lst ACTS), .dat (.lst (V15 own)), .dat (.lst O14), .dat OLD, .dat NEW, .dat HEAD, .dat FIXED, .dat own, .dat (.int 2), .dat (.tup [.str "no", .str "no"]), .unb, .unb, x16] s = .ok (upto 8) [.dat (.scr ns), .dat (.root 0), .dat m.d, x3, .dat (.lst ACTS), .dat (.lst (V15 own)), .dat (.lst O14), .dat OLD, .dat NEW, .dat HEAD, .dat FIXED, .dat own, .dat (.int 2), .dat (.tup [.str "no", .str "no"]), .unb, .unb, x16] s := rfl
    unfold mLc
    rw [bnd_ok hi, if_pos (by decide)]
    have q0 : lcL [3] (tgN 3) (noX (Mi.ret true)) (noX (mTup (aCons (mVar 9) (aCons (frzM (mCF (noXF (fnM 2 5 m_law_odd)) (aCons (mVar 1) (aCons (mVar 2) aNil)))) aNil)))) (upto 8) [.dat (.scr ns), .dat (.root 0), .dat m.d, x3, .dat (.lst ACTS), .dat (.lst (V15 own)), .dat (.lst O14), .dat OLD, .dat NEW, .dat HEAD, .dat FIXED, .dat own, .dat (.int 2), .dat (.tup [.str "no", .str "no"]), .unb, .unb, x16] s = lcL [3] (tgN 3) (noX (Mi.ret true)) (noX (mTup (aCons (mVar 9) (aCons (frzM (mCF (noXF (fnM 2 5 m_law_odd)) (aCons (mVar 1) (aCons (mVar 2) aNil)))) aNil)))) (upto 8) [.dat (.scr ns), .dat (.root 0), .dat m.d, .unb, .dat (.lst ACTS), .dat (.lst (V15 own)), .dat (.lst O14), .dat OLD, .dat NEW, .dat HEAD, .dat FIXED, .dat own, .dat (.int 2), .dat (.tup [.str "no", .str "no"]), .unb, .unb, x16] s := rfl
    rw [bnd_ok (q0.trans q1)]
    rfl
  obtain ⟨ys, s', c1, c2, c3, c4⟩ := c
  refine ⟨ys, s', ?_, c2, c3, c4⟩
  have hl := v15_len own
  have h1 : (V15 own).length + 8 ≤ 1000000 := by omega
  clear h hm c2 c4
  generalize V15 own = V at *
  walk_at "ev"
theorem law17 {ns : List Int} {m : MSt} {own : D} (ho : Fit (10 ^ 59) 730 11 own) {vs0 : List D} (hv : ∀ d ∈ vs0, Good d) (hl : vs0.length ≤ 200) {x16 : B} {s : S} (h : RB ns 420 s) : ∃ vs y3 y14 y15 s', (sFor (iRng (Mi.ret (.int 36))) (tgN 3) (sSeq (sSet 14 (mCF (noXF (fnM 2 6 m_law_draw)) (aCons (mVar 1) (aCons (mCall (aCons (mVar 4) aNil) (tpN gLen)) aNil)))) (sSeq (sSet 15 (mCF (noXF (f_law_changed 20)) (aCons (mVar 1) (aCons (m2 (mLst (aCons (mVar 10) (aCons (mVar 11) (aCons (mTup (aCons (mVar 9) (aCons (m2 (mVar 4) (mVar 14) (tp2 gIx)) aNil))) aNil)))) (m2 (mVar 3) (Mi.ret (.int 12)) (tp2 gFdv)) (tp2 gIx)) aNil)))) (sSet 5 (fAdd (mVar 5) (mLst (aCons (mVar 15) (aCons (frzM (mCF (noXF (f_law_changed 20)) (aCons (mVar 1) (aCons (mVar 15) aNil)))) aNil))))))) : M Fl) [.dat (.scr ns), .dat (.root 0), .dat m.d, .unb, .dat (.lst ACTS), .own vs0, .dat (.lst O14), .dat OLD, .dat NEW, .dat HEAD, .dat FIXED, .dat own, .dat (.int 2), .dat (.tup [.str "no", .str "no"]), .unb, .unb, x16] s = .ok .nx [.dat (.scr ns), .dat (.root 0), .dat m.d, y3, .dat (.lst ACTS), .own vs, .dat (.lst O14), .dat OLD, .dat NEW, .dat HEAD, .dat FIXED, .dat own, .dat (.int 2), .dat (.tup [.str "no", .str "no"]), y14, y15, x16] s' ∧ (∀ d ∈ vs, Good d) ∧ vs.length ≤ 300 := by
  have loop := sFor_st (it := iRng (Mi.ret (.int 36))) (g := tgN 3) (m := sSeq (sSet 14 (mCF (noXF (fnM 2 6 m_law_draw)) (aCons (mVar 1) (aCons (mCall (aCons (mVar 4) aNil) (tpN gLen)) aNil)))) (sSeq (sSet 15 (mCF (noXF (f_law_changed 20)) (aCons (mVar 1) (aCons (m2 (mLst (aCons (mVar 10) (aCons (mVar 11) (aCons (mTup (aCons (mVar 9) (aCons (m2 (mVar 4) (mVar 14) (tp2 gIx)) aNil))) aNil)))) (m2 (mVar 3) (Mi.ret (.int 12)) (tp2 gFdv)) (tp2 gIx)) aNil)))) (sSet 5 (fAdd (mVar 5) (mLst (aCons (mVar 15) (aCons (frzM (mCF (noXF (f_law_changed 20)) (aCons (mVar 1) (aCons (mVar 15) aNil)))) aNil))))))) (ds := upto 36) (s := s) (s0 := s) (e := [.dat (.scr ns), .dat (.root 0), .dat m.d, .unb, .dat (.lst ACTS), .own vs0, .dat (.lst O14), .dat OLD, .dat NEW, .dat HEAD, .dat FIXED, .dat own, .dat (.int 2), .dat (.tup [.str "no", .str "no"]), .unb, .unb, x16]) (e0 := [.dat (.scr ns), .dat (.root 0), .dat m.d, .unb, .dat (.lst ACTS), .own vs0, .dat (.lst O14), .dat OLD, .dat NEW, .dat HEAD, .dat FIXED, .dat own, .dat (.int 2), .dat (.tup [.str "no", .str "no"]), .unb, .unb, x16])
    (J := fun pre e s => ∃ vs y3 y14 y15, e = [.dat (.scr ns), .dat (.root 0), .dat m.d, y3, .dat (.lst ACTS), .own vs, .dat (.lst O14), .dat OLD, .dat NEW, .dat HEAD, .dat FIXED, .dat own, .dat (.int 2), .dat (.tup [.str "no", .str "no"]), y14, y15, x16] ∧ (∀ d ∈ vs, Good d) ∧ vs.length ≤ 200 + 2 * pre.length ∧ RB ns (420 + 130 * pre.length) s) rfl ⟨vs0, _, _, _, rfl, hv, by simpa using hl, h⟩ ?st
  case st =>
    rintro pre d post e s hall ⟨vs, y3, y14, y15, rfl, hv, hl, hr⟩
    have hpl : pre.length < 36 := by
      have := congrArg List.length hall
      simp [upto] at this
      omega
    have hd : d ∈ upto 36 := by rw [hall]; simp
    rw [upto_eq] at hd
    obtain ⟨j, hj, rfl⟩ := List.mem_map.mp hd
    rw [List.mem_range] at hj
    obtain ⟨u, s1, a1, a2, a3⟩ := draw_ok hr (by omega) 8 8 rfl (by decide) (by decide)
    obtain ⟨x, x1, x2, x3⟩ := ch_mem (l := ACTS) (v := u) a2
    have hx := acts_fit x x3
    have hT : Fit (10 ^ 59) 730 11 (.tup [HEAD, x]) := (fit2 (head_fit.le (Nat.le_refl _) (Nat.le_refl _) (by decide)) (hx.le (Nat.le_refl _) (Nat.le_refl _) (Nat.le_refl 9))).le (Nat.le_refl _) (by decide) (by decide)
    have hF : Fit (10 ^ 59) 730 11 FIXED := fixed_fit.le (Nat.le_refl _) (by decide) (Nat.le_refl _)
    have hj3 : j / 12 < 3 := by omega
    obtain ⟨z, z1, z2, z3⟩ := ch_mem (l := [FIXED, own, D.tup [HEAD, x]]) (v := j / 12) hj3
    have hz : Fit (10 ^ 59) 730 11 z := by
      simp only [List.mem_cons, List.not_mem_nil, or_false] at z3
      rcases z3 with rfl | rfl | rfl
      · exact hF
      · exact ho
      · exact hT
    obtain ⟨d1, s2, b1, b2, b3⟩ := changed_ok 20 (10 ^ 59) 730 11 _ z s1 (by decide) hz (by decide) a3 (by omega)
    obtain ⟨d2, s3, c1, c2, c3⟩ := changed_ok 20 (10 ^ 59 + 1) (2 * 730) 11 _ d1 s2 (by decide) b2 (by decide) b3 (by omega)
    have hp := pw
    have q1 : Good d1 := b2.le (by omega) (by decide) (by decide)
    have q2 : Good d2 := c2.le (by omega) (by decide) (by decide)
    have fd : tp2 gFdv (.int (j : Int)) (.int 12) = some (.int ((j / 12 : Nat) : Int)) := by
      have e : tp2 gFdv (.int (j : Int)) (.int 12) = some (.int ((j : Int).fdiv 12)) := rfl
      rw [e, Int.fdiv_eq_ediv_of_nonneg _ (by decide)]
      rfl
    have al : tpN gLen [.lst ACTS] = some (.int 8) := rfl
    have ax : tp2 gIx (.lst ACTS) (.int u) = some x := x2
    have l1 : vs.length + 2 ≤ 1000000 := by omega
    have w1 : (sSet 14 (mCF (noXF (fnM 2 6 m_law_draw)) (aCons (mVar 1) (aCons (mCall (aCons (mVar 4) aNil) (tpN gLen)) aNil))) : M Fl) [.dat (.scr ns), .dat (.root 0), .dat m.d, .dat (.int (j : Int)), .dat (.lst ACTS), .own vs, .dat (.lst O14), .dat OLD, .dat NEW, .dat HEAD, .dat FIXED, .dat own, .dat (.int 2), .dat (.tup [.str "no", .str "no"]), y14, y15, x16] s = .ok .nx [.dat (.scr ns), .dat (.root 0), .dat m.d, .dat (.int (j : Int)), .dat (.lst ACTS), .own vs, .dat (.lst O14), .dat OLD, .dat NEW, .dat HEAD, .dat FIXED, .dat own, .dat (.int 2), .dat (.tup [.str "no", .str "no"]), .dat (.int (u : Int)), y15, x16] s1 := by
      clear hr a3 b2 b3 c1 c2 c3 hx hT hF hz q1 q2 z1 z3 x1 x3 hv hall b1
      walk_at "ev"
    have z2' : atI [FIXED, own, D.tup [HEAD, x]] ((j : Int) / 12) = some z := z2
    have w2 : (sSet 15 (mCF (noXF (f_law_changed 20)) (aCons (mVar 1) (aCons (m2 (mLst (aCons (mVar 10) (aCons (mVar 11) (aCons (mTup (aCons (mVar 9) (aCons (m2 (mVar 4) (mVar 14) (tp2 gIx)) aNil))) aNil)))) (m2 (mVar 3) (Mi.ret (.int 12)) (tp2 gFdv)) (tp2 gIx)) aNil))) : M Fl) [.dat (.scr ns), .dat (.root 0), .dat m.d, .dat (.int (j : Int)), .dat (.lst ACTS), .own vs, .dat (.lst O14), .dat OLD, .dat NEW, .dat HEAD, .dat FIXED, .dat own, .dat (.int 2), .dat (.tup [.str "no", .str "no"]), .dat (.int (u : Int)), y15, x16] s1 = .ok .nx [.dat (.scr ns), .dat (.root 0), .dat m.d, .dat (.int (j : Int)), .dat (.lst ACTS), .own vs, .dat (.lst O14), .dat OLD, .dat NEW, .dat HEAD, .dat FIXED, .dat own, .dat (.int 2), .dat (.tup [.str "no", .str "no"]), .dat (.int (u : Int)), .dat d1, x16] s2 := by
      clear hr a3 b2 b3 c1 c2 c3 hx hT hF hz q1 q2 z1 z3 x1 x3 hv hall w1
      walk_at "ev"
    have w3 : (sSet 5 (fAdd (mVar 5) (mLst (aCons (mVar 15) (aCons (frzM (mCF (noXF (f_law_changed 20)) (aCons (mVar 1) (aCons (mVar 15) aNil)))) aNil)))) : M Fl) [.dat (.scr ns), .dat (.root 0), .dat m.d, .dat (.int (j : Int)), .dat (.lst ACTS), .own vs, .dat (.lst O14), .dat OLD, .dat NEW, .dat HEAD, .dat FIXED, .dat own, .dat (.int 2), .dat (.tup [.str "no", .str "no"]), .dat (.int (u : Int)), .dat d1, x16] s2 = .ok .nx [.dat (.scr ns), .dat (.root 0), .dat m.d, .dat (.int (j : Int)), .dat (.lst ACTS), .own (vs ++ [d1, d2]), .dat (.lst O14), .dat OLD, .dat NEW, .dat HEAD, .dat FIXED, .dat own, .dat (.int 2), .dat (.tup [.str "no", .str "no"]), .dat (.int (u : Int)), .dat d1, x16] s3 := by
      clear hr a3 b2 b3 b1 c2 c3 hx hT hF hz q1 q2 z1 z3 x1 x3 hv hall w1 w2
      walk_at "ev"
    refine ⟨[.dat (.scr ns), .dat (.root 0), .dat m.d, .dat (.int (j : Int)), .dat (.lst ACTS), .own vs, .dat (.lst O14), .dat OLD, .dat NEW, .dat HEAD, .dat FIXED, .dat own, .dat (.int 2), .dat (.tup [.str "no", .str "no"]), y14, y15, x16], [.dat (.scr ns), .dat (.root 0), .dat m.d, .dat (.int (j : Int)), .dat (.lst ACTS), .own (vs ++ [d1, d2]), .dat (.lst O14), .dat OLD, .dat NEW, .dat HEAD, .dat FIXED, .dat own, .dat (.int 2), .dat (.tup [.str "no", .str "no"]), .dat (.int (u : Int)), .dat d1, x16], s3, rfl, seq_is w1 (seq_is w2 w3), vs ++ [d1, d2], _, _, _, rfl, fun y hy => ?_, by simp only [List.length_append, List.length_cons, List.length_nil]; omega, c3.mono (by simp only [List.length_append, List.length_cons, List.length_nil]; omega)⟩
    rcases List.mem_append.mp hy with hy | hy
    · exact hv y hy
    · simp only [List.mem_cons, List.not_mem_nil, or_false] at hy
      rcases hy with rfl | rfl
      · exact q1
      · exact q2
  obtain ⟨e', s', l1, vs, y3, y14, y15, rfl, l2, l3, _⟩ := loop
  exact ⟨vs, y3, y14, y15, s', l1, l2, by simp [upto] at l3; omega⟩
theorem law18 {ns : List Int} {m : MSt} {own : D} {vs : List D} (hv : ∀ d ∈ vs, Good d) (hl : vs.length ≤ 300) {y3 y14 y15 x16 : B} {s : S} : ∃ e', (sRet (datM (mAn (mC (tp2 cEq) (frzM (mLc (iSeq (mVar 5)) [13] (tgN 13) (tNo (asB (frzM (mCF (noXF (fnM 1 3 m_law_check)) (aCons (mVar 13) aNil))))) (mVar 13))) (mLst aNil)) (mC (tp2 cIs) (frzM (mCF (noXF (fnM 1 1 mis_log)) (aCons (mVar 10) aNil))) (Mi.ret (.bl true))))) : M Fl) [.dat (.scr ns), .dat (.root 0), .dat m.d, y3, .dat (.lst ACTS), .own vs, .dat (.lst O14), .dat OLD, .dat NEW, .dat HEAD, .dat FIXED, .dat own, .dat (.int 2), .dat (.tup [.str "no", .str "no"]), y14, y15, x16] s = .ok (.rt (.dat (.bl true))) e' s := by
  have hp := pw
  have fl := is_log_ok FIXED s (fixed_fit.fit (by decide))
  rw [fixed_log] at fl
  have c : (mLc (iSeq (mVar 5)) [13] (tgN 13) (tNo (asB (frzM (mCF (noXF (fnM 1 3 m_law_check)) (aCons (mVar 13) aNil))))) (mVar 13) : M B) [.dat (.scr ns), .dat (.root 0), .dat m.d, y3, .dat (.lst ACTS), .own vs, .dat (.lst O14), .dat OLD, .dat NEW, .dat HEAD, .dat FIXED, .dat own, .dat (.int 2), .dat (.tup [.str "no", .str "no"]), y14, y15, x16] s = .ok (.own (vs.filter fun _ => false)) [.dat (.scr ns), .dat (.root 0), .dat m.d, y3, .dat (.lst ACTS), .dat (.lst vs), .dat (.lst O14), .dat OLD, .dat NEW, .dat HEAD, .dat FIXED, .dat own, .dat (.int 2), .unb, y14, y15, x16] s := by
    have hi : (iSeq (mVar 5) : M (List D)) [.dat (.scr ns), .dat (.root 0), .dat m.d, y3, .dat (.lst ACTS), .own vs, .dat (.lst O14), .dat OLD, .dat NEW, .dat HEAD, .dat FIXED, .dat own, .dat (.int 2), .dat (.tup [.str "no", .str "no"]), y14, y15, x16] s = .ok vs [.dat (.scr ns), .dat (.root 0), .dat m.d, y3, .dat (.lst ACTS), .dat (.lst vs), .dat (.lst O14), .dat OLD, .dat NEW, .dat HEAD, .dat FIXED, .dat own, .dat (.int 2), .dat (.tup [.str "no", .str "no"]), y14, y15, x16] s := rfl
    have hll : vs.length ≤ lim := by unfold lim; omega
    have := mLc_pure (it := iSeq (mVar 5)) (vs := [13]) (g := tgN 13) (t := tNo (asB (frzM (mCF (noXF (fnM 1 3 m_law_check)) (aCons (mVar 13) aNil))))) (m := mVar 13) (s := s) (e := [.dat (.scr ns), .dat (.root 0), .dat m.d, y3, .dat (.lst ACTS), .own vs, .dat (.lst O14), .dat OLD, .dat NEW, .dat HEAD, .dat FIXED, .dat own, .dat (.int 2), .dat (.tup [.str "no", .str "no"]), y14, y15, x16]) (e' := [.dat (.scr ns), .dat (.root 0), .dat m.d, y3, .dat (.lst ACTS), .dat (.lst vs), .dat (.lst O14), .dat OLD, .dat NEW, .dat HEAD, .dat FIXED, .dat own, .dat (.int 2), .dat (.tup [.str "no", .str "no"]), y14, y15, x16]) (e0 := [.dat (.scr ns), .dat (.root 0), .dat m.d, y3, .dat (.lst ACTS), .dat (.lst vs), .dat (.lst O14), .dat OLD, .dat NEW, .dat HEAD, .dat FIXED, .dat own, .dat (.int 2), .unb, y14, y15, x16]) (ds := vs) (fun _ => false) (fun d => d) hi hll rfl fun d hd => by
      have ck := law_check_ok (hv d hd) hp.2.2 (by decide) (by decide) s
      refine ⟨[.dat (.scr ns), .dat (.root 0), .dat m.d, y3, .dat (.lst ACTS), .dat (.lst vs), .dat (.lst O14), .dat OLD, .dat NEW, .dat HEAD, .dat FIXED, .dat own, .dat (.int 2), .dat d, y14, y15, x16], [.dat (.scr ns), .dat (.root 0), .dat m.d, y3, .dat (.lst ACTS), .dat (.lst vs), .dat (.lst O14), .dat OLD, .dat NEW, .dat HEAD, .dat FIXED, .dat own, .dat (.int 2), .dat d, y14, y15, x16], rfl, ?_, rfl, fun z => by cases z⟩
      clear hv fl hi
      walk_at "ev"
    rw [this, List.map_id']
  have e0 : vs.filter (fun _ => false) = [] := by simp
  rw [e0] at c
  have e1 : tp2 cEq (.lst []) (.lst []) = some true := rfl
  have e2 : tp2 cIs (.bl true) (.bl true) = some true := rfl
  refine ⟨[.dat (.scr ns), .dat (.root 0), .dat m.d, y3, .dat (.lst ACTS), .dat (.lst vs), .dat (.lst O14), .dat OLD, .dat NEW, .dat HEAD, .dat FIXED, .dat own, .dat (.int 2), .unb, y14, y15, x16], ?_⟩
  clear hv hp
  walk_at "ev"
theorem law_true (ns : List Int) (h : ns.length ≤ 63) : ∃ e s', Mi.fnM 1 17 mlaw [.scr ns] [] = .ok (.dat (.bl true)) e s' := by
  obtain ⟨s0, z0, r0⟩ := law0 ns h
  obtain ⟨m0, s1, z1, k0, r1⟩ := law1 r0
  obtain ⟨m, x3, x16, s2, z2, k2, r2⟩ := law2 k0 r1
  have ho := own_fit k2 (Nat.le_refl _)
  have ha := k2.as.1
  obtain ⟨ys, s3, z16, g16, l16, r3⟩ := law16 (own := .tup (m.hd :: m.as)) (x3 := x3) (x16 := x16) k2 r2
  have hp := pw
  have hv := v15_good (.tup (m.hd :: m.as)) (ho.le (by omega) (by decide) (by decide))
  have hvl := v15_len (.tup (m.hd :: m.as))
  obtain ⟨vs, y3, y14, y15, s4, z17, g17, l17⟩ := law17 (m := m) (x16 := x16) ho (vs0 := V15 (.tup (m.hd :: m.as)) ++ ys) (fun d hd => (List.mem_append.mp hd).elim (hv d) (g16 d)) (by rw [List.length_append, l16]; omega) r3
  obtain ⟨e', z18⟩ := law18 (ns := ns) (m := m) (own := .tup (m.hd :: m.as)) (y3 := y3) (y14 := y14) (y15 := y15) (x16 := x16) (s := s4) g17 l17
  refine ⟨[], s4, fn_run (e' := e') rfl ?_⟩
  unfold mlaw
  exact seq_is z0 (seq_is z1 (seq_is z2 (seq_is (law3 ns m x3 x16 s2) (seq_is (law4 ns m x3 x16 s2) (seq_is (law5 ns m x3 x16 s2) (seq_is (law6 ns m x3 x16 s2 (by omega)) (seq_is (law7 ns m x3 x16 s2 _) (seq_is (law8 ns m x3 x16 s2 _) (seq_is (law9 ns m x3 x16 s2 _) (seq_is (law10 ns m x3 x16 s2 _) (seq_is (law11 ns m x3 x16 s2 _) (seq_is (law12 ns m x3 x16 s2 _) (seq_is (law13 ns m x3 x16 s2 _) (seq_is (law14 ns m x3 x16 s2 _) (seq_is (law15 ns m x3 x16 s2 _) (seq_is z16 (seq_is z17 z18)))))))))))))))))
end Lw

set_option Elab.async false
set_option linter.all false
set_option autoImplicit false
set_option maxRecDepth 100000
set_option maxHeartbeats 8000000
namespace K78
open PySem L2 Mi Lw
def top (i : Nat) : Stmt := PySem.Challenge.pw_alwaysnew_k78_logs_by_kind.main.body.getD i (.Pass ⟨0, 0, 0, 0⟩)
section
variable {P : Program} {w : World} {K : PySem.W.Frag} {mg : Str → Option Value} {base : Heap}

abbrev sis_integer : Stmt := top 7
@[reducible] def nis_integer : List Str := ["thing"]
theorem scis_integer : FnScope nis_integer ["thing"] (defScope sis_integer) := ⟨rfl, rfl, rfl, by decide +kernel, rfl, by decide +kernel, by decide +kernel⟩
theorem okis_integer (Fc : Df K mg "is_integer" sis_integer ["thing"]) (z_bool : mg "bool" = none) (z_int : mg "int" = none) (z_isinstance : mg "isinstance" = none) : Cal P w K mg base 1 "is_integer" 1 (fnM 1 1 mis_integer) :=
  Fc.cal (N := nis_integer) (k := 0) (m := mis_integer) scis_integer (by decide) fun f cdv A outer s H E hr => (ss_one (s_ret (f_dat (x_and (xisi kit_int z_isinstance z_int (xv 0)) (x_one (x_not (xisi kit_bool z_isinstance z_bool (xv 0))))))))
abbrev sis_number : Stmt := top 8
@[reducible] def nis_number : List Str := ["thing"]
theorem scis_number : FnScope nis_number ["thing"] (defScope sis_number) := ⟨rfl, rfl, rfl, by decide +kernel, rfl, by decide +kernel, by decide +kernel⟩
theorem okis_number (Fc : Df K mg "is_number" sis_number ["thing"]) (cis_integer : Cal P w K mg base 1 "is_integer" 1 (fnM 1 1 mis_integer)) : Cal P w K mg base 2 "is_number" 1 (fnM 1 1 mis_number) :=
  Fc.cal (N := nis_number) (k := 1) (m := mis_number) scis_number (by decide) fun f cdv A outer s H E hr => (ss_one (s_ret (f_dat (x_and (x_frz (xcall cis_integer (ac (xv 0) a_nil))) (x_one (xc_ge (xv 0) x_int))))))
abbrev sis_name : Stmt := top 9
@[reducible] def nis_name : List Str := ["thing", "char"]
theorem scis_name : FnScope nis_name ["thing"] (defScope sis_name) := ⟨rfl, rfl, rfl, by decide +kernel, rfl, by decide +kernel, by decide +kernel⟩
theorem okis_name (Fc : Df K mg "is_name" sis_name ["thing"]) (z_all : mg "all" = none) (z_isinstance : mg "isinstance" = none) (z_len : mg "len" = none) (z_str : mg "str" = none) (gLETTERS : Gc mg "LETTERS" (.str "abcdefghijklmnopqrstuvwxyz")) (gLONGEST_NAME : Gc mg "LONGEST_NAME" (.int 8)) : Cal P w K mg base 1 "is_name" 1 (fnM 1 2 mis_name) :=
  Fc.cal (N := nis_name) (k := 0) (m := mis_name) scis_name (by decide) fun f cdv A outer s H E hr => (ss_cons (s_if (t_w (w_or (t_not (tv (xisi kit_str z_isinstance z_str (xv 0)))) (w_or1 (t_not (tch_lele x_int (xlen z_len (xv 0)) gLONGEST_NAME.xg))))) (ss_one (s_ret (f_dat x_bl))) ss_nil) (ss_one (s_ret (f_dat (xall rfl z_all (x_frz (f_lc rfl (scis_name).nd (i_seq (xv 0)) (bok [("char", 1)] rfl) (by decide) (fun _ _ _ _ _ => (gn 1 (scis_name).nd)) (fun _ _ _ _ _ => ts_nil) (fun _ _ _ _ _ => (xc_in (xv 1) gLETTERS.xg)))))))))
abbrev sis_word : Stmt := top 10
@[reducible] def nis_word : List Str := ["thing"]
theorem scis_word : FnScope nis_word ["thing"] (defScope sis_word) := ⟨rfl, rfl, rfl, by decide +kernel, rfl, by decide +kernel, by decide +kernel⟩
theorem okis_word (Fc : Df K mg "is_word" sis_word ["thing"]) (z_isinstance : mg "isinstance" = none) (z_str : mg "str" = none) (cis_name : Cal P w K mg base 1 "is_name" 1 (fnM 1 2 mis_name)) : Cal P w K mg base 2 "is_word" 1 (fnM 1 1 mis_word) :=
  Fc.cal (N := nis_word) (k := 1) (m := mis_word) scis_word (by decide) fun f cdv A outer s H E hr => (ss_one (s_ret (f_dat (x_or (x_frz (xcall cis_name (ac (xv 0) a_nil))) (x_one (x_and (xisi kit_str z_isinstance z_str (xv 0)) (x_one (xc_eq (xv 0) xs_))))))))
abbrev sis_ascending : Stmt := top 11
@[reducible] def nis_ascending : List Str := ["values", "one", "other"]
theorem scis_ascending : FnScope nis_ascending ["values"] (defScope sis_ascending) := ⟨rfl, rfl, rfl, by decide +kernel, rfl, by decide +kernel, by decide +kernel⟩
theorem okis_ascending (Fc : Df K mg "is_ascending" sis_ascending ["values"]) (z_all : mg "all" = none) (z_zip : mg "zip" = none) : Cal P w K mg base 1 "is_ascending" 1 (fnM 1 3 mis_ascending) :=
  Fc.cal (N := nis_ascending) (k := 0) (m := mis_ascending) scis_ascending (by decide) fun f cdv A outer s H E hr => (ss_one (s_ret (f_dat (xall rfl z_all (x_frz (f_lc rfl (scis_ascending).nd (izip z_zip (ac (xv 0) (ac (x_sl (xv 0) (p_some x_int) p_none) a_nil))) (bok [("one", 1), ("other", 2)] rfl) (by decide) (fun _ _ _ _ _ => (g_tup rfl (g_cons (gn 1 (scis_ascending).nd) (g_cons (gn 2 (scis_ascending).nd) g_nil)))) (fun _ _ _ _ _ => ts_nil) (fun _ _ _ _ _ => (xc_lt (xv 1) (xv 2)))))))))
abbrev sis_reading : Stmt := top 12
@[reducible] def nis_reading : List Str := ["thing", "one"]
theorem scis_reading : FnScope nis_reading ["thing"] (defScope sis_reading) := ⟨rfl, rfl, rfl, by decide +kernel, rfl, by decide +kernel, by decide +kernel⟩
theorem okis_reading (Fc : Df K mg "is_reading" sis_reading ["thing"]) (z_all : mg "all" = none) (z_isinstance : mg "isinstance" = none) (z_tuple : mg "tuple" = none) (cis_name : Cal P w K mg base 1 "is_name" 1 (fnM 1 2 mis_name)) : Cal P w K mg base 2 "is_reading" 1 (fnM 1 2 mis_reading) :=
  Fc.cal (N := nis_reading) (k := 1) (m := mis_reading) scis_reading (by decide) fun f cdv A outer s H E hr => (ss_one (s_ret (f_dat (x_and (xisi kit_tuple z_isinstance z_tuple (xv 0)) (x_one (xall rfl z_all (x_frz (f_lc rfl (scis_reading).nd (i_seq (xv 0)) (bok [("one", 1)] rfl) (by decide) (fun _ _ _ _ _ => (gn 1 (scis_reading).nd)) (fun _ _ _ _ _ => ts_nil) (fun _ _ _ _ _ => (x_frz (xcall cis_name (ac (xv 1) a_nil))))))))))))
abbrev sis_quiet : Stmt := top 13
@[reducible] def nis_quiet : List Str := ["thing"]
theorem scis_quiet : FnScope nis_quiet ["thing"] (defScope sis_quiet) := ⟨rfl, rfl, rfl, by decide +kernel, rfl, by decide +kernel, by decide +kernel⟩
theorem okis_quiet (Fc : Df K mg "is_quiet" sis_quiet ["thing"]) (cis_ascending : Cal P w K mg base 1 "is_ascending" 1 (fnM 1 3 mis_ascending)) (cis_reading : Cal P w K mg base 2 "is_reading" 1 (fnM 1 2 mis_reading)) : Cal P w K mg base 3 "is_quiet" 1 (fnM 1 1 mis_quiet) :=
  Fc.cal (N := nis_quiet) (k := 2) (m := mis_quiet) scis_quiet (by decide) fun f cdv A outer s H E hr => (ss_one (s_ret (f_dat (x_and (x_frz (xcall cis_reading (ac (xv 0) a_nil))) (x_one (x_frz (xcall cis_ascending (ac (xv 0) a_nil))))))))
abbrev sis_letters : Stmt := top 14
@[reducible] def nis_letters : List Str := ["thing"]
theorem scis_letters : FnScope nis_letters ["thing"] (defScope sis_letters) := ⟨rfl, rfl, rfl, by decide +kernel, rfl, by decide +kernel, by decide +kernel⟩
theorem okis_letters (Fc : Df K mg "is_letters" sis_letters ["thing"]) (z_len : mg "len" = none) (cis_quiet : Cal P w K mg base 3 "is_quiet" 1 (fnM 1 1 mis_quiet)) : Cal P w K mg base 4 "is_letters" 1 (fnM 1 1 mis_letters) :=
  Fc.cal (N := nis_letters) (k := 3) (m := mis_letters) scis_letters (by decide) fun f cdv A outer s H E hr => (ss_one (s_ret (f_dat (x_and (x_frz (xcall cis_quiet (ac (xv 0) a_nil))) (x_one (xc_gt (xlen z_len (xv 0)) x_int))))))
abbrev srequire : Stmt := top 16
@[reducible] def nrequire : List Str := ["condition", "word", "at"]
theorem screquire : FnScope nrequire ["condition", "word", "at"] (defScope srequire) := ⟨rfl, rfl, rfl, by decide +kernel, rfl, by decide +kernel, by decide +kernel⟩
theorem okrequire (Fc : Df K mg "require" srequire ["condition", "word", "at"]) (cInvalidPaper : ExK P w K mg base 1 "InvalidPaper" "word" "at") : CalX P w K mg base 3 "require" 3 (fnM 3 3 mrequire) :=
  Fc.calX (N := nrequire) (k := 2) (m := mrequire) screquire (by decide) fun f cdv A outer s H E hr => have tk : Takes (cxOf (L2.CX P w) P w K mg base nrequire "require" (defScope srequire) f cdv A outer s H E) (fun cls d _ H => E cls d H) := takes_of rfl rfl rfl rfl; (ss_one (s_if (t_not (tv (xv 0))) (ss_one (s_raise2 cInvalidPaper rfl tk (ac (xv 1) (ac (xv 2) a_nil)))) ss_nil))
abbrev sis_pair : Stmt := top 17
@[reducible] def nis_pair : List Str := ["thing"]
theorem scis_pair : FnScope nis_pair ["thing"] (defScope sis_pair) := ⟨rfl, rfl, rfl, by decide +kernel, rfl, by decide +kernel, by decide +kernel⟩
theorem okis_pair (Fc : Df K mg "is_pair" sis_pair ["thing"]) (z_isinstance : mg "isinstance" = none) (z_len : mg "len" = none) (z_tuple : mg "tuple" = none) (cis_integer : Cal P w K mg base 1 "is_integer" 1 (fnM 1 1 mis_integer)) (cis_word : Cal P w K mg base 2 "is_word" 1 (fnM 1 1 mis_word)) : Cal P w K mg base 3 "is_pair" 1 (fnM 1 1 mis_pair) :=
  Fc.cal (N := nis_pair) (k := 2) (m := mis_pair) scis_pair (by decide) fun f cdv A outer s H E hr => (ss_one (s_ret (f_dat (x_and (xisi kit_tuple z_isinstance z_tuple (xv 0)) (x_and (xc_eq (xlen z_len (xv 0)) x_int) (x_and (x_frz (xcall cis_integer (ac (xix (xv 0) x_int) a_nil))) (x_one (x_frz (xcall cis_word (ac (xix (xv 0) x_int) a_nil))))))))))
abbrev sis_row : Stmt := top 18
@[reducible] def nis_row : List Str := ["thing", "one"]
theorem scis_row : FnScope nis_row ["thing"] (defScope sis_row) := ⟨rfl, rfl, rfl, by decide +kernel, rfl, by decide +kernel, by decide +kernel⟩
theorem okis_row (Fc : Df K mg "is_row" sis_row ["thing"]) (z_all : mg "all" = none) (z_isinstance : mg "isinstance" = none) (z_tuple : mg "tuple" = none) (cis_pair : Cal P w K mg base 3 "is_pair" 1 (fnM 1 1 mis_pair)) : Cal P w K mg base 4 "is_row" 1 (fnM 1 2 mis_row) :=
  Fc.cal (N := nis_row) (k := 3) (m := mis_row) scis_row (by decide) fun f cdv A outer s H E hr => (ss_one (s_ret (f_dat (x_and (xisi kit_tuple z_isinstance z_tuple (xv 0)) (x_one (xall rfl z_all (x_frz (f_lc rfl (scis_row).nd (i_seq (xv 0)) (bok [("one", 1)] rfl) (by decide) (fun _ _ _ _ _ => (gn 1 (scis_row).nd)) (fun _ _ _ _ _ => ts_nil) (fun _ _ _ _ _ => (x_frz (xcall cis_pair (ac (xv 1) a_nil))))))))))))
abbrev shas_shape : Stmt := top 19
@[reducible] def nhas_shape : List Str := ["thing", "one"]
theorem schas_shape : FnScope nhas_shape ["thing"] (defScope shas_shape) := ⟨rfl, rfl, rfl, by decide +kernel, rfl, by decide +kernel, by decide +kernel⟩
theorem okhas_shape (Fc : Df K mg "has_shape" shas_shape ["thing"]) (z_all : mg "all" = none) (z_isinstance : mg "isinstance" = none) (z_len : mg "len" = none) (z_tuple : mg "tuple" = none) (cis_reading : Cal P w K mg base 2 "is_reading" 1 (fnM 1 2 mis_reading)) (cis_row : Cal P w K mg base 4 "is_row" 1 (fnM 1 2 mis_row)) : Cal P w K mg base 5 "has_shape" 1 (fnM 1 2 mhas_shape) :=
  Fc.cal (N := nhas_shape) (k := 4) (m := mhas_shape) schas_shape (by decide) fun f cdv A outer s H E hr => (ss_cons (s_if (t_w (w_or (t_not (tv (xisi kit_tuple z_isinstance z_tuple (xv 0)))) (w_or (tc_ne (xlen z_len (xv 0)) x_int) (w_or (t_not (tv (x_frz (xcall cis_reading (ac (xix (xv 0) x_int) a_nil))))) (w_or1 (t_not (tv (xisi kit_tuple z_isinstance z_tuple (xix (xv 0) x_int))))))))) (ss_one (s_ret (f_dat x_bl))) ss_nil) (ss_one (s_ret (f_dat (xall rfl z_all (x_frz (f_lc rfl (schas_shape).nd (i_seq (xix (xv 0) x_int)) (bok [("one", 1)] rfl) (by decide) (fun _ _ _ _ _ => (gn 1 (schas_shape).nd)) (fun _ _ _ _ _ => ts_nil) (fun _ _ _ _ _ => (x_frz (xcall cis_row (ac (xv 1) a_nil)))))))))))
abbrev slets_machine : Stmt := top 20
@[reducible] def nlets_machine : List Str := ["thing", "letters", "rows", "k", "row", "j", "after", "word"]
theorem sclets_machine : FnScope nlets_machine ["thing"] (defScope slets_machine) := ⟨rfl, rfl, rfl, by decide +kernel, rfl, by decide +kernel, by decide +kernel⟩
theorem oklets_machine (Fc : Df K mg "lets_machine" slets_machine ["thing"]) (z_enumerate : mg "enumerate" = none) (z_len : mg "len" = none) (chas_shape : Cal P w K mg base 5 "has_shape" 1 (fnM 1 2 mhas_shape)) (cis_letters : Cal P w K mg base 4 "is_letters" 1 (fnM 1 1 mis_letters)) (crequire : CalX P w K mg base 3 "require" 3 (fnM 3 3 mrequire)) : CalX P w K mg base 6 "lets_machine" 1 (fnM 1 8 mlets_machine) :=
  Fc.calX (N := nlets_machine) (k := 5) (m := mlets_machine) sclets_machine (by decide) fun f cdv A outer s H E hr => have tk : Takes (cxOf (L2.CX P w) P w K mg base nlets_machine "lets_machine" (defScope slets_machine) f cdv A outer s H E) (fun cls d _ H => E cls d H) := takes_of rfl rfl rfl rfl; (ss_cons (sexpr (x_frz (xcallX crequire tk (ac (x_frz (xcall chas_shape (ac (xv 0) a_nil))) (ac xs_ (ac x_neg a_nil)))))) (ss_cons (sunp (xv 0) (h_tup rfl (h_cons (hn 1 (sclets_machine).nd) (h_cons (hn 2 (sclets_machine).nd) h_nil)))) (ss_cons (sexpr (x_frz (xcallX crequire tk (ac (x_frz (xcall cis_letters (ac (xv 1) a_nil))) (ac xs_ (ac x_neg a_nil)))))) (ss_cons (sexpr (x_frz (xcallX crequire tk (ac (xc_gt (xlen z_len (xv 2)) x_int) (ac xs_ (ac x_neg a_nil)))))) (ss_cons (s_for (passes_of rfl) rfl (ienum z_enumerate (xv 2)) (g_tup rfl (g_cons (gn 3 (sclets_machine).nd) (g_cons (gn 4 (sclets_machine).nd) g_nil))) (ss_cons (sexpr (x_frz (xcallX crequire tk (ac (xc_eq (xlen z_len (xv 4)) (xlen z_len (xv 1))) (ac xs_ (ac (xv 3) a_nil)))))) (ss_one (s_for (passes_of rfl) rfl (ienum z_enumerate (xv 4)) (g_tup rfl (g_cons (gn 5 (sclets_machine).nd) (g_cons (g_tup rfl (g_cons (gn 6 (sclets_machine).nd) (g_cons (gn 7 (sclets_machine).nd) g_nil))) g_nil))) (ss_one (sexpr (x_frz (xcallX crequire tk (ac (xch_lelt x_int (xv 6) (xlen z_len (xv 2))) (ac xs_ (ac (x_tup (ac (xv 3) (ac (xv 5) a_nil))) a_nil))))))))))) (ss_one (s_ret (f_dat (xlen z_len (xv 2))))))))))
abbrev sis_machine : Stmt := top 22
@[reducible] def nis_machine : List Str := ["thing"]
theorem scis_machine : FnScope nis_machine ["thing"] (defScope sis_machine) := ⟨rfl, rfl, rfl, by decide +kernel, rfl, by decide +kernel, by decide +kernel⟩
theorem okis_machine (Fc : Df K mg "is_machine" sis_machine ["thing"]) (clets_machine : CalX P w K mg base 6 "lets_machine" 1 (fnM 1 8 mlets_machine)) (kInvalidPaper : Cat K mg "InvalidPaper") : Cal P w K mg base 7 "is_machine" 1 (fnM 1 1 mis_machine) :=
  Fc.cal (N := nis_machine) (k := 6) (m := mis_machine) scis_machine (by decide) fun f cdv A outer s H E hr => (ss_one (s_try kInvalidPaper takes0 (fun W pn xe tk po => (ss_one (s_ret (f_dat (xc_gt (x_frz (xcallX clets_machine tk (ac (xv 0) a_nil))) x_int))))) (fun a oe pn => (ss_one (s_ret (f_dat x_bl))))))
theorem tbl78_ok (cis_name : Cal P w K mg base 1 "is_name" 1 (fnM 1 2 mis_name)) (cis_machine : Cal P w K mg base 7 "is_machine" 1 (fnM 1 1 mis_machine)) (cis_number : Cal P w K mg base 2 "is_number" 1 (fnM 1 1 mis_number)) (cis_quiet : Cal P w K mg base 3 "is_quiet" 1 (fnM 1 1 mis_quiet)) : TblOk P w K mg base 7 tbl78 := ⟨fun x f h => by
  unfold tbl78 at h
  by_cases eis_name : x = "is_name"
  · rw [if_pos eis_name] at h
    cases h
    subst eis_name
    exact ⟨1, fnM_len, cis_name.mono (by decide)⟩
  rw [if_neg eis_name] at h
  by_cases eis_machine : x = "is_machine"
  · rw [if_pos eis_machine] at h
    cases h
    subst eis_machine
    exact ⟨1, fnM_len, cis_machine.mono (by decide)⟩
  rw [if_neg eis_machine] at h
  by_cases eis_number : x = "is_number"
  · rw [if_pos eis_number] at h
    cases h
    subst eis_number
    exact ⟨1, fnM_len, cis_number.mono (by decide)⟩
  rw [if_neg eis_number] at h
  by_cases eis_quiet : x = "is_quiet"
  · rw [if_pos eis_quiet] at h
    cases h
    subst eis_quiet
    exact ⟨1, fnM_len, cis_quiet.mono (by decide)⟩
  rw [if_neg eis_quiet] at h
  cases h⟩
abbrev sis_event : Stmt := top 24
@[reducible] def nis_event : List Str := ["thing", "forms", "form", "part"]
theorem scis_event : FnScope nis_event ["thing"] (defScope sis_event) := ⟨rfl, rfl, rfl, by decide +kernel, rfl, by decide +kernel, by decide +kernel⟩
theorem okis_event (Fc : Df K mg "is_event" sis_event ["thing"]) (z_all : mg "all" = none) (z_isinstance : mg "isinstance" = none) (z_len : mg "len" = none) (z_str : mg "str" = none) (z_tuple : mg "tuple" = none) (z_zip : mg "zip" = none) (gFORMS : Fm w K mg "FORMS" tFORMS) (tbl : TblOk P w K mg base 7 tbl78) : Cal P w K mg base 8 "is_event" 1 (fnM 1 4 mis_event) :=
  Fc.cal (N := nis_event) (k := 7) (m := mis_event) scis_event (by decide) fun f cdv A outer s H E hr => (ss_cons (s_if (t_w (w_or (t_not (tv (xisi kit_tuple z_isinstance z_tuple (xv 0)))) (w_or (tc_eq (xlen z_len (xv 0)) x_int) (w_or (t_not (tv (xisi kit_str z_isinstance z_str (xix (xv 0) x_int)))) (w_or1 (tc_nif gFORMS (xix (xv 0) x_int))))))) (ss_one (s_ret (f_dat x_bl))) ss_nil) (ss_cons (sset 1 (scis_event).nd (f_dat (xixf gFORMS (xix (xv 0) x_int)))) (ss_one (s_ret (f_dat (x_and (xc_eq (xlen z_len (xv 0)) (xadd (xlen z_len (xv 1)) x_int)) (x_one (xall rfl z_all (x_frz (f_lc rfl (scis_event).nd (izip z_zip (ac (xv 1) (ac (x_sl (xv 0) (p_some x_int) p_none) a_nil))) (bok [("form", 2), ("part", 3)] rfl) (by decide) (fun _ _ _ _ _ => (g_tup rfl (g_cons (gn 2 (scis_event).nd) (g_cons (gn 3 (scis_event).nd) g_nil)))) (fun _ _ _ _ _ => ts_nil) (fun _ _ _ _ _ => (x_frz (xcallv tbl 2 (ac (xv 3) a_nil))))))))))))))
abbrev sis_beginning : Stmt := top 25
@[reducible] def nis_beginning : List Str := ["thing", "word", "machine", "quiet"]
theorem scis_beginning : FnScope nis_beginning ["thing"] (defScope sis_beginning) := ⟨rfl, rfl, rfl, by decide +kernel, rfl, by decide +kernel, by decide +kernel⟩
theorem okis_beginning (Fc : Df K mg "is_beginning" sis_beginning ["thing"]) (z_isinstance : mg "isinstance" = none) (z_len : mg "len" = none) (z_str : mg "str" = none) (z_tuple : mg "tuple" = none) (cis_machine : Cal P w K mg base 7 "is_machine" 1 (fnM 1 1 mis_machine)) (cis_quiet : Cal P w K mg base 3 "is_quiet" 1 (fnM 1 1 mis_quiet)) : Cal P w K mg base 8 "is_beginning" 1 (fnM 1 4 mis_beginning) :=
  Fc.cal (N := nis_beginning) (k := 7) (m := mis_beginning) scis_beginning (by decide) fun f cdv A outer s H E hr => (ss_cons (s_if (t_w (w_or (t_not (tv (xisi kit_tuple z_isinstance z_tuple (xv 0)))) (w_or1 (tc_ne (xlen z_len (xv 0)) x_int)))) (ss_one (s_ret (f_dat x_bl))) ss_nil) (ss_cons (sunp (xv 0) (h_tup rfl (h_cons (hn 1 (scis_beginning).nd) (h_cons (hn 2 (scis_beginning).nd) (h_cons (hn 3 (scis_beginning).nd) h_nil))))) (ss_one (s_ret (f_dat (x_and (xisi kit_str z_isinstance z_str (xv 1)) (x_and (xc_eq (xv 1) xs_) (x_and (x_frz (xcall cis_machine (ac (xv 2) a_nil))) (x_one (x_frz (xcall cis_quiet (ac (xv 3) a_nil))))))))))))
abbrev sis_log_by_kind : Stmt := top 26
@[reducible] def nis_log_by_kind : List Str := ["thing", "event"]
theorem scis_log_by_kind : FnScope nis_log_by_kind ["thing"] (defScope sis_log_by_kind) := ⟨rfl, rfl, rfl, by decide +kernel, rfl, by decide +kernel, by decide +kernel⟩
theorem okis_log_by_kind (Fc : Df K mg "is_log_by_kind" sis_log_by_kind ["thing"]) (z_all : mg "all" = none) (z_isinstance : mg "isinstance" = none) (z_len : mg "len" = none) (z_tuple : mg "tuple" = none) (cis_beginning : Cal P w K mg base 8 "is_beginning" 1 (fnM 1 4 mis_beginning)) (cis_event : Cal P w K mg base 8 "is_event" 1 (fnM 1 4 mis_event)) : Cal P w K mg base 9 "is_log_by_kind" 1 (fnM 1 2 mis_log_by_kind) :=
  Fc.cal (N := nis_log_by_kind) (k := 8) (m := mis_log_by_kind) scis_log_by_kind (by decide) fun f cdv A outer s H E hr => (ss_cons (s_if (t_w (w_or (t_not (tv (xisi kit_tuple z_isinstance z_tuple (xv 0)))) (w_or (tc_eq (xlen z_len (xv 0)) x_int) (w_or1 (t_not (tv (x_frz (xcall cis_beginning (ac (xix (xv 0) x_int) a_nil))))))))) (ss_one (s_ret (f_dat x_bl))) ss_nil) (ss_one (s_ret (f_dat (xall rfl z_all (x_frz (f_lc rfl (scis_log_by_kind).nd (i_seq (x_sl (xv 0) (p_some x_int) p_none)) (bok [("event", 1)] rfl) (by decide) (fun _ _ _ _ _ => (gn 1 (scis_log_by_kind).nd)) (fun _ _ _ _ _ => ts_nil) (fun _ _ _ _ _ => (x_frz (xcall cis_event (ac (xv 1) a_nil)))))))))))
abbrev sis_log : Stmt := top 28
@[reducible] def nis_log : List Str := ["thing"]
theorem scis_log : FnScope nis_log ["thing"] (defScope sis_log) := ⟨rfl, rfl, rfl, by decide +kernel, rfl, by decide +kernel, by decide +kernel⟩
theorem okis_log (Fc : Df K mg "is_log" sis_log ["thing"]) (cis_log_by_kind : Cal P w K mg base 9 "is_log_by_kind" 1 (fnM 1 2 mis_log_by_kind)) : Cal P w K mg base 10 "is_log" 1 (fnM 1 1 mis_log) :=
  Fc.cal (N := nis_log) (k := 9) (m := mis_log) scis_log (by decide) fun f cdv A outer s H E hr => (ss_one (s_ret (xcall cis_log_by_kind (ac (xv 0) a_nil))))
theorem okKis_log (Fc : DfK K mg "is_log" sis_log "thing") (cis_log_by_kind : Cal P w K mg base 9 "is_log_by_kind" 1 (fnM 1 2 mis_log_by_kind)) : CalK P w K mg base 10 "is_log" "thing" (fnM 1 1 mis_log) :=
  Fc.calK (N := nis_log) (k := 9) (m := mis_log) scis_log (by decide) fun f cdv A outer s H E hr => (ss_one (s_ret (xcall cis_log_by_kind (ac (xv 0) a_nil))))
abbrev s_law_source : Stmt := top 30
@[reducible] def n_law_source : List Str := ["_law_script"]
theorem sc_law_source : FnScope n_law_source ["_law_script"] (defScope s_law_source) := ⟨rfl, rfl, rfl, by decide +kernel, rfl, by decide +kernel, by decide +kernel⟩
theorem ok_law_source (Fc : Df K mg "_law_source" s_law_source ["_law_script"]) : Cal P w K mg base 1 "_law_source" 1 (fnM 1 1 m_law_source) :=
  Fc.cal (N := n_law_source) (k := 0) (m := m_law_source) sc_law_source (by decide) fun f cdv A outer s H E hr => (ss_one (s_ret (f_lst (ac (x_sl (xv 0) p_none (p_some x_int)) (ac x_int (ac x_int (ac x_int a_nil)))))))
abbrev s_law_draw : Stmt := top 31
@[reducible] def n_law_draw : List Str := ["_law_rng", "_law_bound", "_law_spot", "_law_cell", "_law_mixed", "_law_found"]
theorem sc_law_draw : FnScope n_law_draw ["_law_rng", "_law_bound"] (defScope s_law_draw) := ⟨rfl, rfl, rfl, by decide +kernel, rfl, by decide +kernel, by decide +kernel⟩
theorem ok_law_draw (Fc : Df K mg "_law_draw" s_law_draw ["_law_rng", "_law_bound"]) (z_int : mg "int" = none) (z_len : mg "len" = none) : Cal P w K mg base 1 "_law_draw" 2 (fnM 2 6 m_law_draw) :=
  Fc.cal (N := n_law_draw) (k := 0) (m := m_law_draw) sc_law_draw (by decide) fun f cdv A outer s H E hr => (ss_cons (srset 0 3 (xadd (xrix 0 3) x_int)) (ss_cons (s_if (tc_gt (xrix 0 2) x_int) (ss_cons (sset 5 (sc_law_draw).nd (f_dat (xmod (xint z_int (xrix 0 2)) (xv 1)))) (ss_cons (srset 0 2 (xfdv (xrix 0 2) (xv 1))) (ss_one (sretv 5)))) ss_nil) (ss_cons (sset 2 (sc_law_draw).nd (f_dat (xrix 0 1))) (ss_cons (srset 0 1 (xadd (xv 2) x_int)) (ss_cons (sset 3 (sc_law_draw).nd (f_if (tc_ne (xrix 0 0) (x_lst a_nil)) (f_dat (xix (xrix 0 0) (xmod (xint z_int (xv 2)) (xlen z_len (xrix 0 0))))) (f_dat x_int))) (ss_cons (s_if (t_w (w_and (tc_ge (xv 3) (xpow x_int x_int)) (w_and1 (tc_lt (xv 2) (xlen z_len (xrix 0 0)))))) (ss_cons (srset 0 2 (xfdv (xv 3) (xv 1))) (ss_one (s_ret (f_dat (xmod (xint z_int (xv 3)) (xv 1)))))) ss_nil) (ss_cons (sset 4 (sc_law_draw).nd (f_dat (xmod (xint z_int (xpow (xadd (xadd (xmod (xint z_int (xv 3)) x_int) (xmul x_int (xrix 0 3))) x_int) x_int)) x_int))) (ss_cons (sset 4 (sc_law_draw).nd (f_dat (xmod (xint z_int (xpow (xadd (xadd (xv 4) (xmul (xmul x_int (xrix 0 3)) (xrix 0 3))) x_int) x_int)) x_int))) (ss_one (s_ret (f_dat (xmod (xint z_int (xfdv (xv 4) x_int)) (xv 1)))))))))))))
abbrev s_law_signs : Stmt := top 32
@[reducible] def n_law_signs : List Str := ["_law_rng"]
theorem sc_law_signs : FnScope n_law_signs ["_law_rng"] (defScope s_law_signs) := ⟨rfl, rfl, rfl, by decide +kernel, rfl, by decide +kernel, by decide +kernel⟩
theorem ok_law_signs (Fc : Df K mg "_law_signs" s_law_signs ["_law_rng"]) (c_law_draw : Cal P w K mg base 1 "_law_draw" 2 (fnM 2 6 m_law_draw)) : Cal P w K mg base 2 "_law_signs" 1 (fnM 1 1 m_law_signs) :=
  Fc.cal (N := n_law_signs) (k := 1) (m := m_law_signs) sc_law_signs (by decide) fun f cdv A outer s H E hr => (ss_one (s_ret (f_dat (xix (x_lst (ac (x_ntup (ac xs_ a_nil)) (ac (x_ntup (ac xs_ (ac xs_ a_nil))) (ac (x_ntup (ac xs_ (ac xs_ a_nil))) (ac (x_ntup (ac xs_ (ac xs_ (ac xs_ a_nil)))) a_nil))))) (x_frz (xcall c_law_draw (ac (xv 0) (ac x_int a_nil))))))))
abbrev s_law_gear : Stmt := top 33
@[reducible] def n_law_gear : List Str := ["_law_rng", "_law_signs_here", "_law_at", "_law_count", "_law_rows_now", "_law_sign"]
theorem sc_law_gear : FnScope n_law_gear ["_law_rng", "_law_signs_here"] (defScope s_law_gear) := ⟨rfl, rfl, rfl, by decide +kernel, rfl, by decide +kernel, by decide +kernel⟩
theorem ok_law_gear (Fc : Df K mg "_law_gear" s_law_gear ["_law_rng", "_law_signs_here"]) (z_range : mg "range" = none) (z_tuple : mg "tuple" = none) (c_law_draw : Cal P w K mg base 1 "_law_draw" 2 (fnM 2 6 m_law_draw)) : Cal P w K mg base 2 "_law_gear" 2 (fnM 2 6 m_law_gear) :=
  Fc.cal (N := n_law_gear) (k := 1) (m := m_law_gear) sc_law_gear (by decide) fun f cdv A outer s H E hr => (ss_cons (sparc2 3 4 (sc_law_gear).nd (b_cons (f_add x_int (x_frz (xcall c_law_draw (ac (xv 0) (ac x_int a_nil))))) (b_cons (f_lst a_nil) b_nil))) (ss_cons (s_for PassesOwn.never rfl (irange z_range (xv 3)) (gn 2 (sc_law_gear).nd) (ss_one (sapp 4 (xtuple z_tuple (x_frz (f_lc rfl (sc_law_gear).nd (i_seq (xv 1)) (bok [("_law_sign", 5)] rfl) (by decide) (fun _ _ _ _ _ => (gn 5 (sc_law_gear).nd)) (fun _ _ _ _ _ => ts_nil) (fun _ _ _ _ _ => (x_tup (ac (x_frz (xcall c_law_draw (ac (xv 0) (ac (xv 3) a_nil)))) (ac (xix (x_lst (ac xs_ (ac xs_ (ac xs_ (ac xs_ (ac xs_ a_nil)))))) (x_frz (xcall c_law_draw (ac (xv 0) (ac x_int a_nil))))) a_nil)))))))))) (ss_one (s_ret (f_dat (x_tup (ac (xv 1) (ac (xtuple z_tuple (xv 4)) a_nil))))))))
abbrev s_law_hush : Stmt := top 34
@[reducible] def n_law_hush : List Str := ["_law_rng", "_law_word"]
theorem sc_law_hush : FnScope n_law_hush ["_law_rng"] (defScope s_law_hush) := ⟨rfl, rfl, rfl, by decide +kernel, rfl, by decide +kernel, by decide +kernel⟩
theorem ok_law_hush (Fc : Df K mg "_law_hush" s_law_hush ["_law_rng"]) (z_tuple : mg "tuple" = none) (c_law_draw : Cal P w K mg base 1 "_law_draw" 2 (fnM 2 6 m_law_draw)) : Cal P w K mg base 2 "_law_hush" 1 (fnM 1 2 m_law_hush) :=
  Fc.cal (N := n_law_hush) (k := 1) (m := m_law_hush) sc_law_hush (by decide) fun f cdv A outer s H E hr => (ss_one (s_ret (f_dat (xtuple z_tuple (x_frz (f_lc rfl (sc_law_hush).nd (i_seq (x_tup (ac xs_ (ac xs_ (ac xs_ (ac xs_ a_nil)))))) (bok [("_law_word", 1)] rfl) (by decide) (fun _ _ _ _ _ => (gn 1 (sc_law_hush).nd)) (fun _ _ _ _ _ => (ts_one (tc_eq (x_frz (xcall c_law_draw (ac (xv 0) (ac x_int a_nil)))) x_int))) (fun _ _ _ _ _ => (xv 1))))))))
abbrev s_law_is_number : Stmt := top 35
@[reducible] def n_law_is_number : List Str := ["_law_stray"]
theorem sc_law_is_number : FnScope n_law_is_number ["_law_stray"] (defScope s_law_is_number) := ⟨rfl, rfl, rfl, by decide +kernel, rfl, by decide +kernel, by decide +kernel⟩
theorem ok_law_is_number (Fc : Df K mg "_law_is_number" s_law_is_number ["_law_stray"]) (z_bool : mg "bool" = none) (z_int : mg "int" = none) (z_isinstance : mg "isinstance" = none) : Cal P w K mg base 1 "_law_is_number" 1 (fnM 1 1 m_law_is_number) :=
  Fc.cal (N := n_law_is_number) (k := 0) (m := m_law_is_number) sc_law_is_number (by decide) fun f cdv A outer s H E hr => (ss_one (s_ret (f_dat (x_and (xisi kit_int z_isinstance z_int (xv 0)) (x_and (x_not (xisi kit_bool z_isinstance z_bool (xv 0))) (x_one (xc_ge (xv 0) x_int)))))))
abbrev s_law_is_name : Stmt := top 36
@[reducible] def n_law_is_name : List Str := ["_law_stray", "_law_char"]
theorem sc_law_is_name : FnScope n_law_is_name ["_law_stray"] (defScope s_law_is_name) := ⟨rfl, rfl, rfl, by decide +kernel, rfl, by decide +kernel, by decide +kernel⟩
theorem ok_law_is_name (Fc : Df K mg "_law_is_name" s_law_is_name ["_law_stray"]) (z_isinstance : mg "isinstance" = none) (z_len : mg "len" = none) (z_str : mg "str" = none) : Cal P w K mg base 1 "_law_is_name" 1 (fnM 1 2 m_law_is_name) :=
  Fc.cal (N := n_law_is_name) (k := 0) (m := m_law_is_name) sc_law_is_name (by decide) fun f cdv A outer s H E hr => (ss_cons (s_if (t_w (w_or (t_not (tv (xisi kit_str z_isinstance z_str (xv 0)))) (w_or1 (t_not (tch_lele x_int (xlen z_len (xv 0)) x_int))))) (ss_one (s_ret (f_dat x_bl))) ss_nil) (ss_one (s_ret (f_dat (xc_eq (x_frz (f_lc rfl (sc_law_is_name).nd (i_seq (xv 0)) (bok [("_law_char", 1)] rfl) (by decide) (fun _ _ _ _ _ => (gn 1 (sc_law_is_name).nd)) (fun _ _ _ _ _ => (ts_one (tc_ni (xv 1) xs_))) (fun _ _ _ _ _ => (xv 1)))) (x_lst a_nil))))))
abbrev s_law_is_set : Stmt := top 37
@[reducible] def n_law_is_set : List Str := ["_law_stray", "_law_at", "_law_name"]
theorem sc_law_is_set : FnScope n_law_is_set ["_law_stray"] (defScope s_law_is_set) := ⟨rfl, rfl, rfl, by decide +kernel, rfl, by decide +kernel, by decide +kernel⟩
theorem ok_law_is_set (Fc : Df K mg "_law_is_set" s_law_is_set ["_law_stray"]) (z_isinstance : mg "isinstance" = none) (z_len : mg "len" = none) (z_range : mg "range" = none) (z_tuple : mg "tuple" = none) (c_law_is_name : Cal P w K mg base 1 "_law_is_name" 1 (fnM 1 2 m_law_is_name)) : Cal P w K mg base 2 "_law_is_set" 1 (fnM 1 3 m_law_is_set) :=
  Fc.cal (N := n_law_is_set) (k := 1) (m := m_law_is_set) sc_law_is_set (by decide) fun f cdv A outer s H E hr => (ss_cons (s_if (t_w (w_or (t_not (tv (xisi kit_tuple z_isinstance z_tuple (xv 0)))) (w_or1 (tc_ne (x_frz (f_lc rfl (sc_law_is_set).nd (i_seq (xv 0)) (bok [("_law_name", 2)] rfl) (by decide) (fun _ _ _ _ _ => (gn 2 (sc_law_is_set).nd)) (fun _ _ _ _ _ => (ts_one (t_not (tv (x_frz (xcall c_law_is_name (ac (xv 2) a_nil))))))) (fun _ _ _ _ _ => (xv 2)))) (x_lst a_nil))))) (ss_one (s_ret (f_dat x_bl))) ss_nil) (ss_one (s_ret (f_dat (xc_eq (x_frz (f_lc rfl (sc_law_is_set).nd (irange z_range (xsub (xlen z_len (xv 0)) x_int)) (bok [("_law_at", 1)] rfl) (by decide) (fun _ _ _ _ _ => (gn 1 (sc_law_is_set).nd)) (fun _ _ _ _ _ => (ts_one (t_not (tc_lt (xix (xv 0) (xv 1)) (xix (xv 0) (xadd (xv 1) x_int)))))) (fun _ _ _ _ _ => (xv 1)))) (x_lst a_nil))))))
abbrev s_law_is_pair : Stmt := top 38
@[reducible] def n_law_is_pair : List Str := ["_law_stray", "_law_count"]
theorem sc_law_is_pair : FnScope n_law_is_pair ["_law_stray", "_law_count"] (defScope s_law_is_pair) := ⟨rfl, rfl, rfl, by decide +kernel, rfl, by decide +kernel, by decide +kernel⟩
theorem ok_law_is_pair (Fc : Df K mg "_law_is_pair" s_law_is_pair ["_law_stray", "_law_count"]) (z_isinstance : mg "isinstance" = none) (z_len : mg "len" = none) (z_str : mg "str" = none) (z_tuple : mg "tuple" = none) (c_law_is_name : Cal P w K mg base 1 "_law_is_name" 1 (fnM 1 2 m_law_is_name)) (c_law_is_number : Cal P w K mg base 1 "_law_is_number" 1 (fnM 1 1 m_law_is_number)) : Cal P w K mg base 2 "_law_is_pair" 2 (fnM 2 2 m_law_is_pair) :=
  Fc.cal (N := n_law_is_pair) (k := 1) (m := m_law_is_pair) sc_law_is_pair (by decide) fun f cdv A outer s H E hr => (ss_cons (s_if (t_w (w_or (t_not (tv (xisi kit_tuple z_isinstance z_tuple (xv 0)))) (w_or (tc_ne (xlen z_len (xv 0)) x_int) (w_or (t_not (tv (x_frz (xcall c_law_is_number (ac (xix (xv 0) x_int) a_nil))))) (w_or1 (tc_ge (xix (xv 0) x_int) (xv 1))))))) (ss_one (s_ret (f_dat x_bl))) ss_nil) (ss_one (s_ret (f_dat (x_and (xisi kit_str z_isinstance z_str (xix (xv 0) x_int)) (x_one (x_or (xc_eq (xix (xv 0) x_int) xs_) (x_one (x_frz (xcall c_law_is_name (ac (xix (xv 0) x_int) a_nil)))))))))))
abbrev s_law_is_gear : Stmt := top 39
@[reducible] def n_law_is_gear : List Str := ["_law_stray", "_law_one", "_law_pair"]
theorem sc_law_is_gear : FnScope n_law_is_gear ["_law_stray"] (defScope s_law_is_gear) := ⟨rfl, rfl, rfl, by decide +kernel, rfl, by decide +kernel, by decide +kernel⟩
theorem ok_law_is_gear (Fc : Df K mg "_law_is_gear" s_law_is_gear ["_law_stray"]) (z_isinstance : mg "isinstance" = none) (z_len : mg "len" = none) (z_tuple : mg "tuple" = none) (c_law_is_pair : Cal P w K mg base 2 "_law_is_pair" 2 (fnM 2 2 m_law_is_pair)) (c_law_is_set : Cal P w K mg base 2 "_law_is_set" 1 (fnM 1 3 m_law_is_set)) : Cal P w K mg base 3 "_law_is_gear" 1 (fnM 1 3 m_law_is_gear) :=
  Fc.cal (N := n_law_is_gear) (k := 2) (m := m_law_is_gear) sc_law_is_gear (by decide) fun f cdv A outer s H E hr => (ss_cons (s_if (t_w (w_or (t_not (tv (xisi kit_tuple z_isinstance z_tuple (xv 0)))) (w_or (tc_ne (xlen z_len (xv 0)) x_int) (w_or (t_not (tv (x_frz (xcall c_law_is_set (ac (xix (xv 0) x_int) a_nil))))) (w_or1 (tc_eq (xix (xv 0) x_int) (x_tup a_nil))))))) (ss_one (s_ret (f_dat x_bl))) ss_nil) (ss_cons (s_if (t_w (w_or (t_not (tv (xisi kit_tuple z_isinstance z_tuple (xix (xv 0) x_int)))) (w_or1 (tc_eq (xix (xv 0) x_int) (x_tup a_nil))))) (ss_one (s_ret (f_dat x_bl))) ss_nil) (ss_cons (s_for PassesOwn.never rfl (i_seq (xix (xv 0) x_int)) (gn 1 (sc_law_is_gear).nd) (ss_cons (s_if (t_w (w_or (t_not (tv (xisi kit_tuple z_isinstance z_tuple (xv 1)))) (w_or1 (tc_ne (xlen z_len (xv 1)) (xlen z_len (xix (xv 0) x_int)))))) (ss_one (s_ret (f_dat x_bl))) ss_nil) (ss_one (s_if (tc_ne (x_frz (f_lc rfl (sc_law_is_gear).nd (i_seq (xv 1)) (bok [("_law_pair", 2)] rfl) (by decide) (fun _ _ _ _ _ => (gn 2 (sc_law_is_gear).nd)) (fun _ _ _ _ _ => (ts_one (t_not (tv (x_frz (xcall c_law_is_pair (ac (xv 2) (ac (xlen z_len (xix (xv 0) x_int)) a_nil)))))))) (fun _ _ _ _ _ => (xv 2)))) (x_lst a_nil)) (ss_one (s_ret (f_dat x_bl))) ss_nil)))) (ss_one (s_ret (f_dat x_bl))))))
abbrev s_law_is_act : Stmt := top 40
@[reducible] def n_law_is_act : List Str := ["_law_stray"]
theorem sc_law_is_act : FnScope n_law_is_act ["_law_stray"] (defScope s_law_is_act) := ⟨rfl, rfl, rfl, by decide +kernel, rfl, by decide +kernel, by decide +kernel⟩
theorem ok_law_is_act (Fc : Df K mg "_law_is_act" s_law_is_act ["_law_stray"]) (z_isinstance : mg "isinstance" = none) (z_len : mg "len" = none) (z_str : mg "str" = none) (z_tuple : mg "tuple" = none) (c_law_is_gear : Cal P w K mg base 3 "_law_is_gear" 1 (fnM 1 3 m_law_is_gear)) (c_law_is_name : Cal P w K mg base 1 "_law_is_name" 1 (fnM 1 2 m_law_is_name)) (c_law_is_number : Cal P w K mg base 1 "_law_is_number" 1 (fnM 1 1 m_law_is_number)) (c_law_is_set : Cal P w K mg base 2 "_law_is_set" 1 (fnM 1 3 m_law_is_set)) : Cal P w K mg base 4 "_law_is_act" 1 (fnM 1 1 m_law_is_act) :=
  Fc.cal (N := n_law_is_act) (k := 3) (m := m_law_is_act) sc_law_is_act (by decide) fun f cdv A outer s H E hr => (ss_cons (s_if (t_w (w_or (t_not (tv (xisi kit_tuple z_isinstance z_tuple (xv 0)))) (w_or (tc_eq (xv 0) (x_tup a_nil)) (w_or1 (t_not (tv (xisi kit_str z_isinstance z_str (xix (xv 0) x_int)))))))) (ss_one (s_ret (f_dat x_bl))) ss_nil) (ss_cons (s_if (tc_eq (xix (xv 0) x_int) xs_) (ss_one (s_ret (f_dat (x_and (xc_eq (xlen z_len (xv 0)) x_int) (x_and (x_frz (xcall c_law_is_number (ac (xix (xv 0) x_int) a_nil))) (x_one (x_frz (xcall c_law_is_number (ac (xix (xv 0) x_int) a_nil))))))))) ss_nil) (ss_cons (s_if (tc_ne (xlen z_len (xv 0)) x_int) (ss_one (s_ret (f_dat x_bl))) ss_nil) (ss_cons (s_if (tc_in (xix (xv 0) x_int) (x_tup (ac xs_ (ac xs_ a_nil)))) (ss_one (s_ret (xcall c_law_is_number (ac (xix (xv 0) x_int) a_nil)))) ss_nil) (ss_cons (s_if (tc_eq (xix (xv 0) x_int) xs_) (ss_one (s_ret (xcall c_law_is_name (ac (xix (xv 0) x_int) a_nil)))) ss_nil) (ss_one (s_ret (f_dat (x_or (x_and (xc_eq (xix (xv 0) x_int) xs_) (x_one (x_frz (xcall c_law_is_gear (ac (xix (xv 0) x_int) a_nil))))) (x_one (x_and (xc_eq (xix (xv 0) x_int) xs_) (x_one (x_frz (xcall c_law_is_set (ac (xix (xv 0) x_int) a_nil)))))))))))))))
abbrev s_law_model_of : Stmt := top 41
@[reducible] def n_law_model_of : List Str := ["_law_gear_here", "_law_hush_here", "_law_model"]
theorem sc_law_model_of : FnScope n_law_model_of ["_law_gear_here", "_law_hush_here"] (defScope s_law_model_of) := ⟨rfl, rfl, rfl, by decide +kernel, rfl, by decide +kernel, by decide +kernel⟩
theorem ok_law_model_of (Fc : Df K mg "_law_model_of" s_law_model_of ["_law_gear_here", "_law_hush_here"]) : Cal P w K mg base 1 "_law_model_of" 2 (fnM 2 3 m_law_model_of) :=
  Fc.cal (N := n_law_model_of) (k := 0) (m := m_law_model_of) sc_law_model_of (by decide) fun f cdv A outer s H E hr => (ss_cons (sset 2 (sc_law_model_of).nd (f_disp (pp_cons (x_tup (ac xs_ (ac (xv 0) (ac (xv 1) a_nil)))) (pp_cons (x_tup (ac (xv 0) a_nil)) (pp_cons (x_tup (ac (x_tup (ac x_int a_nil)) a_nil)) (pp_cons x_int (pp_cons x_int (pp_cons (xv 1) pp_nil)))))))) (ss_cons (supd 2 (f_disp (pp_cons (x_tup a_nil) (pp_cons (x_tup a_nil) (pp_cons (x_tup a_nil) pp_nil))))) (ss_one (sretv 2))))
abbrev s_law_new_model : Stmt := top 42
@[reducible] def n_law_new_model : List Str := ["_law_rng", "_law_signs_here", "_law_gear_here"]
theorem sc_law_new_model : FnScope n_law_new_model ["_law_rng"] (defScope s_law_new_model) := ⟨rfl, rfl, rfl, by decide +kernel, rfl, by decide +kernel, by decide +kernel⟩
theorem ok_law_new_model (Fc : Df K mg "_law_new_model" s_law_new_model ["_law_rng"]) (c_law_draw : Cal P w K mg base 1 "_law_draw" 2 (fnM 2 6 m_law_draw)) (c_law_gear : Cal P w K mg base 2 "_law_gear" 2 (fnM 2 6 m_law_gear)) (c_law_hush : Cal P w K mg base 2 "_law_hush" 1 (fnM 1 2 m_law_hush)) (c_law_model_of : Cal P w K mg base 1 "_law_model_of" 2 (fnM 2 3 m_law_model_of)) (c_law_signs : Cal P w K mg base 2 "_law_signs" 1 (fnM 1 1 m_law_signs)) : Cal P w K mg base 3 "_law_new_model" 1 (fnM 1 3 m_law_new_model) :=
  Fc.cal (N := n_law_new_model) (k := 2) (m := m_law_new_model) sc_law_new_model (by decide) fun f cdv A outer s H E hr => (ss_cons (sset 1 (sc_law_new_model).nd (xcall c_law_signs (ac (xv 0) a_nil))) (ss_cons (sset 2 (sc_law_new_model).nd (xcall c_law_gear (ac (xv 0) (ac (xv 1) a_nil)))) (ss_one (s_ret (xcall c_law_model_of (ac (xv 2) (ac (x_if (tc_eq (x_frz (xcall c_law_draw (ac (xv 0) (ac x_int a_nil)))) x_int) (x_frz (xcall c_law_hush (ac (xv 0) a_nil))) (x_tup a_nil)) a_nil)))))))
abbrev s_law_saying : Stmt := top 43
@[reducible] def n_law_saying : List Str := ["_law_gear_here", "_law_at", "_law_depth", "_law_hush_here", "_law_found", "_law_further", "_law_word"]
theorem sc_law_saying : FnScope n_law_saying ["_law_gear_here", "_law_at", "_law_depth", "_law_hush_here"] (defScope s_law_saying) := ⟨rfl, rfl, rfl, by decide +kernel, rfl, by decide +kernel, by decide +kernel⟩
theorem ok_law_saying (Fc : Df K mg "_law_saying" s_law_saying ["_law_gear_here", "_law_at", "_law_depth", "_law_hush_here"]) (z_tuple : mg "tuple" = none) : ∀ n, Cal P w K mg base (0 + n) "_law_saying" 4 (f_law_saying n)
  | 0 => Fc.cal0 _
  | n + 1 => by
    have crec := ok_law_saying Fc z_tuple n
    have hrec := len_law_saying n
    exact Fc.cal (N := n_law_saying) (k := 0 + n) (m := m_law_saying (f_law_saying n)) sc_law_saying (by decide) fun f cdv A outer s H E hr => (ss_cons (s_if (tc_eq (xv 2) x_int) (ss_one (s_ret (f_dat (x_tup a_nil)))) ss_nil) (ss_cons (sset 4 (sc_law_saying).nd (f_lst a_nil)) (ss_cons (s_for PassesOwn.never rfl (i_seq (xix (xix (xv 0) x_int) (xv 1))) (g_tup rfl (g_cons (gn 5 (sc_law_saying).nd) (g_cons (gn 6 (sc_law_saying).nd) g_nil))) (ss_one (sapp 4 (x_tup (ac (x_if (tc_in (xv 6) (xv 3)) xs_ (xv 6)) (ac (x_frz (xcallF crec hrec (ac (xv 0) (ac (xv 5) (ac (xsub (xv 2) x_int) (ac (xv 3) a_nil)))))) a_nil)))))) (ss_one (s_ret (f_dat (xtuple z_tuple (xv 4))))))))
abbrev s_law_true_of : Stmt := top 44
@[reducible] def n_law_true_of : List Str := ["_law_gear_here", "_law_places_here", "_law_hush_here", "_law_count", "_law_trees", "_law_at", "_law_spot"]
theorem sc_law_true_of : FnScope n_law_true_of ["_law_gear_here", "_law_places_here", "_law_hush_here"] (defScope s_law_true_of) := ⟨rfl, rfl, rfl, by decide +kernel, rfl, by decide +kernel, by decide +kernel⟩
theorem ok_law_true_of (Fc : Df K mg "_law_true_of" s_law_true_of ["_law_gear_here", "_law_places_here", "_law_hush_here"]) (z_len : mg "len" = none) (z_range : mg "range" = none) (c_law_saying : Cal P w K mg base 5 "_law_saying" 4 (f_law_saying 5)) : Cal P w K mg base 6 "_law_true_of" 3 (fnM 3 7 m_law_true_of) :=
  Fc.cal (N := n_law_true_of) (k := 5) (m := m_law_true_of) sc_law_true_of (by decide) fun f cdv A outer s H E hr => (ss_cons (sset 3 (sc_law_true_of).nd (f_dat (xlen z_len (xix (xv 0) x_int)))) (ss_cons (sset 4 (sc_law_true_of).nd (f_lc rfl (sc_law_true_of).nd (irange z_range (xv 3)) (bok [("_law_at", 5)] rfl) (by decide) (fun _ _ _ _ _ => (gn 5 (sc_law_true_of).nd)) (fun _ _ _ _ _ => ts_nil) (fun _ _ _ _ _ => (x_frz (xcallF c_law_saying (len_law_saying 5) (ac (xv 0) (ac (xv 5) (ac (xv 3) (ac (xv 2) a_nil))))))))) (ss_one (s_ret (f_lc rfl (sc_law_true_of).nd (irange z_range (xv 3)) (bok [("_law_at", 5)] rfl) (by decide) (fun _ _ _ _ _ => (gn 5 (sc_law_true_of).nd)) (fun _ _ _ _ _ => (ts_one (tc_eq (x_frz (f_lc rfl (sc_law_true_of).nd (i_seq (xv 1)) (bok [("_law_spot", 6)] rfl) (by decide) (fun _ _ _ _ _ => (gn 6 (sc_law_true_of).nd)) (fun _ _ _ _ _ => (ts_one (tc_ne (xix (xv 4) (xv 6)) (xix (xv 4) (xv 5))))) (fun _ _ _ _ _ => (xv 6)))) (x_lst a_nil)))) (fun _ _ _ _ _ => (xv 5)))))))
abbrev s_law_places : Stmt := top 45
@[reducible] def n_law_places : List Str := ["_law_model", "_law_spot", "_law_one"]
theorem sc_law_places : FnScope n_law_places ["_law_model", "_law_spot"] (defScope s_law_places) := ⟨rfl, rfl, rfl, by decide +kernel, rfl, by decide +kernel, by decide +kernel⟩
theorem ok_law_places (Fc : Df K mg "_law_places" s_law_places ["_law_model", "_law_spot"]) (z_set : mg "set" = none) (z_sorted : mg "sorted" = none) : Cal P w K mg base 1 "_law_places" 2 (fnM 2 3 m_law_places) :=
  Fc.cal (N := n_law_places) (k := 0) (m := m_law_places) sc_law_places (by decide) fun f cdv A outer s H E hr => (ss_one (s_ret (f_dat (xsrtset rfl z_sorted z_set (x_frz (f_lc rfl (sc_law_places).nd (i_seq (xdix 0)) (bok [("_law_one", 2)] rfl) (by decide) (fun _ _ _ _ _ => (gn 2 (sc_law_places).nd)) (fun _ _ _ _ _ => ts_nil) (fun _ _ _ _ _ => (xix (xv 2) (xv 1)))))))))
abbrev s_law_true : Stmt := top 46
@[reducible] def n_law_true : List Str := ["_law_model", "_law_spot", "_law_hush_here"]
theorem sc_law_true : FnScope n_law_true ["_law_model", "_law_spot", "_law_hush_here"] (defScope s_law_true) := ⟨rfl, rfl, rfl, by decide +kernel, rfl, by decide +kernel, by decide +kernel⟩
theorem ok_law_true (Fc : Df K mg "_law_true" s_law_true ["_law_model", "_law_spot", "_law_hush_here"]) (c_law_places : Cal P w K mg base 1 "_law_places" 2 (fnM 2 3 m_law_places)) (c_law_true_of : Cal P w K mg base 6 "_law_true_of" 3 (fnM 3 7 m_law_true_of)) : Cal P w K mg base 7 "_law_true" 3 (fnM 3 3 m_law_true) :=
  Fc.cal (N := n_law_true) (k := 6) (m := m_law_true) sc_law_true (by decide) fun f cdv A outer s H E hr => (ss_one (s_ret (xcall c_law_true_of (ac (xix (xdix 0) (xv 1)) (ac (x_frz (xcall c_law_places (ac (xv 0) (ac (xv 1) a_nil)))) (ac (xv 2) a_nil))))))
abbrev s_law_is_true : Stmt := top 47
@[reducible] def n_law_is_true : List Str := ["_law_model", "_law_hush_here"]
theorem sc_law_is_true : FnScope n_law_is_true ["_law_model", "_law_hush_here"] (defScope s_law_is_true) := ⟨rfl, rfl, rfl, by decide +kernel, rfl, by decide +kernel, by decide +kernel⟩
theorem ok_law_is_true (Fc : Df K mg "_law_is_true" s_law_is_true ["_law_model", "_law_hush_here"]) (c_law_true : Cal P w K mg base 7 "_law_true" 3 (fnM 3 3 m_law_true)) : Cal P w K mg base 8 "_law_is_true" 2 (fnM 2 2 m_law_is_true) :=
  Fc.cal (N := n_law_is_true) (k := 7) (m := m_law_is_true) sc_law_is_true (by decide) fun f cdv A outer s H E hr => (ss_one (s_ret (f_dat (xc_in (xdix 0) (x_frz (xcall c_law_true (ac (xv 0) (ac (xdix 0) (ac (xv 1) a_nil)))))))))
abbrev s_law_reached : Stmt := top 48
@[reducible] def n_law_reached : List Str := ["_law_gears", "_law_found", "_law_rest", "_law_here", "_law_at", "_law_there", "_law_gear_here", "_law_spot"]
theorem sc_law_reached : FnScope n_law_reached ["_law_gears"] (defScope s_law_reached) := ⟨rfl, rfl, rfl, by decide +kernel, rfl, by decide +kernel, by decide +kernel⟩
theorem ok_law_reached (Fc : Df K mg "_law_reached" s_law_reached ["_law_gears"]) (z_len : mg "len" = none) (z_range : mg "range" = none) (z_sorted : mg "sorted" = none) (z_tuple : mg "tuple" = none) (z_zip : mg "zip" = none) : Cal P w K mg base 1 "_law_reached" 1 (fnM 1 8 m_law_reached) :=
  Fc.cal (N := n_law_reached) (k := 0) (m := m_law_reached) sc_law_reached (by decide) fun f cdv A outer s H E hr => (ss_cons (spar2 1 2 (sc_law_reached).nd (b_cons (f_dispT (xmul (x_tup (ac x_int a_nil)) (xlen z_len (xv 0)))) (b_cons (f_lst (ac (xmul (x_tup (ac x_int a_nil)) (xlen z_len (xv 0))) a_nil)) b_nil))) (ss_cons (s_while PassesOwn.never (t_ownne 2) (ss_cons (spop 3 2 (sc_law_reached).nd) (ss_one (s_for PassesOwn.never rfl (irange z_range (xlen z_len (xix (xix (xv 0) x_int) x_int))) (gn 4 (sc_law_reached).nd) (ss_cons (sset 5 (sc_law_reached).nd (f_dat (xtuple z_tuple (x_frz (f_lc rfl (sc_law_reached).nd (izip z_zip (ac (xv 0) (ac (xv 3) a_nil))) (bok [("_law_gear_here", 6), ("_law_spot", 7)] rfl) (by decide) (fun _ _ _ _ _ => (g_tup rfl (g_cons (gn 6 (sc_law_reached).nd) (g_cons (gn 7 (sc_law_reached).nd) g_nil)))) (fun _ _ _ _ _ => ts_nil) (fun _ _ _ _ _ => (xix (xix (xix (xix (xv 6) x_int) (xv 7)) (xv 4)) x_int))))))) (ss_one (s_if (tc_nit 1 (xv 5)) (ss_cons (stst 1 5) (ss_one (sapp 2 (xv 5)))) ss_nil))))))) (ss_one (s_ret (f_dat (xsrtT 1 rfl z_sorted))))))
abbrev s_law_reason : Stmt := top 49
@[reducible] def n_law_reason : List Str := ["_law_model", "_law_act_here", "_law_count"]
theorem sc_law_reason : FnScope n_law_reason ["_law_model", "_law_act_here"] (defScope s_law_reason) := ⟨rfl, rfl, rfl, by decide +kernel, rfl, by decide +kernel, by decide +kernel⟩
theorem ok_law_reason (Fc : Df K mg "_law_reason" s_law_reason ["_law_model", "_law_act_here"]) (z_len : mg "len" = none) (c_law_is_act : Cal P w K mg base 4 "_law_is_act" 1 (fnM 1 1 m_law_is_act)) (c_law_is_true : Cal P w K mg base 8 "_law_is_true" 2 (fnM 2 2 m_law_is_true)) (c_law_true : Cal P w K mg base 7 "_law_true" 3 (fnM 3 3 m_law_true)) : Cal P w K mg base 9 "_law_reason" 2 (fnM 2 3 m_law_reason) :=
  Fc.cal (N := n_law_reason) (k := 8) (m := m_law_reason) sc_law_reason (by decide) fun f cdv A outer s H E hr => (ss_cons (sset 2 (sc_law_reason).nd (f_dat (xlen z_len (xdix 0)))) (ss_cons (s_if (t_w (w_or (t_not (tv (x_frz (xcall c_law_is_act (ac (xv 1) a_nil))))) (w_or1 (tc_eq (xlen z_len (xdix 0)) x_int)))) (ss_one (s_ret (f_if (tv (x_frz (xcall c_law_is_act (ac (xv 1) a_nil)))) (f_dat xs_) (f_dat xs_)))) ss_nil) (ss_cons (s_if (tc_eq (xix (xv 1) x_int) xs_) (ss_one (s_ret (f_if (tc_in (xix (xv 1) x_int) (xix (xix (xdix 0) x_int) x_int)) (f_dat x_non) (f_dat xs_)))) ss_nil) (ss_cons (s_if (tc_eq (xix (xv 1) x_int) xs_) (ss_one (s_ret (f_if (tc_ne (xix (xix (xv 1) x_int) x_int) (xix (xix (xdix 0) x_int) x_int)) (f_dat xs_) (f_if (tc_eq (xv 2) x_int) (f_dat xs_) (f_dat x_non))))) ss_nil) (ss_cons (s_if (tc_eq (xix (xv 1) x_int) xs_) (ss_one (s_ret (f_if (t_w (w_and (tv (x_frz (xcall c_law_is_true (ac (xv 0) (ac (xdix 0) a_nil))))) (w_and1 (t_not (tv (x_frz (xcall c_law_is_true (ac (xv 0) (ac (xix (xv 1) x_int) a_nil))))))))) (f_dat xs_) (f_dat x_non)))) ss_nil) (ss_cons (s_if (tc_ge (xix (xv 1) x_int) (xv 2)) (ss_one (s_ret (f_dat xs_))) ss_nil) (ss_cons (s_if (tc_eq (xix (xv 1) x_int) xs_) (ss_one (s_ret (f_if (tc_ge (xix (xv 1) x_int) (xlen z_len (xix (xix (xdix 0) (xix (xv 1) x_int)) x_int))) (f_dat xs_) (f_dat x_non)))) ss_nil) (ss_cons (s_if (tc_eq (xix (xv 1) x_int) xs_) (ss_one (s_ret (f_if (tc_eq (xix (xv 1) x_int) (xdix 0)) (f_dat xs_) (f_dat x_non)))) ss_nil) (ss_cons (s_if (t_w (w_and (tc_eq (xix (xv 1) x_int) (xdix 0)) (w_and1 (tv (x_frz (xcall c_law_is_true (ac (xv 0) (ac (xdix 0) a_nil)))))))) (ss_one (s_ret (f_dat xs_))) ss_nil) (ss_one (s_ret (f_if (tc_eq (x_frz (xcall c_law_true (ac (xv 0) (ac (xix (xv 1) x_int) (ac (xdix 0) a_nil))))) (x_lst a_nil)) (f_dat xs_) (f_dat x_non)))))))))))))
abbrev s_law_read : Stmt := top 50
@[reducible] def n_law_read : List Str := ["_law_model", "_law_sign", "_law_at", "_law_word", "_law_there", "_law_fresh", "_law_gears", "_law_live", "_law_further", "_law_one", "_law_gear_here", "_law_spot"]
theorem sc_law_read : FnScope n_law_read ["_law_model", "_law_sign"] (defScope s_law_read) := ⟨rfl, rfl, rfl, by decide +kernel, rfl, by decide +kernel, by decide +kernel⟩
theorem ok_law_read (Fc : Df K mg "_law_read" s_law_read ["_law_model", "_law_sign"]) (z_dict : mg "dict" = none) (z_set : mg "set" = none) (z_sorted : mg "sorted" = none) (z_tuple : mg "tuple" = none) (z_zip : mg "zip" = none) : Cal P w K mg base 1 "_law_read" 2 (fnM 2 12 m_law_read) :=
  Fc.cal (N := n_law_read) (k := 0) (m := m_law_read) sc_law_read (by decide) fun f cdv A outer s H E hr => (ss_cons (sparc3 5 6 7 (sc_law_read).nd (b_cons (xdcp z_dict (xv 0)) (b_cons (f_dat (xdix 0)) (b_cons (f_dat (xdix 0)) b_nil)))) (ss_cons (sset 2 (sc_law_read).nd (f_dat (xtix (xix (xix (xv 6) x_int) x_int) (xv 1)))) (ss_cons (sunp (xix (xix (xix (xix (xv 6) (xv 7)) x_int) (xdix 0)) (xv 2)) (h_tup rfl (h_cons (hn 8 (sc_law_read).nd) (h_cons (hn 3 (sc_law_read).nd) h_nil)))) (ss_cons (sset 3 (sc_law_read).nd (f_if (tc_in (xv 3) (xdix 0)) (f_dat xs_) (f_dat (xv 3)))) (ss_cons (s_setLc rfl (sc_law_read).nd rfl rfl (sw_true rfl rfl rfl rfl) (i_seq (xdix 0)) (bok [("_law_one", 9)] rfl) (by decide) (fun _ _ _ _ _ => (gn 9 (sc_law_read).nd)) (fun _ _ _ _ _ => ts_nil) (fun _ _ _ _ _ => (xtuple z_tuple (x_frz (f_lc rfl (sc_law_read).nd (izip z_zip (ac (xv 6) (ac (xv 9) a_nil))) (bok [("_law_gear_here", 10), ("_law_spot", 11)] rfl) (by decide) (fun _ _ _ _ _ => (g_tup rfl (g_cons (gn 10 (sc_law_read).nd) (g_cons (gn 11 (sc_law_read).nd) g_nil)))) (fun _ _ _ _ _ => ts_nil) (fun _ _ _ _ _ => (xix (xix (xix (xix (xv 10) x_int) (xv 11)) (xv 2)) x_int))))))) (ss_cons (sunp (x_tup (ac (xtuple z_tuple (xsrtset rfl z_sorted z_set (xv 4))) (ac (xv 8) a_nil))) (h_tup rfl (h_cons (hd 5) (h_cons (hd 5) h_nil)))) (ss_cons (sdst 5 (xadd (xdix 0) (x_tup (ac (xv 1) a_nil)))) (ss_cons (sdst 5 (xadd (xdix 0) (x_tup (ac (x_tup (ac (xix (xv 6) (xv 7)) (ac (xdix 0) (ac (xv 3) a_nil)))) a_nil)))) (ss_one (sretv 5))))))))))
abbrev s_law_moved : Stmt := top 51
@[reducible] def n_law_moved : List Str := ["_law_model", "_law_act_here", "_law_fresh", "_law_one", "_law_at"]
theorem sc_law_moved : FnScope n_law_moved ["_law_model", "_law_act_here"] (defScope s_law_moved) := ⟨rfl, rfl, rfl, by decide +kernel, rfl, by decide +kernel, by decide +kernel⟩
theorem ok_law_moved (Fc : Df K mg "_law_moved" s_law_moved ["_law_model", "_law_act_here"]) (z_dict : mg "dict" = none) (z_int : mg "int" = none) (z_set : mg "set" = none) (z_sorted : mg "sorted" = none) (z_tuple : mg "tuple" = none) (c_law_reached : Cal P w K mg base 1 "_law_reached" 1 (fnM 1 8 m_law_reached)) (c_law_read : Cal P w K mg base 1 "_law_read" 2 (fnM 2 12 m_law_read)) (c_law_true : Cal P w K mg base 7 "_law_true" 3 (fnM 3 3 m_law_true)) : Cal P w K mg base 8 "_law_moved" 2 (fnM 2 5 m_law_moved) :=
  Fc.cal (N := n_law_moved) (k := 7) (m := m_law_moved) sc_law_moved (by decide) fun f cdv A outer s H E hr => (ss_cons (sset 2 (sc_law_moved).nd (f_if (tc_eq (xix (xv 1) x_int) xs_) (xcall c_law_read (ac (xv 0) (ac (xix (xv 1) x_int) a_nil))) (xdcp z_dict (xv 0)))) (ss_cons (sdst 2 (xadd (xdix 0) (x_tup (ac (xv 1) a_nil)))) (ss_cons (s_if (tc_eq (xix (xv 1) x_int) xs_) (ss_cons (sdst 2 (xadd (xdix 0) (x_tup (ac (xix (xv 1) x_int) a_nil)))) (ss_one (sdst 2 (xtuple z_tuple (x_frz (f_lc rfl (sc_law_moved).nd (i_seq (x_frz (xcall c_law_reached (ac (xdix 2) a_nil)))) (bok [("_law_one", 3)] rfl) (by decide) (fun _ _ _ _ _ => (gn 3 (sc_law_moved).nd)) (fun _ _ _ _ _ => (ts_one (tc_in (x_sl (xv 3) p_none (p_some x_neg)) (xdix 0)))) (fun _ _ _ _ _ => (xv 3)))))))) (ss_one (s_if (tc_eq (xix (xv 1) x_int) xs_) (ss_one (sunp (x_tup (ac (xix (xv 1) x_int) (ac (xix (x_frz (xcall c_law_true (ac (xv 0) (ac (xix (xv 1) x_int) (ac (xdix 0) a_nil))))) x_int) a_nil))) (h_tup rfl (h_cons (hd 2) (h_cons (hd 2) h_nil))))) (ss_one (s_if (tc_eq (xix (xv 1) x_int) xs_) (ss_one (sunp (x_tup (ac (xix (xv 1) x_int) (ac (xix (xv 1) x_int) a_nil))) (h_tup rfl (h_cons (hd 2) (h_cons (hd 2) h_nil))))) (ss_one (s_if (tc_eq (xix (xv 1) x_int) xs_) (ss_one (sdst 2 (xix (xv 1) x_int))) (ss_one (s_if (tc_eq (xix (xv 1) x_int) xs_) (ss_cons (sset 4 (sc_law_moved).nd (f_dat (xix (xv 1) x_int))) (ss_cons (sdst 2 (xadd (x_sl (xdix 0) p_none (p_some (xv 4))) (x_sl (xdix 0) (p_some (xadd (xv 4) x_int)) p_none))) (ss_cons (sdst 2 (xtuple z_tuple (xsrtset rfl z_sorted z_set (x_frz (f_lc rfl (sc_law_moved).nd (i_seq (xdix 0)) (bok [("_law_one", 3)] rfl) (by decide) (fun _ _ _ _ _ => (gn 3 (sc_law_moved).nd)) (fun _ _ _ _ _ => ts_nil) (fun _ _ _ _ _ => (xadd (x_sl (xv 3) p_none (p_some (xv 4))) (x_sl (xv 3) (p_some (xadd (xv 4) x_int)) p_none)))))))) (ss_one (sdst 2 (xsub (xdix 0) (xint z_int (xc_lt (xv 4) (xdix 0))))))))) ss_nil))))))))) (ss_one (sretv 2)))))
abbrev s_law_next : Stmt := top 52
@[reducible] def n_law_next : List Str := ["_law_model", "_law_act_here", "_law_why", "_law_fresh"]
theorem sc_law_next : FnScope n_law_next ["_law_model", "_law_act_here"] (defScope s_law_next) := ⟨rfl, rfl, rfl, by decide +kernel, rfl, by decide +kernel, by decide +kernel⟩
theorem ok_law_next (Fc : Df K mg "_law_next" s_law_next ["_law_model", "_law_act_here"]) (c_law_moved : Cal P w K mg base 8 "_law_moved" 2 (fnM 2 5 m_law_moved)) (c_law_reason : Cal P w K mg base 9 "_law_reason" 2 (fnM 2 3 m_law_reason)) : Cal P w K mg base 10 "_law_next" 2 (fnM 2 4 m_law_next) :=
  Fc.cal (N := n_law_next) (k := 9) (m := m_law_next) sc_law_next (by decide) fun f cdv A outer s H E hr => (ss_cons (sset 2 (sc_law_next).nd (xcall c_law_reason (ac (xv 0) (ac (xv 1) a_nil)))) (ss_cons (s_if (tc_isn (xv 2) x_non) (ss_one (s_ret (f_dat (x_tup (ac (xv 0) (ac (x_tup (ac xs_ (ac (xv 1) (ac (xv 2) a_nil)))) a_nil)))))) ss_nil) (ss_cons (sset 3 (sc_law_next).nd (xcall c_law_moved (ac (xv 0) (ac (xv 1) a_nil)))) (ss_one (s_ret (f_dat (x_tup (ac (xv 3) (ac (x_tup (ac xs_ (ac (x_if (tc_eq (xix (xv 1) x_int) xs_) (xix (xix (xdix 3) x_neg) x_int) xs_) a_nil))) a_nil)))))))))
abbrev s_law_odd : Stmt := top 54
@[reducible] def n_law_odd : List Str := ["_law_rng", "_law_model", "_law_some", "_law_gear_here", "_law_count"]
theorem sc_law_odd : FnScope n_law_odd ["_law_rng", "_law_model"] (defScope s_law_odd) := ⟨rfl, rfl, rfl, by decide +kernel, rfl, by decide +kernel, by decide +kernel⟩
theorem ok_law_odd (Fc : Df K mg "_law_odd" s_law_odd ["_law_rng", "_law_model"]) (z_len : mg "len" = none) (z_list : mg "list" = none) (c_law_draw : Cal P w K mg base 1 "_law_draw" 2 (fnM 2 6 m_law_draw)) : Cal P w K mg base 2 "_law_odd" 2 (fnM 2 5 m_law_odd) :=
  Fc.cal (N := n_law_odd) (k := 1) (m := m_law_odd) sc_law_odd (by decide) fun f cdv A outer s H E hr => (ss_cons (spar2 3 4 (sc_law_odd).nd (b_cons (f_dat (xix (xdix 1) x_int)) (b_cons (f_dat (xlen z_len (xdix 1))) b_nil))) (ss_cons (sset 2 (sc_law_odd).nd (f_lst (ac (x_tup (ac xs_ (ac xs_ a_nil))) (ac (x_tup (ac xs_ (ac xs_ a_nil))) (ac (x_tup (ac xs_ (ac x_non a_nil))) (ac (x_tup (ac xs_ a_nil)) (ac (x_tup (ac xs_ (ac (x_tup (ac (x_tup (ac xs_ a_nil)) (ac (x_tup (ac (x_tup (ac (x_tup (ac x_int (ac xs_ a_nil))) a_nil)) a_nil)) a_nil))) a_nil))) (ac (x_tup (ac xs_ (ac x_non a_nil))) a_nil)))))))) (ss_cons (sset 2 (sc_law_odd).nd (f_add (xv 2) (x_lst (ac (x_tup (ac xs_ (ac (x_tup (ac (xix (xv 3) x_int) (ac (x_tup a_nil) a_nil))) a_nil))) (ac (x_tup (ac xs_ (ac (x_tup (ac (xix (xv 3) x_int) (ac (xadd (xix (xv 3) x_int) (x_tup (ac (x_tup a_nil) a_nil))) a_nil))) a_nil))) (ac (x_tup (ac xs_ (ac (xlist z_list (xv 3)) a_nil))) (ac (x_tup (ac xs_ (ac (xv 3) a_nil))) a_nil))))))) (ss_cons (sset 2 (sc_law_odd).nd (f_add (xv 2) (x_lst (ac (x_tup (ac xs_ (ac (xv 4) a_nil))) (ac (x_tup (ac xs_ (ac x_neg a_nil))) (ac (x_tup (ac xs_ (ac x_bl a_nil))) (ac (x_tup (ac xs_ (ac (xdix 1) a_nil))) (ac (x_tup (ac xs_ a_nil)) a_nil)))))))) (ss_cons (sset 2 (sc_law_odd).nd (f_add (xv 2) (x_lst (ac (x_tup (ac xs_ (ac (xv 4) (ac x_int a_nil)))) (ac (x_tup (ac xs_ (ac x_int (ac x_int a_nil)))) (ac (x_tup (ac xs_ (ac x_int a_nil))) (ac (x_tup (ac xs_ (ac x_int (ac x_bl a_nil)))) (ac (x_tup (ac xs_ (ac x_int (ac x_neg a_nil)))) a_nil)))))))) (ss_cons (sset 2 (sc_law_odd).nd (f_add (xv 2) (x_lst (ac (x_tup (ac xs_ (ac (x_tup (ac xs_ (ac xs_ a_nil))) a_nil))) (ac (x_tup (ac xs_ (ac (x_tup (ac xs_ a_nil)) a_nil))) (ac (x_tup (ac xs_ (ac xs_ a_nil))) (ac (x_tup (ac xs_ (ac (x_lst (ac xs_ a_nil)) a_nil))) (ac (x_tup (ac xs_ (ac (x_tup (ac xs_ (ac xs_ a_nil))) a_nil))) a_nil)))))))) (ss_cons (sset 2 (sc_law_odd).nd (f_add (xv 2) (x_lst (ac (x_tup (ac xs_ (ac (xadd (xv 4) x_int) a_nil))) (ac (x_tup (ac xs_ (ac (xdix 1) a_nil))) (ac (x_tup (ac xs_ (ac x_non a_nil))) (ac (x_tup (ac xs_ a_nil)) (ac x_non (ac (x_tup a_nil) a_nil))))))))) (ss_cons (sapp 2 (x_lst (ac xs_ (ac xs_ a_nil)))) (ss_one (s_ret (f_dat (xix (xv 2) (x_frz (xcall c_law_draw (ac (xv 0) (ac (xlen z_len (xv 2)) a_nil))))))))))))))))
abbrev s_law_act : Stmt := top 53
@[reducible] def n_law_act : List Str := ["_law_rng", "_law_model", "_law_draw_here", "_law_count", "_law_signs_here", "_law_at"]
theorem sc_law_act : FnScope n_law_act ["_law_rng", "_law_model"] (defScope s_law_act) := ⟨rfl, rfl, rfl, by decide +kernel, rfl, by decide +kernel, by decide +kernel⟩
theorem ok_law_act (Fc : Df K mg "_law_act" s_law_act ["_law_rng", "_law_model"]) (z_len : mg "len" = none) (c_law_draw : Cal P w K mg base 1 "_law_draw" 2 (fnM 2 6 m_law_draw)) (c_law_gear : Cal P w K mg base 2 "_law_gear" 2 (fnM 2 6 m_law_gear)) (c_law_hush : Cal P w K mg base 2 "_law_hush" 1 (fnM 1 2 m_law_hush)) (c_law_odd : Cal P w K mg base 2 "_law_odd" 2 (fnM 2 5 m_law_odd)) : Cal P w K mg base 3 "_law_act" 2 (fnM 2 6 m_law_act) :=
  Fc.cal (N := n_law_act) (k := 2) (m := m_law_act) sc_law_act (by decide) fun f cdv A outer s H E hr => (ss_cons (spar3 2 3 4 (sc_law_act).nd (b_cons (xcall c_law_draw (ac (xv 0) (ac x_int a_nil))) (b_cons (f_dat (xlen z_len (xdix 1))) (b_cons (f_dat (xix (xix (xdix 1) x_int) x_int)) b_nil)))) (ss_cons (s_if (tc_lt (xv 2) x_int) (ss_one (s_ret (xcall c_law_odd (ac (xv 0) (ac (xv 1) a_nil))))) ss_nil) (ss_cons (s_if (t_w (w_and (tc_lt (xv 2) x_int) (w_and1 (tc_lt (xv 3) x_int)))) (ss_one (s_ret (f_dat (x_tup (ac xs_ (ac (x_frz (xcall c_law_gear (ac (xv 0) (ac (xv 4) a_nil)))) a_nil)))))) ss_nil) (ss_cons (s_if (tc_in (xv 2) (x_tup (ac x_int (ac x_int (ac x_int a_nil))))) (ss_one (s_ret (f_dat (x_tup (ac xs_ (ac (x_frz (xcall c_law_draw (ac (xv 0) (ac (xv 3) a_nil)))) a_nil)))))) ss_nil) (ss_cons (s_if (tc_eq (xv 2) x_int) (ss_cons (sset 5 (sc_law_act).nd (xcall c_law_draw (ac (xv 0) (ac (xv 3) a_nil)))) (ss_one (s_ret (f_dat (x_tup (ac xs_ (ac (xv 5) (ac (x_frz (xcall c_law_draw (ac (xv 0) (ac (xlen z_len (xix (xix (xdix 1) (xv 5)) x_int)) a_nil)))) a_nil)))))))) ss_nil) (ss_cons (s_if (tc_eq (xv 2) x_int) (ss_one (s_ret (f_dat (x_tup (ac xs_ (ac (x_frz (xcall c_law_hush (ac (xv 0) a_nil))) a_nil)))))) ss_nil) (ss_one (s_ret (f_if (tc_eq (xv 2) x_int) (f_dat (x_tup (ac xs_ (ac (x_frz (xcall c_law_draw (ac (xv 0) (ac (xv 3) a_nil)))) a_nil)))) (f_dat (x_tup (ac xs_ (ac (xix (xv 4) (x_frz (xcall c_law_draw (ac (xv 0) (ac (xlen z_len (xv 4)) a_nil))))) a_nil)))))))))))))
abbrev s_law_old : Stmt := top 55
@[reducible] def n_law_old : List Str := []
theorem sc_law_old : FnScope n_law_old [] (defScope s_law_old) := ⟨rfl, rfl, rfl, by decide +kernel, rfl, by decide +kernel, by decide +kernel⟩
theorem ok_law_old (Fc : Df K mg "_law_old" s_law_old []) : Cal P w K mg base 1 "_law_old" 0 (fnM 0 0 m_law_old) :=
  Fc.cal (N := n_law_old) (k := 0) (m := m_law_old) sc_law_old (by decide) fun f cdv A outer s H E hr => (ss_one (s_ret (f_dat (x_tup (ac (x_tup (ac xs_ (ac xs_ a_nil))) (ac (x_tup (ac (x_tup (ac (x_tup (ac x_int (ac xs_ a_nil))) (ac (x_tup (ac x_int (ac xs_ a_nil))) a_nil))) (ac (x_tup (ac (x_tup (ac x_int (ac xs_ a_nil))) (ac (x_tup (ac x_int (ac xs_ a_nil))) a_nil))) a_nil))) a_nil))))))
abbrev s_law_new : Stmt := top 56
@[reducible] def n_law_new : List Str := []
theorem sc_law_new : FnScope n_law_new [] (defScope s_law_new) := ⟨rfl, rfl, rfl, by decide +kernel, rfl, by decide +kernel, by decide +kernel⟩
theorem ok_law_new (Fc : Df K mg "_law_new" s_law_new []) : Cal P w K mg base 1 "_law_new" 0 (fnM 0 0 m_law_new) :=
  Fc.cal (N := n_law_new) (k := 0) (m := m_law_new) sc_law_new (by decide) fun f cdv A outer s H E hr => (ss_one (s_ret (f_dat (x_tup (ac (x_tup (ac xs_ (ac xs_ a_nil))) (ac (x_tup (ac (x_tup (ac (x_tup (ac x_int (ac xs_ a_nil))) (ac (x_tup (ac x_int (ac xs_ a_nil))) a_nil))) (ac (x_tup (ac (x_tup (ac x_int (ac xs_ a_nil))) (ac (x_tup (ac x_int (ac xs_ a_nil))) a_nil))) (ac (x_tup (ac (x_tup (ac x_int (ac xs_ a_nil))) (ac (x_tup (ac x_int (ac xs_ a_nil))) a_nil))) a_nil)))) a_nil))))))
abbrev s_law_is_log : Stmt := top 57
@[reducible] def n_law_is_log : List Str := ["_law_stray", "_law_word", "_law_gear_here", "_law_hush_here", "_law_act_here"]
theorem sc_law_is_log : FnScope n_law_is_log ["_law_stray"] (defScope s_law_is_log) := ⟨rfl, rfl, rfl, by decide +kernel, rfl, by decide +kernel, by decide +kernel⟩
theorem ok_law_is_log (Fc : Df K mg "_law_is_log" s_law_is_log ["_law_stray"]) (z_isinstance : mg "isinstance" = none) (z_len : mg "len" = none) (z_str : mg "str" = none) (z_tuple : mg "tuple" = none) (c_law_is_act : Cal P w K mg base 4 "_law_is_act" 1 (fnM 1 1 m_law_is_act)) (c_law_is_gear : Cal P w K mg base 3 "_law_is_gear" 1 (fnM 1 3 m_law_is_gear)) (c_law_is_set : Cal P w K mg base 2 "_law_is_set" 1 (fnM 1 3 m_law_is_set)) : Cal P w K mg base 5 "_law_is_log" 1 (fnM 1 5 m_law_is_log) :=
  Fc.cal (N := n_law_is_log) (k := 4) (m := m_law_is_log) sc_law_is_log (by decide) fun f cdv A outer s H E hr => (ss_cons (s_if (t_w (w_or (t_not (tv (xisi kit_tuple z_isinstance z_tuple (xv 0)))) (w_or (tc_eq (xv 0) (x_tup a_nil)) (w_or (t_not (tv (xisi kit_tuple z_isinstance z_tuple (xix (xv 0) x_int)))) (w_or1 (tc_ne (xlen z_len (xix (xv 0) x_int)) x_int)))))) (ss_one (s_ret (f_dat x_bl))) ss_nil) (ss_cons (sunp (xix (xv 0) x_int) (h_tup rfl (h_cons (hn 1 (sc_law_is_log).nd) (h_cons (hn 2 (sc_law_is_log).nd) (h_cons (hn 3 (sc_law_is_log).nd) h_nil))))) (ss_cons (s_if (t_w (w_or (t_not (tv (xisi kit_str z_isinstance z_str (xv 1)))) (w_or (tc_ne (xv 1) xs_) (w_or (t_not (tv (x_frz (xcall c_law_is_gear (ac (xv 2) a_nil))))) (w_or1 (t_not (tv (x_frz (xcall c_law_is_set (ac (xv 3) a_nil)))))))))) (ss_one (s_ret (f_dat x_bl))) ss_nil) (ss_one (s_ret (f_dat (xc_eq (x_frz (f_lc rfl (sc_law_is_log).nd (i_seq (x_sl (xv 0) (p_some x_int) p_none)) (bok [("_law_act_here", 4)] rfl) (by decide) (fun _ _ _ _ _ => (gn 4 (sc_law_is_log).nd)) (fun _ _ _ _ _ => (ts_one (t_not (tv (x_frz (xcall c_law_is_act (ac (xv 4) a_nil))))))) (fun _ _ _ _ _ => (xv 4)))) (x_lst a_nil))))))))
abbrev s_law_changed : Stmt := top 58
@[reducible] def n_law_changed : List Str := ["_law_rng", "_law_stray", "_law_some", "_law_at"]
theorem sc_law_changed : FnScope n_law_changed ["_law_rng", "_law_stray"] (defScope s_law_changed) := ⟨rfl, rfl, rfl, by decide +kernel, rfl, by decide +kernel, by decide +kernel⟩
theorem ok_law_changed (Fc : Df K mg "_law_changed" s_law_changed ["_law_rng", "_law_stray"]) (z_bool : mg "bool" = none) (z_int : mg "int" = none) (z_isinstance : mg "isinstance" = none) (z_len : mg "len" = none) (z_list : mg "list" = none) (z_tuple : mg "tuple" = none) (c_law_draw : Cal P w K mg base 1 "_law_draw" 2 (fnM 2 6 m_law_draw)) : ∀ n, Cal P w K mg base (1 + n) "_law_changed" 2 (f_law_changed n)
  | 0 => Fc.cal0 _
  | n + 1 => by
    have crec := ok_law_changed Fc z_bool z_int z_isinstance z_len z_list z_tuple c_law_draw n
    have hrec := len_law_changed n
    exact Fc.cal (N := n_law_changed) (k := 1 + n) (m := m_law_changed (f_law_changed n)) sc_law_changed (by decide) fun f cdv A outer s H E hr => (ss_cons (s_if (t_w (w_and (tv (xisi kit_tuple z_isinstance z_tuple (xv 1))) (w_and (tc_ne (xv 1) (x_tup a_nil)) (w_and1 (tc_gt (x_frz (xcall c_law_draw (ac (xv 0) (ac x_int a_nil)))) x_int))))) (ss_cons (sset 3 (sc_law_changed).nd (xcall c_law_draw (ac (xv 0) (ac (xlen z_len (xv 1)) a_nil)))) (ss_one (s_ret (f_add (xadd (x_sl (xv 1) p_none (p_some (xv 3))) (x_tup (ac (x_frz (xcallF crec hrec (ac (xv 0) (ac (xix (xv 1) (xv 3)) a_nil)))) a_nil))) (x_sl (xv 1) (p_some (xadd (xv 3) x_int)) p_none))))) ss_nil) (ss_cons (s_if (tv (xisi kit_tuple z_isinstance z_tuple (xv 1))) (ss_cons (sset 3 (sc_law_changed).nd (xcall c_law_draw (ac (xv 0) (ac (xadd (xlen z_len (xv 1)) x_int) a_nil)))) (ss_cons (sset 2 (sc_law_changed).nd (f_lst (ac (xadd (x_sl (xv 1) p_none (p_some (xv 3))) (x_sl (xv 1) (p_some (xadd (xv 3) x_int)) p_none)) (ac (xadd (xadd (x_sl (xv 1) p_none (p_some (xv 3))) (x_sl (xv 1) (p_some (xv 3)) (p_some (xadd (xv 3) x_int)))) (x_sl (xv 1) (p_some (xv 3)) p_none)) (ac (xrev (xv 1)) a_nil))))) (ss_one (s_ret (f_dat (xix (xadd (xv 2) (x_lst (ac (xlist z_list (xv 1)) (ac (xadd (xv 1) (x_tup (ac xs_ a_nil))) (ac (x_tup a_nil) a_nil))))) (x_frz (xcall c_law_draw (ac (xv 0) (ac x_int a_nil)))))))))) ss_nil) (ss_cons (s_if (t_w (w_and (tv (xisi kit_int z_isinstance z_int (xv 1))) (w_and1 (t_not (tv (xisi kit_bool z_isinstance z_bool (xv 1))))))) (ss_one (s_ret (f_dat (xix (x_lst (ac (xadd (xv 1) x_int) (ac (xsub x_neg (xv 1)) (ac x_int (ac (xc_eq (xv 1) x_int) (ac x_non (ac xs_ a_nil))))))) (x_frz (xcall c_law_draw (ac (xv 0) (ac x_int a_nil)))))))) ss_nil) (ss_cons (sset 2 (sc_law_changed).nd (f_lst (ac xs_ (ac xs_ (ac xs_ (ac xs_ (ac xs_ (ac xs_ (ac xs_ (ac xs_ (ac xs_ (ac xs_ (ac xs_ (ac x_int (ac x_non (ac x_bl a_nil)))))))))))))))) (ss_one (s_ret (f_dat (xix (xv 2) (x_frz (xcall c_law_draw (ac (xv 0) (ac x_int a_nil))))))))))))
abbrev s_law_check : Stmt := top 59
@[reducible] def n_law_check : List Str := ["_law_stray", "_law_saved", "_law_due"]
theorem sc_law_check : FnScope n_law_check ["_law_stray"] (defScope s_law_check) := ⟨rfl, rfl, rfl, by decide +kernel, rfl, by decide +kernel, by decide +kernel⟩
theorem ok_law_check (Fc : Df K mg "_law_check" s_law_check ["_law_stray"]) (z_repr : mg "repr" = none) (c_law_is_log : Cal P w K mg base 5 "_law_is_log" 1 (fnM 1 5 m_law_is_log)) (cis_log : Cal P w K mg base 10 "is_log" 1 (fnM 1 1 mis_log)) (cKis_log : CalK P w K mg base 10 "is_log" "thing" (fnM 1 1 mis_log)) : CalG P w K mg base 11 "_law_check" 1 (fnM 1 3 m_law_check) :=
  Fc.calG (N := n_law_check) (k := 10) (m := m_law_check) sc_law_check (by decide) fun f cdv A outer s H E hr hgd => (ss_cons (spar2 1 2 (sc_law_check).nd (b_cons (f_dat (xrepr hgd z_repr (xv 0))) (b_cons (f_dat (xrepr hgd z_repr (x_frz (xcall c_law_is_log (ac (xv 0) a_nil))))) b_nil))) (ss_one (s_ret (f_dat (xc_eq (x_lst (ac (xrepr hgd z_repr (x_frz (xcall cis_log (ac (xv 0) a_nil)))) (ac (xrepr hgd z_repr (x_frz (xcallK cKis_log (xv 0)))) (ac (xrepr hgd z_repr (xv 0)) a_nil)))) (x_lst (ac (xv 2) (ac (xv 2) (ac (xv 1) a_nil)))))))))
abbrev slaw : Stmt := top 60
@[reducible] def nlaw : List Str := ["_law_script", "_law_rng", "_law_model", "_law_lap", "_law_acts", "_law_values", "_law_others", "_law_old_here", "_law_new_here", "_law_head", "_law_fixed", "_law_own", "_law_at", "_law_stray", "_law_spot", "_law_bent", "_law_due"]
theorem sclaw : FnScope nlaw ["_law_script"] (defScope slaw) := ⟨rfl, rfl, rfl, by decide +kernel, rfl, by decide +kernel, by decide +kernel⟩
theorem oklaw (Fc : Df K mg "law" slaw ["_law_script"]) (z_len : mg "len" = none) (z_list : mg "list" = none) (z_range : mg "range" = none) (z_tuple : mg "tuple" = none) (c_law_act : Cal P w K mg base 3 "_law_act" 2 (fnM 2 6 m_law_act)) (c_law_changed : Cal P w K mg base 21 "_law_changed" 2 (f_law_changed 20)) (c_law_check : CalG P w K mg base 11 "_law_check" 1 (fnM 1 3 m_law_check)) (c_law_draw : Cal P w K mg base 1 "_law_draw" 2 (fnM 2 6 m_law_draw)) (c_law_new : Cal P w K mg base 1 "_law_new" 0 (fnM 0 0 m_law_new)) (c_law_new_model : Cal P w K mg base 3 "_law_new_model" 1 (fnM 1 3 m_law_new_model)) (c_law_next : Cal P w K mg base 10 "_law_next" 2 (fnM 2 4 m_law_next)) (c_law_odd : Cal P w K mg base 2 "_law_odd" 2 (fnM 2 5 m_law_odd)) (c_law_old : Cal P w K mg base 1 "_law_old" 0 (fnM 0 0 m_law_old)) (c_law_source : Cal P w K mg base 1 "_law_source" 1 (fnM 1 1 m_law_source)) (cis_log : Cal P w K mg base 10 "is_log" 1 (fnM 1 1 mis_log)) : CalG P w K mg base 22 "law" 1 (fnM 1 17 mlaw) :=
  Fc.calG (N := nlaw) (k := 21) (m := mlaw) sclaw (by decide) fun f cdv A outer s H E hr hgd => (ss_cons (sroot 1 (sclaw).nd (xcall c_law_source (ac (xv 0) a_nil))) (ss_cons (sset 2 (sclaw).nd (xcall c_law_new_model (ac (xv 1) a_nil))) (ss_cons (s_for PassesOwn.never rfl (irange z_range x_int) (gn 3 (sclaw).nd) (ss_one (sunp (x_frz (xcall c_law_next (ac (xv 2) (ac (x_frz (xcall c_law_act (ac (xv 1) (ac (xv 2) a_nil)))) a_nil)))) (h_tup rfl (h_cons (hn 2 (sclaw).nd) (h_cons (hn 16 (sclaw).nd) h_nil)))))) (ss_cons (spar2 7 8 (sclaw).nd (b_cons (xcall0 c_law_old) (b_cons (xcall0 c_law_new) b_nil))) (ss_cons (sparc2 9 4 (sclaw).nd (b_cons (f_dat (x_tup (ac xs_ (ac (xv 7) (ac (x_tup (ac xs_ (ac xs_ a_nil))) a_nil))))) (b_cons (f_lst (ac (x_tup (ac xs_ (ac xs_ a_nil))) (ac (x_tup (ac xs_ (ac (xv 8) a_nil))) (ac (x_tup (ac xs_ (ac (xpow x_int x_int) a_nil))) (ac (x_tup (ac xs_ (ac (x_tup a_nil) a_nil))) a_nil))))) b_nil))) (ss_cons (sset 4 (sclaw).nd (f_add (xv 4) (x_lst (ac (x_tup (ac xs_ (ac (xpow x_int x_int) (ac x_int a_nil)))) (ac (x_tup (ac xs_ (ac (x_tup (ac xs_ (ac xs_ a_nil))) a_nil))) (ac (x_tup (ac xs_ (ac x_int a_nil))) (ac (x_tup (ac xs_ (ac (x_tup (ac (x_tup (ac xs_ a_nil)) (ac (x_tup (ac (x_tup (ac (x_tup (ac x_int (ac xs_ a_nil))) a_nil)) a_nil)) a_nil))) a_nil))) a_nil))))))) (ss_cons (spar2 10 11 (sclaw).nd (b_cons (f_add (x_tup (ac (xv 9) a_nil)) (xtuple z_tuple (xv 4))) (b_cons (f_add (x_tup (ac (xdix 2) a_nil)) (xdix 2)) b_nil))) (ss_cons (sset 5 (sclaw).nd (f_lst (ac (xv 10) (ac (xv 11) (ac (x_tup a_nil) (ac (xv 9) (ac (x_sl (xv 10) (p_some x_int) p_none) (ac (xlist z_list (xv 10)) (ac x_non (ac xs_ (ac x_int (ac (x_tup (ac (xv 9) (ac (xv 9) a_nil))) (ac (x_tup (ac (x_sl (xv 9) p_none (p_some x_int)) a_nil)) a_nil))))))))))))) (ss_cons (sapp 5 (x_tup (ac (xlist z_list (xv 9)) a_nil))) (ss_cons (sapp 5 (x_tup (ac (xv 9) (ac (x_tup (ac xs_ (ac (x_tup (ac (x_tup (ac xs_ (ac xs_ (ac xs_ (ac xs_ a_nil))))) (ac (xtuple z_tuple (x_frz (f_lc rfl (sclaw).nd (irange z_range x_int) (bok [("_law_at", 12)] rfl) (by decide) (fun _ _ _ _ _ => (gn 12 (sclaw).nd)) (fun _ _ _ _ _ => ts_nil) (fun _ _ _ _ _ => (xmul (x_tup (ac (x_tup (ac (xv 12) (ac xs_ a_nil))) a_nil)) x_int))))) a_nil))) a_nil))) a_nil)))) (ss_cons (sset 5 (sclaw).nd (f_add (xv 5) (x_lst (ac (xadd (x_tup (ac (xv 9) a_nil)) (xmul (x_tup (ac (x_tup (ac xs_ (ac xs_ a_nil))) a_nil)) x_int)) (ac (x_tup (ac (x_tup (ac xs_ (ac (x_tup (ac (x_tup a_nil) (ac (x_tup (ac (x_tup a_nil) a_nil)) a_nil))) (ac (x_tup a_nil) a_nil)))) a_nil)) a_nil))))) (ss_cons (sapp 5 (x_tup (ac (xv 9) (ac (x_tup (ac xs_ (ac (x_tup (ac (x_tup (ac xs_ (ac xs_ a_nil))) (ac (x_tup (ac (x_tup (ac (x_tup (ac x_int (ac xs_ a_nil))) (ac (x_tup (ac x_int (ac xs_ a_nil))) a_nil))) a_nil)) a_nil))) a_nil))) a_nil)))) (ss_cons (sset 6 (sclaw).nd (f_lst (ac (x_tup (ac x_int (ac xs_ a_nil))) (ac (x_tup (ac x_int (ac x_non a_nil))) (ac (x_tup (ac x_int (ac (x_tup (ac (xix (xv 7) x_int) (ac (x_tup a_nil) a_nil))) a_nil))) (ac (x_tup (ac x_int (ac (x_tup (ac (xix (xv 7) x_int) (ac (x_sl (xix (xv 7) x_int) p_none (p_some x_int)) a_nil))) a_nil))) (ac (x_tup (ac x_int (ac (xlist z_list (xv 7)) a_nil))) (ac (x_tup (ac x_int (ac xs_ a_nil))) a_nil)))))))) (ss_cons (sset 6 (sclaw).nd (f_add (xv 6) (x_lst (ac (x_tup (ac x_int (ac (x_tup (ac (xrev (xix (xv 7) x_int)) (ac (xix (xv 7) x_int) a_nil))) a_nil))) (ac (x_tup (ac x_int (ac (x_tup (ac xs_ (ac xs_ a_nil))) a_nil))) a_nil))))) (ss_cons (sset 6 (sclaw).nd (f_add (xv 6) (x_lst (ac (x_tup (ac x_int (ac (x_lst (ac xs_ a_nil)) a_nil))) (ac (x_tup (ac x_int (ac (x_tup (ac xs_ a_nil)) a_nil))) (ac (x_tup (ac x_int (ac x_non a_nil))) (ac (x_tup (ac x_int (ac (x_tup (ac xs_ (ac xs_ a_nil))) a_nil))) a_nil))))))) (ss_cons (s_for PassesOwn.never rfl (i_seq (xv 6)) (g_tup rfl (g_cons (gn 12 (sclaw).nd) (g_cons (gn 13 (sclaw).nd) g_nil))) (ss_one (sapp 5 (x_tup (ac (xadd (xadd (x_sl (xv 9) p_none (p_some (xv 12))) (x_tup (ac (xv 13) a_nil))) (x_sl (xv 9) (p_some (xadd (xv 12) x_int)) p_none)) a_nil))))) (ss_cons (sset 5 (sclaw).nd (f_add (xv 5) (x_frz (f_lc rfl (sclaw).nd (irange z_range x_int) (bok [("_law_lap", 3)] rfl) (by decide) (fun _ _ _ _ _ => (gn 3 (sclaw).nd)) (fun _ _ _ _ _ => ts_nil) (fun _ _ _ _ _ => (x_tup (ac (xv 9) (ac (x_frz (xcall c_law_odd (ac (xv 1) (ac (xv 2) a_nil)))) a_nil)))))))) (ss_cons (s_for PassesOwn.never rfl (irange z_range x_int) (gn 3 (sclaw).nd) (ss_cons (sset 14 (sclaw).nd (xcall c_law_draw (ac (xv 1) (ac (xlen z_len (xv 4)) a_nil)))) (ss_cons (sset 15 (sclaw).nd (xcallF c_law_changed (len_law_changed 20) (ac (xv 1) (ac (xix (x_lst (ac (xv 10) (ac (xv 11) (ac (x_tup (ac (xv 9) (ac (xix (xv 4) (xv 14)) a_nil))) a_nil)))) (xfdv (xv 3) x_int)) a_nil)))) (ss_one (sset 5 (sclaw).nd (f_add (xv 5) (x_lst (ac (xv 15) (ac (x_frz (xcallF c_law_changed (len_law_changed 20) (ac (xv 1) (ac (xv 15) a_nil)))) a_nil))))))))) (ss_one (s_ret (f_dat (x_and (xc_eq (x_frz (f_lc rfl (sclaw).nd (i_seq (xv 5)) (bok [("_law_stray", 13)] rfl) (by decide) (fun _ _ _ _ _ => (gn 13 (sclaw).nd)) (fun _ _ _ _ _ => (ts_one (t_not (tv (x_frz (xcallG c_law_check hgd (ac (xv 13) a_nil))))))) (fun _ _ _ _ _ => (xv 13)))) (x_lst a_nil)) (x_one (xc_is (x_frz (xcall cis_log (ac (xv 10) a_nil))) x_bl))))))))))))))))))))))))
end
section
abbrev sInitInvalidPaper : Stmt := inClass (top 3) 0
abbrev dInitInvalidPaper : He.DefD := ⟨("InvalidPaper", some "__init__"), "__init__", "InvalidPaper.__init__", defArgs sInitInvalidPaper, defBody sInitInvalidPaper, defScope sInitInvalidPaper, [], []⟩
def rFORMS : List (Str × List Str) := [("read", ["is_name"]), ("plan", ["is_machine"]), ("replace", ["is_number"]), ("force", ["is_number", "is_number"]), ("quiet", ["is_quiet"]), ("forget", ["is_number"])]
def fnT0 : List He.DefD := [glD "is_integer" sis_integer, glD "is_number" sis_number, glD "is_name" sis_name, glD "is_word" sis_word, glD "is_ascending" sis_ascending, glD "is_reading" sis_reading, glD "is_quiet" sis_quiet, glD "is_letters" sis_letters, glD "require" srequire, glD "is_pair" sis_pair, glD "is_row" sis_row, glD "has_shape" shas_shape, glD "lets_machine" slets_machine, glD "is_machine" sis_machine, glD "is_event" sis_event, glD "is_beginning" sis_beginning, glD "is_log_by_kind" sis_log_by_kind, glD "is_log" sis_log, glD "_law_source" s_law_source, glD "_law_draw" s_law_draw, glD "_law_signs" s_law_signs, glD "_law_gear" s_law_gear, glD "_law_hush" s_law_hush, glD "_law_is_number" s_law_is_number, glD "_law_is_name" s_law_is_name, glD "_law_is_set" s_law_is_set, glD "_law_is_pair" s_law_is_pair, glD "_law_is_gear" s_law_is_gear, glD "_law_is_act" s_law_is_act, glD "_law_model_of" s_law_model_of]
def fnT1 : List He.DefD := [glD "_law_new_model" s_law_new_model, glD "_law_saying" s_law_saying, glD "_law_true_of" s_law_true_of, glD "_law_places" s_law_places, glD "_law_true" s_law_true, glD "_law_is_true" s_law_is_true, glD "_law_reached" s_law_reached, glD "_law_reason" s_law_reason, glD "_law_read" s_law_read, glD "_law_moved" s_law_moved, glD "_law_next" s_law_next, glD "_law_odd" s_law_odd, glD "_law_act" s_law_act, glD "_law_old" s_law_old, glD "_law_new" s_law_new, glD "_law_is_log" s_law_is_log, glD "_law_changed" s_law_changed, glD "_law_check" s_law_check, glD "law" slaw, dInitInvalidPaper]
def fnT : List He.DefD := fnT0 ++ fnT1
def faT0 : List He.Fa := [.glo "is_integer", .glo "is_number", .glo "is_name", .glo "is_word", .glo "is_ascending", .glo "is_reading", .glo "is_quiet", .glo "is_letters", .glo "require", .glo "is_pair", .glo "is_row", .glo "has_shape", .glo "lets_machine", .glo "is_machine", .glo "is_event", .glo "is_beginning", .glo "is_log_by_kind", .glo "is_log", .glo "_law_source", .glo "_law_draw", .glo "_law_signs", .glo "_law_gear", .glo "_law_hush", .glo "_law_is_number", .glo "_law_is_name", .glo "_law_is_set", .glo "_law_is_pair", .glo "_law_is_gear", .glo "_law_is_act", .glo "_law_model_of"]
def faT1 : List He.Fa := [.glo "_law_new_model", .glo "_law_saying", .glo "_law_true_of", .glo "_law_places", .glo "_law_true", .glo "_law_is_true", .glo "_law_reached", .glo "_law_reason", .glo "_law_read", .glo "_law_moved", .glo "_law_next", .glo "_law_odd", .glo "_law_act", .glo "_law_old", .glo "_law_new", .glo "_law_is_log", .glo "_law_changed", .glo "_law_check", .glo "law", .glo "InvalidPaper", .glo "PaperError", .glo "FORMS", .free "all", .free "bool", .free "dict", .free "enumerate", .free "int", .free "isinstance", .free "len", .free "list"]
def faT2 : List He.Fa := [.free "range", .free "repr", .free "set", .free "sorted", .free "str", .free "tuple", .free "zip", .str "LETTERS" "abcdefghijklmnopqrstuvwxyz", .int "LONGEST_NAME" 8]
def faT : List He.Fa := faT0 ++ faT1 ++ faT2
def tsT : List He.Tab := [(fun K => He.ga K "FORMS", ["read", "plan", "replace", "force", "quiet", "forget"])]
def exT (K : PySem.W.Frag) : Bool := errB "InvalidPaper" "PaperError" "word" "at" K && tabB "FORMS" rFORMS K
theorem scInitInvalidPaper : FnScope ["self", "word", "at"] ["self", "word", "at"] (defScope sInitInvalidPaper) := ⟨rfl, rfl, rfl, by decide +kernel, rfl, by decide +kernel, by decide +kernel⟩
theorem init2InvalidPaper {P : Program} {w : World} {K : PySem.W.Frag} {mg : Str → Option Value} {base : Heap} {f : Addr} {fd : FuncData} (F : Fun K "__init__" "InvalidPaper.__init__" sInitInvalidPaper f fd) (B : BInit K mg "PaperError") (S : FnScope ["self", "word", "at"] ["self", "word", "at"] (defScope sInitInvalidPaper)) : FnOk P w K mg base CX0 1 f fd ["self", "word", "at"] (spInit2 K "word" "at") := by
  refine F.ok S (fun vs H Q E h => ?_) fun cdv A outer s H vs Q E hr h => ⟨_, pss_cons (ps_expr (pe_binit B rfl (by decide +kernel) (pa_cons (pv 0) (pa_cons pe_str pa_nil)))) (pss_cons (ps_ost (pv 0) (pv 1)) (pss_one (ps_ost (pv 0) (pv 2)))), ?_⟩
  · obtain ⟨a, C, y1, y2, rfl, _⟩ := h
    rfl
  · obtain ⟨a, C, y1, y2, rfl, T, n1, n2, ha, q⟩ := h
    refine ⟨_, rfl, a, C, _, rfl, (by show 1 ≤ 1000; decide), T, ha, ?_⟩
    refine ⟨_, rfl, _, rfl, a, C, rfl, T, n1, .inl ⟨ha, fun d hd hda => ?_⟩⟩
    refine ⟨_, rfl, _, rfl, a, C, rfl, T, n2, .inr ⟨d, _, upd_same, (by rw [upd_ne hda, upd_same]), (by show 1 ≤ 900; decide), ?_⟩⟩
    exact q d hd hda
theorem law_ok {P : Program} {w : World} {K : PySem.W.Frag} {mg : Str → Option Value} {base h : Heap} (X : K.In h) (G : h.Ns mainGlobals mg) (c : SaysM faT fnT tsT exT w K) : CalG P w K mg base 22 "law" 1 (fnM 1 17 mlaw) := by
  have dis_integer : Df K mg "is_integer" sis_integer ["thing"] := df_says c.t.d X G 0 0 rfl rfl (fun _ _ _ _ _ _ us hl => match us, hl with | [_], _ => rfl)
  have dis_number : Df K mg "is_number" sis_number ["thing"] := df_says c.t.d X G 1 1 rfl rfl (fun _ _ _ _ _ _ us hl => match us, hl with | [_], _ => rfl)
  have dis_name : Df K mg "is_name" sis_name ["thing"] := df_says c.t.d X G 2 2 rfl rfl (fun _ _ _ _ _ _ us hl => match us, hl with | [_], _ => rfl)
  have dis_word : Df K mg "is_word" sis_word ["thing"] := df_says c.t.d X G 3 3 rfl rfl (fun _ _ _ _ _ _ us hl => match us, hl with | [_], _ => rfl)
  have dis_ascending : Df K mg "is_ascending" sis_ascending ["values"] := df_says c.t.d X G 4 4 rfl rfl (fun _ _ _ _ _ _ us hl => match us, hl with | [_], _ => rfl)
  have dis_reading : Df K mg "is_reading" sis_reading ["thing"] := df_says c.t.d X G 5 5 rfl rfl (fun _ _ _ _ _ _ us hl => match us, hl with | [_], _ => rfl)
  have dis_quiet : Df K mg "is_quiet" sis_quiet ["thing"] := df_says c.t.d X G 6 6 rfl rfl (fun _ _ _ _ _ _ us hl => match us, hl with | [_], _ => rfl)
  have dis_letters : Df K mg "is_letters" sis_letters ["thing"] := df_says c.t.d X G 7 7 rfl rfl (fun _ _ _ _ _ _ us hl => match us, hl with | [_], _ => rfl)
  have drequire : Df K mg "require" srequire ["condition", "word", "at"] := df_says c.t.d X G 8 8 rfl rfl (fun _ _ _ _ _ _ us hl => match us, hl with | [_, _, _], _ => rfl)
  have dis_pair : Df K mg "is_pair" sis_pair ["thing"] := df_says c.t.d X G 9 9 rfl rfl (fun _ _ _ _ _ _ us hl => match us, hl with | [_], _ => rfl)
  have dis_row : Df K mg "is_row" sis_row ["thing"] := df_says c.t.d X G 10 10 rfl rfl (fun _ _ _ _ _ _ us hl => match us, hl with | [_], _ => rfl)
  have dhas_shape : Df K mg "has_shape" shas_shape ["thing"] := df_says c.t.d X G 11 11 rfl rfl (fun _ _ _ _ _ _ us hl => match us, hl with | [_], _ => rfl)
  have dlets_machine : Df K mg "lets_machine" slets_machine ["thing"] := df_says c.t.d X G 12 12 rfl rfl (fun _ _ _ _ _ _ us hl => match us, hl with | [_], _ => rfl)
  have dis_machine : Df K mg "is_machine" sis_machine ["thing"] := df_says c.t.d X G 13 13 rfl rfl (fun _ _ _ _ _ _ us hl => match us, hl with | [_], _ => rfl)
  have dis_event : Df K mg "is_event" sis_event ["thing"] := df_says c.t.d X G 14 14 rfl rfl (fun _ _ _ _ _ _ us hl => match us, hl with | [_], _ => rfl)
  have dis_beginning : Df K mg "is_beginning" sis_beginning ["thing"] := df_says c.t.d X G 15 15 rfl rfl (fun _ _ _ _ _ _ us hl => match us, hl with | [_], _ => rfl)
  have dis_log_by_kind : Df K mg "is_log_by_kind" sis_log_by_kind ["thing"] := df_says c.t.d X G 16 16 rfl rfl (fun _ _ _ _ _ _ us hl => match us, hl with | [_], _ => rfl)
  have dKis_log : DfK K mg "is_log" sis_log "thing" := dfK_says c.t.d X G 17 17 rfl rfl (fun _ _ _ _ _ _ us hl => match us, hl with | [_], _ => rfl) (fun _ _ _ _ _ _ _ => rfl)
  have dis_log : Df K mg "is_log" sis_log ["thing"] := dKis_log.df
  have d_law_source : Df K mg "_law_source" s_law_source ["_law_script"] := df_says c.t.d X G 18 18 rfl rfl (fun _ _ _ _ _ _ us hl => match us, hl with | [_], _ => rfl)
  have d_law_draw : Df K mg "_law_draw" s_law_draw ["_law_rng", "_law_bound"] := df_says c.t.d X G 19 19 rfl rfl (fun _ _ _ _ _ _ us hl => match us, hl with | [_, _], _ => rfl)
  have d_law_signs : Df K mg "_law_signs" s_law_signs ["_law_rng"] := df_says c.t.d X G 20 20 rfl rfl (fun _ _ _ _ _ _ us hl => match us, hl with | [_], _ => rfl)
  have d_law_gear : Df K mg "_law_gear" s_law_gear ["_law_rng", "_law_signs_here"] := df_says c.t.d X G 21 21 rfl rfl (fun _ _ _ _ _ _ us hl => match us, hl with | [_, _], _ => rfl)
  have d_law_hush : Df K mg "_law_hush" s_law_hush ["_law_rng"] := df_says c.t.d X G 22 22 rfl rfl (fun _ _ _ _ _ _ us hl => match us, hl with | [_], _ => rfl)
  have d_law_is_number : Df K mg "_law_is_number" s_law_is_number ["_law_stray"] := df_says c.t.d X G 23 23 rfl rfl (fun _ _ _ _ _ _ us hl => match us, hl with | [_], _ => rfl)
  have d_law_is_name : Df K mg "_law_is_name" s_law_is_name ["_law_stray"] := df_says c.t.d X G 24 24 rfl rfl (fun _ _ _ _ _ _ us hl => match us, hl with | [_], _ => rfl)
  have d_law_is_set : Df K mg "_law_is_set" s_law_is_set ["_law_stray"] := df_says c.t.d X G 25 25 rfl rfl (fun _ _ _ _ _ _ us hl => match us, hl with | [_], _ => rfl)
  have d_law_is_pair : Df K mg "_law_is_pair" s_law_is_pair ["_law_stray", "_law_count"] := df_says c.t.d X G 26 26 rfl rfl (fun _ _ _ _ _ _ us hl => match us, hl with | [_, _], _ => rfl)
  have d_law_is_gear : Df K mg "_law_is_gear" s_law_is_gear ["_law_stray"] := df_says c.t.d X G 27 27 rfl rfl (fun _ _ _ _ _ _ us hl => match us, hl with | [_], _ => rfl)
  have d_law_is_act : Df K mg "_law_is_act" s_law_is_act ["_law_stray"] := df_says c.t.d X G 28 28 rfl rfl (fun _ _ _ _ _ _ us hl => match us, hl with | [_], _ => rfl)
  have d_law_model_of : Df K mg "_law_model_of" s_law_model_of ["_law_gear_here", "_law_hush_here"] := df_says c.t.d X G 29 29 rfl rfl (fun _ _ _ _ _ _ us hl => match us, hl with | [_, _], _ => rfl)
  have d_law_new_model : Df K mg "_law_new_model" s_law_new_model ["_law_rng"] := df_says c.t.d X G 30 30 rfl rfl (fun _ _ _ _ _ _ us hl => match us, hl with | [_], _ => rfl)
  have d_law_saying : Df K mg "_law_saying" s_law_saying ["_law_gear_here", "_law_at", "_law_depth", "_law_hush_here"] := df_says c.t.d X G 31 31 rfl rfl (fun _ _ _ _ _ _ us hl => match us, hl with | [_, _, _, _], _ => rfl)
  have d_law_true_of : Df K mg "_law_true_of" s_law_true_of ["_law_gear_here", "_law_places_here", "_law_hush_here"] := df_says c.t.d X G 32 32 rfl rfl (fun _ _ _ _ _ _ us hl => match us, hl with | [_, _, _], _ => rfl)
  have d_law_places : Df K mg "_law_places" s_law_places ["_law_model", "_law_spot"] := df_says c.t.d X G 33 33 rfl rfl (fun _ _ _ _ _ _ us hl => match us, hl with | [_, _], _ => rfl)
  have d_law_true : Df K mg "_law_true" s_law_true ["_law_model", "_law_spot", "_law_hush_here"] := df_says c.t.d X G 34 34 rfl rfl (fun _ _ _ _ _ _ us hl => match us, hl with | [_, _, _], _ => rfl)
  have d_law_is_true : Df K mg "_law_is_true" s_law_is_true ["_law_model", "_law_hush_here"] := df_says c.t.d X G 35 35 rfl rfl (fun _ _ _ _ _ _ us hl => match us, hl with | [_, _], _ => rfl)
  have d_law_reached : Df K mg "_law_reached" s_law_reached ["_law_gears"] := df_says c.t.d X G 36 36 rfl rfl (fun _ _ _ _ _ _ us hl => match us, hl with | [_], _ => rfl)
  have d_law_reason : Df K mg "_law_reason" s_law_reason ["_law_model", "_law_act_here"] := df_says c.t.d X G 37 37 rfl rfl (fun _ _ _ _ _ _ us hl => match us, hl with | [_, _], _ => rfl)
  have d_law_read : Df K mg "_law_read" s_law_read ["_law_model", "_law_sign"] := df_says c.t.d X G 38 38 rfl rfl (fun _ _ _ _ _ _ us hl => match us, hl with | [_, _], _ => rfl)
  have d_law_moved : Df K mg "_law_moved" s_law_moved ["_law_model", "_law_act_here"] := df_says c.t.d X G 39 39 rfl rfl (fun _ _ _ _ _ _ us hl => match us, hl with | [_, _], _ => rfl)
  have d_law_next : Df K mg "_law_next" s_law_next ["_law_model", "_law_act_here"] := df_says c.t.d X G 40 40 rfl rfl (fun _ _ _ _ _ _ us hl => match us, hl with | [_, _], _ => rfl)
  have d_law_odd : Df K mg "_law_odd" s_law_odd ["_law_rng", "_law_model"] := df_says c.t.d X G 41 41 rfl rfl (fun _ _ _ _ _ _ us hl => match us, hl with | [_, _], _ => rfl)
  have d_law_act : Df K mg "_law_act" s_law_act ["_law_rng", "_law_model"] := df_says c.t.d X G 42 42 rfl rfl (fun _ _ _ _ _ _ us hl => match us, hl with | [_, _], _ => rfl)
  have d_law_old : Df K mg "_law_old" s_law_old [] := df_says c.t.d X G 43 43 rfl rfl (fun _ _ _ _ _ _ us hl => match us, hl with | [], _ => rfl)
  have d_law_new : Df K mg "_law_new" s_law_new [] := df_says c.t.d X G 44 44 rfl rfl (fun _ _ _ _ _ _ us hl => match us, hl with | [], _ => rfl)
  have d_law_is_log : Df K mg "_law_is_log" s_law_is_log ["_law_stray"] := df_says c.t.d X G 45 45 rfl rfl (fun _ _ _ _ _ _ us hl => match us, hl with | [_], _ => rfl)
  have d_law_changed : Df K mg "_law_changed" s_law_changed ["_law_rng", "_law_stray"] := df_says c.t.d X G 46 46 rfl rfl (fun _ _ _ _ _ _ us hl => match us, hl with | [_, _], _ => rfl)
  have d_law_check : Df K mg "_law_check" s_law_check ["_law_stray"] := df_says c.t.d X G 47 47 rfl rfl (fun _ _ _ _ _ _ us hl => match us, hl with | [_], _ => rfl)
  have dlaw : Df K mg "law" slaw ["_law_script"] := df_says c.t.d X G 48 48 rfl rfl (fun _ _ _ _ _ _ us hl => match us, hl with | [_], _ => rfl)
  have z_all : mg "all" = none := free_says c.t.d X G 52 rfl
  have z_bool : mg "bool" = none := free_says c.t.d X G 53 rfl
  have z_dict : mg "dict" = none := free_says c.t.d X G 54 rfl
  have z_enumerate : mg "enumerate" = none := free_says c.t.d X G 55 rfl
  have z_int : mg "int" = none := free_says c.t.d X G 56 rfl
  have z_isinstance : mg "isinstance" = none := free_says c.t.d X G 57 rfl
  have z_len : mg "len" = none := free_says c.t.d X G 58 rfl
  have z_list : mg "list" = none := free_says c.t.d X G 59 rfl
  have z_range : mg "range" = none := free_says c.t.d X G 60 rfl
  have z_repr : mg "repr" = none := free_says c.t.d X G 61 rfl
  have z_set : mg "set" = none := free_says c.t.d X G 62 rfl
  have z_sorted : mg "sorted" = none := free_says c.t.d X G 63 rfl
  have z_str : mg "str" = none := free_says c.t.d X G 64 rfl
  have z_tuple : mg "tuple" = none := free_says c.t.d X G 65 rfl
  have z_zip : mg "zip" = none := free_says c.t.d X G 66 rfl
  have gLETTERS : Gc mg "LETTERS" (.str "abcdefghijklmnopqrstuvwxyz") := str_says c.t.d X G 67 rfl
  have gLONGEST_NAME : Gc mg "LONGEST_NAME" (.int 8) := int_says c.t.d X G 68 rfl
  have ex := c.more
  unfold exT at ex
  simp only [Bool.and_eq_true] at ex
  obtain ⟨e0, e1⟩ := ex
  obtain ⟨fdInvalidPaper, FInvalidPaper⟩ := c.t.d.def_ 49 (d := dInitInvalidPaper) rfl
  have GInvalidPaper : Fun K "__init__" "InvalidPaper.__init__" sInitInvalidPaper (He.ma K (He.ga K "InvalidPaper") "__init__") fdInvalidPaper := fun_of FInvalidPaper
  have bInvalidPaper : Binds K fdInvalidPaper ["self", "word", "at"] [] := GInvalidPaper.binds fun _ _ _ _ _ _ us hl => match us, hl with | [_, _, _], _ => rfl
  have xInvalidPaper := errB_ok (P := P) (w := w) (base := base) (k := 1) (ps := ["self", "word", "at"]) e0 (He.glo_ok X G (c.t.d.fact 49 rfl)) (He.glo_ok X G (c.t.d.fact 50 rfl)) (fun B => init2InvalidPaper GInvalidPaper B scInitInvalidPaper) bInvalidPaper
  have cInvalidPaper := xInvalidPaper.1
  have kInvalidPaper := xInvalidPaper.2
  have gFORMS : Fm w K mg "FORMS" tFORMS := tabB_ok X G (He.glo_ok X G (c.t.d.fact 51 rfl)) e1 (c.t.tab 0 rfl)
  have cis_integer := okis_integer (P := P) (w := w) (K := K) (mg := mg) (base := base) dis_integer z_bool z_int z_isinstance
  have cis_number := okis_number (P := P) (w := w) (K := K) (mg := mg) (base := base) dis_number cis_integer
  have cis_name := okis_name (P := P) (w := w) (K := K) (mg := mg) (base := base) dis_name z_all z_isinstance z_len z_str gLETTERS gLONGEST_NAME
  have cis_word := okis_word (P := P) (w := w) (K := K) (mg := mg) (base := base) dis_word z_isinstance z_str cis_name
  have cis_ascending := okis_ascending (P := P) (w := w) (K := K) (mg := mg) (base := base) dis_ascending z_all z_zip
  have cis_reading := okis_reading (P := P) (w := w) (K := K) (mg := mg) (base := base) dis_reading z_all z_isinstance z_tuple cis_name
  have cis_quiet := okis_quiet (P := P) (w := w) (K := K) (mg := mg) (base := base) dis_quiet cis_ascending cis_reading
  have cis_letters := okis_letters (P := P) (w := w) (K := K) (mg := mg) (base := base) dis_letters z_len cis_quiet
  have crequire := okrequire (P := P) (w := w) (K := K) (mg := mg) (base := base) drequire cInvalidPaper
  have cis_pair := okis_pair (P := P) (w := w) (K := K) (mg := mg) (base := base) dis_pair z_isinstance z_len z_tuple cis_integer cis_word
  have cis_row := okis_row (P := P) (w := w) (K := K) (mg := mg) (base := base) dis_row z_all z_isinstance z_tuple cis_pair
  have chas_shape := okhas_shape (P := P) (w := w) (K := K) (mg := mg) (base := base) dhas_shape z_all z_isinstance z_len z_tuple cis_reading cis_row
  have clets_machine := oklets_machine (P := P) (w := w) (K := K) (mg := mg) (base := base) dlets_machine z_enumerate z_len chas_shape cis_letters crequire
  have cis_machine := okis_machine (P := P) (w := w) (K := K) (mg := mg) (base := base) dis_machine clets_machine kInvalidPaper
  have tbl := tbl78_ok (P := P) (w := w) (K := K) (mg := mg) (base := base) cis_name cis_machine cis_number cis_quiet
  have cis_event := okis_event (P := P) (w := w) (K := K) (mg := mg) (base := base) dis_event z_all z_isinstance z_len z_str z_tuple z_zip gFORMS tbl
  have cis_beginning := okis_beginning (P := P) (w := w) (K := K) (mg := mg) (base := base) dis_beginning z_isinstance z_len z_str z_tuple cis_machine cis_quiet
  have cis_log_by_kind := okis_log_by_kind (P := P) (w := w) (K := K) (mg := mg) (base := base) dis_log_by_kind z_all z_isinstance z_len z_tuple cis_beginning cis_event
  have cis_log := okis_log (P := P) (w := w) (K := K) (mg := mg) (base := base) dis_log cis_log_by_kind
  have cKis_log := okKis_log (P := P) (w := w) (K := K) (mg := mg) (base := base) dKis_log cis_log_by_kind
  have c_law_source := ok_law_source (P := P) (w := w) (K := K) (mg := mg) (base := base) d_law_source 
  have c_law_draw := ok_law_draw (P := P) (w := w) (K := K) (mg := mg) (base := base) d_law_draw z_int z_len
  have c_law_signs := ok_law_signs (P := P) (w := w) (K := K) (mg := mg) (base := base) d_law_signs c_law_draw
  have c_law_gear := ok_law_gear (P := P) (w := w) (K := K) (mg := mg) (base := base) d_law_gear z_range z_tuple c_law_draw
  have c_law_hush := ok_law_hush (P := P) (w := w) (K := K) (mg := mg) (base := base) d_law_hush z_tuple c_law_draw
  have c_law_is_number := ok_law_is_number (P := P) (w := w) (K := K) (mg := mg) (base := base) d_law_is_number z_bool z_int z_isinstance
  have c_law_is_name := ok_law_is_name (P := P) (w := w) (K := K) (mg := mg) (base := base) d_law_is_name z_isinstance z_len z_str
  have c_law_is_set := ok_law_is_set (P := P) (w := w) (K := K) (mg := mg) (base := base) d_law_is_set z_isinstance z_len z_range z_tuple c_law_is_name
  have c_law_is_pair := ok_law_is_pair (P := P) (w := w) (K := K) (mg := mg) (base := base) d_law_is_pair z_isinstance z_len z_str z_tuple c_law_is_name c_law_is_number
  have c_law_is_gear := ok_law_is_gear (P := P) (w := w) (K := K) (mg := mg) (base := base) d_law_is_gear z_isinstance z_len z_tuple c_law_is_pair c_law_is_set
  have c_law_is_act := ok_law_is_act (P := P) (w := w) (K := K) (mg := mg) (base := base) d_law_is_act z_isinstance z_len z_str z_tuple c_law_is_gear c_law_is_name c_law_is_number c_law_is_set
  have c_law_model_of := ok_law_model_of (P := P) (w := w) (K := K) (mg := mg) (base := base) d_law_model_of 
  have c_law_new_model := ok_law_new_model (P := P) (w := w) (K := K) (mg := mg) (base := base) d_law_new_model c_law_draw c_law_gear c_law_hush c_law_model_of c_law_signs
  have c_law_saying := ok_law_saying (P := P) (w := w) (K := K) (mg := mg) (base := base) d_law_saying z_tuple 5
  have c_law_true_of := ok_law_true_of (P := P) (w := w) (K := K) (mg := mg) (base := base) d_law_true_of z_len z_range c_law_saying
  have c_law_places := ok_law_places (P := P) (w := w) (K := K) (mg := mg) (base := base) d_law_places z_set z_sorted
  have c_law_true := ok_law_true (P := P) (w := w) (K := K) (mg := mg) (base := base) d_law_true c_law_places c_law_true_of
  have c_law_is_true := ok_law_is_true (P := P) (w := w) (K := K) (mg := mg) (base := base) d_law_is_true c_law_true
  have c_law_reached := ok_law_reached (P := P) (w := w) (K := K) (mg := mg) (base := base) d_law_reached z_len z_range z_sorted z_tuple z_zip
  have c_law_reason := ok_law_reason (P := P) (w := w) (K := K) (mg := mg) (base := base) d_law_reason z_len c_law_is_act c_law_is_true c_law_true
  have c_law_read := ok_law_read (P := P) (w := w) (K := K) (mg := mg) (base := base) d_law_read z_dict z_set z_sorted z_tuple z_zip
  have c_law_moved := ok_law_moved (P := P) (w := w) (K := K) (mg := mg) (base := base) d_law_moved z_dict z_int z_set z_sorted z_tuple c_law_reached c_law_read c_law_true
  have c_law_next := ok_law_next (P := P) (w := w) (K := K) (mg := mg) (base := base) d_law_next c_law_moved c_law_reason
  have c_law_odd := ok_law_odd (P := P) (w := w) (K := K) (mg := mg) (base := base) d_law_odd z_len z_list c_law_draw
  have c_law_act := ok_law_act (P := P) (w := w) (K := K) (mg := mg) (base := base) d_law_act z_len c_law_draw c_law_gear c_law_hush c_law_odd
  have c_law_old := ok_law_old (P := P) (w := w) (K := K) (mg := mg) (base := base) d_law_old 
  have c_law_new := ok_law_new (P := P) (w := w) (K := K) (mg := mg) (base := base) d_law_new 
  have c_law_is_log := ok_law_is_log (P := P) (w := w) (K := K) (mg := mg) (base := base) d_law_is_log z_isinstance z_len z_str z_tuple c_law_is_act c_law_is_gear c_law_is_set
  have c_law_changed := ok_law_changed (P := P) (w := w) (K := K) (mg := mg) (base := base) d_law_changed z_bool z_int z_isinstance z_len z_list z_tuple c_law_draw 20
  have c_law_check := ok_law_check (P := P) (w := w) (K := K) (mg := mg) (base := base) d_law_check z_repr c_law_is_log cis_log cKis_log
  have claw := oklaw (P := P) (w := w) (K := K) (mg := mg) (base := base) dlaw z_len z_list z_range z_tuple c_law_act c_law_changed c_law_check c_law_draw c_law_new c_law_new_model c_law_next c_law_odd c_law_old c_law_source cis_log
  exact claw
end
end K78

set_option Elab.async false
set_option linter.all false
set_option autoImplicit false
set_option maxRecDepth 100000
set_option maxHeartbeats 0
namespace K78
open PySem PySem.Spec PyProof.Rows L2 Mi HandSHeadRun
def loose0 : List Str := ["__name__", "NewError", "PaperError", "InvalidPaper", "LETTERS", "LONGEST_NAME", "is_integer", "is_number", "is_name", "is_word", "is_ascending", "is_reading", "is_quiet", "is_letters", "require", "is_pair", "is_row", "has_shape", "lets_machine", "is_machine", "FORMS", "is_event", "is_beginning", "is_log_by_kind", "is_log", "_law_source", "_law_draw", "_law_signs", "_law_gear", "_law_hush"]
def loose1 : List Str := ["_law_is_number", "_law_is_name", "_law_is_set", "_law_is_pair", "_law_is_gear", "_law_is_act", "_law_model_of", "_law_new_model", "_law_saying", "_law_true_of", "_law_places", "_law_true", "_law_is_true", "_law_reached", "_law_reason", "_law_read", "_law_moved", "_law_next", "_law_act", "_law_odd", "_law_old", "_law_new", "_law_is_log", "_law_changed", "_law_check"]
abbrev looseT : List Str := loose0 ++ loose1
abbrev R : PySem.W.OpenRow := PySem.W.OpenLaw.row PySem.Challenge.rw_alwaysnew_k78_logs_by_kind
abbrev hkT : PySem.W.Hook := Mi.hookM 5 faT fnT tsT exT
def obT (s : PySem.W.SharedT) : He.AlT × Bool := Mi.obsM 5 faT fnT tsT exT (HandSHeadRun.getT s)
theorem obT_eq (s : PySem.W.SharedT) : obT s = hkT.obs s.abs := Mi.obsM_eq _ _ _ _ _ (HandSHeadRun.getT_eq s)
theorem runT (w : World) : HandSHeadRun.RunEq R (PySem.W.view R.prog [60]) hkT obT 6000 looseT w := by
  have h0 : ∀ w : World, HandSHeadRun.RunEq R (PySem.W.view R.prog [60]) hkT obT 6000 looseT (w.withFollow "special-get-raises" false) := fun w os => by kernel_rfl
  have h1 : ∀ w : World, HandSHeadRun.RunEq R (PySem.W.view R.prog [60]) hkT obT 6000 looseT (w.withFollow "special-get-raises" true) := fun w os => by kernel_rfl
  exact PySem.W.byRow2 "special-get-raises" (P := fun w => HandSHeadRun.RunEq R (PySem.W.view R.prog [60]) hkT obT 6000 looseT w) h0 h1 w

end K78

set_option Elab.async false
set_option linter.all false
set_option maxRecDepth 100000
set_option maxHeartbeats 0
open PySem PySem.W PySem.Calls PyProof.Rows
theorem PySem.Challenge.cw_alwaysnew_k78_logs_by_kind_holds : PySem.Challenge.rw_alwaysnew_k78_logs_by_kind.Holds := by
  w_on; o_law
  refine HandSHeadRun.head_any (r := K78.R) (q := view K78.R.prog [60]) (H := K78.hkT) (ob := K78.obT) (M := 6000) (loose := K78.looseT) (d := HandSHeadRun.topDef K78.R.prog 60) (kwd := []) K78.obT_eq
    (by kernel_rfl) (fun s => by kernel_rfl) K78.runT (by kernel_rfl) (by kernel_rfl) (by kernel_rfl) (by rfl) (by first | assumption | decide +kernel) (by decide +kernel) ⟨rfl, rfl, rfl, rfl, rfl, by decide +kernel⟩ ?hw ?hc
  case hw => w_witness2
  case hc =>
    refine Mi.walk_law (l := PySem.Challenge.rw_alwaysnew_k78_logs_by_kind) (n := 63) (k := 22) rfl (by decide) (by kernel_rfl) ⟨rfl, by decide, by decide⟩ (Mi.fnM 1 17 Lw.mlaw) ?F Lw.law_true
    intro w mg fa h Y G hmg0
    obtain ⟨K, KX, c⟩ := Y
    have e : (HandSHeadRun.topDef K78.R.prog 60).name = ("law" : PySem.Str) := by kernel_rfl
    refine ⟨K, KX, hmg0, fun base _ _ => ?_⟩
    rw [e]
    exact K78.law_ok KX G c

