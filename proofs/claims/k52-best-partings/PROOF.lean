import PyProof.Rows.All
import Wide.All
import OpenK.AllK
import Wide.FinOn
import HandS.ForMost
import HandS.Flow
import HandS.Style
import HandS.TupAny
import HandS.Deep
import HandS.NoneIn
import HandS.IsInst
import HandS.TupLen
import HandS.Conv
import HandS.Wide
import HandS.More
import HandS.Strs
import KE.KTupSum
import KE.DatumOrd
import KE.SortData
import KE.SortCalls
import KE.KeyNested
import KE.KDictKeyed
import HandS.Ends
import HandS.Words
import HandS.WordsExc
import HandS.Defaults
import HandS.Head0
import HandS.Head1
import HandS.Head2
import HandS.HeadEnd
import HandS.HeadHook1
import HandS.HeadHook2
import HandS.HeadHook4
import PySem.Challenge.RW_plaintraining_k52_best_partings
set_option Elab.async false
set_option linter.all false
set_option maxRecDepth 100000
/-! P0: pure values, the pure store, their relation to the layer's abstract heap. -/
namespace Q
open L2 PyProof.Rows PySem PySem.Spec

inductive PV where
  | non | bl (b : Bool) | int (i : Int) | str (x : Str)
  | tup (xs : List PV)
  /-- a list, a dict, an instance that nobody changes any more -/
  | lst (xs : List PV) | dK (ks : List Key) (vs : List PV) | dT (ks : List NestedKey) (vs : List PV) | ins (c : Nat) (vs : List PV)
  /-- an object of the store -/
  | ref (n : Nat)
  /-- the law's argument: a list that is only walked -/
  | scr (xs : List PV)

inductive Ob where
  | lst (xs : List PV) | dK (ks : List Key) (vs : List PV) | dT (ks : List NestedKey) (vs : List PV) | ins (c : Nat) (vs : List PV)
abbrev Store := List Ob

inductive Res (α : Type) where
  | ok (a : α) (S : Store)
  | exc (c : Nat) (v : PV) (S : Store)
  | stuck
def Res.bind {α β : Type} (r : Res α) (f : α → Store → Res β) : Res β :=
  match r with
  | .ok a S => f a S
  | .exc c v S => .exc c v S
  | .stuck => .stuck
def Res.wp {α : Type} (r : Res α) (Q : α → Store → Prop) : Prop := ∃ a S, r = .ok a S ∧ Q a S
@[simp] theorem Res.bind_ok {α β : Type} (a : α) (S : Store) (f : α → Store → Res β) : (Res.ok a S).bind f = f a S := Eq.trans rfl rfl
@[simp] theorem Res.bind_stuck {α β : Type} (f : α → Store → Res β) : (Res.stuck : Res α).bind f = .stuck := Eq.trans rfl rfl
@[simp] theorem Res.bind_exc {α β : Type} (c v S) (f : α → Store → Res β) : (Res.exc c v S : Res α).bind f = .exc c v S := Eq.trans rfl rfl
theorem Res.wp.bind {α β : Type} {r : Res α} {f : α → Store → Res β} {Q : β → Store → Prop} (h : (r.bind f).wp Q) : r.wp fun a S => (f a S).wp Q := by
  cases r with
  | ok a S => exact ⟨a, S, rfl, h⟩
  | exc c v S => obtain ⟨_, _, e, _⟩ := h; cases e
  | stuck => obtain ⟨_, _, e, _⟩ := h; cases e
theorem Res.wp.mono {α : Type} {r : Res α} {Q Q' : α → Store → Prop} (h : r.wp Q) (i : ∀ a S, Q a S → Q' a S) : r.wp Q' :=
  let ⟨a, S, e, q⟩ := h; ⟨a, S, e, i a S q⟩
theorem Res.wp.ok {α : Type} {a : α} {S : Store} {Q : α → Store → Prop} (h : (Res.ok a S).wp Q) : Q a S := by
  obtain ⟨_, _, e, q⟩ := h; cases e; exact q
theorem Res.wp.stuck {α : Type} {Q : α → Store → Prop} {p : Prop} (h : (Res.stuck : Res α).wp Q) : p := by
  obtain ⟨_, _, e, _⟩ := h; cases e

/-- the static side: the written part, the classes' addresses and fields -/
structure Cf where
  K : PySem.W.Frag
  ca : Nat → Addr
  cn : Nat → List Str
  w : World
/-- the objects' addresses; addresses that no frozen list may have -/
structure G where
  bs : List Addr
  F : List Addr

def KTup (K : PySem.W.Frag) (a : Addr) (xs : List V) : Prop :=
  ∃ (o : Obj) (its : Array Value) (n : Nat), K.lookup a = some o ∧ o.cls = .type "tuple" ∧ o.dict = none ∧ o.data = .seq its n ∧ its.size ≤ sizeLine ∧ Vals xs its.toList
def KLst (K : PySem.W.Frag) (a : Addr) (xs : List V) : Prop :=
  ∃ (o : Obj) (its : Array Value) (n : Nat), K.lookup a = some o ∧ o.cls = .type "list" ∧ o.dict = none ∧ o.data = .seq its n ∧ its.size ≤ sizeLine ∧ Vals xs its.toList
theorem KLst.sq {K : PySem.W.Frag} {H : Hp} {a : Addr} {xs : List V} (h : KLst K a xs) : SqL K H a xs := .inr h
theorem KTup.sq {K : PySem.W.Frag} {H : Hp} {a : Addr} {xs : List V} (h : KTup K a xs) : SqT K H a xs := by
  obtain ⟨o, its, n, h1, h2, _, h3, h4, h5⟩ := h
  exact .inr ⟨o, its, n, h1, h2, h3, h4, h5⟩
/-- a dict with tuples (of ints, texts, None, tuples) for keys: key, the tuple's address, value -/
def DNat (w : World) (a : Addr) (L : List (NestedKey × Addr × V)) (h : Heap) : Prop :=
  ∃ o es ep, h.get? a = some o ∧ o.ExactDict ∧ o.data = .dict es ep ∧ (a == sysModules) = false ∧ L.length ≤ sizeLine ∧ (∀ k ∈ L.map (·.1), k.depth ≤ 8) ∧ (L.map (·.1)).Nodup ∧
    Paired (fun (x : NestedKey × Addr × V) (e : DictEntry) => e.hash = x.1.hash w ∧ e.key = .ref x.2.1 ∧ L2.RelV x.2.2 e.val) L es.toList
def DN (w : World) (a : Addr) (L : List (NestedKey × Addr × V)) : HO := .ext (DNat w a L)
mutual
/-- a key as a value -/
def ofKey : NestedKey → PV
  | .none => .non
  | .num i => .int i
  | .text x => .str x
  | .tup ks => .tup (ofKeys ks)
def ofKeys : List NestedKey → List PV
  | [] => []
  | k :: ks => ofKey k :: ofKeys ks
end

mutual
inductive RepV (C : Cf) (g : G) (H : Hp) : PV → V → Prop
  | non : RepV C g H .non .non
  | bl (b : Bool) : RepV C g H (.bl b) (.bl b)
  | int (i : Int) : RepV C g H (.int i) (.int i)
  | str (x : Str) : RepV C g H (.str x) (.str x)
  | tup {a : Addr} {o : Obj} {xs : List PV} {vs : List V} : H a = some (.frz o (.tup vs)) → o.dict = none → a ∉ g.bs → a ∉ g.F → RepL C g H xs vs → RepV C g H (.tup xs) (.ref a)
  | ktup {a : Addr} {xs : List PV} {vs : List V} : KTup C.K a vs → RepL C g H xs vs → RepV C g H (.tup xs) (.ref a)
  | lst {a : Addr} {xs : List PV} {vs : List V} : Rd H a (.lst vs) → a ∉ g.bs → a ∉ g.F → RepL C g H xs vs → RepV C g H (.lst xs) (.ref a)
  | dK {a : Addr} {ks : List Key} {xs : List PV} {vs : List V} : Rd H a (.dK (ks.zip vs)) → ks.length = vs.length → a ∉ g.bs → a ∉ g.F → RepL C g H xs vs → RepV C g H (.dK ks xs) (.ref a)
  | dT {a : Addr} {ks : List NestedKey} {xs : List PV} {L : List (NestedKey × Addr × V)} : Rd H a (DN C.w a L) → L.map (·.1) = ks → a ∉ g.bs → a ∉ g.F → RepL C g H (ofKeys ks) (L.map fun x => .ref x.2.1) → RepL C g H xs (L.map (·.2.2)) → RepV C g H (.dT ks xs) (.ref a)
  | ins {a dx : Addr} {c : Nat} {xs : List PV} {vs : List V} : H a = some (.ins (C.ca c) dx ((C.cn c).zip vs)) → (C.cn c).length = vs.length → a ∉ g.bs → a ∉ g.F → RepL C g H xs vs → RepV C g H (.ins c xs) (.ref a)
  | ref {n : Nat} {a : Addr} : g.bs[n]? = some a → RepV C g H (.ref n) (.ref a)
  | scr {a : Addr} {xs : List PV} {vs : List V} : (Rd H a (.lst vs) ∧ a ∉ g.bs ∧ a ∉ g.F) ∨ KLst C.K a vs → RepL C g H xs vs → RepV C g H (.scr xs) (.ref a)
inductive RepL (C : Cf) (g : G) (H : Hp) : List PV → List V → Prop
  | nil : RepL C g H [] []
  | cons {x : PV} {v : V} {xs : List PV} {vs : List V} : RepV C g H x v → RepL C g H xs vs → RepL C g H (x :: xs) (v :: vs)
end

/-- how a run may go from one heap to another: new objects are new, what is no object of the store stays -/
structure Mv (g g' : G) (H H' : Hp) : Prop where
  pre : ∃ new, g'.bs = g.bs ++ new ∧ ∀ a ∈ new, H a = none ∧ a ∉ g.bs
  F : ∀ a o, H a = some o → a ∉ g.bs → a ∉ g.F → a ∉ g'.F
  keep : ∀ a o, H a = some o → a ∉ g.bs → a ∉ g.F → H' a = some o
structure Step (g g' : G) (H H' : Hp) : Prop extends Mv g g' H H' where
  Fe : g'.F = g.F
  keepA : ∀ a o, H a = some o → a ∉ g.bs → H' a = some o
theorem Step.mk' {g g' : G} {H H' : Hp} (pre : ∃ new, g'.bs = g.bs ++ new ∧ ∀ a ∈ new, H a = none ∧ a ∉ g.bs) (Fe : g'.F = g.F) (keep : ∀ a o, H a = some o → a ∉ g.bs → H' a = some o) : Step g g' H H' :=
  ⟨⟨pre, fun a o _ _ h => by rw [Fe]; exact h, fun a o e n _ => keep a o e n⟩, Fe, keep⟩
theorem Step.refl (g : G) (H : Hp) : Step g g H H := .mk' ⟨[], by simp, fun _ h => nomatch h⟩ rfl fun _ _ h _ => h
section
variable {C : Cf} {g g' g1 g2 g3 : G} {H H' H1 H2 H3 : Hp}
theorem Mv.notin (s : Mv g g' H H') {a : Addr} {o : HO} (h : H a = some o) (n : a ∉ g.bs) : a ∉ g'.bs := by
  obtain ⟨new, e, f⟩ := s.pre
  rw [e]
  intro m
  rcases List.mem_append.mp m with m | m
  · exact n m
  · rw [(f a m).1] at h; cases h
theorem Mv.rd (s : Mv g g' H H') {a : Addr} {u : HO} (h : Rd H a u) (n : a ∉ g.bs) (f : a ∉ g.F) : Rd H' a u ∧ a ∉ g'.bs := by
  rcases h with h | ⟨o, h⟩
  · exact ⟨.inl (s.keep a _ h n f), s.notin h n⟩
  · exact ⟨.inr ⟨o, s.keep a _ h n f⟩, s.notin h n⟩
theorem Mv.rdF (s : Mv g g' H H') {a : Addr} {u : HO} (h : Rd H a u) (n : a ∉ g.bs) (f : a ∉ g.F) : a ∉ g'.F := by
  rcases h with h | ⟨o, h⟩
  · exact s.F a _ h n f
  · exact s.F a _ h n f
theorem Step.trans (s : Step g1 g2 H1 H2) (t : Step g2 g3 H2 H3) : Step g1 g3 H1 H3 := by
  obtain ⟨n1, e1, f1⟩ := s.pre
  obtain ⟨n2, e2, f2⟩ := t.pre
  refine .mk' ⟨n1 ++ n2, by rw [e2, e1, List.append_assoc], fun a m => ?_⟩ (t.Fe.trans s.Fe) fun a o h n => t.keepA a o (s.keepA a o h n) (s.notin h n)
  rcases List.mem_append.mp m with m | m
  · exact f1 a m
  · have hb : a ∉ g1.bs := fun z => (f2 a m).2 (by rw [e1]; exact List.mem_append_left _ z)
    refine ⟨?_, hb⟩
    cases h : H1 a with
    | none => rfl
    | some o =>
      have := s.keepA a o h hb
      rw [(f2 a m).1] at this; cases this
theorem Mv.get (s : Mv g g' H H') {n : Nat} {a : Addr} (h : g.bs[n]? = some a) : g'.bs[n]? = some a := by
  obtain ⟨new, e, _⟩ := s.pre
  rw [e, List.getElem?_append_left (List.getElem?_eq_some_iff.mp h).1]
  exact h
mutual
theorem RepV.mono (s : Mv g g' H H') : ∀ {x : PV} {v : V}, RepV C g H x v → RepV C g' H' x v
  | _, _, .non => .non
  | _, _, .bl b => .bl b
  | _, _, .int i => .int i
  | _, _, .str i => .str i
  | _, _, .tup h d n f l => .tup (s.keep _ _ h n f) d (s.notin h n) (s.F _ _ h n f) (RepL.mono s l)
  | _, _, .ktup h l => .ktup h (RepL.mono s l)
  | _, _, .lst h n f l => .lst (s.rd h n f).1 (s.rd h n f).2 (s.rdF h n f) (RepL.mono s l)
  | _, _, .dK h e n f l => .dK (s.rd h n f).1 e (s.rd h n f).2 (s.rdF h n f) (RepL.mono s l)
  | _, _, .dT h e n f q l => .dT (s.rd h n f).1 e (s.rd h n f).2 (s.rdF h n f) (RepL.mono s q) (RepL.mono s l)
  | _, _, .ins h e n f l => .ins (s.keep _ _ h n f) e (s.notin h n) (s.F _ _ h n f) (RepL.mono s l)
  | _, _, .ref h => .ref (s.get h)
  | _, _, .scr h l => .scr (h.imp (fun q => ⟨(s.rd q.1 q.2.1 q.2.2).1, (s.rd q.1 q.2.1 q.2.2).2, s.rdF q.1 q.2.1 q.2.2⟩) id) (RepL.mono s l)
theorem RepL.mono (s : Mv g g' H H') : ∀ {xs : List PV} {vs : List V}, RepL C g H xs vs → RepL C g' H' xs vs
  | _, _, .nil => .nil
  | _, _, .cons h l => .cons (RepV.mono s h) (RepL.mono s l)
end
theorem RepV.sqt {xs : List PV} {v : V} (h : RepV C g H (.tup xs) v) : ∃ a vs, v = .ref a ∧ SqT C.K H a vs ∧ RepL C g H xs vs := by
  cases h with
  | tup h d n f l => exact ⟨_, _, rfl, .inl (.inr ⟨_, h⟩), l⟩
  | ktup h l => exact ⟨_, _, rfl, h.sq, l⟩
theorem RepL.length : ∀ {xs : List PV} {vs : List V}, RepL C g H xs vs → xs.length = vs.length
  | _, _, .nil => rfl
  | _, _, .cons _ l => by simp [RepL.length l]
theorem RepL.get : ∀ {xs : List PV} {vs : List V} {i : Nat} {x : PV}, RepL C g H xs vs → xs[i]? = some x → ∃ v, vs[i]? = some v ∧ RepV C g H x v
  | _, _, _, _, .nil, e => by simp at e
  | _, _, 0, _, .cons h _, e => by simp at e; subst e; exact ⟨_, rfl, h⟩
  | _, _, i + 1, x, .cons _ l, e => by
    obtain ⟨v, h1, h2⟩ := RepL.get (i := i) (x := x) l (by simpa using e)
    exact ⟨v, by simpa using h1, h2⟩
theorem RepL.get' : ∀ {xs : List PV} {vs : List V} {i : Nat} {v : V}, RepL C g H xs vs → vs[i]? = some v → ∃ x, xs[i]? = some x ∧ RepV C g H x v
  | _, _, _, _, .nil, e => by simp at e
  | _, _, 0, _, .cons h _, e => by simp at e; subst e; exact ⟨_, rfl, h⟩
  | _, _, i + 1, x, .cons _ l, e => by
    obtain ⟨v, h1, h2⟩ := RepL.get' (i := i) (v := x) l (by simpa using e)
    exact ⟨v, by simpa using h1, h2⟩
theorem RepL.append : ∀ {xs ys : List PV} {vs ws : List V}, RepL C g H xs vs → RepL C g H ys ws → RepL C g H (xs ++ ys) (vs ++ ws)
  | _, _, _, _, .nil, r => r
  | _, _, _, _, .cons h l, r => .cons h (RepL.append l r)
theorem RepL.one {x : PV} {v : V} (h : RepV C g H x v) : RepL C g H [x] [v] := .cons h .nil
theorem RepL.take : ∀ {xs : List PV} {vs : List V} (n : Nat), RepL C g H xs vs → RepL C g H (xs.take n) (vs.take n)
  | _, _, 0, _ => .nil
  | _, _, _ + 1, .nil => .nil
  | _, _, n + 1, .cons r t => .cons r (RepL.take n t)
theorem RepL.drop : ∀ {xs : List PV} {vs : List V} (n : Nat), RepL C g H xs vs → RepL C g H (xs.drop n) (vs.drop n)
  | _, _, 0, r => r
  | _, _, _ + 1, .nil => .nil
  | _, _, n + 1, .cons _ t => RepL.drop n t
theorem RepL.set {x : PV} {v : V} (h : RepV C g H x v) : ∀ {xs : List PV} {vs : List V} (i : Nat), RepL C g H xs vs → RepL C g H (xs.set i x) (vs.set i v)
  | _, _, _, .nil => .nil
  | _, _, 0, .cons _ t => .cons h t
  | _, _, i + 1, .cons q t => .cons q (RepL.set h i t)
theorem RepL.eraseIdx : ∀ {xs : List PV} {vs : List V} (i : Nat), RepL C g H xs vs → RepL C g H (xs.eraseIdx i) (vs.eraseIdx i)
  | _, _, _, .nil => .nil
  | _, _, 0, .cons _ t => t
  | _, _, i + 1, .cons q t => .cons q (RepL.eraseIdx i t)
theorem RepL.reverse : ∀ {xs : List PV} {vs : List V}, RepL C g H xs vs → RepL C g H xs.reverse vs.reverse
  | _, _, .nil => .nil
  | _, _, .cons h l => by rw [List.reverse_cons, List.reverse_cons]; exact (RepL.reverse l).append (.one h)
theorem RepL.dropLast : ∀ {xs : List PV} {vs : List V}, RepL C g H xs vs → RepL C g H xs.dropLast vs.dropLast
  | _, _, .nil => .nil
  | _, _, .cons _ .nil => .nil
  | _, _, .cons h (.cons q t) => .cons h (RepL.dropLast (.cons q t))
theorem RepL.insertIdx {x : PV} {v : V} (h : RepV C g H x v) : ∀ {xs : List PV} {vs : List V} (i : Nat), RepL C g H xs vs → RepL C g H (xs.insertIdx i x) (vs.insertIdx i v)
  | _, _, 0, l => by simpa using RepL.cons h l
  | _, _, i + 1, .nil => by simpa using RepL.nil
  | _, _, i + 1, .cons q t => by simpa using RepL.cons q (RepL.insertIdx h i t)

/-- an object of the store at its address -/
def RepO (C : Cf) (g : G) (H : Hp) (o : Ob) (a : Addr) : Prop :=
  match o with
  | .lst xs => ∃ vs, H a = some (.lst vs) ∧ RepL C g H xs vs
  | .dK ks xs => ∃ vs, H a = some (.dK (ks.zip vs)) ∧ ks.length = vs.length ∧ RepL C g H xs vs
  | .dT ks xs => ∃ L, H a = some (DN C.w a L) ∧ L.map (·.1) = ks ∧ RepL C g H (ofKeys ks) (L.map fun x => .ref x.2.1) ∧ RepL C g H xs (L.map (·.2.2))
  | .ins c xs => ∃ dx vs, H a = some (.ins (C.ca c) dx ((C.cn c).zip vs)) ∧ (C.cn c).length = vs.length ∧ RepL C g H xs vs
structure RelS (C : Cf) (g : G) (S : Store) (H : Hp) : Prop where
  nd : g.bs.Nodup
  len : g.bs.length = S.length
  tF : ∀ a ∈ g.F, H a ≠ none
  sep : ∀ a ∈ g.F, a ∉ g.bs
  obj : ∀ (i : Nat) o, S[i]? = some o → ∃ a, g.bs[i]? = some a ∧ RepO C g H o a
theorem RepO.some {o : Ob} {a : Addr} (h : RepO C g H o a) : H a ≠ none := by
  cases o with
  | lst xs => obtain ⟨_, e, _⟩ := h; rw [e]; simp
  | dK ks xs => obtain ⟨_, e, _⟩ := h; rw [e]; simp
  | dT ks xs => obtain ⟨_, e, _⟩ := h; rw [e]; simp [DN]
  | ins c xs => obtain ⟨_, _, e, _⟩ := h; rw [e]; simp
theorem RepO.mono {o : Ob} {a : Addr} (s : Mv g g' H H') (e : H' a = H a) (h : RepO C g H o a) : RepO C g' H' o a := by
  cases o with
  | lst xs => obtain ⟨vs, q, l⟩ := h; exact ⟨vs, e.trans q, l.mono s⟩
  | dK ks xs => obtain ⟨vs, q, n, l⟩ := h; exact ⟨vs, e.trans q, n, l.mono s⟩
  | dT ks xs => obtain ⟨vs, q, n, l1, l⟩ := h; exact ⟨vs, e.trans q, n, l1.mono s, l.mono s⟩
  | ins c xs => obtain ⟨dx, vs, q, n, l⟩ := h; exact ⟨dx, vs, e.trans q, n, l.mono s⟩
section
variable {S : Store}
theorem RelS.tB (r : RelS C g S H) {a : Addr} (m : a ∈ g.bs) : H a ≠ none := by
  obtain ⟨i, hi, e⟩ := List.mem_iff_getElem.mp m
  have hS : i < S.length := by rw [← r.len]; exact hi
  obtain ⟨b, e2, q⟩ := r.obj i S[i] (by simp [hS])
  have : b = a := by
    have e3 : g.bs[i]? = some a := by rw [List.getElem?_eq_getElem hi, e]
    rw [e3] at e2; exact (Option.some.inj e2).symm
  subst this
  exact q.some
theorem RelS.newB (r : RelS C g S H) {p : Addr} (h : H p = none) : p ∉ g.bs := fun m => r.tB m h
theorem RelS.newF (r : RelS C g S H) {p : Addr} (h : H p = none) : p ∉ g.F := fun m => r.tF p m h
/-- a new thing that is no object of the store -/
theorem RelS.stepN (r : RelS C g S H) {p : Addr} {o : HO} (h : H p = none) : Step g g H (upd H p o) :=
  .mk' ⟨[], by simp, fun _ h => nomatch h⟩ rfl fun a u e n => by rw [upd_ne (ne_of_none e h)]; exact e
theorem RelS.new (r : RelS C g S H) {p : Addr} {o : HO} (h : H p = none) : RelS C g S (upd H p o) := by
  refine ⟨r.nd, r.len, fun a m => ?_, r.sep, fun i ob e => ?_⟩
  · have : a ≠ p := fun z => r.newF h (z ▸ m)
    rw [upd_ne this]; exact r.tF a m
  · obtain ⟨a, e2, q⟩ := r.obj i ob e
    refine ⟨a, e2, q.mono (r.stepN h).toMv ?_⟩
    have : a ≠ p := fun z => r.newB h (z ▸ List.mem_of_getElem? e2)
    rw [upd_ne this]
def G.add (g : G) (p : Addr) : G := { g with bs := g.bs ++ [p] }
def G.hide (g : G) (p : Addr) : G := { g with F := p :: g.F }
theorem RelS.stepA (r : RelS C g S H) {p : Addr} {o : HO} (h : H p = none) : Step g (g.add p) H (upd H p o) :=
  .mk' ⟨[p], rfl, fun a m => by have e : a = p := by simpa using m
                                subst e; exact ⟨h, r.newB h⟩⟩ rfl fun a u e n => by rw [upd_ne (ne_of_none e h)]; exact e
/-- a new object of the store -/
theorem RelS.add (r : RelS C g S H) {p : Addr} {ho : HO} {o : Ob} (h : H p = none) (q : RepO C (g.add p) (upd H p ho) o p) : RelS C (g.add p) (S ++ [o]) (upd H p ho) := by
  have nB := r.newB h
  refine ⟨?_, by simp [G.add, r.len], fun a m => ?_, fun a m => ?_, fun i ob e => ?_⟩
  · show (g.bs ++ [p]).Nodup
    rw [List.nodup_append]
    refine ⟨r.nd, by simp, fun a ha b hb => ?_⟩
    have e : b = p := by simpa using hb
    subst e
    exact fun z => nB (z ▸ ha)
  · have : a ≠ p := fun z => r.newF h (z ▸ m)
    rw [upd_ne this]; exact r.tF a m
  · intro z
    rcases List.mem_append.mp z with z | z
    · exact r.sep a m z
    · have e : a = p := by simpa using z
      subst e; exact r.newF h m
  · by_cases hi : i < S.length
    · rw [List.getElem?_append_left hi] at e
      obtain ⟨a, e2, qo⟩ := r.obj i ob e
      refine ⟨a, (r.stepA (o := ho) h).get e2, qo.mono (r.stepA h).toMv ?_⟩
      have : a ≠ p := fun z => nB (z ▸ List.mem_of_getElem? e2)
      rw [upd_ne this]
    · have hi' : i = S.length := by
        have := (List.getElem?_eq_some_iff.mp e).1
        simp at this; omega
      subst hi'
      have e' : ob = o := by simpa using e.symm
      subst e'
      exact ⟨p, by show (g.bs ++ [p])[S.length]? = _; rw [← r.len]; simp, q⟩
theorem RelS.addGet (r : RelS C g S H) (p : Addr) : (g.add p).bs[S.length]? = some p := by
  show (g.bs ++ [p])[S.length]? = _
  rw [← r.len]; simp
/-- an object of the store is changed -/
theorem Step.wr {i : Nat} {a : Addr} {ho : HO} (e : g.bs[i]? = some a) : Step g g H (upd H a ho) :=
  .mk' ⟨[], by simp, fun _ h => nomatch h⟩ rfl fun b u q n => by rw [upd_ne (fun z : b = a => n (by rw [z]; exact List.mem_of_getElem? e))]; exact q
theorem RelS.wr (r : RelS C g S H) {i : Nat} {a : Addr} {ho : HO} {o : Ob} (e : g.bs[i]? = some a) (q : RepO C g (upd H a ho) o a) : RelS C g (S.set i o) (upd H a ho) := by
  refine ⟨r.nd, by simp [r.len], fun b m => ?_, r.sep, fun j ob ej => ?_⟩
  · have : b ≠ a := fun z => r.sep b m (z ▸ List.mem_of_getElem? e)
    rw [upd_ne this]; exact r.tF b m
  · by_cases hj : j = i
    · subst hj
      have hl : j < S.length := by have := (List.getElem?_eq_some_iff.mp ej).1; simpa using this
      rw [List.getElem?_set_self hl] at ej
      cases ej
      exact ⟨a, e, q⟩
    · rw [List.getElem?_set_ne (Ne.symm hj)] at ej
      obtain ⟨b, e2, qo⟩ := r.obj j ob ej
      refine ⟨b, e2, qo.mono (Step.wr e).toMv ?_⟩
      have : b ≠ a := by
        intro z; subst z
        obtain ⟨h1, q1⟩ := List.getElem?_eq_some_iff.mp e
        obtain ⟨h2, q2⟩ := List.getElem?_eq_some_iff.mp e2
        exact hj ((List.getElem_inj r.nd).mp (q2.trans q1.symm))
      rw [upd_ne this]
theorem RelS.at (r : RelS C g S H) {i : Nat} {o : Ob} {a : Addr} (e : S[i]? = some o) (ea : g.bs[i]? = some a) : RepO C g H o a := by
  obtain ⟨b, e2, q⟩ := r.obj i o e
  rw [ea] at e2; cases e2; exact q
/-- an address that is hidden for a time -/
theorem RelS.mvH (r : RelS C g S H) {p : Addr} {o : HO} (h : H p = none) : Mv g (g.hide p) H (upd H p o) :=
  ⟨⟨[], by simp [G.hide], fun _ h => nomatch h⟩, fun a u e _ f z => by
    rcases List.mem_cons.mp z with z | z
    · subst z; rw [h] at e; cases e
    · exact f z, fun a u e n _ => by rw [upd_ne (ne_of_none e h)]; exact e⟩
theorem RelS.hide (r : RelS C g S H) {p : Addr} {o : HO} (h : H p = none) : RelS C (g.hide p) S (upd H p o) := by
  have r' := r.new (o := o) h
  refine ⟨r'.nd, r'.len, fun a m => ?_, fun a m => ?_, fun i ob e => ?_⟩
  · rcases List.mem_cons.mp m with e | m
    · subst e; rw [upd_same]; simp
    · exact r'.tF a m
  · rcases List.mem_cons.mp m with e | m
    · subst e; exact r.newB h
    · exact r'.sep a m
  · obtain ⟨a, e2, q⟩ := r.obj i ob e
    refine ⟨a, e2, q.mono (r.mvH h) ?_⟩
    have : a ≠ p := fun z => r.newB h (z ▸ List.mem_of_getElem? e2)
    rw [upd_ne this]
/-- the hidden thing changes -/
theorem Rd.hid {p a : Addr} {o u : HO} {acc : List V} (hp : H p = some (.lst acc)) (h : Rd H a u) (n : a ≠ p) : Rd (upd H p o) a u := by
  rcases h with h | ⟨q, h⟩
  · exact .inl (by rw [upd_ne n]; exact h)
  · exact .inr ⟨q, by rw [upd_ne n]; exact h⟩
mutual
theorem RepV.wrH {p : Addr} {o : HO} {acc : List V} (hp : H p = some (.lst acc)) (m : p ∈ g.F) : ∀ {x : PV} {v : V}, RepV C g H x v → RepV C g (upd H p o) x v
  | _, _, .non => .non
  | _, _, .bl b => .bl b
  | _, _, .int i => .int i
  | _, _, .str i => .str i
  | _, _, .tup (a := a) h d n f l => .tup (by rw [upd_ne (show a ≠ p from fun z => f (z ▸ m))]; exact h) d n f (RepL.wrH hp m l)
  | _, _, .ktup h l => .ktup h (RepL.wrH hp m l)
  | _, _, .lst h n f l => .lst (Rd.hid hp h fun z => f (z ▸ m)) n f (RepL.wrH hp m l)
  | _, _, .dK h e n f l => .dK (Rd.hid hp h fun z => f (z ▸ m)) e n f (RepL.wrH hp m l)
  | _, _, .dT h e n f q l => .dT (Rd.hid hp h fun z => f (z ▸ m)) e n f (RepL.wrH hp m q) (RepL.wrH hp m l)
  | _, _, .ins (a := a) h e n f l => .ins (by rw [upd_ne (show a ≠ p from fun z => f (z ▸ m))]; exact h) e n f (RepL.wrH hp m l)
  | _, _, .ref h => .ref h
  | _, _, .scr h l => .scr (h.imp (fun q => ⟨Rd.hid hp q.1 fun z => q.2.2 (z ▸ m), q.2.1, q.2.2⟩) id) (RepL.wrH hp m l)
theorem RepL.wrH {p : Addr} {o : HO} {acc : List V} (hp : H p = some (.lst acc)) (m : p ∈ g.F) : ∀ {xs : List PV} {vs : List V}, RepL C g H xs vs → RepL C g (upd H p o) xs vs
  | _, _, .nil => .nil
  | _, _, .cons h l => .cons (RepV.wrH hp m h) (RepL.wrH hp m l)
end
theorem RelS.wrH (r : RelS C g S H) {p : Addr} {o : HO} {acc : List V} (hp : H p = some (.lst acc)) (m : p ∈ g.F) : RelS C g S (upd H p o) := by
  refine ⟨r.nd, r.len, fun a ma => ?_, r.sep, fun i ob e => ?_⟩
  · by_cases z : a = p
    · subst z; rw [upd_same]; simp
    · rw [upd_ne z]; exact r.tF a ma
  · obtain ⟨a, e2, q⟩ := r.obj i ob e
    have ne : a ≠ p := fun z => r.sep p m (z ▸ List.mem_of_getElem? e2)
    refine ⟨a, e2, ?_⟩
    cases ob with
    | lst xs => obtain ⟨vs, q, l⟩ := q; exact ⟨vs, by rw [upd_ne ne]; exact q, l.wrH hp m⟩
    | dK ks xs => obtain ⟨vs, q, n, l⟩ := q; exact ⟨vs, by rw [upd_ne ne]; exact q, n, l.wrH hp m⟩
    | dT ks xs => obtain ⟨vs, q, n, l1, l⟩ := q; exact ⟨vs, by rw [upd_ne ne]; exact q, n, l1.wrH hp m, l.wrH hp m⟩
    | ins c xs => obtain ⟨dx, vs, q, n, l⟩ := q; exact ⟨dx, vs, by rw [upd_ne ne]; exact q, n, l.wrH hp m⟩
theorem Mv.unhide {p : Addr} {H : Hp} : Mv (g.hide p) g H H :=
  ⟨⟨[], by simp [G.hide], fun _ h => nomatch h⟩, fun a u _ _ f z => f (List.mem_cons_of_mem _ z), fun _ _ h _ _ => h⟩
end

/-- the names' values -/
abbrev Nv := List (Option PV)
structure RelE (C : Cf) (g : G) (H : Hp) (ρ : Nv) (σ : L2.St) : Prop where
  len : ρ.length = σ.length
  at_ : ∀ (i : Nat) p, ρ[i]? = some (some p) → ∃ v, σ[i]? = some (some v) ∧ RepV C g H p v
theorem RelE.mono {ρ : Nv} {σ : L2.St} (s : Mv g g' H H') (r : RelE C g H ρ σ) : RelE C g' H' ρ σ :=
  ⟨r.len, fun i p e => let ⟨v, h, q⟩ := r.at_ i p e; ⟨v, h, q.mono s⟩⟩
theorem RelE.set {ρ : Nv} {σ : L2.St} (r : RelE C g H ρ σ) (i : Nat) {p : PV} {v : V} (h : RepV C g H p v) : RelE C g H (ρ.set i (some p)) (σ.set i (some v)) := by
  refine ⟨by simp [r.len], fun j q e => ?_⟩
  by_cases hj : j = i
  · subst hj
    have hl : j < ρ.length := by have := (List.getElem?_eq_some_iff.mp e).1; simpa using this
    rw [List.getElem?_set_self hl] at e
    cases e
    exact ⟨v, by rw [List.getElem?_set_self (by rw [← r.len]; exact hl)], h⟩
  · rw [List.getElem?_set_ne (Ne.symm hj)] at e
    obtain ⟨w, e2, q2⟩ := r.at_ j q e
    exact ⟨w, by rw [List.getElem?_set_ne (Ne.symm hj)]; exact e2, q2⟩
end
end Q
set_option Elab.async false
set_option linter.all false
set_option maxRecDepth 100000
/-! P1: the IR and its evaluator. -/
namespace Q
open L2 PyProof.Rows PySem PySem.Spec

inductive Bo where | add | sub | mul | fdiv | mod | shl | shr | pow | bxor | band
  deriving DecidableEq
inductive Co where | eq | ne | lt | le | gt | ge | mem | nmem
  deriving DecidableEq
inductive Bi where | len | tuple | list | listM | sum | max | min | max2 | min2 | abs | int | sorted | any | all | dict | dictM | set
  deriving DecidableEq
inductive Me where | append | extend | pop | popAt | insert | index | indexT | get1 | get2
  deriving DecidableEq
/-- what a name may be asked by isinstance -/
inductive Ty where | int | bool | str | tuple | list | dict
  deriving DecidableEq
inductive Tg where
  | name (i : Nat) | tup (ts : List Tg)
mutual
inductive E where
  | var (i : Nat) | non | bl (b : Bool) | int (i : Int) | str (x : Str) | glo (k : Nat)
  | tup (es : Es) | lst (mu : Bool) (es : Es) | dK0 (mu : Bool) | dT0 (mu : Bool)
  | bin (op : Bo) (a b : E) | neg (a : E)
  | cmp (op : Co) (a b : E) | chain (o1 o2 : Co) (a b c : E) | isN (ng : Bool) (a : E)
  | and_ (a b : E) | or_ (a b : E) | one (a : E) | not_ (a : E) | ite (t a b : E)
  | idx (a i : E) | slc (a : E) (lo hi : Eo) | rev (a : E)
  | call (f : Nat) (es : Es) | blt (b : Bi) (es : Es) | isi (a : E) (ty : Ty) | meth (m : Me) (o : E) (es : Es)
  | comp (own : List Nat) (elt : E) (tg : Tg) (it : It) (ifs : Eo) | compM (own : List Nat) (elt : E) (tg : Tg) (it : It) (ifs : Eo)
  | comp2 (own : List Nat) (elt : E) (tg : Tg) (it : It) (ifs : Eo) (own1 : List Nat) (tg1 : Tg) (it1 : It) (ifs1 : Eo)
inductive Es where | nil | cons (e : E) (es : Es)
inductive Eo where | none | some (e : E)
inductive It where | seq (e : E) | range (es : Es) | zip (a b : E) | enum (a : E)
end
mutual
inductive Sm where
  | asg (t : Tg) (e : E) | par (is : List Nat) (es : Es)
  | setI (o i e : E) | aug (i : Nat) (op : Bo) (e : E) | augI (o i : E) (op : Bo) (e : E)
  | expr (e : E) | ret (e : E) | retN
  | ifS (t : E) (a b : Sms) | forS (tg : Tg) (it : It) (body : Sms) | whileS (t : E) (body : Sms)
  | brk | cnt | pass_
inductive Sms where | nil | cons (s : Sm) (ss : Sms)
end

/-! ### by values -/
abbrev big : Nat := 16777216
def seqOf (S : Store) : PV → Option (List PV)
  | .tup xs => some xs
  | .lst xs => some xs
  | .scr xs => some xs
  | .ref n => match S[n]? with | some (.lst xs) => some xs | _ => none
  | _ => none
def lstOf (S : Store) : PV → Option (List PV)
  | .lst xs => some xs
  | .ref n => match S[n]? with | some (.lst xs) => some xs | _ => none
  | _ => none
def intOf : PV → Option Int | .int i => some i | _ => none
def intsOf : List PV → Option (List Int)
  | [] => some []
  | .int i :: r => (intsOf r).map (i :: ·)
  | _ :: _ => none
def boolsOf : List PV → Option (List Bool)
  | [] => some []
  | .bl i :: r => (boolsOf r).map (i :: ·)
  | _ :: _ => none
mutual
def toD : PV → PyData
  | .non => .none
  | .bl b => .bool b
  | .int i => .int i
  | .str x => .str x
  | .tup xs => .tuple (toDs xs)
  | .lst xs => .list (toDs xs)
  | .dK _ _ => .dict []
  | .dT _ _ => .dict []
  | .ins _ _ => .dict []
  | .ref _ => .dict []
  | .scr _ => .dict []
def toDs : List PV → List PyData
  | [] => []
  | x :: xs => toD x :: toDs xs
end
/-- a list of the store as a value -/
def der (S : Store) (v : PV) : PV :=
  match v with
  | .ref n => match S[n]? with | some (.lst xs) => .lst xs | _ => v
  | _ => v
def keyOf : PV → Option Key | .int i => some (.inl i) | .str x => some (.inr x) | _ => none
section
variable {κ : Type} [DecidableEq κ]
def vat (ks : List κ) (xs : List PV) (k : κ) : Option PV := ((ks.zip xs).find? fun kv => decide (kv.1 = k)).map (·.2)
def vput {α : Type} (ks : List κ) (xs : List α) (k : κ) (v : α) : List κ × List α :=
  if k ∈ ks then (ks, (ks.zip xs).map fun kv => if kv.1 = k then v else kv.2) else (ks ++ [k], xs ++ [v])
end
mutual
/-- a tuple's item as a key's -/
def keyN : PV → Option NestedKey
  | .non => some .none
  | .int i => some (.num i)
  | .str x => some (.text x)
  | .tup xs => match keyNs xs with | some ks => some (.tup ks) | none => none
  | _ => none
def keyNs : List PV → Option (List NestedKey)
  | [] => some []
  | x :: xs => match keyN x, keyNs xs with | some k, some ks => some (k :: ks) | _, _ => none
end
/-- a tuple as a key -/
def keyT (k : PV) : Option NestedKey :=
  match k with
  | .tup ys => match keyNs ys with
    | some ks => if (NestedKey.tup ks).depth ≤ 8 then some (.tup ks) else none
    | none => none
  | _ => none
/-- what a dict tells of a key: none if it is no dict, or no key -/
def dgetO (o : Ob) (k : PV) : Option (Option PV) :=
  match o with
  | .dK ks xs => (keyOf k).map fun kk => vat ks xs kk
  | .dT ks xs => (keyT k).map fun kk => vat ks xs kk
  | _ => none
def dictOf (S : Store) : PV → Option Ob
  | .dK ks xs => some (.dK ks xs)
  | .dT ks xs => some (.dT ks xs)
  | .ref n => match S[n]? with
    | some (.dK ks xs) => some (.dK ks xs)
    | some (.dT ks xs) => some (.dT ks xs)
    | _ => none
  | _ => none
def dget (S : Store) (d k : PV) : Option (Option PV) := (dictOf S d).bind fun o => dgetO o k
def isNon : PV → Bool | .non => true | _ => false
def truthP (S : Store) : PV → Option Bool
  | .non => some false
  | .bl b => some b
  | .int i => some (i != 0)
  | .str x => if x.length ≤ big then some (x.length != 0) else none
  | .tup xs => some (!xs.isEmpty)
  | .lst xs => some (!xs.isEmpty)
  | .ref n => match S[n]? with
    | some (.lst xs) => some (!xs.isEmpty)
    | _ => none
  | _ => none
def alloc (mu : Bool) (xs : List PV) (S : Store) : Res PV :=
  if xs.length ≤ big then (if mu then .ok (.ref S.length) (S ++ [.lst xs]) else .ok (.lst xs) S) else .stuck
def mulOk (i j : Int) : Bool := (decide (-(2 ^ 64) < i) && decide (i < 2 ^ 64)) || (decide (-(2 ^ 64) < j) && decide (j < 2 ^ 64))
def tupN (xs : List PV) (S : Store) : Res PV := if xs.length ≤ big then .ok (.tup xs) S else .stuck
def binP (op : Bo) (x y : PV) (S : Store) : Res PV :=
  match op, x, y with
  | .add, .int i, .int j => .ok (.int (i + j)) S
  | .add, .tup xs, .tup ys => tupN (xs ++ ys) S
  | .add, .str a, .str b => if a.length + b.length ≤ big then .ok (.str (a ++ b)) S else .stuck
  | .sub, .int i, .int j => .ok (.int (i - j)) S
  | .mul, .int i, .int j => if mulOk i j then .ok (.int (i * j)) S else .stuck
  | .fdiv, .int i, .int j => if 0 < j ∧ j < 1073741824 then .ok (.int (i / j)) S else .stuck
  | .mod, .int i, .int j => if 0 < j then .ok (.int (i % j)) S else .stuck
  | .shr, .int i, .int j => if 0 ≤ j then .ok (.int (i / 2 ^ j.toNat)) S else .stuck
  | .add, x, y =>
    match lstOf S x, lstOf S y with
    | some xs, some ys => alloc false (xs ++ ys) S
    | _, _ => .stuck
  | _, _, _ => .stuck
def eqP (S : Store) (x y : PV) : Option Bool :=
  let d := toD (der S x)
  let e := toD (der S y)
  if SeqAt.shaped d && SeqAt.shaped e then some (PyData.eqv d e) else none
def memP (S : Store) (x y : PV) : Option Bool :=
  match seqOf S y with
  | some ys =>
    let d := toD (der S x)
    if SeqAt.shaped d && SeqAt.shaped (.list (toDs ys)) then some ((toDs ys).any fun z => PyData.eqv z d) else none
  | none => (dget S y x).map (·.isSome)
def cmpP (op : Co) (x y : PV) (S : Store) : Res PV :=
  match op with
  | .eq => match eqP S x y with | some b => .ok (.bl b) S | none => .stuck
  | .ne => match eqP S x y with | some b => .ok (.bl (!b)) S | none => .stuck
  | .mem => match memP S x y with | some b => .ok (.bl b) S | none => .stuck
  | .nmem => match memP S x y with | some b => .ok (.bl (!b)) S | none => .stuck
  | .lt => match x, y with | .int i, .int j => .ok (.bl (decide (i < j))) S | _, _ => .stuck
  | .le => match x, y with | .int i, .int j => .ok (.bl (decide (i ≤ j))) S | _, _ => .stuck
  | .gt => match x, y with | .int i, .int j => .ok (.bl (decide (j < i))) S | _, _ => .stuck
  | .ge => match x, y with | .int i, .int j => .ok (.bl (decide (j ≤ i))) S | _, _ => .stuck
def idxP (x i : PV) (S : Store) : Res PV :=
  match dictOf S x with
  | some o => match dgetO o i with | some (some v) => .ok v S | _ => .stuck
  | none =>
    match seqOf S x, i with
    | some xs, .int k => match atI xs k with | some v => .ok v S | none => .stuck
    | _, _ => .stuck
def cutP (xs : List PV) (lo hi : Option Int) : List PV := (xs.drop (HT.sIx xs.length 0 lo)).take (HT.sIx xs.length xs.length hi - HT.sIx xs.length 0 lo)
def slcP (x : PV) (lo hi : Option Int) (S : Store) : Res PV :=
  match x with
  | .tup xs => .ok (.tup (cutP xs lo hi)) S
  | _ => match lstOf S x with
    | some xs => .ok (.lst (cutP xs lo hi)) S
    | none => .stuck
def bltP (b : Bi) (vs : List PV) (S : Store) : Res PV :=
  match b, vs with
  | .len, [.str x] => if x.length ≤ big then .ok (.int x.length) S else .stuck
  | .len, [x] => match seqOf S x with
    | some xs => .ok (.int xs.length) S
    | none => match dictOf S x with
      | some (.dK ks _) => .ok (.int ks.length) S
      | some (.dT ks _) => .ok (.int ks.length) S
      | _ => .stuck
  | .tuple, [x] => match seqOf S x with | some xs => .ok (.tup xs) S | none => .stuck
  | .list, [x] => match seqOf S x with | some xs => .ok (.lst xs) S | none => .stuck
  | .listM, [x] => match seqOf S x with | some xs => .ok (.ref S.length) (S ++ [.lst xs]) | none => .stuck
  | .sum, [x] => match (seqOf S x).bind intsOf with | some ns => .ok (.int ns.sum) S | none => .stuck
  | .max, [x] => match (seqOf S x).bind intsOf with | some (n :: ns) => .ok (.int (ns.foldl max n)) S | _ => .stuck
  | .min, [x] => match (seqOf S x).bind intsOf with | some (n :: ns) => .ok (.int (ns.foldl min n)) S | _ => .stuck
  | .max2, [.int i, .int j] => .ok (.int (if j > i then j else i)) S
  | .min2, [.int i, .int j] => .ok (.int (if j < i then j else i)) S
  | .abs, [.int i] => .ok (.int (if i < 0 then -i else i)) S
  | .int, [.int i] => .ok (.int i) S
  | .int, [.bl b] => .ok (.int (if b then 1 else 0)) S
  | .any, [x] => match (lstOf S x).bind boolsOf with | some bs => .ok (.bl (bs.any id)) S | none => .stuck
  | .all, [x] => match (lstOf S x).bind boolsOf with | some bs => .ok (.bl (bs.all id)) S | none => .stuck
  | _, _ => .stuck
def isiP (x : PV) (ty : Ty) (S : Store) : Option Bool :=
  match x, ty with
  | .non, _ => some false
  | .bl _, .int => some true
  | .bl _, .bool => some true
  | .bl _, _ => some false
  | .int _, .int => some true
  | .int _, _ => some false
  | .str _, .str => some true
  | .str _, _ => some false
  | .tup _, .tuple => some true
  | .tup _, _ => some false
  | .lst _, .list => some true
  | .lst _, _ => some false
  | .ref n, ty => match S[n]? with
    | some (.lst _) => some (decide (ty = .list))
    | _ => none
  | _, _ => none
/-- the first place of an equal item -/
def idxFind (S : Store) (xs : List PV) (y : PV) : Option Nat :=
  let d := toD (der S y)
  if SeqAt.shaped d && SeqAt.shaped (.list (toDs xs)) then (toDs xs).findIdx? fun z => PyData.eqv z d else none
/-- what a method asks of its object ahead of the arguments -/
def methOk (m : Me) (x : PV) (S : Store) : Bool :=
  match m with
  | .indexT => match x with | .tup _ => true | _ => false
  | .get1 => (dictOf S x).isSome
  | .get2 => (dictOf S x).isSome
  | _ => (lstOf S x).isSome
def methP (m : Me) (x : PV) (vs : List PV) (S : Store) : Res PV :=
  match m, x, vs with
  | .append, .ref n, [v] => match S[n]? with
    | some (.lst xs) => if xs.length < big then .ok .non (S.set n (.lst (xs ++ [v]))) else .stuck
    | _ => .stuck
  | .extend, .ref n, [y] => match S[n]?, lstOf S y with
    | some (.lst xs), some ys => if xs.length + ys.length ≤ big then .ok .non (S.set n (.lst (xs ++ ys))) else .stuck
    | _, _ => .stuck
  | .pop, .ref n, [] => match S[n]? with
    | some (.lst xs) => match xs[xs.length - 1]? with | some v => .ok v (S.set n (.lst xs.dropLast)) | none => .stuck
    | _ => .stuck
  | .popAt, .ref n, [.int i] => match S[n]? with
    | some (.lst xs) => match ixN xs.length i with
      | some k => match xs[k]? with | some v => .ok v (S.set n (.lst (xs.eraseIdx k))) | none => .stuck
      | none => .stuck
    | _ => .stuck
  | .insert, .ref n, [.int i, v] => match S[n]? with
    | some (.lst xs) => if xs.length < big ∧ 0 ≤ i ∧ i < 2 ^ 63 then .ok .non (S.set n (.lst (xs.take i.toNat ++ [v] ++ xs.drop i.toNat))) else .stuck
    | _ => .stuck
  | .index, x, [y] => match lstOf S x with
    | some xs => match idxFind S xs y with | some j => .ok (.int (j : Nat)) S | none => .stuck
    | none => .stuck
  | .indexT, .tup xs, [y] => match idxFind S xs y with | some j => .ok (.int (j : Nat)) S | none => .stuck
  | .get1, d, [k] => match dget S d k with
    | some o => .ok (o.getD .non) S
    | none => .stuck
  | .get2, d, [k, e] => match dget S d k with
    | some o => .ok (o.getD e) S
    | none => .stuck
  | _, _, _ => .stuck
def setP (x i v : PV) (S : Store) : Res Unit :=
  match x with
  | .ref n => match S[n]? with
    | some (.lst xs) => match i with
      | .int k => match ixN xs.length k with | some j => .ok () (S.set n (.lst (xs.set j v))) | none => .stuck
      | _ => .stuck
    | some (.dK ks xs) => match keyOf i with
      | some kk => if ks.length < big then .ok () (S.set n (.dK (vput ks xs kk v).1 (vput ks xs kk v).2)) else .stuck
      | none => .stuck
    | some (.dT ks xs) => match keyT i with
      | some kk => if ks.length < big then .ok () (S.set n (.dT (vput ks xs kk v).1 (vput ks xs kk v).2)) else .stuck
      | none => .stuck
    | _ => .stuck
  | _ => .stuck
/-- what is walked: the object of the store that must stay as it is, and the items -/
structure Itm where
  src : Option (Nat × Ob)
  xs : List PV
def Itm.still (m : Itm) (S : Store) : Prop := ∀ n o, m.src = some (n, o) → S[n]? = some o
def walkP (x : PV) (S : Store) : Res Itm :=
  match x with
  | .tup xs => .ok ⟨none, xs⟩ S
  | .lst xs => .ok ⟨none, xs⟩ S
  | .scr xs => .ok ⟨none, xs⟩ S
  | .ref n => match S[n]? with
    | some (.lst xs) => .ok ⟨some (n, .lst xs), xs⟩ S
    | _ => .stuck
  | _ => .stuck
def rangeL (lo hi : Int) : List PV := (List.range (hi - lo).toNat).map fun (i : Nat) => .int (lo + i)
def rgOk (i : Int) : Bool := decide (-(2 ^ 62) ≤ i) && decide (i < 2 ^ 62)
def rangeP (vs : List PV) (S : Store) : Res Itm :=
  match vs with
  | [.int j] => if rgOk j then .ok ⟨none, rangeL 0 j⟩ S else .stuck
  | [.int i, .int j] => if rgOk i && rgOk j then .ok ⟨none, rangeL i j⟩ S else .stuck
  | _ => .stuck

/-! ### names -/
mutual
def setT (S : Store) : Tg → PV → Nv → Option Nv
  | .name i, v, ρ => some (ρ.set i (some v))
  | .tup ts, v, ρ => match seqOf S v with
    | some xs => setTs S ts xs ρ
    | none => none
def setTs (S : Store) : List Tg → List PV → Nv → Option Nv
  | [], [], ρ => some ρ
  | t :: ts, x :: xs, ρ => match setT S t x ρ with
    | some ρ' => setTs S ts xs ρ'
    | none => none
  | _, _, _ => none
end
def setNs : List Nat → List PV → Nv → Option Nv
  | [], [], ρ => some ρ
  | i :: is, x :: xs, ρ => setNs is xs (ρ.set i (some x))
  | _, _, _ => none
def wipeP (ρ : Nv) : List Nat → Nv
  | [] => ρ
  | i :: is => (wipeP ρ is).set i none
inductive Fl where
  | nx (ρ : Nv) | rt (v : PV) | bk (ρ : Nv) | ct (ρ : Nv)

/-! ### loops -/
section
open Classical
/-- a list comprehension's turns; the list so far is handed on -/
noncomputable def compR (m : Itm) (turn : PV → List PV → Store → Res (List PV)) : List PV → List PV → Store → Res (List PV)
  | [], acc, S => if m.still S then .ok acc S else .stuck
  | x :: xs, acc, S => if m.still S then (turn x acc S).bind fun acc1 S1 => compR m turn xs acc1 S1 else .stuck
/-- the same where the list stands in the store -/
noncomputable def compMR (m : Itm) (turn : PV → Store → Res (Option PV)) (n : Nat) : List PV → Store → Res Unit
  | [], S => if m.still S then .ok () S else .stuck
  | x :: xs, S => if m.still S then (turn x S).bind fun o S1 =>
      match o with
      | some v => match S1[n]? with
        | some (.lst acc) => if acc.length < big then compMR m turn n xs (S1.set n (.lst (acc ++ [v]))) else .stuck
        | _ => .stuck
      | none => compMR m turn n xs S1
    else .stuck
/-- a for's turns -/
noncomputable def forR (m : Itm) (turn : PV → Nv → Store → Res Fl) : List PV → Nv → Store → Res Fl
  | [], ρ, S => if m.still S then .ok (.nx ρ) S else .stuck
  | x :: xs, ρ, S => if m.still S then (turn x ρ S).bind fun fl S1 =>
      match fl with
      | .nx ρ1 => forR m turn xs ρ1 S1
      | .ct ρ1 => forR m turn xs ρ1 S1
      | .bk ρ1 => .ok (.nx ρ1) S1
      | .rt v => .ok (.rt v) S1
    else .stuck
def whileN (t : Nv → Store → Res Bool) (b : Nv → Store → Res Fl) : Nat → Nv → Store → Option (Res Fl)
  | 0, _, _ => none
  | n + 1, ρ, S => match t ρ S with
    | .stuck => some .stuck
    | .exc c v S1 => some (.exc c v S1)
    | .ok false S1 => some (.ok (.nx ρ) S1)
    | .ok true S1 => match b ρ S1 with
      | .stuck => some .stuck
      | .exc c v S2 => some (.exc c v S2)
      | .ok (.nx ρ2) S2 => whileN t b n ρ2 S2
      | .ok (.ct ρ2) S2 => whileN t b n ρ2 S2
      | .ok (.bk ρ2) S2 => some (.ok (.nx ρ2) S2)
      | .ok (.rt v) S2 => some (.ok (.rt v) S2)
noncomputable def whileR (t : Nv → Store → Res Bool) (b : Nv → Store → Res Fl) (ρ : Nv) (S : Store) : Res Fl :=
  if h : ∃ r n, whileN t b n ρ S = some r then Classical.choose h else .stuck
end
theorem whileN_mono {t : Nv → Store → Res Bool} {b : Nv → Store → Res Fl} : ∀ {n m : Nat} {ρ : Nv} {S : Store} {r : Res Fl}, whileN t b n ρ S = some r → n ≤ m → whileN t b m ρ S = some r
  | 0, _, _, _, _, h, _ => by cases h
  | n + 1, 0, _, _, _, _, h => by omega
  | n + 1, m + 1, ρ, S, r, h, hm => by
    unfold whileN at h ⊢
    cases ht : t ρ S with
    | stuck => rw [ht] at h; exact h
    | exc c v S1 => rw [ht] at h; exact h
    | ok c S1 =>
      rw [ht] at h
      cases c with
      | false => exact h
      | true =>
        simp only at h ⊢
        cases hb : b ρ S1 with
        | stuck => rw [hb] at h; exact h
        | exc c v S1 => rw [hb] at h; exact h
        | ok fl S2 =>
          rw [hb] at h
          cases fl with
          | nx ρ2 => exact whileN_mono h (by omega)
          | ct ρ2 => exact whileN_mono h (by omega)
          | bk ρ2 => exact h
          | rt v => exact h
theorem whileR_eq {t : Nv → Store → Res Bool} {b : Nv → Store → Res Fl} {n : Nat} {ρ : Nv} {S : Store} {r : Res Fl} (h : whileN t b n ρ S = some r) : whileR t b ρ S = r := by
  have e : ∃ r n, whileN t b n ρ S = some r := ⟨r, n, h⟩
  unfold whileR
  rw [dif_pos e]
  obtain ⟨m, hm⟩ := Classical.choose_spec e
  have h1 := whileN_mono h (Nat.le_max_left n m)
  have h2 := whileN_mono hm (Nat.le_max_right n m)
  rw [h1] at h2
  exact (Option.some.inj h2).symm
theorem whileR_some {t : Nv → Store → Res Bool} {b : Nv → Store → Res Fl} {ρ : Nv} {S : Store} {Q : Fl → Store → Prop} (h : (whileR t b ρ S).wp Q) : ∃ n r, whileN t b n ρ S = some r ∧ r.wp Q := by
  unfold whileR at h
  split at h
  · rename_i e
    obtain ⟨n, hn⟩ := Classical.choose_spec e
    exact ⟨n, _, hn, h⟩
  · exact h.stuck

/-! ### the evaluator -/
structure Tb where
  F : Nat → List PV → Store → Res PV
  cs : Nat → PV
def ofO {α : Type} (o : Option α) (S : Store) : Res α := match o with | some a => .ok a S | none => .stuck
mutual
noncomputable def evE (T : Tb) : E → Nv → Store → Res PV
  | .var i, ρ, S => match ρ[i]? with | some (some v) => .ok v S | _ => .stuck
  | .non, _, S => .ok .non S
  | .bl b, _, S => .ok (.bl b) S
  | .int i, _, S => .ok (.int i) S
  | .str x, _, S => .ok (.str x) S
  | .glo k, _, S => .ok (T.cs k) S
  | .tup es, ρ, S => (evEs T es ρ S).bind tupN
  | .lst mu es, ρ, S => (evEs T es ρ S).bind (alloc mu)
  | .dK0 mu, _, S => if mu then .ok (.ref S.length) (S ++ [.dK [] []]) else .ok (.dK [] []) S
  | .dT0 mu, _, S => if mu then .ok (.ref S.length) (S ++ [.dT [] []]) else .ok (.dT [] []) S
  | .bin op a b, ρ, S => (evE T a ρ S).bind fun x S1 => (evE T b ρ S1).bind fun y S2 => binP op x y S2
  | .neg a, ρ, S => (evE T a ρ S).bind fun x S1 => match x with | .int i => .ok (.int (-i)) S1 | _ => .stuck
  | .cmp op a b, ρ, S => (evE T a ρ S).bind fun x S1 => (evE T b ρ S1).bind fun y S2 => cmpP op x y S2
  | .chain o1 o2 a b c, ρ, S => (evE T a ρ S).bind fun x S1 => (evE T b ρ S1).bind fun y S2 => (cmpP o1 x y S2).bind fun r S3 =>
      match r with
      | .bl true => (evE T c ρ S3).bind fun z S4 => cmpP o2 y z S4
      | .bl false => .ok (.bl false) S3
      | _ => .stuck
  | .isN ng a, ρ, S => (evE T a ρ S).bind fun x S1 => .ok (.bl (xor ng (isNon x))) S1
  | .and_ a b, ρ, S => (evE T a ρ S).bind fun x S1 => match truthP S1 x with
      | some true => evE T b ρ S1
      | some false => .ok x S1
      | none => .stuck
  | .or_ a b, ρ, S => (evE T a ρ S).bind fun x S1 => match truthP S1 x with
      | some true => .ok x S1
      | some false => evE T b ρ S1
      | none => .stuck
  | .one a, ρ, S => evE T a ρ S
  | .not_ a, ρ, S => (evE T a ρ S).bind fun x S1 => match truthP S1 x with
      | some b => .ok (.bl (!b)) S1
      | none => .stuck
  | .ite t a b, ρ, S => (evE T t ρ S).bind fun x S1 => match truthP S1 x with
      | some true => evE T a ρ S1
      | some false => evE T b ρ S1
      | none => .stuck
  | .idx a i, ρ, S => (evE T a ρ S).bind fun x S1 => (evE T i ρ S1).bind fun y S2 => idxP x y S2
  | .slc a lo hi, ρ, S => (evE T a ρ S).bind fun x S1 => (evO T lo ρ S1).bind fun l S2 => (evO T hi ρ S2).bind fun h S3 => slcP x l h S3
  | .rev a, ρ, S => (evE T a ρ S).bind fun x S1 => match lstOf S1 x with
      | some xs => .ok (.lst xs.reverse) S1
      | none => .stuck
  | .call f es, ρ, S => (evEs T es ρ S).bind fun vs S1 => T.F f vs S1
  | .blt b es, ρ, S => (evEs T es ρ S).bind fun vs S1 => bltP b vs S1
  | .isi a ty, ρ, S => (evE T a ρ S).bind fun x S1 => match isiP x ty S1 with | some b => .ok (.bl b) S1 | none => .stuck
  | .meth m o es, ρ, S => (evE T o ρ S).bind fun x S1 => if methOk m x S1 then (evEs T es ρ S1).bind fun vs S2 => methP m x vs S2 else .stuck
  | .comp own elt tg it ifs, ρ, S => (evI T it ρ S).bind fun m S1 =>
      (compR m (fun x acc S2 => match setT S2 tg x (wipeP ρ own) with
        | some ρ1 => (evC T ifs ρ1 S2).bind fun b S3 => if b = true then (evE T elt ρ1 S3).bind fun v S4 => if acc.length < big then .ok (acc ++ [v]) S4 else .stuck else .ok acc S3
        | none => .stuck) m.xs [] S1).bind fun acc S5 => .ok (.lst acc) S5
  | .compM own elt tg it ifs, ρ, S => (evI T it ρ S).bind fun m S1 =>
      (compMR m (fun x S2 => match setT S2 tg x (wipeP ρ own) with
        | some ρ1 => (evC T ifs ρ1 S2).bind fun b S3 => if b = true then (evE T elt ρ1 S3).bind fun v S4 => .ok (some v) S4 else .ok none S3
        | none => .stuck) S1.length m.xs (S1 ++ [.lst []])).bind fun _ S5 => .ok (.ref S1.length) S5
  | .comp2 own elt tg it ifs own1 tg1 it1 ifs1, ρ, S => (evI T it ρ S).bind fun m S1 =>
      (compR m (fun x acc S2 => match setT S2 tg x (wipeP ρ own) with
        | some ρ1 => (evC T ifs ρ1 S2).bind fun b S3 => if b = true then (evI T it1 ρ1 S3).bind fun m1 S4 =>
            compR m1 (fun y acc S5 => match setT S5 tg1 y (wipeP ρ1 own1) with
              | some ρ2 => (evC T ifs1 ρ2 S5).bind fun b S6 => if b = true then (evE T elt ρ2 S6).bind fun v S7 => if acc.length < big then .ok (acc ++ [v]) S7 else .stuck else .ok acc S6
              | none => .stuck) m1.xs acc S4
          else .ok acc S3
        | none => .stuck) m.xs [] S1).bind fun acc S5 => .ok (.lst acc) S5
noncomputable def evEs (T : Tb) : Es → Nv → Store → Res (List PV)
  | .nil, _, S => .ok [] S
  | .cons e es, ρ, S => (evE T e ρ S).bind fun x S1 => (evEs T es ρ S1).bind fun xs S2 => .ok (x :: xs) S2
/-- a part of a slice -/
noncomputable def evO (T : Tb) : Eo → Nv → Store → Res (Option Int)
  | .none, _, S => .ok none S
  | .some e, ρ, S => (evE T e ρ S).bind fun x S1 => match x with | .int i => .ok (some i) S1 | _ => .stuck
/-- a comprehension's test -/
noncomputable def evC (T : Tb) : Eo → Nv → Store → Res Bool
  | .none, _, S => .ok true S
  | .some e, ρ, S => (evE T e ρ S).bind fun x S1 => ofO (truthP S1 x) S1
noncomputable def evI (T : Tb) : It → Nv → Store → Res Itm
  | .seq e, ρ, S => (evE T e ρ S).bind walkP
  | .range es, ρ, S => (evEs T es ρ S).bind rangeP
  | .zip a b, ρ, S => .stuck
  | .enum a, ρ, S => .stuck
end
noncomputable def evT (T : Tb) (e : E) (ρ : Nv) (S : Store) : Res Bool := (evE T e ρ S).bind fun x S1 => ofO (truthP S1 x) S1
mutual
noncomputable def evS (T : Tb) : Sm → Nv → Store → Res Fl
  | .asg t e, ρ, S => (evE T e ρ S).bind fun x S1 => match setT S1 t x ρ with | some ρ1 => .ok (.nx ρ1) S1 | none => .stuck
  | .par is es, ρ, S => (evEs T es ρ S).bind fun xs S1 => match setNs is xs ρ with | some ρ1 => .ok (.nx ρ1) S1 | none => .stuck
  | .setI o i e, ρ, S => (evE T e ρ S).bind fun v S1 => (evE T o ρ S1).bind fun x S2 => (evE T i ρ S2).bind fun y S3 => (setP x y v S3).bind fun _ S4 => .ok (.nx ρ) S4
  | .aug i op e, ρ, S => match ρ[i]? with
      | some (some x) => (evE T e ρ S).bind fun y S1 => (match x, y with
          | .int _, .int _ => binP op x y S1
          | _, _ => .stuck).bind fun z S2 => .ok (.nx (ρ.set i (some z))) S2
      | _ => .stuck
  | .augI o i op e, ρ, S => (evE T o ρ S).bind fun x S1 => (evE T i ρ S1).bind fun y S2 => (idxP x y S2).bind fun a S3 => (evE T e ρ S3).bind fun b S4 =>
      (match a, b with
          | .int _, .int _ => binP op a b S4
          | _, _ => .stuck).bind fun z S5 => (setP x y z S5).bind fun _ S6 => .ok (.nx ρ) S6
  | .expr e, ρ, S => (evE T e ρ S).bind fun _ S1 => .ok (.nx ρ) S1
  | .ret e, ρ, S => (evE T e ρ S).bind fun v S1 => .ok (.rt v) S1
  | .retN, _, S => .ok (.rt .non) S
  | .ifS t a b, ρ, S => (evT T t ρ S).bind fun c S1 => if c then evSs T a ρ S1 else evSs T b ρ S1
  | .forS tg it body, ρ, S => (evI T it ρ S).bind fun m S1 => forR m (fun x ρ1 S2 => match setT S2 tg x ρ1 with
      | some ρ2 => evSs T body ρ2 S2
      | none => .stuck) m.xs ρ S1
  | .whileS t body, ρ, S => whileR (evT T t) (evSs T body) ρ S
  | .brk, ρ, S => .ok (.bk ρ) S
  | .cnt, ρ, S => .ok (.ct ρ) S
  | .pass_, ρ, S => .ok (.nx ρ) S
noncomputable def evSs (T : Tb) : Sms → Nv → Store → Res Fl
  | .nil, ρ, S => .ok (.nx ρ) S
  | .cons s ss, ρ, S => (evS T s ρ S).bind fun fl S1 => match fl with
      | .nx ρ1 => evSs T ss ρ1 S1
      | f => .ok f S1
end
end Q
set_option Elab.async false
set_option linter.all false
set_option maxRecDepth 100000
set_option maxHeartbeats 1000000
/-! P2: the evaluator is sound: expressions. -/
namespace Q
open L2 PyProof.Rows PySem PySem.Spec

/-- what is wanted behind a value -/
def VQ (C : Cf) (g : G) (H : Hp) (Qv : VK) : PV → Store → Prop := fun p S' => ∀ g' H' v, Step g g' H H' → RelS C g' S' H' → RepV C g' H' p v → Qv v H'
def tE (C : Cf) (T : Tb) (e : E) : TE := fun σ H Qv => ∃ g S ρ, RelS C g S H ∧ RelE C g H ρ σ ∧ (evE T e ρ S).wp (VQ C g H Qv)
def tEs (C : Cf) (T : Tb) (es : Es) : TA := fun σ H Qv => ∃ g S ρ, RelS C g S H ∧ RelE C g H ρ σ ∧ (evEs T es ρ S).wp fun xs S' => ∀ g' H' vs, Step g g' H H' → RelS C g' S' H' → RepL C g' H' xs vs → Qv vs H'
def tT (C : Cf) (T : Tb) (e : E) : TT := fun σ H Qv => ∃ g S ρ, RelS C g S H ∧ RelE C g H ρ σ ∧ (evT T e ρ S).wp fun b S' => ∀ g' H', Step g g' H H' → RelS C g' S' H' → Qv b H'
def rP (C : Cf) (f : PV → PV → Store → Res PV) : R2 := fun x y H Qv => ∃ g S p q, RelS C g S H ∧ RepV C g H p x ∧ RepV C g H q y ∧ (f p q S).wp (VQ C g H Qv)
def rL (C : Cf) (f : List PV → Store → Res PV) : List V → Hp → VK → Prop := fun xs H Qv => ∃ g S ps, RelS C g S H ∧ RepL C g H ps xs ∧ (f ps S).wp (VQ C g H Qv)

/-- the promise of a def that does what F says -/
def spF (C : Cf) (n : Nat) (F : List PV → Store → Res PV) : Sp := fun vs H Qv _ => vs.length = n ∧ rL C F vs H Qv

structure Ctx (X : Cx) (C : Cf) (T : Tb) (k : Nat) (N : List Str) (sc : Scope) (fb : Str → Bool) (fl : List (Str × Nat × Nat)) (bl : List Str) (gl : List (Str × Nat)) : Prop where
  K : X.K = C.K
  N : X.N = N
  nd : X.N.Nodup
  sc : X.env.scope = sc
  calm : X.calm = true
  w : X.w = C.w
  xe : X.xe = fun _ _ => False
  room : Room k X.A
  fb : ∀ x, fb x = true → X.fn x = true
  fns : ∀ x f n, (x, f, n) ∈ fl → ∃ fa fd ps, ps.length = n ∧ X.mg x = some (.ref fa) ∧ PySem.W.keepIn X.K (.ref fa) = true ∧ L2.Binds X.K fd ps [] ∧ FnOk X.prog X.w X.K X.mg X.base CX0 k fa fd ps (spF C n (T.F f))
  blt : ∀ x, x ∈ bl → X.mg x = none
  glo : ∀ x j, (x, j) ∈ gl → ∃ u v, X.mg x = some u ∧ RelV v u ∧ ∀ g H, (∀ a ∈ g.bs, H a ≠ none) → RepV C g H (T.cs j) v

theorem _root_.L2.PE.weak {X : Cx} {e : Expr} {t t' : TE} (h : PE X e t) (i : ∀ σ H Qv, t' σ H Qv → t σ H Qv) : PE X e t' := ⟨fun pins s σ H Qv I q => h.run pins s σ H Qv I (i σ H Qv q)⟩
theorem _root_.L2.PT.weak {X : Cx} {e : Expr} {t t' : TT} (h : PT X e t) (i : ∀ σ H Qv, t' σ H Qv → t σ H Qv) : PT X e t' := ⟨fun pins s σ H Qv I q => h.run pins s σ H Qv I (i σ H Qv q)⟩
theorem _root_.L2.PW.weak {X : Cx} {e : Expr} {t t' : TT} (h : PW X e t) (i : ∀ σ H Qv, t' σ H Qv → t σ H Qv) : PW X e t' := ⟨fun wh pins s σ H Qv I q => h.run wh pins s σ H Qv I (i σ H Qv q)⟩
theorem _root_.L2.PA.weak {X : Cx} {e : List Expr} {t t' : TA} (h : PA X e t) (i : ∀ σ H Qv, t' σ H Qv → t σ H Qv) : PA X e t' := ⟨fun pos pins s σ H Qv I q => h.run pos pins s σ H Qv I (i σ H Qv q)⟩

section
variable {C : Cf} {T : Tb}
/-- an expression, and then what goes on from its value -/
theorem tE_then {e : E} {σ : L2.St} {H : Hp} {g : G} {S : Store} {ρ : Nv} {Qv : VK} {R : PV → Store → Prop} (rs : RelS C g S H) (re : RelE C g H ρ σ) (h : (evE T e ρ S).wp R)
    (k : ∀ p S' g' H' v, R p S' → Step g g' H H' → RelS C g' S' H' → RelE C g' H' ρ σ → RepV C g' H' p v → Qv v H') : tE C T e σ H Qv :=
  ⟨g, S, ρ, rs, re, h.mono fun p S' r g' H' v s rs' rv => k p S' g' H' v r s rs' (re.mono s.toMv) rv⟩
theorem tEs_then {e : Es} {σ : L2.St} {H : Hp} {g : G} {S : Store} {ρ : Nv} {Qv : List V → Hp → Prop} {R : List PV → Store → Prop} (rs : RelS C g S H) (re : RelE C g H ρ σ) (h : (evEs T e ρ S).wp R)
    (k : ∀ p S' g' H' v, R p S' → Step g g' H H' → RelS C g' S' H' → RelE C g' H' ρ σ → RepL C g' H' p v → Qv v H') : tEs C T e σ H Qv :=
  ⟨g, S, ρ, rs, re, h.mono fun p S' r g' H' v s rs' rv => k p S' g' H' v r s rs' (re.mono s.toMv) rv⟩
theorem VQ.from {g g1 : G} {H H1 : Hp} {Qv : VK} {p : PV} {S' : Store} (h : VQ C g H Qv p S') (s : Step g g1 H H1) : VQ C g1 H1 Qv p S' := fun g' H' v s' rs rv => h g' H' v (s.trans s') rs rv
theorem VQ.here {g : G} {H : Hp} {Qv : VK} {p : PV} {S : Store} {v : V} (h : VQ C g H Qv p S) (rs : RelS C g S H) (rv : RepV C g H p v) : Qv v H := h g H v (.refl g H) rs rv
/-- a new thing that is no object of the store -/
theorem VQ.new {g : G} {H : Hp} {Qv : VK} {p : PV} {S : Store} {v : V} {a : Addr} {o : HO} (h : VQ C g H Qv p S) (rs : RelS C g S H) (n : H a = none) (rv : RepV C g (upd H a o) p v) : Qv v (upd H a o) :=
  h g _ v (rs.stepN n) (rs.new n) rv
theorem VQ.add {g : G} {H : Hp} {Qv : VK} {S : Store} {a : Addr} {ho : HO} {o : Ob} (h : VQ C g H Qv (.ref S.length) (S ++ [o])) (rs : RelS C g S H) (n : H a = none) (q : RepO C (g.add a) (upd H a ho) o a) : Qv (.ref a) (upd H a ho) :=
  h (g.add a) _ _ (rs.stepA n) (rs.add n q) (.ref (rs.addGet a))
theorem VQ.wr {g : G} {H : Hp} {Qv : VK} {p : PV} {S : Store} {v : V} {i : Nat} {a : Addr} {ho : HO} {o : Ob} (h : VQ C g H Qv p (S.set i o)) (rs : RelS C g S H) (e : g.bs[i]? = some a) (q : RepO C g (upd H a ho) o a)
    (rv : RepV C g (upd H a ho) p v) : Qv v (upd H a ho) := h g _ v (Step.wr e) (rs.wr e q) rv

variable {g : G} {H : Hp} {S : Store}
theorem rep_lst {p : Addr} {xs : List PV} {vs : List V} (rs : RelS C g S H) (n : H p = none) (l : RepL C g H xs vs) : RepV C g (upd H p (.lst vs)) (.lst xs) (.ref p) :=
  .lst (.inl upd_same) (rs.newB n) (rs.newF n) (l.mono (rs.stepN n).toMv)
theorem rep_tup {p : Addr} {o : Obj} {xs : List PV} {vs : List V} (rs : RelS C g S H) (n : H p = none) (hd : o.dict = none) (l : RepL C g H xs vs) : RepV C g (upd H p (.frz o (.tup vs))) (.tup xs) (.ref p) :=
  .tup upd_same hd (rs.newB n) (rs.newF n) (l.mono (rs.stepN n).toMv)
/-- what is read as a list, as a sequence -/
theorem lstOf_rep {x : PV} {v : V} {xs : List PV} (rs : RelS C g S H) (r : RepV C g H x v) (h : lstOf S x = some xs) : ∃ a vs, v = .ref a ∧ Rd H a (.lst vs) ∧ RepL C g H xs vs := by
  cases r with
  | lst rd n f l => cases h; exact ⟨_, _, rfl, rd, l⟩
  | ref e =>
    simp only [lstOf] at h
    split at h <;> cases h
    rename_i q
    obtain ⟨vs, e1, l⟩ := rs.at q e
    exact ⟨_, vs, rfl, .inl e1, l⟩
  | _ => cases h
theorem seqOf_rep {x : PV} {v : V} {xs : List PV} (rs : RelS C g S H) (r : RepV C g H x v) (h : seqOf S x = some xs) : ∃ a vs, v = .ref a ∧ (SqL C.K H a vs ∨ SqT C.K H a vs) ∧ RepL C g H xs vs := by
  cases r with
  | tup t d n f l => cases h; exact ⟨_, _, rfl, .inr (.inl (.inr ⟨_, t⟩)), l⟩
  | ktup t l => cases h; exact ⟨_, _, rfl, .inr t.sq, l⟩
  | lst rd n f l => cases h; exact ⟨_, _, rfl, .inl (.inl rd), l⟩
  | scr q l => cases h; exact ⟨_, _, rfl, .inl (q.elim (fun q => .inl q.1) KLst.sq), l⟩
  | ref e =>
    obtain ⟨a, vs, e1, rd, l⟩ := lstOf_rep (x := .ref _) rs (.ref e) (xs := xs) (by
      unfold seqOf at h
      unfold lstOf
      exact h)
    exact ⟨a, vs, e1, .inl (.inl rd), l⟩
  | _ => cases h
end
end Q
set_option Elab.async false
set_option linter.all false
set_option maxRecDepth 100000
set_option maxHeartbeats 1000000
/-! P2a: operators by values. -/
namespace Q
open L2 PyProof.Rows PySem PySem.Spec
section
variable {X : Cx} {pins : List (Addr × Obj)} {σ : L2.St} {H : Hp} {s : Shared}
theorem lstR {l : Addr} {xs : List V} (I : Inv X pins σ H s) (hH : Rd H l (.lst xs)) : xs.length ≤ sizeLine ∧ ∃ (its : List Value) (n : Nat), Vals xs its ∧ xs.length = its.length ∧ s.heap.get? l = some { cls := .type "list", data := .seq its.toArray n } := by
  obtain ⟨z, its, n, r, e⟩ := hH.ok I.hok
  exact ⟨z, its, n, r, r.length, e⟩
end
section
variable {X : Cx}
def rCatR : R2 := fun x y H Qv => ∃ l b xs zs, x = .ref l ∧ y = .ref b ∧ Rd H l (.lst xs) ∧ Rd H b (.lst zs) ∧ xs.length + zs.length ≤ sizeLine ∧ ∀ p, H p = none → Qv (.ref p) (upd H p (.lst (xs ++ zs)))
theorem op_catR : OpR X (binaryOp .Add) rCatR := by
  intro pins s σ H x y v u Qv I rx ry h
  obtain ⟨l, b, xs, zs, rfl, rfl, hH, hB, hz, q⟩ := h
  cases rx
  cases ry
  obtain ⟨z, its, n, r, hl, e⟩ := lstR I hH
  obtain ⟨z2, its2, n2, r2, hl2, e2⟩ := lstR I hB
  refine PySem.P.add_list e e2 ?_ (by rw [List.size_toArray, List.size_toArray]; omega)
  have ea : its.toArray ++ its2.toArray = (its ++ its2).toArray := by simp
  rw [ea]
  exact ⟨.ref _, _, I.lnew (t' := s.toks) (r.append r2) (by rw [List.length_append]; omega), rfl, q _ I.fresh⟩
/-- a new tuple, its object known -/
theorem laidT {pins : List (Addr × Obj)} {σ : L2.St} {H : Hp} {s : Shared} {its : List Value} {vs : List V} {t' : Nat} (I : Inv X pins σ H s) (r : Vals vs its) (hz : vs.length ≤ sizeLine) :
    Inv X pins σ (upd H s.heap.objs.size (.frz { cls := .type "tuple", data := .seq its.toArray } (.tup vs))) { s with heap := s.heap.push { cls := .type "tuple", data := .seq its.toArray }, toks := t' } :=
  I.laid (t' := t') (fun b u e => Heap.get?_push_of_some _ e) (Nat.le_refl _) ⟨Heap.get?_push_size _ rfl, hz, its, r, IsTup.new _ _⟩
/-- what a new tuple is wanted for -/
def NT (H : Hp) (vs : List V) (Qv : VK) : Prop := ∀ p o, H p = none → o.dict = none → Qv (.ref p) (upd H p (.frz o (.tup vs)))
def rCatF (K : PySem.W.Frag) : R2 := fun x y H Qv => ∃ a b xs ys, x = .ref a ∧ y = .ref b ∧ SqT K H a xs ∧ SqT K H b ys ∧ xs.length + ys.length ≤ sizeLine ∧
  (xs = [] → Qv (.ref b) H) ∧ (xs ≠ [] → ys = [] → Qv (.ref a) H) ∧ (xs ≠ [] → ys ≠ [] → NT H (xs ++ ys) Qv)
theorem op_catF : OpR X (binaryOp .Add) (rCatF X.K) := by
  intro pins s σ H x y v u Qv I rx ry h
  obtain ⟨a, b, xs, ys, rfl, rfl, ha, hb, hz, q0, q1, q2⟩ := h
  cases rx
  cases ry
  obtain ⟨its, r1, p1, _⟩ := I.tuple ha
  obtain ⟨its2, r2, p2, _⟩ := I.tuple hb
  by_cases hx : xs = []
  · subst hx
    cases r1
    exact cat_tup0 p1 p2 ⟨.ref b, H, I, rfl, q0 rfl⟩
  · refine HT.cat_tup p1 p2 (fun z => hx (r1.nil_iff.mp z)) (fun z => ⟨.ref a, H, I, rfl, q1 hx (r2.nil_iff.mp z)⟩) (fun z => ?_) (by rw [← r1.length, ← r2.length]; exact hz)
    exact ⟨.ref s.heap.objs.size, _, laidT (t' := s.toks) I (r1.append r2) (by rw [List.length_append]; exact hz), rfl, q2 hx (fun w => z (r2.nil_iff.mpr w)) _ _ (I.hok.fresh (Nat.le_refl _)) rfl⟩
def rSlF (K : PySem.W.Frag) : V → Option Int → Option Int → Hp → VK → Prop := fun x lo hi H Qv => ∃ a xs, x = .ref a ∧ SqT K H a xs ∧
  (HT.sIx xs.length 0 lo = 0 ∧ HT.sIx xs.length xs.length hi = xs.length → Qv (.ref a) H) ∧ (¬ (HT.sIx xs.length 0 lo = 0 ∧ HT.sIx xs.length xs.length hi = xs.length) → NT H (cutV xs lo hi) Qv)
theorem sl_tupF : SlR X (rSlF X.K) := by
  intro pins s σ H x v vl vu lo hi sl Qv I rx hs pl pu h
  obtain ⟨a, xs, rfl, hx, q1, q2⟩ := h
  cases rx
  obtain ⟨its, r, ht, hz⟩ := I.tuple hx
  have hlen : its.toArray.size = xs.length := by rw [List.size_toArray]; exact r.length.symm
  refine ⟨"tuple", _, PyProof.Rows.slot_tuple_getitem.lookup, ht.typeIs, ?_⟩
  by_cases hw : HT.sIx xs.length 0 lo = 0 ∧ HT.sIx xs.length xs.length hi = xs.length
  · exact getItem_tuple_whole ht hs pl pu (by rw [hlen]; exact hw) ⟨.ref a, H, I, rfl, q1 hw⟩
  · refine HT.getItem_tuple_cut ht hs pl pu (by rw [hlen]; exact hw) ?_ (by rw [hlen]; exact hz)
    rw [hlen]
    exact ⟨.ref s.heap.objs.size, _, laidT (t' := s.toks) I ((r.drop (HT.sIx xs.length 0 lo)).take (HT.sIx xs.length xs.length hi - HT.sIx xs.length 0 lo)) (Nat.le_trans (cutV_length xs lo hi) hz), rfl, q2 hw _ _ (I.hok.fresh (Nat.le_refl _)) rfl⟩
theorem call_tupleF : CallR X (.type "tuple") (fun xs H Qv => ∃ p ys, xs = [.ref p] ∧ ((SqL X.K H p ys ∧ NT H ys Qv) ∨ (SqT X.K H p ys ∧ Qv (.ref p) H))) := by
  intro pins s σ H xs us Qv I r h
  obtain ⟨p, ys, rfl, h⟩ := h
  obtain ⟨u, rfl, rx⟩ := vals1 r
  cases rx
  rcases h with ⟨hq, q⟩ | ⟨hq, q⟩
  · obtain ⟨its, r', pl, hz⟩ := I.list hq
    have hlen := r'.length
    refine call_tuple_list pl.isList (fun h' kp => ?_) (by simp only [List.size_toArray] <;> omega)
    have I1 : Inv X pins σ H { s with heap := h' } := I.kept (t' := s.toks) kp
    exact ⟨.ref h'.objs.size, _, laidT (t' := s.toks) I1 r' hz, rfl, q _ _ (I1.hok.fresh (Nat.le_refl _)) rfl⟩
  · obtain ⟨its, r', pl, hz⟩ := I.tuple hq
    exact call_tuple_same pl ⟨.ref p, H, I, rfl, q⟩
def tTupF (t : TA) : TE := fun σ H Qv => t σ H fun xs H1 => xs.length ≤ sizeLine ∧ NT H1 xs Qv
theorem pe_tupF {es : List Expr} {t : TA} {x1 : Nat} {pos : Pos} (h : PA X es t) : PE X (.Tuple es x1 pos) (tTupF t) := by
  refine ⟨fun pins s σ H Qv I hq => ?_⟩
  refine wpAny_Tuple_spliced (thn (h.run pos pins s σ H _ I hq) fun us s1 ⟨xs, H1, I1, r, z, q⟩ => ⟨by rw [← r.length]; exact z, ?_⟩)
  exact ⟨.ref s1.heap.objs.size, _, laidT (t' := s1.toks) I1 r z, rfl, q _ _ (I1.hok.fresh (Nat.le_refl _)) rfl⟩
def opA : Bo → Operator
  | .add => .Add | .sub => .Sub | .mul => .Mult | .fdiv => .FloorDiv | .mod => .Mod | .shl => .LShift | .shr => .RShift | .pow => .Pow | .bxor => .BitXor | .band => .BitAnd
theorem big_eq : sizeLine = big := sizeLine_eq
theorem mulOk_c {i j : Int} (h : mulOk i j = true) : CMul i j := by
  simp only [mulOk, Bool.or_eq_true, Bool.and_eq_true, decide_eq_true_eq] at h
  exact h
theorem tupN_ok {xs : List PV} {S : Store} {R : PV → Store → Prop} (h : (tupN xs S).wp R) : xs.length ≤ sizeLine ∧ R (.tup xs) S := by
  unfold tupN at h
  split at h
  · rename_i hl
    exact ⟨by rw [big_eq]; exact hl, h.ok⟩
  · exact h.stuck
theorem ifS {c : Prop} {inst : Decidable c} {α : Type} {r : Res α} {R : α → Store → Prop} (h : (if c then r else .stuck).wp R) : c ∧ r.wp R := by
  split at h
  · rename_i hc; exact ⟨hc, h⟩
  · exact h.stuck
variable {C : Cf}
theorem repV_int {g : G} {H : Hp} {i : Int} {v : V} (r : RepV C g H (.int i) v) : v = .int i := by cases r; rfl
theorem repV_str {g : G} {H : Hp} {i : Str} {v : V} (r : RepV C g H (.str i) v) : v = .str i := by cases r; rfl
theorem repV_bl {g : G} {H : Hp} {i : Bool} {v : V} (r : RepV C g H (.bl i) v) : v = .bl i := by cases r; rfl
theorem catL_ok {pins : List (Addr × Obj)} {s : Shared} {σ : L2.St} {H : Hp} {x y : V} {v u : Value} {Qv : VK} (I : Inv X pins σ H s) (r1 : RelV x v) (r2 : RelV y u) {g : G} {S : Store} {p q : PV} (rs : RelS C g S H) (rp : RepV C g H p x) (rq : RepV C g H q y)
    (h : (match lstOf S p, lstOf S q with
    | some xs, some ys => alloc false (xs ++ ys) S
    | _, _ => .stuck).wp (VQ C g H Qv)) : wpAny (model X.prog X.w) X.A (binaryOp .Add v u) (EP X pins σ Qv) X.xe s := by
  split at h
  · rename_i xs ys e1 e2
    obtain ⟨a, vs, rfl, ra, la⟩ := lstOf_rep rs rp e1
    obtain ⟨b, ws, rfl, rb, lb⟩ := lstOf_rep rs rq e2
    obtain ⟨hl, h⟩ := ifS h
    have h := h.ok
    refine op_catR pins s σ H _ _ v u Qv I r1 r2 ⟨a, b, vs, ws, rfl, rfl, ra, rb, ?_, fun p n => h.new rs n (rep_lst rs n (la.append lb))⟩
    rw [← la.length, ← lb.length, big_eq]
    simpa using hl
  · exact h.stuck
theorem binR {K : PySem.W.Frag} (hK : X.K = C.K) (op : Bo) : OpR X (binaryOp (opA op)) (rP C (binP op)) := by
  intro pins s σ H x y v u Qv I r1 r2 h
  obtain ⟨g, S, p, q, rs, rp, rq, h⟩ := h
  unfold binP at h
  split at h
  · rw [repV_int rp] at r1; rw [repV_int rq] at r2
    exact op_add pins s σ H _ _ v u Qv I r1 r2 ⟨_, _, rfl, rfl, h.ok.here rs (.int _)⟩
  · rename_i xs ys
    obtain ⟨hl, h⟩ := tupN_ok h
    obtain ⟨a, vs, rfl, ta, la⟩ := rp.sqt
    obtain ⟨b, ws, rfl, tb, lb⟩ := rq.sqt
    refine op_catF pins s σ H _ _ v u Qv I r1 r2 ⟨a, b, vs, ws, rfl, rfl, hK ▸ ta, hK ▸ tb, ?_, fun e => ?_, fun _ e => ?_, fun _ _ p o n hd => ?_⟩
    · rw [← la.length, ← lb.length]; simpa using hl
    · subst e
      have : xs = [] := by have := la.length; simpa using this
      subst this
      exact h.here rs rq
    · subst e
      have : ys = [] := by have := lb.length; simpa using this
      subst this
      exact h.here rs (by rw [List.append_nil]; exact rp)
    · exact h.new rs n (rep_tup rs n hd (la.append lb))
  · rw [repV_str rp] at r1; rw [repV_str rq] at r2
    obtain ⟨hl, h⟩ := ifS h
    exact op_add_str pins s σ H _ _ v u Qv I r1 r2 ⟨_, _, rfl, rfl, by rw [big_eq]; exact hl, h.ok.here rs (.str _)⟩
  · rw [repV_int rp] at r1; rw [repV_int rq] at r2
    exact op_sub pins s σ H _ _ v u Qv I r1 r2 ⟨_, _, rfl, rfl, h.ok.here rs (.int _)⟩
  · rw [repV_int rp] at r1; rw [repV_int rq] at r2
    obtain ⟨hl, h⟩ := ifS h
    exact op_mul pins s σ H _ _ v u Qv I r1 r2 ⟨_, _, rfl, rfl, mulOk_c hl, h.ok.here rs (.int _)⟩
  · rw [repV_int rp] at r1; rw [repV_int rq] at r2
    obtain ⟨hl, h⟩ := ifS h
    exact op_fdiv pins s σ H _ _ v u Qv I r1 r2 ⟨_, _, rfl, rfl, hl, h.ok.here rs (.int _)⟩
  · rw [repV_int rp] at r1; rw [repV_int rq] at r2
    obtain ⟨hl, h⟩ := ifS h
    exact op_mod pins s σ H _ _ v u Qv I r1 r2 ⟨_, _, rfl, rfl, hl, h.ok.here rs (.int _)⟩
  · rw [repV_int rp] at r1; rw [repV_int rq] at r2
    obtain ⟨hl, h⟩ := ifS h
    exact op_shr pins s σ H _ _ v u Qv I r1 r2 ⟨_, _, rfl, rfl, hl, h.ok.here rs (.int _)⟩
  · exact catL_ok I r1 r2 rs rp rq h
  · exact h.stuck

/-! ### comparisons -/
mutual
theorem dp_of {g : G} {H : Hp} : ∀ {x : PV} {v : V}, RepV C g H x v → (toD x).canLay0 = true → Dp C.K H v (toD x)
  | _, _, .non, _ => by unfold toD; exact .non
  | _, _, .bl b, _ => by unfold toD; exact .bl b
  | _, _, .int b, _ => by unfold toD; exact .int b
  | _, _, .str b, _ => by unfold toD; exact .str b
  | _, _, .tup t d n f l, h => by
    unfold toD at h ⊢
    rw [PyData.canLay0] at h
    exact .tup (.inl (.inr ⟨_, t⟩)) (dps_of l h)
  | _, _, .ktup t l, h => by
    unfold toD at h ⊢
    rw [PyData.canLay0] at h
    exact .tup t.sq (dps_of l h)
  | _, _, .lst rd _ _ l, h => by
    unfold toD at h ⊢
    rw [PyData.canLay0] at h
    exact .lst (.inl rd) (dps_of l h)
  | _, _, .dK _ _ _ _ _, h => by unfold toD at h; cases h
  | _, _, .dT _ _ _ _ _ _, h => by unfold toD at h; cases h
  | _, _, .ins _ _ _ _ _, h => by unfold toD at h; cases h
  | _, _, .ref _, h => by unfold toD at h; cases h
  | _, _, .scr _ _, h => by unfold toD at h; cases h
theorem dps_of {g : G} {H : Hp} : ∀ {xs : List PV} {vs : List V}, RepL C g H xs vs → PyData.canLayAll0 (toDs xs) = true → DpAll C.K H vs (toDs xs)
  | _, _, .nil, _ => by unfold toDs; exact .nil
  | _, _, .cons r l, h => by
    unfold toDs at h ⊢
    rw [PyData.canLayAll0, Bool.and_eq_true] at h
    exact .cons (dp_of r h.1) (dps_of l h.2)
end
theorem dpd_of {g : G} {H : Hp} {S : Store} {x : PV} {v : V} (rs : RelS C g S H) (r : RepV C g H x v) (h : SeqAt.shaped (toD (der S x)) = true) : Dp C.K H v (toD (der S x)) := by
  have hl := SeqAt.canLay_of_shaped h
  cases x with
  | ref n =>
    unfold der at hl ⊢
    simp only at hl ⊢
    split at hl
    · rename_i xs e
      obtain ⟨a, vs, rfl, rd, l⟩ := lstOf_rep (x := .ref n) rs r (xs := xs) (by simp only [lstOf, e])
      unfold toD at hl ⊢
      rw [PyData.canLay0] at hl
      exact .lst (.inl rd) (dps_of l hl)
    · unfold toD at hl; cases hl
  | _ => exact dp_of r hl
theorem eqR {k : Nat} (hK : X.K = C.K) (hr : Room k X.A) {pins : List (Addr × Obj)} {s : Shared} {σ : L2.St} {H : Hp} {x y : V} {v u : Value} {Qv : VK} (I : Inv X pins σ H s) (r1 : RelV x v) (r2 : RelV y u) {g : G} {S : Store} {p q : PV} {b : Bool} (rs : RelS C g S H) (rp : RepV C g H p x) (rq : RepV C g H q y)
    (e : eqP S p q = some b) : (Qv (.bl b) H → wpAny (model X.prog X.w) X.A (compareOp .Eq v u) (EP X pins σ Qv) X.xe s) ∧ (Qv (.bl (!b)) H → wpAny (model X.prog X.w) X.A (compareOp .NotEq v u) (EP X pins σ Qv) X.xe s) := by
  unfold eqP at e
  simp only at e
  split at e
  · rename_i h
    rw [Bool.and_eq_true] at h
    cases e
    exact ⟨fun h' => op_eqD hr.units pins s σ H x y v u Qv I r1 r2 ⟨_, _, hK ▸ dpd_of rs rp h.1, hK ▸ dpd_of rs rq h.2, h.1, h.2, h'⟩,
      fun h' => op_neD hr.units pins s σ H x y v u Qv I r1 r2 ⟨_, _, hK ▸ dpd_of rs rp h.1, hK ▸ dpd_of rs rq h.2, h.1, h.2, h'⟩⟩
  · cases e
end
end Q
set_option Elab.async false
set_option linter.all false
set_option maxRecDepth 100000
set_option maxHeartbeats 1000000
/-! P2d: dicts whose keys are tuples, nested too, over the layer. -/
namespace Q
open L2 PyProof.Rows PySem PySem.Spec
section
variable {X : Cx} {pins : List (Addr × Obj)} {σ : L2.St} {H : Hp} {s : Shared} {C : Cf} {g : G}
mutual
theorem nest_of (I : Inv X pins σ H s) (hK : X.K = C.K) : ∀ {p : PV} {k : NestedKey} {v : V} {u : Value}, RepV C g H p v → keyN p = some k → L2.RelV v u → NestedIs s.heap k u
  | .non, _, _, _, r, e, ru => by cases r; cases e; cases ru; exact .none
  | .int i, _, _, _, r, e, ru => by cases r; cases e; obtain ⟨t, rfl⟩ := ru; exact .int _ _
  | .str i, _, _, _, r, e, ru => by cases r; cases e; obtain ⟨t, rfl⟩ := ru; exact .text _ _
  | .tup xs, k, v, u, r, e, ru => by
    unfold keyN at e
    split at e
    · rename_i ks e'
      cases e
      obtain ⟨a, vs, rfl, hs, l⟩ := r.sqt
      obtain ⟨its, rv, ⟨o, ho, hc, n, hd⟩, _⟩ := I.tuple (hK ▸ hs)
      cases (show u = Value.ref a from ru)
      exact .tup ho hc hd (nests_of I hK l e' rv)
    · cases e
  | .bl _, _, _, _, _, e, _ => by simp [keyN] at e
  | .lst _, _, _, _, _, e, _ => by simp [keyN] at e
  | .dK _ _, _, _, _, _, e, _ => by simp [keyN] at e
  | .dT _ _, _, _, _, _, e, _ => by simp [keyN] at e
  | .ins _ _, _, _, _, _, e, _ => by simp [keyN] at e
  | .ref _, _, _, _, _, e, _ => by simp [keyN] at e
theorem nests_of (I : Inv X pins σ H s) (hK : X.K = C.K) : ∀ {ps : List PV} {ks : List NestedKey} {vs : List V} {us : List Value}, RepL C g H ps vs → keyNs ps = some ks → Vals vs us → NestedAll s.heap ks us
  | [], _, _, _, r, e, ru => by cases r; cases e; cases ru; exact .nil
  | p :: ps, ks, _, _, r, e, ru => by
    cases r with
    | cons r l =>
    cases ru with
    | cons ru lu =>
    unfold keyNs at e
    split at e
    · rename_i k ks' e1 e2
      cases e
      exact .cons (nest_of I hK r e1 ru) (nests_of I hK l e2 lu)
    · cases e
end
mutual
theorem keyN_of : ∀ k : NestedKey, keyN (ofKey k) = some k
  | .none => rfl
  | .num _ => rfl
  | .text _ => rfl
  | .tup ks => by unfold ofKey keyN; rw [keyNs_of ks]
theorem keyNs_of : ∀ ks : List NestedKey, keyNs (ofKeys ks) = some ks
  | [] => rfl
  | k :: ks => by unfold ofKeys keyNs; rw [keyN_of k, keyNs_of ks]
end
mutual
theorem ofKey_of : ∀ {p : PV} {k : NestedKey}, keyN p = some k → ofKey k = p
  | .non, _, e => by cases e; rfl
  | .int _, _, e => by cases e; rfl
  | .str _, _, e => by cases e; rfl
  | .tup xs, _, e => by
    unfold keyN at e
    split at e
    · rename_i ks e'
      cases e
      unfold ofKey
      rw [ofKeys_of e']
    · cases e
  | .bl _, _, e => by simp [keyN] at e
  | .lst _, _, e => by simp [keyN] at e
  | .dK _ _, _, e => by simp [keyN] at e
  | .dT _ _, _, e => by simp [keyN] at e
  | .ins _ _, _, e => by simp [keyN] at e
  | .ref _, _, e => by simp [keyN] at e
theorem ofKeys_of : ∀ {ps : List PV} {ks : List NestedKey}, keyNs ps = some ks → ofKeys ks = ps
  | [], _, e => by cases e; rfl
  | p :: ps, _, e => by
    unfold keyNs at e
    split at e
    · rename_i k ks' e1 e2
      cases e
      unfold ofKeys
      rw [ofKey_of e1, ofKeys_of e2]
    · cases e
end
theorem keyT_some {k : PV} {kk : NestedKey} (e : keyT k = some kk) : keyN k = some kk ∧ kk.depth ≤ 8 ∧ ∃ ys, k = .tup ys := by
  unfold keyT at e
  split at e
  · split at e
    · rename_i ks e'
      split at e
      · rename_i hd
        cases e
        refine ⟨?_, hd, _, rfl⟩
        unfold keyN
        rw [e']
      · cases e
    · cases e
  · cases e
theorem keyT_is (I : Inv X pins σ H s) (hK : X.K = C.K) {k : PV} {kk : NestedKey} {y : V} {u : Value} (r : RepV C g H k y) (e : keyT k = some kk) (ru : L2.RelV y u) :
    ∃ b, y = .ref b ∧ u = .ref b ∧ (nestedKind X.prog X.w).is s.heap kk b := by
  obtain ⟨h1, h2, ys, rfl⟩ := keyT_some e
  have := nest_of I hK r h1 ru
  obtain ⟨b, vs, rfl, _, _⟩ := r.sqt
  cases (show u = Value.ref b from ru)
  exact ⟨b, rfl, rfl, this, h2⟩
abbrev LX (L : List (NestedKey × Addr × V)) (xs : List (NestedKey × Addr × Value)) : Prop :=
  Paired (fun (x : NestedKey × Addr × V) (y : NestedKey × Addr × Value) => x.1 = y.1 ∧ x.2.1 = y.2.1 ∧ L2.RelV x.2.2 y.2.2) L xs
theorem lx_of {w : World} : ∀ {L : List (NestedKey × Addr × V)} {es : List DictEntry}, Paired (fun (x : NestedKey × Addr × V) (e : DictEntry) => e.hash = x.1.hash w ∧ e.key = .ref x.2.1 ∧ L2.RelV x.2.2 e.val) L es →
    ∃ xs, LX L xs ∧ es = xs.map fun x => ⟨x.1.hash w, .ref x.2.1, x.2.2⟩
  | _, _, .nil => ⟨[], .nil, rfl⟩
  | _, _, .cons (a := x) (b := e) r t => by
    obtain ⟨xs, h1, h2⟩ := lx_of t
    refine ⟨(x.1, x.2.1, e.val) :: xs, .cons ⟨rfl, rfl, r.2.2⟩ h1, ?_⟩
    obtain ⟨eh, ek, ev⟩ := e
    obtain ⟨r1, r2, r3⟩ := r
    simp only at r1 r2
    rw [List.map_cons, ← h2, r1, r2]
theorem of_lx {w : World} : ∀ {L : List (NestedKey × Addr × V)} {xs : List (NestedKey × Addr × Value)}, LX L xs →
    Paired (fun (x : NestedKey × Addr × V) (e : DictEntry) => e.hash = x.1.hash w ∧ e.key = .ref x.2.1 ∧ L2.RelV x.2.2 e.val) L (xs.map fun x => (⟨x.1.hash w, .ref x.2.1, x.2.2⟩ : DictEntry))
  | _, _, .nil => .nil
  | _, _, .cons r t => .cons ⟨by simp [r.1], by simp [r.2.1], r.2.2⟩ (of_lx t)
theorem lx_keys : ∀ {L : List (NestedKey × Addr × V)} {xs : List (NestedKey × Addr × Value)}, LX L xs → L.map (·.1) = xs.map (·.1)
  | _, _, .nil => rfl
  | _, _, .cons r t => by rw [List.map_cons, List.map_cons, lx_keys t, r.1]
theorem lx_is (I : Inv X pins σ H s) (hK : X.K = C.K) : ∀ {L : List (NestedKey × Addr × V)} {xs : List (NestedKey × Addr × Value)}, LX L xs → (∀ k ∈ L.map (·.1), k.depth ≤ 8) →
    RepL C g H (ofKeys (L.map (·.1))) (L.map fun x => .ref x.2.1) → ∀ x ∈ xs, (nestedKind X.prog X.w).is s.heap x.1 x.2.1
  | _, _, .nil, _, _, x, hx => nomatch hx
  | _, _, .cons (a := l) (b := y) r t, hd, rk, x, hx => by
    rw [List.map_cons, List.map_cons, ofKeys] at rk
    cases rk with
    | cons rk lk =>
    rcases List.mem_cons.mp hx with e | hx
    · subst e
      rw [← r.1, ← r.2.1]
      exact ⟨nest_of I hK rk (keyN_of _) rfl, hd _ (by simp)⟩
    · exact lx_is I hK t (fun k hk => hd k (by rw [List.map_cons]; exact List.mem_cons_of_mem _ hk)) lk x hx
/-- a dict with tuples for keys as it is read -/
structure RdT (C : Cf) (g : G) (H : Hp) (a : Addr) (ks : List NestedKey) (ps : List PV) (L : List (NestedKey × Addr × V)) : Prop where
  ke : L.map (·.1) = ks
  rk : RepL C g H (ofKeys ks) (L.map fun x => .ref x.2.1)
  rv : RepL C g H ps (L.map (·.2.2))
theorem dn_read (I : Inv X pins σ H s) (hK : X.K = C.K) (hw : X.w = C.w) {a : Addr} {ks : List NestedKey} {ps : List PV} {L : List (NestedKey × Addr × V)} (rd : Rd H a (DN C.w a L)) (r : RdT C g H a ks ps L) :
    (a == sysModules) = false ∧ L.length ≤ sizeLine ∧ (∀ k ∈ L.map (·.1), k.depth ≤ 8) ∧ ∃ xs, LX L xs ∧ s.heap.DictOfH (nestedKind X.prog X.w) a xs := by
  obtain ⟨⟨o, es, ep, h1, h2, h3, h4, h5, h5d, h6, h7⟩, _⟩ := (rd.ok I.hok : ObjOk X.prog X.w H s.heap a (.ext _))
  obtain ⟨xs, hx, he⟩ := lx_of h7
  refine ⟨h4, h5, h5d, xs, hx, o, es, ep, h1, h2, h3, ?_, lx_is I hK hx h5d (by rw [r.ke]; exact r.rk), ?_⟩
  · rw [he, hw.symm]; rfl
  · rw [← lx_keys hx]; exact h6
theorem dn_val (k : NestedKey) : ∀ {L : List (NestedKey × Addr × V)} {xs : List (NestedKey × Addr × Value)} {ps : List PV}, LX L xs → RepL C g H ps (L.map (·.2.2)) →
    (vat (L.map (·.1)) ps k = none ∧ atKey xs k = none) ∨ ∃ p v t u, vat (L.map (·.1)) ps k = some p ∧ atKey xs k = some (t, u) ∧ L2.RelV v u ∧ RepV C g H p v
  | _, _, _, .nil, l => .inl ⟨by simp [vat], rfl⟩
  | _, _, ps, .cons (a := x) (b := y) (l₁ := L0) (l₂ := xs0) r t, l0 => by
    obtain ⟨p, ps0, rfl, q, l⟩ : ∃ p ps0, ps = p :: ps0 ∧ RepV C g H p x.2.2 ∧ RepL C g H ps0 (L0.map (·.2.2)) := by
      rw [List.map_cons] at l0
      cases l0 with
      | cons q l => exact ⟨_, _, rfl, q, l⟩
    by_cases h : x.1 = k
    · refine .inr ⟨p, x.2.2, y.2.1, y.2.2, by simp [vat, h], ?_, r.2.2, q⟩
      have : y.1 = k := r.1.symm.trans h
      simp [atKey, this]
    · have ih := dn_val k t l
      have hy : ¬ y.1 = k := fun z => h (r.1.trans z)
      have e1 : vat ((x :: L0).map (·.1)) (p :: ps0) k = vat (L0.map (·.1)) ps0 k := by simp [vat, List.find?_cons, h]
      have e2 : atKey (y :: xs0) k = atKey xs0 k := by simp [atKey, List.find?_cons, hy]
      rw [e1, e2]
      exact ih
theorem room_n {A : Around} {k : Nat} (hr : Room k A) : (nestedKind X.prog X.w).room A.in1 := by
  have := hr.un
  show A.units + 1 + 8 < cLine
  omega
def putL (L : List (NestedKey × Addr × V)) (k : NestedKey) (b : Addr) (v : V) : List (NestedKey × Addr × V) :=
  if k ∈ L.map (·.1) then L.map fun x => if x.1 = k then (x.1, x.2.1, v) else x else L ++ [(k, b, v)]
theorem putL_keys (L : List (NestedKey × Addr × V)) (k : NestedKey) (b : Addr) (v : V) : (putL L k b v).map (·.1) = if k ∈ L.map (·.1) then L.map (·.1) else L.map (·.1) ++ [k] := by
  unfold putL
  split
  · rw [List.map_map]
    apply List.map_congr_left
    intro x _
    simp only [Function.comp]
    split <;> rfl
  · simp
theorem putL_len (L : List (NestedKey × Addr × V)) (k : NestedKey) (b : Addr) (v : V) : (putL L k b v).length ≤ L.length + 1 := by
  unfold putL
  split <;> simp
theorem atKey_isSome (k : NestedKey) : ∀ {L : List (NestedKey × Addr × V)} {xs : List (NestedKey × Addr × Value)}, LX L xs → (atKey xs k).isSome = decide (k ∈ L.map (·.1))
  | _, _, .nil => by simp [atKey]
  | _, _, .cons (a := x) (b := y) (l₁ := L0) (l₂ := xs0) r t => by
    have ih := atKey_isSome k t
    by_cases h : y.1 = k
    · have hx : x.1 = k := r.1.trans h
      simp [atKey, h, hx]
    · have hx : ¬ k = x.1 := fun z => h (r.1.symm.trans z.symm)
      have e2 : atKey (y :: xs0) k = atKey xs0 k := by simp [atKey, List.find?_cons, h]
      rw [e2, ih]
      simp [hx]
theorem lx_put {L : List (NestedKey × Addr × V)} {xs : List (NestedKey × Addr × Value)} (k : NestedKey) (b : Addr) {v : V} {u : Value} (rv : L2.RelV v u) (h : LX L xs) : LX (putL L k b v) (storedH xs k b u) := by
  unfold putL storedH
  rw [atKey_isSome k h]
  by_cases hk : k ∈ L.map (·.1)
  · rw [if_pos hk, if_pos (decide_eq_true hk)]
    clear hk
    induction h with
    | nil => exact .nil
    | @cons x y L0 xs0 r t ih =>
      rw [List.map_cons, List.map_cons]
      refine .cons ?_ ih
      unfold putAt
      by_cases h : x.1 = k
      · have hy : y.1 = k := r.1.symm.trans h
        rw [if_pos h, if_pos hy]
        exact ⟨r.1, r.2.1, rv⟩
      · have hy : ¬ y.1 = k := fun z => h (r.1.trans z)
        rw [if_neg h, if_neg hy]
        exact r
  · rw [if_neg hk, if_neg (by simpa using hk)]
    have app : ∀ {L0 : List (NestedKey × Addr × V)} {xs0 : List (NestedKey × Addr × Value)}, LX L0 xs0 → LX (L0 ++ [(k, b, v)]) (xs0 ++ [(k, b, u)]) := by
      intro L0 xs0 h0
      induction h0 with
      | nil => exact .cons ⟨rfl, rfl, rv⟩ .nil
      | cons r t ih => exact .cons r ih
    exact app h
theorem repl_keys : ∀ {L : List (NestedKey × Addr × V)} {k : NestedKey} {b : Addr}, RepL C g H (ofKeys (L.map (·.1))) (L.map fun x => .ref x.2.1) → RepV C g H (ofKey k) (.ref b) →
    RepL C g H (ofKeys (L.map (·.1) ++ [k])) ((L.map fun x => V.ref x.2.1) ++ [.ref b])
  | [], k, b, _, r => by simp only [List.map_nil, List.nil_append]; unfold ofKeys; exact .cons r (by unfold ofKeys; exact .nil)
  | x :: L, k, b, h, r => by
    rw [List.map_cons, List.map_cons, ofKeys] at h
    cases h with
    | cons h1 h2 =>
      rw [List.map_cons, List.map_cons, List.cons_append, List.cons_append, ofKeys]
      exact .cons h1 (repl_keys h2 r)
theorem putL_rep {L : List (NestedKey × Addr × V)} {ks : List NestedKey} {ps : List PV} {a : Addr} (r : RdT C g H a ks ps L) {k : NestedKey} {b : Addr} {p : PV} {v : V} (rk : RepV C g H (ofKey k) (.ref b)) (rp : RepV C g H p v) :
    RdT C g H a (vput ks ps k p).1 (vput ks ps k p).2 (putL L k b v) := by
  obtain ⟨ke, hk, hv⟩ := r
  subst ke
  have mid : ∀ {L : List (NestedKey × Addr × V)} {ps : List PV}, RepL C g H ps (L.map (·.2.2)) →
      RepL C g H (((L.map (·.1)).zip ps).map fun kv => if kv.1 = k then p else kv.2) ((L.map fun x => if x.1 = k then (x.1, x.2.1, v) else x).map (·.2.2)) := by
    intro L
    induction L with
    | nil => intro ps l; cases l; exact .nil
    | cons x L ih =>
      intro ps l
      cases l with
      | cons q t =>
        rw [List.map_cons, List.zip_cons_cons, List.map_cons, List.map_cons, List.map_cons]
        refine .cons ?_ (ih t)
        by_cases h : x.1 = k
        · rw [if_pos h, if_pos h]; exact rp
        · rw [if_neg h, if_neg h]; exact q
  by_cases hm : k ∈ L.map (·.1)
  · refine ⟨by rw [putL_keys, if_pos hm]; unfold vput; rw [if_pos hm], ?_, ?_⟩
    · unfold vput putL
      rw [if_pos hm, if_pos hm, List.map_map]
      have : (fun x : NestedKey × Addr × V => V.ref x.2.1) ∘ (fun x => if x.1 = k then (x.1, x.2.1, v) else x) = fun x => V.ref x.2.1 := by
        funext x
        simp only [Function.comp]
        split <;> rfl
      rw [this]
      exact hk
    · unfold vput putL
      rw [if_pos hm, if_pos hm]
      exact mid hv
  · refine ⟨by rw [putL_keys, if_neg hm]; unfold vput; rw [if_neg hm], ?_, ?_⟩
    · unfold vput putL
      rw [if_neg hm, if_neg hm, List.map_append]
      exact repl_keys hk rk
    · unfold vput putL
      rw [if_neg hm, if_neg hm, List.map_append]
      exact hv.append (.one rp)
end
end Q
set_option Elab.async false
set_option linter.all false
set_option maxRecDepth 100000
set_option maxHeartbeats 1000000
/-! P2b: comparisons, dicts, subscripts, truth by values. -/
namespace Q
open L2 PyProof.Rows PySem PySem.Spec
/-! ### dicts -/
section
variable {κ : Type} [DecidableEq κ] {C : Cf} {g : G} {H : Hp}
theorem vat_rep : ∀ {ks : List κ} {xs : List PV} {vs : List V} (k : κ), RepL C g H xs vs → ks.length = vs.length →
    (vat ks xs k = none ∧ valV (ks.zip vs) k = none) ∨ ∃ p v, vat ks xs k = some p ∧ valV (ks.zip vs) k = some v ∧ RepV C g H p v
  | [], xs, vs, k, _, _ => .inl (by simp [vat, valV])
  | a :: ks, _, _, k, .nil, e => by simp at e
  | a :: ks, _, _, k, .cons (x := x) (v := v) (xs := xs0) (vs := vs0) r l, e => by
    by_cases h : a = k
    · subst h
      exact .inr ⟨x, v, by simp [vat], by simp [valV], r⟩
    · have ih := vat_rep (ks := ks) k l (by simpa using e)
      have e1 : vat (a :: ks) (x :: xs0) k = vat ks xs0 k := by simp [vat, List.find?_cons, h]
      have e2 : valV ((a :: ks).zip (v :: vs0)) k = valV (ks.zip vs0) k := by simp [valV, List.find?_cons, h]
      rw [e1, e2]
      exact ih
theorem zip_any {α : Type} : ∀ {ks : List κ} {vs : List α} (k : κ), ks.length = vs.length → ((ks.zip vs).any fun kv => decide (kv.1 = k)) = decide (k ∈ ks)
  | [], _, k, _ => by simp
  | a :: ks, [], k, e => by simp at e
  | a :: ks, v :: vs, k, e => by
    have ih := zip_any (ks := ks) (vs := vs) k (by simpa using e)
    rw [List.zip_cons_cons, List.any_cons, ih]
    by_cases h : a = k
    · subst h; simp
    · have h' : ¬ k = a := fun z => h z.symm
      simp [h, h']
theorem zip_put {α : Type} (k : κ) (w : α) : ∀ {ks : List κ} {vs : List α}, ks.length = vs.length →
    ((ks.zip vs).map fun kv => if kv.1 = k then (kv.1, w) else kv) = ks.zip ((ks.zip vs).map fun kv => if kv.1 = k then w else kv.2)
  | [], _, _ => by simp
  | a :: ks, [], e => by simp at e
  | a :: ks, v :: vs, e => by
    have ih := zip_put k w (ks := ks) (vs := vs) (by simpa using e)
    rw [List.zip_cons_cons, List.map_cons, ih, List.map_cons, List.zip_cons_cons]
    by_cases h : a = k
    · subst h; simp
    · simp [h]
theorem vput_put {ks : List κ} {vs : List V} (k : κ) (w : V) (e : ks.length = vs.length) : putK (ks.zip vs) k w = (vput ks vs k w).1.zip (vput ks vs k w).2 := by
  unfold putK vput
  rw [zip_any k e]
  by_cases h : k ∈ ks
  · rw [if_pos (decide_eq_true h), if_pos h, zip_put k w e]
  · rw [if_neg (by simpa using h), if_neg h]
    rw [List.zip_append e]; rfl
theorem vput_len {α : Type} {ks : List κ} {vs : List α} (k : κ) (w : α) (e : ks.length = vs.length) : (vput ks vs k w).1.length = (vput ks vs k w).2.length := by
  unfold vput
  split
  · simp [e]
  · simp [e]
theorem vput_rep {k : κ} {p : PV} {w : V} (r : RepV C g H p w) : ∀ {ks : List κ} {xs : List PV} {vs : List V}, RepL C g H xs vs → ks.length = vs.length →
    (vput ks xs k p).1 = (vput ks vs k w).1 ∧ RepL C g H (vput ks xs k p).2 (vput ks vs k w).2 := by
  intro ks xs vs l e
  have mid : ∀ {ks : List κ} {xs : List PV} {vs : List V}, RepL C g H xs vs → ks.length = vs.length →
      RepL C g H ((ks.zip xs).map fun kv => if kv.1 = k then p else kv.2) ((ks.zip vs).map fun kv => if kv.1 = k then w else kv.2) := by
    intro ks
    induction ks with
    | nil => intro xs vs _ _; simp; exact .nil
    | cons a ks ih =>
      intro xs vs l e
      cases l with
      | nil => simp at e
      | cons q t =>
        rw [List.zip_cons_cons, List.zip_cons_cons, List.map_cons, List.map_cons]
        refine .cons ?_ (ih t (by simpa using e))
        by_cases h : a = k
        · simp [h]; exact r
        · simp [h]; exact q
  unfold vput
  split
  · exact ⟨rfl, mid l e⟩
  · exact ⟨rfl, l.append (.one r)⟩
end
section
variable {C : Cf} {g : G} {H : Hp} {S : Store}
theorem keyOf_rep {k : PV} {y : V} {kk : Key} (r : RepV C g H k y) (e : keyOf k = some kk) : y = kV kk := by
  cases r <;> cases e <;> rfl
/-- a dict's object as it is read -/
def RdO (C : Cf) (g : G) (H : Hp) (o : Ob) (a : Addr) : Prop :=
  match o with
  | .dK ks xs => ∃ vs, Rd H a (.dK (ks.zip vs)) ∧ ks.length = vs.length ∧ RepL C g H xs vs
  | .dT ks xs => ∃ L, Rd H a (DN C.w a L) ∧ RdT C g H a ks xs L
  | _ => False
theorem dictOf_rep {d : PV} {v : V} {o : Ob} (rs : RelS C g S H) (r : RepV C g H d v) (h : dictOf S d = some o) : ∃ a, v = .ref a ∧ RdO C g H o a := by
  cases r with
  | dK rd e n f l => cases h; exact ⟨_, rfl, _, rd, e, l⟩
  | dT rd e n f q l => cases h; exact ⟨_, rfl, _, rd, e, q, l⟩
  | ref e =>
    simp only [dictOf] at h
    split at h <;> cases h
    · rename_i q
      obtain ⟨vs, e1, n, l⟩ := rs.at q e
      exact ⟨_, rfl, vs, .inl e1, n, l⟩
    · rename_i q
      obtain ⟨L, e1, n, k, l⟩ := rs.at q e
      exact ⟨_, rfl, L, .inl e1, n, k, l⟩
  | _ => cases h
end
section
variable {X : Cx} {pins : List (Addr × Obj)} {σ : L2.St} {H : Hp} {s : Shared} {C : Cf} {g : G} {k : Nat} {o : Ob} {a : Addr} {kp : PV} {y : V} {u : Value} {E : Value → Shared → Prop}
theorem dTypeIs (I : Inv X pins σ H s) (ro : RdO C g H o a) : s.TypeIs (.ref a) "dict" ∧ (∀ b, Value.ref a = .ref b → ∃ ob, s.heap.get? b = some ob ∧ ob.dict = none) := by
  cases o with
  | dK ks xs =>
    obtain ⟨vs, rd, _, _⟩ := ro
    obtain ⟨h1, h2, _⟩ := isD_at I (.inl ⟨_, rd⟩)
    exact ⟨h1, h2⟩
  | dT ks xs =>
    obtain ⟨L, rd, _⟩ := ro
    obtain ⟨⟨o, es, ep, h1, h2, _⟩, _⟩ := (rd.ok I.hok : ObjOk X.prog X.w H s.heap a (.ext _))
    exact ⟨⟨o, h1, h2.1⟩, fun b e => by cases e; exact ⟨o, h1, h2.2.1⟩⟩
  | lst xs => exact ro.elim
  | ins c xs => exact ro.elim
theorem dGetItem (hK : X.K = C.K) (hw : X.w = C.w) (hr : Room (k + 1) X.A) (I : Inv X pins σ H s) (ro : RdO C g H o a) (rk : RepV C g H kp y) (ru : L2.RelV y u) {p : PV} (e : dgetO o kp = some (some p)) {Qv : Value → Shared → Prop}
    (h : ∀ v w' s', RepV C g H p v → Inv X pins σ H s' → L2.RelV v w' → Qv w' s') : wpAny (model X.prog X.w) X.A (getItem (.ref a) u) Qv E s := by
  have hu1 : X.A.units + 1 < cLine := by have := hr.un; omega
  cases o with
  | dK ks xs =>
    obtain ⟨vs, rd, hl, l⟩ := ro
    simp only [dgetO, Option.map_eq_some_iff] at e
    obtain ⟨kk, ek, e⟩ := e
    have hy := keyOf_rep rk ek
    rcases vat_rep kk l hl with ⟨h1, h2⟩ | ⟨p', v, h1, h2, h3⟩
    · rw [h1] at e; cases e
    · rw [h1] at e; cases e
      exact d_getItem hu1 I (.inl ⟨_, kk, rd, hy, h2.symm⟩) ru fun w' s' I' r' => h v w' s' h3 I' r'
  | dT ks xs =>
    obtain ⟨L, rd, rt⟩ := ro
    simp only [dgetO, Option.map_eq_some_iff] at e
    obtain ⟨kk, ek, e⟩ := e
    obtain ⟨b, rfl, rfl, hb⟩ := keyT_is I hK rk ek ru
    obtain ⟨_, _, _, ys, lx, dd⟩ := dn_read I hK hw rd rt
    rcases dn_val kk lx rt.rv with ⟨h1, h2⟩ | ⟨p', v, t, w, h1, h2, h3, h4⟩
    · rw [rt.ke] at h1; rw [h1] at e; cases e
    · rw [rt.ke] at h1; rw [h1] at e; cases e
      exact wpAny_getItem_heap (room_n hr) hb dd h2 (h v w _ h4 (I.tok _) h3)
  | lst xs => exact ro.elim
  | ins c xs => exact ro.elim
theorem dIn (hK : X.K = C.K) (hw : X.w = C.w) (hr : Room (k + 1) X.A) (I : Inv X pins σ H s) (ro : RdO C g H o a) (rk : RepV C g H kp y) (ru : L2.RelV y u) {r : Option PV} (e : dgetO o kp = some r) {Qv : Value → Shared → Prop} :
    ((∀ s', Inv X pins σ H s' → Qv (.bool r.isSome) s') → wpAny (model X.prog X.w) X.A (compareOp .In u (.ref a)) Qv E s) ∧ ((∀ s', Inv X pins σ H s' → Qv (.bool (!r.isSome)) s') → wpAny (model X.prog X.w) X.A (compareOp .NotIn u (.ref a)) Qv E s) := by
  have hu1 : X.A.units + 1 < cLine := by have := hr.un; omega
  cases o with
  | dK ks xs =>
    obtain ⟨vs, rd, hl, l⟩ := ro
    simp only [dgetO, Option.map_eq_some_iff] at e
    obtain ⟨kk, ek, rfl⟩ := e
    have hy := keyOf_rep rk ek
    rcases vat_rep kk l hl with ⟨h1, h2⟩ | ⟨p', v, h1, h2, h3⟩
    · rw [h1]
      exact ⟨fun h => d_in hu1 I (.inl ⟨_, kk, rd, hy, h2.symm⟩) ru h, fun h => d_notIn hu1 I (.inl ⟨_, kk, rd, hy, h2.symm⟩) ru h⟩
    · rw [h1]
      exact ⟨fun h => d_in hu1 I (.inl ⟨_, kk, rd, hy, h2.symm⟩) ru h, fun h => d_notIn hu1 I (.inl ⟨_, kk, rd, hy, h2.symm⟩) ru h⟩
  | dT ks xs =>
    obtain ⟨L, rd, rt⟩ := ro
    simp only [dgetO, Option.map_eq_some_iff] at e
    obtain ⟨kk, ek, rfl⟩ := e
    obtain ⟨b, rfl, rfl, hb⟩ := keyT_is I hK rk ek ru
    obtain ⟨hd, _, _, ys, lx, dd⟩ := dn_read I hK hw rd rt
    have key : (atKey ys kk).isSome = (vat ks xs kk).isSome := by
      rcases dn_val kk lx rt.rv with ⟨h1, h2⟩ | ⟨p', v, t, w, h1, h2, h3, h4⟩
      · rw [rt.ke] at h1; rw [h1, h2]; rfl
      · rw [rt.ke] at h1; rw [h1, h2]; rfl
    rw [← key]
    exact ⟨fun h => wpAny_in_heap (room_n hr) hb hd dd (h _ (I.tok _)), fun h => wpAny_notIn_heap (room_n hr) hb hd dd (h _ (I.tok _))⟩
  | lst xs => exact ro.elim
  | ins c xs => exact ro.elim
theorem dGet2 (hK : X.K = C.K) (hw : X.w = C.w) (hr : Room (k + 1) X.A) (I : Inv X pins σ H s) (ro : RdO C g H o a) (rk : RepV C g H kp y) (ru : L2.RelV y u) {r : Option PV} (e : dgetO o kp = some r) {d : PV} {dv : V} {du : Value} (rd' : RepV C g H d dv) (rdu : L2.RelV dv du) {Qv : Value → Shared → Prop}
    (h : ∀ v w' s', RepV C g H (r.getD d) v → Inv X pins σ H s' → L2.RelV v w' → Qv w' s') : wpAny (model X.prog X.w) X.A (call (.builtin "dict.get") [.ref a, u, du]) Qv E s := by
  have hu1 : X.A.units + 1 < cLine := by have := hr.un; omega
  cases o with
  | dK ks xs =>
    obtain ⟨vs, rd, hl, l⟩ := ro
    simp only [dgetO, Option.map_eq_some_iff] at e
    obtain ⟨kk, ek, rfl⟩ := e
    have hy := keyOf_rep rk ek
    rcases vat_rep kk l hl with ⟨h1, h2⟩ | ⟨p', v, h1, h2, h3⟩
    · rw [h1] at h
      exact d_get2 hu1 I (.inl ⟨_, kk, rd, hy, h2.symm⟩) ru rdu fun w' s' I' r' => h dv w' s' rd' I' r'
    · rw [h1] at h
      exact d_get2 hu1 I (.inl ⟨_, kk, rd, hy, h2.symm⟩) ru rdu fun w' s' I' r' => h v w' s' h3 I' r'
  | dT ks xs =>
    obtain ⟨L, rd, rt⟩ := ro
    simp only [dgetO, Option.map_eq_some_iff] at e
    obtain ⟨kk, ek, rfl⟩ := e
    obtain ⟨b, rfl, rfl, hb⟩ := keyT_is I hK rk ek ru
    obtain ⟨hd, _, _, ys, lx, dd⟩ := dn_read I hK hw rd rt
    refine call_meetsIn PySem.F.slot_dict_get dd.typeIs PySem.F.entry_dict_get (PySem.F.args_dict_get_3 _ _ _) (meetsH_dict_get_default (nestedKind X.prog X.w) a b hd du) ⟨room_n hr, kk, ys, hb, dd, ?_⟩
    rcases dn_val kk lx rt.rv with ⟨h1, h2⟩ | ⟨p', v, t, w, h1, h2, h3, h4⟩
    · rw [rt.ke] at h1; rw [h1] at h; rw [h2]
      exact h dv du _ rd' (I.tok _) rdu
    · rw [rt.ke] at h1; rw [h1] at h; rw [h2]
      exact h v w _ h4 (I.tok _) h3
  | lst xs => exact ro.elim
  | ins c xs => exact ro.elim
theorem dGet1 (hK : X.K = C.K) (hw : X.w = C.w) (hr : Room (k + 1) X.A) (I : Inv X pins σ H s) (ro : RdO C g H o a) (rk : RepV C g H kp y) (ru : L2.RelV y u) {r : Option PV} (e : dgetO o kp = some r) {Qv : Value → Shared → Prop}
    (h : ∀ v w' s', RepV C g H (r.getD .non) v → Inv X pins σ H s' → L2.RelV v w' → Qv w' s') : wpAny (model X.prog X.w) X.A (call (.builtin "dict.get") [.ref a, u]) Qv E s := by
  have hu1 : X.A.units + 1 < cLine := by have := hr.un; omega
  cases o with
  | dK ks xs =>
    obtain ⟨vs, rd, hl, l⟩ := ro
    simp only [dgetO, Option.map_eq_some_iff] at e
    obtain ⟨kk, ek, rfl⟩ := e
    have hy := keyOf_rep rk ek
    rcases vat_rep kk l hl with ⟨h1, h2⟩ | ⟨p', v, h1, h2, h3⟩
    · rw [h1] at h
      exact d_get1 hu1 I (.inl ⟨_, kk, rd, hy, h2.symm⟩) ru fun w' s' I' r' => h .non w' s' .non I' r'
    · rw [h1] at h
      exact d_get1 hu1 I (.inl ⟨_, kk, rd, hy, h2.symm⟩) ru fun w' s' I' r' => h v w' s' h3 I' r'
  | dT ks xs =>
    obtain ⟨L, rd, rt⟩ := ro
    simp only [dgetO, Option.map_eq_some_iff] at e
    obtain ⟨kk, ek, rfl⟩ := e
    obtain ⟨b, rfl, rfl, hb⟩ := keyT_is I hK rk ek ru
    obtain ⟨hd, _, _, ys, lx, dd⟩ := dn_read I hK hw rd rt
    refine call_meetsIn PySem.F.slot_dict_get dd.typeIs PySem.F.entry_dict_get (PySem.F.args_dict_get_2 _ _) (meetsH_dict_get (nestedKind X.prog X.w) a b hd) ⟨room_n hr, kk, ys, hb, dd, ?_⟩
    rcases dn_val kk lx rt.rv with ⟨h1, h2⟩ | ⟨p', v, t, w, h1, h2, h3, h4⟩
    · rw [rt.ke] at h1; rw [h1] at h; rw [h2]
      exact h .non .none _ .non (I.tok _) rfl
    · rw [rt.ke] at h1; rw [h1] at h; rw [h2]
      exact h v w _ h4 (I.tok _) h3
  | lst xs => exact ro.elim
  | ins c xs => exact ro.elim
end
section
variable {X : Cx} {C : Cf}
/-! ### in -/
theorem memR {k : Nat} (hK : X.K = C.K) (hw : X.w = C.w) (hr : Room (k + 1) X.A) {pins : List (Addr × Obj)} {s : Shared} {σ : L2.St} {H : Hp} {x y : V} {v u : Value} {Qv : VK} (I : Inv X pins σ H s) (r1 : RelV x v) (r2 : RelV y u) {g : G} {S : Store} {p q : PV} {b : Bool} (rs : RelS C g S H) (rp : RepV C g H p x) (rq : RepV C g H q y)
    (e : memP S p q = some b) : (Qv (.bl b) H → wpAny (model X.prog X.w) X.A (compareOp .In v u) (EP X pins σ Qv) X.xe s) ∧ (Qv (.bl (!b)) H → wpAny (model X.prog X.w) X.A (compareOp .NotIn v u) (EP X pins σ Qv) X.xe s) := by
  have hu : X.A.units + 65 < cLine := by have := hr.un; omega
  unfold memP at e
  split at e
  · rename_i ys es
    simp only at e
    split at e
    · rename_i h
      rw [Bool.and_eq_true] at h
      cases e
      obtain ⟨h1, h2⟩ := h
      have hd := dpd_of rs rp h1
      have hc := SeqAt.canLay_of_shaped h2
      rw [PyData.canLay0] at hc
      obtain ⟨a, vs, rfl, hsq, l⟩ := seqOf_rep rs rq es
      have da := dps_of l hc
      obtain ⟨as, q1⟩ := Dp.reads I _ x v (hK ▸ hd) r1
      rcases hsq with hsq | hsq
      · have dl : Dp C.K H (.ref a) (.list (toDs ys)) := .lst hsq da
        exact ⟨fun h' => op_inD hu pins s σ H x _ v u Qv I r1 r2 ⟨_, _, hK ▸ hd, hK ▸ dl, h1, h2, h'⟩, fun h' => op_notInD hu pins s σ H x _ v u Qv I r1 r2 ⟨_, _, hK ▸ hd, hK ▸ dl, h1, h2, h'⟩⟩
      · have dl : Dp C.K H (.ref a) (.tuple (toDs ys)) := .tup hsq da
        obtain ⟨bs, q2⟩ := Dp.reads I _ _ u (hK ▸ dl) r2
        have hc2 : (PyData.tuple (toDs ys)).canLay0 = true := by rw [PyData.canLay0]; exact hc
        exact ⟨fun h' => SeqAt.in_tuple_reads q2 q1 hc2 (SeqAt.canLay_of_shaped h1) (room_in_shaped h1 hu) ⟨.bl _, H, I, rfl, h'⟩, fun h' => SeqAt.notIn_tuple_reads q2 q1 hc2 (SeqAt.canLay_of_shaped h1) (room_in_shaped h1 hu) ⟨.bl _, H, I, rfl, h'⟩⟩
    · cases e
  · simp only [dget, Option.map_eq_some_iff, Option.bind_eq_some_iff] at e
    obtain ⟨r, ⟨o, eo, er⟩, rfl⟩ := e
    obtain ⟨a, rfl, ro⟩ := dictOf_rep rs rq eo
    cases (show u = Value.ref a from r2)
    exact ⟨fun h' => (dIn hK hw hr I ro rp r1 er).1 fun s3 I3 => ⟨.bl _, H, I3, rfl, h'⟩, fun h' => (dIn hK hw hr I ro rp r1 er).2 fun s3 I3 => ⟨.bl _, H, I3, rfl, h'⟩⟩
def coA : Co → CmpOp
  | .eq => .Eq | .ne => .NotEq | .lt => .Lt | .le => .LtE | .gt => .Gt | .ge => .GtE | .mem => .In | .nmem => .NotIn
theorem cmpR {k : Nat} (hK : X.K = C.K) (hw : X.w = C.w) (hr : Room (k + 1) X.A) (op : Co) : OpR X (compareOp (coA op)) (rP C (cmpP op)) := by
  intro pins s σ H x y v u Qv I r1 r2 h
  obtain ⟨g, S, p, q, rs, rp, rq, h⟩ := h
  unfold cmpP at h
  cases op with
  | eq =>
    simp only at h
    split at h
    · rename_i b e
      exact (eqR hK hr I r1 r2 rs rp rq e).1 (h.ok.here rs (.bl b))
    · exact h.stuck
  | ne =>
    simp only at h
    split at h
    · rename_i b e
      exact (eqR hK hr I r1 r2 rs rp rq e).2 (h.ok.here rs (.bl _))
    · exact h.stuck
  | mem =>
    simp only at h
    split at h
    · rename_i b e
      exact (memR hK hw hr I r1 r2 rs rp rq e).1 (h.ok.here rs (.bl b))
    · exact h.stuck
  | nmem =>
    simp only at h
    split at h
    · rename_i b e
      exact (memR hK hw hr I r1 r2 rs rp rq e).2 (h.ok.here rs (.bl _))
    · exact h.stuck
  | lt =>
    simp only at h
    split at h
    · rw [repV_int rp] at r1; rw [repV_int rq] at r2
      exact op_lt pins s σ H _ _ v u Qv I r1 r2 ⟨_, _, rfl, rfl, h.ok.here rs (.bl _)⟩
    · exact h.stuck
  | le =>
    simp only at h
    split at h
    · rw [repV_int rp] at r1; rw [repV_int rq] at r2
      exact op_le pins s σ H _ _ v u Qv I r1 r2 ⟨_, _, rfl, rfl, h.ok.here rs (.bl _)⟩
    · exact h.stuck
  | gt =>
    simp only at h
    split at h
    · rw [repV_int rp] at r1; rw [repV_int rq] at r2
      exact op_gt pins s σ H _ _ v u Qv I r1 r2 ⟨_, _, rfl, rfl, h.ok.here rs (.bl _)⟩
    · exact h.stuck
  | ge =>
    simp only at h
    split at h
    · rw [repV_int rp] at r1; rw [repV_int rq] at r2
      exact op_ge pins s σ H _ _ v u Qv I r1 r2 ⟨_, _, rfl, rfl, h.ok.here rs (.bl _)⟩
    · exact h.stuck
/-! ### truth -/
theorem truthP_rep {g : G} {H : Hp} {S : Store} {p : PV} {x : V} {b : Bool} (hK : X.K = C.K) (rs : RelS C g S H) (r : RepV C g H p x) (e : truthP S p = some b) : TruV X.K x H b := by
  cases r with
  | non => cases e; rfl
  | bl c => cases e; rfl
  | int i => cases e; rfl
  | str y =>
    simp only [truthP] at e
    split at e
    · rename_i h
      cases e
      refine ⟨by rw [big_eq]; exact h, ?_⟩
      by_cases hz : y.length = 0
      · simp [hz, bne]
      · have e1 : (y.length == 0) = false := by simpa using hz
        have e2 : ((y.length : Int) == 0) = false := by
          have : (y.length : Int) ≠ 0 := by omega
          simpa using this
        simp only [bne, e1, e2]
    · cases e
  | tup h d n f l =>
    cases e
    refine .inr (.inl ⟨_, .inl (.inr ⟨_, h⟩), ?_⟩)
    cases l <;> rfl
  | ktup h l =>
    cases e
    refine .inr (.inl ⟨_, hK ▸ h.sq, ?_⟩)
    cases l <;> rfl
  | lst rd n f l =>
    cases e
    refine .inl ⟨_, .inl rd, ?_⟩
    cases l <;> rfl
  | ref e' =>
    simp only [truthP] at e
    split at e <;> cases e
    rename_i q
    obtain ⟨vs, e1, l⟩ := rs.at q e'
    refine .inl ⟨_, .inl (.inl e1), ?_⟩
    cases l <;> rfl
  | scr q l => simp only [truthP] at e; cases e
  | dK _ _ _ _ _ => cases e
  | dT _ _ _ _ _ _ => cases e
  | ins _ _ _ _ _ => cases e
/-! ### subscripts -/
theorem atI_rep {g : G} {H : Hp} {xs : List PV} {vs : List V} {k : Int} {p : PV} (l : RepL C g H xs vs) (e : atI xs k = some p) : ∃ v, atI vs k = some v ∧ RepV C g H p v := by
  unfold atI at e ⊢
  rw [← l.length]
  cases hj : ixN xs.length k with
  | none => rw [hj] at e; cases e
  | some j =>
    rw [hj] at e
    exact l.get e
theorem idxR {k : Nat} (hK : X.K = C.K) (hw : X.w = C.w) (hr : Room (k + 1) X.A) : IxR X (rP C idxP) := by
  intro value slice pins s σ H x y v u Qv I r1 r2 h hs
  obtain ⟨g, S, p, q, rs, rp, rq, h⟩ := h
  have hu1 : X.A.units + 1 < cLine := by have := hr.un; omega
  unfold idxP at h
  split at h
  · rename_i o eo
    split at h
    · rename_i w er
      obtain ⟨a, rfl, ro⟩ := dictOf_rep rs rp eo
      cases (show v = Value.ref a from r1)
      exact tail_any (dTypeIs I ro).1 PySem.F.slot_dict_getitem.lookup (dGetItem hK hw hr I ro rq r2 er fun v' w' s3 rv I3 rw' => ⟨v', H, I3, rw', h.ok.here rs rv⟩) hs
    · exact h.stuck
  · split at h
    · rename_i xs j es
      split at h
      · rename_i w ew
        obtain ⟨a, vs, rfl, hsq, l⟩ := seqOf_rep rs rp es
        obtain ⟨w', ew', rw'⟩ := atI_rep l ew
        rw [repV_int rq] at r2
        rcases hsq with hsq | hsq
        · exact ix_list value slice pins s σ H _ _ v u Qv I r1 r2 ⟨a, vs, _, w', rfl, rfl, hK ▸ hsq, ew', h.ok.here rs rw'⟩ hs
        · exact ix_tup value slice pins s σ H _ _ v u Qv I r1 r2 ⟨a, vs, _, w', rfl, rfl, hK ▸ hsq, ew', h.ok.here rs rw'⟩ hs
      · exact h.stuck
    · exact h.stuck
/-! ### slices -/
theorem cut_rep {g : G} {H : Hp} {xs : List PV} {vs : List V} (l : RepL C g H xs vs) (lo hi : Option Int) : RepL C g H (cutP xs lo hi) (cutV vs lo hi) := by
  unfold cutP cutV
  rw [← l.length]
  exact (l.drop _).take _
theorem cut_whole {xs : List PV} {lo hi : Option Int} (h : HT.sIx xs.length 0 lo = 0 ∧ HT.sIx xs.length xs.length hi = xs.length) : cutP xs lo hi = xs := by
  unfold cutP
  rw [h.1, h.2]; simp
def rSl (C : Cf) : V → Option Int → Option Int → Hp → VK → Prop := fun x lo hi H Qv => ∃ g S p, RelS C g S H ∧ RepV C g H p x ∧ (slcP p lo hi S).wp (VQ C g H Qv)
theorem slcR (hK : X.K = C.K) : SlR X (rSl C) := by
  intro pins s σ H x v vl vu lo hi sl Qv I r1 hsl pl pu h
  obtain ⟨g, S, p, rs, rp, h⟩ := h
  have lists : ∀ xs, lstOf S p = some xs → (VQ C g H Qv) (.lst (cutP xs lo hi)) S → ∃ T id, typeLookup (.type T) "__getitem__" = pure (some (.builtin id)) ∧ s.TypeIs v T ∧ wpAny (model X.prog X.w) X.A (getItem v (.ref sl)) (EP X pins σ Qv) X.xe s := by
    intro xs e h
    obtain ⟨a, vs, rfl, rd, l⟩ := lstOf_rep rs rp e
    exact sl_list pins s σ H _ v vl vu lo hi sl Qv I r1 hsl pl pu ⟨a, vs, rfl, .inl rd, fun p n => h.new rs n (rep_lst rs n (cut_rep l lo hi))⟩
  unfold slcP at h
  split at h
  · rename_i xs
    obtain ⟨a, vs, rfl, ta, l⟩ := rp.sqt
    refine sl_tupF pins s σ H _ v vl vu lo hi sl Qv I r1 hsl pl pu ⟨a, vs, rfl, hK ▸ ta, fun e => ?_, fun e p o n hd => ?_⟩
    · rw [← l.length] at e
      have h := h.ok
      rw [cut_whole e] at h
      exact h.here rs rp
    · exact h.ok.new rs n (rep_tup rs n hd (cut_rep l lo hi))
  · split at h
    · rename_i xs e
      exact lists xs e h.ok
    · exact h.stuck
end
end Q
set_option Elab.async false
set_option linter.all false
set_option maxRecDepth 100000
set_option maxHeartbeats 1000000
/-! P2c: built-in calls by values. -/
namespace Q
open L2 PyProof.Rows PySem PySem.Spec
def biV : Bi → Value
  | .len => .builtin "len" | .tuple => .type "tuple" | .list => .type "list" | .listM => .type "list" | .sum => .builtin "sum"
  | .max => .builtin "max" | .min => .builtin "min" | .max2 => .builtin "max" | .min2 => .builtin "min" | .abs => .builtin "abs"
  | .int => .type "int" | .sorted => .builtin "sorted" | .any => .builtin "any" | .all => .builtin "all" | .dict => .type "dict" | .dictM => .type "dict" | .set => .type "set"
theorem foldl_max_ge : ∀ (ns : List Int) (n : Int), n ≤ ns.foldl max n ∧ ∀ y ∈ ns, y ≤ ns.foldl max n
  | [], n => ⟨Int.le_refl n, fun _ h => nomatch h⟩
  | m :: ns, n => by
    obtain ⟨h1, h2⟩ := foldl_max_ge ns (max n m)
    refine ⟨by rw [List.foldl_cons]; omega, fun y hy => ?_⟩
    rw [List.foldl_cons]
    rcases List.mem_cons.mp hy with e | hy
    · subst e; omega
    · exact h2 y hy
theorem foldl_max_mem : ∀ (ns : List Int) (n : Int), ns.foldl max n ∈ n :: ns
  | [], n => by simp
  | m :: ns, n => by
    have h := foldl_max_mem ns (max n m)
    rw [List.foldl_cons]
    rcases List.mem_cons.mp h with e | h
    · rw [e]
      rcases Int.le_total n m with q | q
      · rw [Int.max_eq_right q]; simp
      · rw [Int.max_eq_left q]; simp
    · exact List.mem_cons_of_mem _ (List.mem_cons_of_mem _ h)
theorem max_is {ns : List Int} {n m : Int} (h1 : m ∈ n :: ns) (h2 : ∀ y, y ∈ n :: ns → y ≤ m) : m = ns.foldl max n := by
  have a := h2 _ (foldl_max_mem ns n)
  obtain ⟨b1, b2⟩ := foldl_max_ge ns n
  rcases List.mem_cons.mp h1 with e | h
  · omega
  · have := b2 m h; omega
theorem foldl_min_le : ∀ (ns : List Int) (n : Int), ns.foldl min n ≤ n ∧ ∀ y ∈ ns, ns.foldl min n ≤ y
  | [], n => ⟨Int.le_refl n, fun _ h => nomatch h⟩
  | m :: ns, n => by
    obtain ⟨h1, h2⟩ := foldl_min_le ns (min n m)
    refine ⟨by rw [List.foldl_cons]; omega, fun y hy => ?_⟩
    rw [List.foldl_cons]
    rcases List.mem_cons.mp hy with e | hy
    · subst e; omega
    · exact h2 y hy
theorem foldl_min_mem : ∀ (ns : List Int) (n : Int), ns.foldl min n ∈ n :: ns
  | [], n => by simp
  | m :: ns, n => by
    have h := foldl_min_mem ns (min n m)
    rw [List.foldl_cons]
    rcases List.mem_cons.mp h with e | h
    · rw [e]
      rcases Int.le_total n m with q | q
      · rw [Int.min_eq_left q]; simp
      · rw [Int.min_eq_right q]; simp
    · exact List.mem_cons_of_mem _ (List.mem_cons_of_mem _ h)
theorem min_is {ns : List Int} {n m : Int} (h1 : m ∈ n :: ns) (h2 : ∀ y, y ∈ n :: ns → m ≤ y) : m = ns.foldl min n := by
  have a := h2 _ (foldl_min_mem ns n)
  obtain ⟨b1, b2⟩ := foldl_min_le ns n
  rcases List.mem_cons.mp h1 with e | h
  · omega
  · have := b2 m h; omega
section
variable {C : Cf} {g : G} {H : Hp} {S : Store}
theorem ints_rep : ∀ {xs : List PV} {vs : List V} {ns : List Int}, RepL C g H xs vs → intsOf xs = some ns → vs = ns.map V.int
  | _, _, _, .nil, e => by cases e; rfl
  | _, _, _, .cons (x := x) r l, e => by
    cases x with
    | int i =>
      simp only [intsOf, Option.map_eq_some_iff] at e
      obtain ⟨ns, e, rfl⟩ := e
      rw [repV_int r, ints_rep l e]; rfl
    | _ => simp [intsOf] at e
theorem bools_rep : ∀ {xs : List PV} {vs : List V} {ns : List Bool}, RepL C g H xs vs → boolsOf xs = some ns → vs = ns.map V.bl
  | _, _, _, .nil, e => by cases e; rfl
  | _, _, _, .cons (x := x) r l, e => by
    cases x with
    | bl i =>
      simp only [boolsOf, Option.map_eq_some_iff] at e
      obtain ⟨ns, e, rfl⟩ := e
      rw [repV_bl r, bools_rep l e]; rfl
    | _ => simp [boolsOf] at e
theorem RepL.one' {xs : List V} {p : PV} (l : RepL C g H [p] xs) : ∃ v, xs = [v] ∧ RepV C g H p v := by
  cases l with
  | cons r t => cases t; exact ⟨_, rfl, r⟩
theorem RepL.two' {xs : List V} {p q : PV} (l : RepL C g H [p, q] xs) : ∃ v w, xs = [v, w] ∧ RepV C g H p v ∧ RepV C g H q w := by
  cases l with
  | cons r t => cases t with
    | cons r2 t2 => cases t2; exact ⟨_, _, rfl, r, r2⟩
end
section
variable {prog : Program} {w : World} {A : Around} {E : Value → Shared → Prop} {s : Shared} {t : Addr} {its : List Value} {ns : List Int} {Qv : Value → Shared → Prop}
theorem sum_rawT (hh : A.handled = none) (ht : s.heap.IsTuple t its.toArray) (hi : IntsAre its ns)
    (h : ∀ h' tk t', (∀ b o, s.heap.get? b = some o → h'.get? b = some o) → Qv (.int ns.sum t') { s with heap := h', toks := tk }) : wpAny (model prog w) A (call (.builtin "sum") [.ref t]) Qv E s := by
  obtain ⟨xs, e⟩ := hi.allInts.items
  have hn : numsOf (intItems xs).toList = ns := by rw [← e]; exact hi.numsOf
  rw [nums_intItems] at hn
  rw [e] at ht
  refine PySem.W.ktm_sumG hh ht fun h' tk t' hk => ?_
  have := h h' tk t' hk
  rw [preSum_eq, List.take_of_length_le (by simp), hn]; exact this
theorem holdAll_ints {h : Heap} : ∀ {its : List Value} {ns : List Int}, Vals (ns.map V.int) its → PySem.W.HoldAll h its ns
  | [], [], _ => PySem.W.HoldAll.nil
  | [], _ :: _, r => nomatch r
  | _ :: _, [], r => nomatch r
  | u :: us, n :: ns, .cons r l => by
    obtain ⟨t, rfl⟩ := r
    exact PySem.W.HoldAll.cons ⟨_, Reads.int n t⟩ (holdAll_ints l)
end
section
variable {X : Cx} {C : Cf}
theorem bltR {k : Nat} (hK : X.K = C.K) (hw : X.w = C.w) (hc : X.calm = true) (hr : Room (k + 1) X.A) (b : Bi) : CallR X (biV b) (rL C (bltP b)) := by
  intro pins s σ H xs us Qv I r1 h
  obtain ⟨g, S, ps, rs, l, h⟩ := h
  unfold bltP at h
  split at h
  · -- len of a text
    obtain ⟨v, rfl, rv⟩ := RepL.one' l
    rw [repV_str rv] at r1
    obtain ⟨hl, h⟩ := ifS h
    exact call_len_str pins s σ H _ us Qv I r1 ⟨_, rfl, by rw [big_eq]; exact hl, h.ok.here rs (.int _)⟩
  · obtain ⟨v, rfl, rv⟩ := RepL.one' l
    split at h
    · rename_i xs e
      obtain ⟨a, vs, rfl, hsq, l⟩ := seqOf_rep rs rv e
      refine call_len_seq pins s σ H _ us Qv I r1 ⟨a, vs, rfl, hK ▸ hsq, ?_⟩
      have := h.ok.here rs (.int _)
      rw [l.length] at this
      exact this
    · split at h
      · rename_i ks xs e
        obtain ⟨a, rfl, vs, rd, hl, l⟩ := dictOf_rep rs rv e
        cases r1 with
        | cons r t =>
        cases t
        cases (show _ = Value.ref a from r)
        refine d_len I rd fun t s' I' => ⟨.int _, H, I', ⟨t, rfl⟩, ?_⟩
        have := h.ok.here rs (.int _)
        have e2 : (ks.zip vs).length = ks.length := by simp [hl]
        rw [e2]; exact this
      · rename_i ks xs e
        obtain ⟨a, rfl, L, rd, l⟩ := dictOf_rep rs rv e
        cases r1 with
        | cons r t =>
        cases t
        cases (show _ = Value.ref a from r)
        obtain ⟨hd, z, _, ys, lx, dd⟩ := dn_read I hK hw rd l
        have e2 : L.length = ks.length := by rw [← l.ke, List.length_map]
        have e3 := Paired.length lx
        have hz := line63
        refine call_len_dictH hd dd (by omega) ?_
        have := h.ok.here rs (.int _)
        rw [← e3, e2]
        exact ⟨.int _, H, I.tok _, ⟨_, rfl⟩, this⟩
      · exact h.stuck
  · obtain ⟨v, rfl, rv⟩ := RepL.one' l
    split at h
    · rename_i xs e
      cases rv with
      | tup h0 d0 n f l0 => cases e; exact call_tupleF pins s σ H _ us Qv I r1 ⟨_, _, rfl, .inr ⟨.inl (.inr ⟨_, h0⟩), h.ok.here rs (.tup h0 d0 n f l0)⟩⟩
      | ktup h0 l0 => cases e; exact call_tupleF pins s σ H _ us Qv I r1 ⟨_, _, rfl, .inr ⟨(by rw [hK]; exact h0.sq), h.ok.here rs (.ktup h0 l0)⟩⟩
      | lst rd n f l0 => cases e; exact call_tupleF pins s σ H _ us Qv I r1 ⟨_, _, rfl, .inl ⟨.inl rd, fun p o n hd => h.ok.new rs n (rep_tup rs n hd l0)⟩⟩
      | scr q l0 => cases e; exact call_tupleF pins s σ H _ us Qv I r1 ⟨_, _, rfl, .inl ⟨hK ▸ q.elim (fun q => .inl q.1) KLst.sq, fun p o n hd => h.ok.new rs n (rep_tup rs n hd l0)⟩⟩
      | ref e0 =>
        obtain ⟨_, _, e1, rd, l0⟩ := lstOf_rep (x := .ref _) rs (.ref e0) (xs := xs) (by simp only [seqOf] at e; simp only [lstOf]; exact e)
        cases e1
        exact call_tupleF pins s σ H _ us Qv I r1 ⟨_, _, rfl, .inl ⟨.inl rd, fun p o n hd => h.ok.new rs n (rep_tup rs n hd l0)⟩⟩
      | _ => cases e
    · exact h.stuck
  · obtain ⟨v, rfl, rv⟩ := RepL.one' l
    split at h
    · rename_i xs e
      obtain ⟨a, vs, rfl, hsq, l⟩ := seqOf_rep rs rv e
      exact call_list_of pins s σ H _ us Qv I r1 ⟨a, vs, rfl, hK ▸ hsq, fun p n => h.ok.new rs n (rep_lst rs n l)⟩
    · exact h.stuck
  · obtain ⟨v, rfl, rv⟩ := RepL.one' l
    split at h
    · rename_i xs e
      obtain ⟨a, vs, rfl, hsq, l⟩ := seqOf_rep rs rv e
      exact call_list_of pins s σ H _ us Qv I r1 ⟨a, vs, rfl, hK ▸ hsq, fun p n => h.ok.add rs n ⟨vs, upd_same, l.mono (rs.stepA n).toMv⟩⟩
    · exact h.stuck
  · -- sum
    obtain ⟨v, rfl, rv⟩ := RepL.one' l
    split at h
    · rename_i ns e
      simp only [Option.bind_eq_some_iff] at e
      obtain ⟨xs, e, e2⟩ := e
      obtain ⟨a, vs, rfl, hsq, l⟩ := seqOf_rep rs rv e
      have := ints_rep l e2
      subst this
      rcases hsq with hsq | hsq
      · exact cr_sum hc pins s σ H _ us Qv I r1 ⟨a, ns, rfl, hK ▸ hsq, h.ok.here rs (.int _)⟩
      · obtain ⟨its, rv', ht, _⟩ := I.tuple (hK ▸ hsq)
        rw [Vals.ref1 r1]
        exact sum_rawT (I.ok.hd hc) (show s.heap.IsTuple a its.toArray from ht) rv'.ints fun h' tk t' hk => ⟨.int _, H, I.kept hk, ⟨_, rfl⟩, h.ok.here rs (.int _)⟩
    · exact h.stuck
  · -- max
    obtain ⟨v, rfl, rv⟩ := RepL.one' l
    split at h
    · rename_i n ns e
      simp only [Option.bind_eq_some_iff] at e
      obtain ⟨xs, e, e2⟩ := e
      obtain ⟨a, vs, rfl, hsq, l⟩ := seqOf_rep rs rv e
      have := ints_rep l e2
      subst this
      have fin : ∀ m, m ∈ n :: ns → (∀ y, y ∈ n :: ns → y ≤ m) → Qv (.int m) H := fun m h1 h2 => by
        rw [max_is h1 h2]; exact h.ok.here rs (.int _)
      rcases hsq with hsq | hsq
      · exact cr_max hc pins s σ H _ us Qv I r1 ⟨a, n :: ns, rfl, hK ▸ hsq, by simp, fin⟩
      · obtain ⟨its, rv', ht, _⟩ := I.tuple (hK ▸ hsq)
        rw [Vals.ref1 r1]
        refine PySem.W.max_tuple_datum (α := Int) (x := n) (xs := ns) (I.ok.hd hc) (show s.heap.IsTuple a its.toArray from ht) (holdAll_ints (h := s.heap) rv') (by have := hr.un; show X.A.units + 1 + 0 < cLine; omega) fun i v h' tk hv hh hk => ?_
        obtain ⟨as, hh⟩ := hh
        have e1 : PySem.W.maxOf n ns = ns.foldl max n := by
          unfold PySem.W.maxOf
          congr 1
          funext a y
          show (if decide (a < y) = true then y else a) = max a y
          by_cases q : a < y
          · rw [if_pos (by simpa using q), Int.max_eq_right (by omega)]
          · rw [if_neg (by simpa using q), Int.max_eq_left (by omega)]
        rw [e1] at hh
        cases hh with
        | int i t => exact ⟨.int _, H, I.kept hk, ⟨_, rfl⟩, h.ok.here rs (.int _)⟩
    · exact h.stuck
  · -- min
    obtain ⟨v, rfl, rv⟩ := RepL.one' l
    split at h
    · rename_i n ns e
      simp only [Option.bind_eq_some_iff] at e
      obtain ⟨xs, e, e2⟩ := e
      obtain ⟨a, vs, rfl, hsq, l⟩ := seqOf_rep rs rv e
      have := ints_rep l e2
      subst this
      have fin : ∀ m, m ∈ n :: ns → (∀ y, y ∈ n :: ns → m ≤ y) → Qv (.int m) H := fun m h1 h2 => by
        rw [min_is h1 h2]; exact h.ok.here rs (.int _)
      rcases hsq with hsq | hsq
      · exact cr_min hc pins s σ H _ us Qv I r1 ⟨a, n :: ns, rfl, hK ▸ hsq, by simp, fin⟩
      · obtain ⟨its, rv', ht, _⟩ := I.tuple (hK ▸ hsq)
        rw [Vals.ref1 r1]
        refine PySem.W.min_tuple_datum (α := Int) (x := n) (xs := ns) (I.ok.hd hc) (show s.heap.IsTuple a its.toArray from ht) (holdAll_ints (h := s.heap) rv') (by have := hr.un; show X.A.units + 1 + 0 < cLine; omega) fun i v h' tk hv hh hk => ?_
        obtain ⟨as, hh⟩ := hh
        have e1 : PySem.W.minOf n ns = ns.foldl min n := by
          unfold PySem.W.minOf
          congr 1
          funext a y
          show (if decide (y < a) = true then y else a) = min a y
          by_cases q : y < a
          · rw [if_pos (by simpa using q), Int.min_eq_right (by omega)]
          · rw [if_neg (by simpa using q), Int.min_eq_left (by omega)]
        rw [e1] at hh
        cases hh with
        | int i t => exact ⟨.int _, H, I.kept hk, ⟨_, rfl⟩, h.ok.here rs (.int _)⟩
    · exact h.stuck
  · obtain ⟨v, w, rfl, rv, rw'⟩ := RepL.two' l
    rw [repV_int rv, repV_int rw'] at r1
    exact call_max2 hc pins s σ H _ us Qv I r1 ⟨_, _, rfl, h.ok.here rs (.int _)⟩
  · obtain ⟨v, w, rfl, rv, rw'⟩ := RepL.two' l
    rw [repV_int rv, repV_int rw'] at r1
    exact call_min2 hc pins s σ H _ us Qv I r1 ⟨_, _, rfl, h.ok.here rs (.int _)⟩
  · obtain ⟨v, rfl, rv⟩ := RepL.one' l
    rw [repV_int rv] at r1
    exact call_abs pins s σ H _ us Qv I r1 ⟨_, rfl, h.ok.here rs (.int _)⟩
  · obtain ⟨v, rfl, rv⟩ := RepL.one' l
    rw [repV_int rv] at r1
    exact call_int1 pins s σ H _ us Qv I r1 (.inl ⟨_, rfl, h.ok.here rs (.int _)⟩)
  · obtain ⟨v, rfl, rv⟩ := RepL.one' l
    rw [repV_bl rv] at r1
    exact call_int1 pins s σ H _ us Qv I r1 (.inr ⟨_, rfl, h.ok.here rs (.int _)⟩)
  · obtain ⟨v, rfl, rv⟩ := RepL.one' l
    split at h
    · rename_i bs e
      simp only [Option.bind_eq_some_iff] at e
      obtain ⟨xs, e, e2⟩ := e
      obtain ⟨a, vs, rfl, rd, l⟩ := lstOf_rep rs rv e
      have := bools_rep l e2
      subst this
      exact cr_any hc pins s σ H _ us Qv I r1 ⟨a, bs, rfl, .inl rd, h.ok.here rs (.bl _)⟩
    · exact h.stuck
  · obtain ⟨v, rfl, rv⟩ := RepL.one' l
    split at h
    · rename_i bs e
      simp only [Option.bind_eq_some_iff] at e
      obtain ⟨xs, e, e2⟩ := e
      obtain ⟨a, vs, rfl, rd, l⟩ := lstOf_rep rs rv e
      have := bools_rep l e2
      subst this
      exact cr_all hc pins s σ H _ us Qv I r1 ⟨a, bs, rfl, .inl rd, h.ok.here rs (.bl _)⟩
    · exact h.stuck
  · exact h.stuck
end
end Q
set_option Elab.async false
set_option linter.all false
set_option maxRecDepth 100000
set_option maxHeartbeats 1000000
/-! P2e: methods and isinstance by values. -/
namespace Q
open L2 PyProof.Rows PySem PySem.Spec
def meName : Me → Str
  | .append => "append" | .extend => "extend" | .pop => "pop" | .popAt => "pop" | .insert => "insert" | .index => "index" | .indexT => "index" | .get1 => "get" | .get2 => "get"
def meT : Me → String
  | .indexT => "tuple" | .get1 => "dict" | .get2 => "dict" | _ => "list"
def meId : Me → String
  | .append => "list.append" | .extend => "list.extend" | .pop => "list.pop" | .popAt => "list.pop" | .insert => "list.insert" | .index => "list.index" | .indexT => "tuple.index" | .get1 => "dict.get" | .get2 => "dict.get"
theorem me_pa : ∀ m, PlainAttrs (meT m)
  | .append => PySem.F.plainAttrs_list | .extend => PySem.F.plainAttrs_list | .pop => PySem.F.plainAttrs_list | .popAt => PySem.F.plainAttrs_list | .insert => PySem.F.plainAttrs_list
  | .index => PySem.F.plainAttrs_list | .indexT => PySem.F.plainAttrs_tuple | .get1 => PySem.F.plainAttrs_dict | .get2 => PySem.F.plainAttrs_dict
theorem me_slot : ∀ m, Slot (meT m) (meName m) (meId m)
  | .append => PySem.F.slot_list_append | .extend => PySem.F.slot_list_extend | .pop => PySem.F.slot_list_pop | .popAt => PySem.F.slot_list_pop | .insert => PySem.F.slot_list_insert
  | .index => PySem.F.slot_list_index | .indexT => PySem.F.slot_tuple_index | .get1 => PySem.F.slot_dict_get | .get2 => PySem.F.slot_dict_get
theorem me_ty : ∀ m, typeOf (.builtin (meId m)) = pure (.type "method_descriptor")
  | .append => PySem.F.type_list_append | .extend => PySem.F.type_list_extend | .pop => PySem.F.type_list_pop | .popAt => PySem.F.type_list_pop | .insert => PySem.F.type_list_insert
  | .index => PySem.F.type_list_index | .indexT => PySem.F.type_tuple_index | .get1 => PySem.F.type_dict_get | .get2 => PySem.F.type_dict_get
section
variable {X : Cx} {pins : List (Addr × Obj)} {σ : L2.St} {H : Hp} {s : Shared} {C : Cf} {g : G} {S : Store} {k : Nat}
theorem me_is (hK : X.K = C.K) (I : Inv X pins σ H s) (rs : RelS C g S H) {m : Me} {p : PV} {x : V} {v : Value} (rp : RepV C g H p x) (rv : L2.RelV x v) (h : methOk m p S = true) :
    s.TypeIs v (meT m) ∧ ∀ a, v = .ref a → ∃ ob, s.heap.get? a = some ob ∧ ob.dict = none := by
  have lists : (lstOf S p).isSome = true → s.TypeIs v "list" ∧ ∀ a, v = .ref a → ∃ ob, s.heap.get? a = some ob ∧ ob.dict = none := by
    intro h
    obtain ⟨xs, e⟩ := Option.isSome_iff_exists.mp h
    obtain ⟨a, vs, rfl, rd, _⟩ := lstOf_rep rs rp e
    exact tyV_is I rv (.inl ⟨rfl, vs, .inl rd⟩)
  have dicts : (dictOf S p).isSome = true → s.TypeIs v "dict" ∧ ∀ a, v = .ref a → ∃ ob, s.heap.get? a = some ob ∧ ob.dict = none := by
    intro h
    obtain ⟨o, e⟩ := Option.isSome_iff_exists.mp h
    obtain ⟨a, rfl, ro⟩ := dictOf_rep rs rp e
    cases (show v = Value.ref a from rv)
    exact dTypeIs I ro
  cases m with
  | indexT =>
    simp only [methOk] at h
    split at h
    · cases rp with
      | tup h0 d n f l =>
        cases rv
        obtain ⟨e, z, its, r, t⟩ := (I.hok _ _ h0 : ObjOk X.prog X.w H s.heap _ (.frz _ (.tup _)))
        obtain ⟨o, ho, hc, n, hd⟩ := t
        refine ⟨⟨o, ho, hc⟩, fun a e2 => ?_⟩
        cases e2
        exact ⟨_, e, d⟩
      | ktup h0 l =>
        cases rv
        obtain ⟨o, its, n, h1, h2, h3, _⟩ := h0
        rw [← hK] at h1
        refine ⟨⟨o, I.kIn _ _ h1, h2⟩, fun a e2 => ?_⟩
        cases e2
        exact ⟨_, I.kIn _ _ h1, h3⟩
    · cases h
  | get1 => exact dicts h
  | get2 => exact dicts h
  | append => exact lists h
  | extend => exact lists h
  | pop => exact lists h
  | popAt => exact lists h
  | insert => exact lists h
  | index => exact lists h
theorem seqIndex_of_ix {n : Nat} {i : Int} {j : Nat} (h : ixN n i = some j) (hn : n ≤ big) : seqIndex? i n = some j ∧ -(2 ^ 63) ≤ i ∧ i < 2 ^ 63 := by
  obtain ⟨h1, h2, h3, h4⟩ := ixN_seq h
  have hn' : n ≤ 16777216 := hn
  exact ⟨h1, by omega, by omega⟩
theorem toDs_length : ∀ xs : List PV, (toDs xs).length = xs.length
  | [] => rfl
  | x :: xs => by unfold toDs; simp [toDs_length xs]
/-- l.index(y), t.index(y): the first place of an equal item -/
theorem index_ok (hK : X.K = C.K) (hr : Room (k + 1) X.A) (I : Inv X pins σ H s) (rs : RelS C g S H) {xs : List PV} {vs : List V} {q : PV} {y : V} {u : Value} {j : Nat} (l : RepL C g H xs vs) (rq : RepV C g H q y) (ru : L2.RelV y u) (e : idxFind S xs q = some j)
    {its : List Value} (rv : Vals vs its) : ∃ (bs : List Addr) (as : List Addr) (hj : j < its.toArray.size), (∀ z ∈ its.toArray, SeqAt.EqAt X.A.in1 s z u (PyData.eqv (SeqAt.readOf s.heap z) (toD (der S q)))) ∧
      PyData.eqv (SeqAt.readOf s.heap its.toArray[j]) (toD (der S q)) = true ∧ ∀ m (hm : m < its.toArray.size), m < j → PyData.eqv (SeqAt.readOf s.heap its.toArray[m]) (toD (der S q)) = false := by
  have hu : X.A.units + 65 < cLine := by have := hr.un; omega
  unfold idxFind at e
  simp only at e
  split at e
  · rename_i h
    rw [Bool.and_eq_true] at h
    obtain ⟨sd, sl⟩ := h
    have hd := dpd_of rs rq sd
    have hxs : PyData.canLayAll0 (toDs xs) = true := by have := SeqAt.canLay_of_shaped sl; rw [PyData.canLay0] at this; exact this
    have da := dps_of l hxs
    obtain ⟨bs, r1⟩ := Dp.reads I _ y u (hK ▸ hd) ru
    obtain ⟨as, h4⟩ := Dp.readsAll I _ _ its (hK ▸ da) rv
    have hroom : X.A.units + 1 + min (PyData.depthAll (toDs xs)) (toD (der S q)).depth < cLine := room_in_shaped sd hu
    have hn : its.length = (toDs xs).length := SeqAt.ReadsAll.length _ its as h4
    have hmap : its.map (SeqAt.readOf s.heap) = toDs xs := SeqAt.readsAll_map _ its as hxs h4
    rw [List.findIdx?_eq_some_iff_getElem] at e
    obtain ⟨hj, e1, e2⟩ := e
    have at_ : ∀ (m : Nat) (hm : m < its.toArray.size) (hm' : m < (toDs xs).length), SeqAt.readOf s.heap its.toArray[m] = (toDs xs)[m] := by
      intro m hm hm'
      have : (its.map (SeqAt.readOf s.heap))[m]'(by simpa using hm) = (toDs xs)[m] := by simp only [hmap]
      simpa using this
    refine ⟨bs, as, by simpa [hn] using hj, SeqAt.items_eqAt (vs := its.toArray) (show ReadsAll s.heap its.toArray.toList _ as from h4) r1 hxs (SeqAt.canLay_of_shaped sd) hroom, ?_, ?_⟩
    · rw [at_ j _ hj]; exact e1
    · intro m hm hmj
      rw [at_ m hm (by omega)]
      have := e2 m hmj
      simpa using this
  · cases e
theorem methR (hK : X.K = C.K) (hw : X.w = C.w) (hr : Room (k + 1) X.A) (m : Me) (I : Inv X pins σ H s) {x : V} {xs : List V} {v : Value} {us : List Value} {Qv : VK} (r1 : L2.RelV x v) (r2 : Vals xs us) {p : PV} {ps : List PV} (rs : RelS C g S H) (rp : RepV C g H p x) (l : RepL C g H ps xs)
    (h : (methP m p ps S).wp (VQ C g H Qv)) : wpAny (model X.prog X.w) X.A (call (.builtin (meId m)) (v :: us)) (EP X pins σ Qv) X.xe s := by
  unfold methP at h
  split at h
  · -- append
    split at h
    · rename_i n v1 xs1 e
      obtain ⟨hl, h⟩ := ifS h
      obtain ⟨w, rfl, rw'⟩ := RepL.one' l
      cases rp with
      | ref ea =>
      obtain ⟨vs, e1, l1⟩ := rs.at e ea
      refine mt_append pins s σ H _ _ v us Qv I r1 r2 ⟨_, vs, w, rfl, rfl, e1, by rw [← l1.length, big_eq]; exact hl, ?_⟩
      exact h.ok.wr rs ea ⟨_, upd_same, (l1.append (.one rw')).mono (Step.wr ea).toMv⟩ .non
    · exact h.stuck
  · -- extend
    split at h
    · rename_i n v1 xs1 ys e ey
      obtain ⟨hl, h⟩ := ifS h
      obtain ⟨w, rfl, rw'⟩ := RepL.one' l
      obtain ⟨b, ws, rfl, rd, l2⟩ := lstOf_rep rs rw' ey
      cases rp with
      | ref ea =>
      obtain ⟨vs, e1, l1⟩ := rs.at e ea
      cases r1
      obtain ⟨u, rfl, ru⟩ := vals1 r2
      cases ru
      obtain ⟨z, its, n1, r, hl1, e0⟩ := I.lstM e1
      obtain ⟨z2, its2, n2, r', hl2, e2⟩ := lstR I rd
      have hl' : vs.length + ws.length ≤ sizeLine := by rw [← l1.length, ← l2.length, big_eq]; exact hl
      have hsz : its.toArray.size + its2.toArray.size ≤ sizeLine := by rw [List.size_toArray, List.size_toArray]; omega
      have hlong : ¬ (!its.toArray.isEmpty && Builtin.List.listTooLong (its.toArray.size + its2.toArray.size)) = true := by
        rw [notLongL hsz, Bool.and_false]
        exact Bool.false_ne_true
      refine call_meets F.slot_list_extend ⟨_, e0, rfl⟩ F.entry_list_extend (F.args_list_extend_2 _ _)
        (AutoSeq1.list_extend_list_list_0 _ its.toArray n1 b its2.toArray n2 hlong (by rw [List.size_toArray]; omega) (by omega)) ⟨e0, e2, ?_⟩
      refine ⟨.non, _, I.lset (its' := its ++ its2) e1 e0 (by simp) (r.append r') (by rw [List.length_append]; omega), rfl, ?_⟩
      exact h.ok.wr rs ea ⟨_, upd_same, (l1.append l2).mono (Step.wr ea).toMv⟩ .non
    · exact h.stuck
  · -- pop()
    split at h
    · rename_i n xs1 e
      split at h
      · rename_i w ew
        cases l
        cases rp with
        | ref ea =>
        obtain ⟨vs, e1, l1⟩ := rs.at e ea
        obtain ⟨w', ew', rw'⟩ := l1.get ew
        refine mt_pop pins s σ H _ _ v us Qv I r1 r2 ⟨_, vs, w', rfl, rfl, e1, by rw [← l1.length]; exact ew', ?_⟩
        exact h.ok.wr rs ea ⟨_, upd_same, l1.dropLast.mono (Step.wr ea).toMv⟩ (rw'.mono (Step.wr ea).toMv)
      · exact h.stuck
    · exact h.stuck
  · -- pop(i)
    split at h
    · rename_i n i xs1 e
      split at h
      · rename_i j ej
        split at h
        · rename_i w ew
          obtain ⟨iv, rfl, ri⟩ := RepL.one' l
          have := repV_int ri
          subst this
          cases rp with
          | ref ea =>
          obtain ⟨vs, e1, l1⟩ := rs.at e ea
          obtain ⟨w', ew', rw'⟩ := l1.get ew
          have hz := (I.lstM e1).1
          rw [l1.length] at ej
          obtain ⟨q1, q2, q3⟩ := seqIndex_of_ix ej (by rw [← big_eq]; exact hz)
          refine mt_popAt pins s σ H _ _ v us Qv I r1 r2 ⟨_, vs, _, j, w', rfl, rfl, e1, q2, q3, q1, ew', ?_⟩
          exact h.ok.wr rs ea ⟨_, upd_same, (l1.eraseIdx j).mono (Step.wr ea).toMv⟩ (rw'.mono (Step.wr ea).toMv)
        · exact h.stuck
      · exact h.stuck
    · exact h.stuck
  · -- insert
    split at h
    · rename_i n i v1 xs1 e
      obtain ⟨⟨hl, h0, h1⟩, h⟩ := ifS h
      obtain ⟨iv, w, rfl, ri, rw'⟩ := RepL.two' l
      have := repV_int ri
      subst this
      cases rp with
      | ref ea =>
      obtain ⟨vs, e1, l1⟩ := rs.at e ea
      refine mt_insert pins s σ H _ _ v us Qv I r1 r2 ⟨_, vs, _, w, rfl, rfl, e1, by rw [← l1.length, big_eq]; exact hl, h0, h1, ?_⟩
      exact h.ok.wr rs ea ⟨_, upd_same, (((l1.take _).append (.one rw')).append (l1.drop _)).mono (Step.wr ea).toMv⟩ .non
    · exact h.stuck
  · -- index
    split at h
    · rename_i xs1 e
      split at h
      · rename_i j ej
        obtain ⟨a, vs, rfl, rd, l1⟩ := lstOf_rep rs rp e
        obtain ⟨y, rfl, ry⟩ := RepL.one' l
        obtain ⟨u, rfl, ru⟩ := vals1 r2
        cases r1
        obtain ⟨z, its, n, r, hl, e0⟩ := lstR I rd
        obtain ⟨bs, as, hj, q1, q2, q3⟩ := index_ok hK hr I rs l1 ry ru ej r
        have hz := sizeLine_eq
        have hjs : its.toArray.size = its.length := by simp
        have hjz : (j : Int) < 2 ^ 63 - 1 := by omega
        refine call_meets PySem.F.slot_list_index ⟨_, e0, rfl⟩ PySem.F.entry_list_index (PySem.F.args_list_index_2 _ _)
          (SeqAt.list_indexAt a its.toArray n none #[] u (fun z => PyData.eqv (SeqAt.readOf s.heap z) (toD (der S _))) j hj hjz q2 q3) ⟨e0, q1, ?_⟩
        exact ⟨.int (j : Nat), H, I.tok _, ⟨_, rfl⟩, h.ok.here rs (.int _)⟩
      · exact h.stuck
    · exact h.stuck
  · -- t.index
    split at h
    · rename_i xs1 y0 j ej
      obtain ⟨a, vs, rfl, hs, l1⟩ := rp.sqt
      obtain ⟨y, rfl, ry⟩ := RepL.one' l
      obtain ⟨u, rfl, ru⟩ := vals1 r2
      cases r1
      obtain ⟨its, r, t, hz⟩ := I.tuple (hK ▸ hs)
      obtain ⟨⟨cls, dd, dt, sl⟩, ho, hc, n, hd⟩ := t
      simp only at hc hd
      subst hc hd
      obtain ⟨bs, as, hj, q1, q2, q3⟩ := index_ok hK hr I rs l1 ry ru ej r
      refine call_meets PySem.F.slot_tuple_index ⟨_, ho, rfl⟩ PySem.F.entry_tuple_index (PySem.F.args_tuple_index_2 _ _)
        (TI.tuple_indexAt a its.toArray n dd sl u (fun z => PyData.eqv (SeqAt.readOf s.heap z) (toD (der S _))) j hj q2 q3) ⟨ho, q1, ?_⟩
      exact ⟨.int (j : Nat), H, I.tok _, ⟨_, rfl⟩, h.ok.here rs (.int _)⟩
    · exact h.stuck
  · -- get
    split at h
    · rename_i o e
      simp only [dget, Option.bind_eq_some_iff] at e
      obtain ⟨ob, e, e2⟩ := e
      obtain ⟨a, rfl, ro⟩ := dictOf_rep rs rp e
      obtain ⟨y, rfl, ry⟩ := RepL.one' l
      obtain ⟨u, rfl, ru⟩ := vals1 r2
      cases (show v = Value.ref a from r1)
      exact dGet1 hK hw hr I ro ry ru e2 fun v' w' s' rv' I' r' => ⟨v', H, I', r', h.ok.here rs rv'⟩
    · exact h.stuck
  · split at h
    · rename_i o e
      simp only [dget, Option.bind_eq_some_iff] at e
      obtain ⟨ob, e, e2⟩ := e
      obtain ⟨a, rfl, ro⟩ := dictOf_rep rs rp e
      obtain ⟨y, z, rfl, ry, rz⟩ := RepL.two' l
      obtain ⟨u, u2, rfl, ru, ru2⟩ := vals2 r2
      cases (show v = Value.ref a from r1)
      exact dGet2 hK hw hr I ro ry ru e2 rz ru2 fun v' w' s' rv' I' r' => ⟨v', H, I', r', h.ok.here rs rv'⟩
    · exact h.stuck
  · exact h.stuck
/-! ### isinstance -/
def tyN : Ty → String | .int => "int" | .bool => "bool" | .str => "str" | .tuple => "tuple" | .list => "list" | .dict => "dict"
theorem isiR (hK : X.K = C.K) {p : PV} {x : V} {ty : Ty} {b : Bool} {us : List Value} {Qv : VK} (I : Inv X pins σ H s) (rs : RelS C g S H) (rp : RepV C g H p x) (e : isiP p ty S = some b) (r : Vals [x, .ty (tyN ty)] us)
    (h : Qv (.bl b) H) : wpAny (model X.prog X.w) X.A (call (.builtin "isinstance") us) (EP X pins σ Qv) X.xe s := by
  have go : ∀ t : String, TyX X.K H x (.type t) → kitB t (tyN ty) = some b → wpAny (model X.prog X.w) X.A (call (.builtin "isinstance") us) (EP X pins σ Qv) X.xe s := fun t h1 h2 =>
    call_isi pins s σ H _ us Qv I r ⟨x, _, _, _, b, rfl, .ty _, h1, kit_ty h2, h⟩
  cases rp with
  | non => cases ty <;> cases e <;> exact go "NoneType" (.base .non) (by decide +kernel)
  | bl c => cases ty <;> cases e <;> exact go "bool" (.base (.bl c)) (by decide +kernel)
  | int c => cases ty <;> cases e <;> exact go "int" (.base (.int c)) (by decide +kernel)
  | str c => cases ty <;> cases e <;> exact go "str" (.base (.str c)) (by decide +kernel)
  | tup h0 d n f l => cases ty <;> cases e <;> exact go "tuple" (.fTuple h0) (by decide +kernel)
  | ktup h0 l =>
    obtain ⟨o, its, n, h1, h2, _⟩ := h0
    rw [← hK] at h1
    cases ty <;> cases e <;> exact go "tuple" (.kTuple h1 h2) (by decide +kernel)
  | @lst a xs vs rd n f l =>
    have ht : TyX X.K H (.ref a) (.type "list") := by
      rcases rd with rd | ⟨o, rd⟩
      · exact .base (.lst rd)
      · exact .base (.frz rd)
    cases ty <;> cases e <;> exact go "list" ht (by decide +kernel)
  | @ref n a ea =>
    simp only [isiP] at e
    split at e
    · rename_i xs es
      cases e
      obtain ⟨vs, e1, l1⟩ := rs.at es ea
      have ht : TyX X.K H (.ref a) (.type "list") := .base (.lst e1)
      cases ty <;> exact go "list" ht (by decide +kernel)
    · cases e
  | dK _ _ _ _ _ => cases ty <;> cases e
  | dT _ _ _ _ _ _ => cases ty <;> cases e
  | ins _ _ _ _ _ => cases ty <;> cases e
  | scr _ _ => cases ty <;> cases e
end
end Q
set_option Elab.async false
set_option linter.all false
set_option maxRecDepth 100000
set_option maxHeartbeats 1000000
/-! P2f: expressions, one rule a construct. -/
namespace Q
open L2 PyProof.Rows PySem PySem.Spec
theorem Res.wp.both {α : Type} {r : Res α} {P R : α → Store → Prop} (h : r.wp R) (p : ∀ a S, r = .ok a S → P a S) : r.wp fun a S => R a S ∧ P a S :=
  let ⟨a, S, e, q⟩ := h; ⟨a, S, e, q, p a S e⟩
section
variable {X : Cx} {C : Cf} {T : Tb} {k : Nat} {N : List Str} {sc : Scope} {fb : Str → Bool} {fl : List (Str × Nat × Nat)} {bl : List Str} {gl : List (Str × Nat)} {pos : Pos}
/-- what stands as an operand -/
def sup : Expr → Bool
  | .Name _ _ => true | .Constant _ _ _ => true | .Tuple _ _ _ => true | .List _ _ => true | .BinOp _ _ _ _ => true | .UnaryOp _ _ _ => true | .Compare _ _ _ _ => true
  | .BoolOp _ _ _ => true | .IfExp _ _ _ _ => true | .Subscript _ _ _ => true | .Call _ _ _ _ => true | .Attribute _ _ _ => true | .ListComp _ _ _ _ => true | .Dict _ _ _ => true | .DictComp _ _ _ _ _ => true
  | _ => false
theorem sup_star {e : Expr} (h : sup e = true) (es : List Expr) (env : PySem.Env) : starEach (e :: es) env = (false, eval e env) :: starEach es env := by
  cases e <;> first | rfl | cases h
theorem sup_ix {e : Expr} (h : sup e = true) : PlainIx e := by
  intro o i
  cases e <;> first | rfl | cases h
theorem sup_set {e : Expr} (h : sup e = true) (env : PySem.Env) (x : Value) : foldedSetIterable e env x = pure x := by
  cases e <;> first | rfl | cases h
theorem sup_mark {e : Expr} (h : sup e = true) (op : CmpOp) : behindInMarks op e = false := by
  cases e <;> first | rfl | cases h
def visB (sc : Scope) (x : Str) : Bool := match sc.names.lookup x with | some .local => true | some .cell => true | some .free => true | _ => false
theorem vis_of (cx : Ctx X C T k N sc fb fl bl gl) {x : Str} (h : visB sc x = true) : Vis X.env.scope x := by
  rw [cx.sc]
  unfold visB at h
  unfold Vis
  split at h
  · rename_i e; exact .inl e
  · rename_i e; exact .inr (.inl e)
  · rename_i e; exact .inr (.inr e)
  · cases h
def gloB (sc : Scope) (x : Str) : Bool := decide (sc.names.lookup x = some .globalImplicit)
theorem gl_of (cx : Ctx X C T k N sc fb fl bl gl) {x : Str} (h : gloB sc x = true) : Gl X x := by
  show X.env.scope.names.lookup x = _
  rw [cx.sc]
  exact of_decide_eq_true h
theorem Ctx.room1 (cx : Ctx X C T (k + 1) N sc fb fl bl gl) : Room (k + 1) X.A := cx.room

/-! ### names, constants -/
theorem s_var (cx : Ctx X C T k N sc fb fl bl gl) {x : Str} {i : Nat} (hi : N[i]? = some x) (hv : visB sc x = true) (hd : (x == ("__debug__" : Str)) = false) (hcd : (x == ("__classdict__" : Str)) = false) : PE X (.Name x pos) (tE C T (.var i)) := by
  refine (pe_var (i := i) (by rw [cx.N]; exact hi) (vis_of cx hv) hd hcd).weak fun σ H Qv h => ?_
  obtain ⟨g, S, ρ, rs, re, h⟩ := h
  unfold evE at h
  split at h
  · rename_i v e
    obtain ⟨w, ew, rw'⟩ := re.at_ i v e
    exact ⟨w, ew, h.ok.here rs rw'⟩
  · exact h.stuck
theorem s_const {e : Expr} {v : V} {p : PV} {ir : E} (h : PE X e (tC v)) (hr : ∀ g H, RepV C g H p v) (he : ∀ ρ S, evE T ir ρ S = .ok p S) : PE X e (tE C T ir) := by
  refine h.weak fun σ H Qv h => ?_
  obtain ⟨g, S, ρ, rs, re, h⟩ := h
  rw [he] at h
  exact h.ok.here rs (hr g H)
theorem s_non {j : Nat} : PE X (.Constant .none j pos) (tE C T .non) := s_const pe_non (fun _ _ => .non) fun ρ S => by unfold evE; rfl
theorem s_bl {j : Nat} {b : Bool} : PE X (.Constant (.bool b) j pos) (tE C T (.bl b)) := s_const pe_bl (fun _ _ => .bl b) fun ρ S => by unfold evE; rfl
theorem s_int {j : Nat} {i : Int} : PE X (.Constant (.int i) j pos) (tE C T (.int i)) := s_const pe_int (fun _ _ => .int i) fun ρ S => by unfold evE; rfl
theorem s_str {j : Nat} {x : Str} : PE X (.Constant (.str x) j pos) (tE C T (.str x)) := s_const pe_str (fun _ _ => .str x) fun ρ S => by unfold evE; rfl
theorem s_glo (cx : Ctx X C T k N sc fb fl bl gl) {x : Str} {j : Nat} (hm : (x, j) ∈ gl) (hg : gloB sc x = true) (hd : (x == ("__debug__" : Str)) = false) : PE X (.Name x pos) (tE C T (.glo j)) := by
  obtain ⟨u, v, hu, ru, hr⟩ := cx.glo x j hm
  refine (pe_glob (gl_of cx hg) hu ru hd).weak fun σ H Qv h => ?_
  obtain ⟨g, S, ρ, rs, re, h⟩ := h
  unfold evE at h
  exact h.ok.here rs (hr g H fun a m => rs.tB m)
/-! ### lists of expressions -/
theorem s_nil : PA X [] (tEs C T .nil) := by
  refine pa_nil.weak fun σ H Qv h => ?_
  obtain ⟨g, S, ρ, rs, re, h⟩ := h
  unfold evEs at h
  exact h.ok g H [] (.refl g H) rs .nil
theorem s_cons {e : Expr} {es : List Expr} {ie : E} {ies : Es} (he : PE X e (tE C T ie)) (hes : PA X es (tEs C T ies)) (hs : sup e = true) : PA X (e :: es) (tEs C T (.cons ie ies)) := by
  refine (pa_cons he hes (sup_star hs es _)).weak fun σ H Qv h => ?_
  obtain ⟨g, S, ρ, rs, re, h⟩ := h
  unfold evEs at h
  refine tE_then rs re h.bind fun p S1 g1 H1 v h s1 rs1 re1 rv => ?_
  refine tEs_then rs1 re1 h.bind fun ps S2 g2 H2 vs h s2 rs2 re2 rvs => ?_
  exact h.ok g2 H2 _ (s1.trans s2) rs2 (.cons (rv.mono s2.toMv) rvs)
def Es.len : Es → Nat
  | .nil => 0
  | .cons _ es => es.len + 1
theorem evEs_length : ∀ (es : Es) {ρ : Nv} {S S' : Store} {xs : List PV}, evEs T es ρ S = .ok xs S' → xs.length = es.len
  | .nil, _, _, _, _, h => by unfold evEs at h; cases h; rfl
  | .cons e es, ρ, S, S', xs, h => by
    unfold evEs at h
    cases h1 : evE T e ρ S with
    | ok p S1 =>
      rw [h1] at h
      simp only [Res.bind_ok] at h
      cases h2 : evEs T es ρ S1 with
      | ok ps S2 =>
        rw [h2] at h
        cases h
        rw [List.length_cons, evEs_length es h2]; rfl
      | exc _ _ _ => rw [h2] at h; cases h
      | stuck => rw [h2] at h; cases h
    | exc _ _ _ => rw [h1] at h; cases h
    | stuck => rw [h1] at h; cases h
/-! ### displays -/
theorem s_tup {es : List Expr} {ies : Es} {x1 : Nat} (h : PA X es (tEs C T ies)) : PE X (.Tuple es x1 pos) (tE C T (.tup ies)) := by
  refine (pe_tupF h).weak fun σ H Qv h => ?_
  obtain ⟨g, S, ρ, rs, re, h⟩ := h
  unfold evE at h
  refine tEs_then rs re h.bind fun ps S1 g1 H1 vs h s1 rs1 re1 l => ?_
  obtain ⟨hl, h⟩ := tupN_ok h
  exact ⟨by rw [← l.length]; exact hl, fun p o n hd => (h.from s1).new rs1 n (rep_tup rs1 n hd l)⟩
theorem alloc_ok {g : G} {S : Store} {H : Hp} {mu : Bool} {ps : List PV} {vs : List V} {Qv : VK} (h : (alloc mu ps S).wp (VQ C g H Qv)) (rs : RelS C g S H) (l : RepL C g H ps vs) : vs.length ≤ sizeLine ∧ ∀ p, H p = none → Qv (.ref p) (upd H p (.lst vs)) := by
  unfold alloc at h
  obtain ⟨hl, h⟩ := ifS h
  refine ⟨by rw [← l.length, big_eq]; exact hl, fun p n => ?_⟩
  cases mu with
  | true => exact (h.ok : VQ C g H Qv _ _).add rs n ⟨vs, upd_same, l.mono (rs.stepA n).toMv⟩
  | false => exact (h.ok : VQ C g H Qv _ _).new rs n (rep_lst rs n l)
theorem s_lst {es : List Expr} {ies : Es} {mu : Bool} (h : PA X es (tEs C T ies)) : PE X (.List es pos) (tE C T (.lst mu ies)) := by
  refine (pe_lst h).weak fun σ H Qv h => ?_
  obtain ⟨g, S, ρ, rs, re, h⟩ := h
  unfold evE at h
  refine tEs_then rs re h.bind fun ps S1 g1 H1 vs h s1 rs1 re1 l => ?_
  exact alloc_ok (h.mono fun p S' q => q.from s1) rs1 l
theorem s_dK0 {mu : Bool} : PE X (.Dict [] [] pos) (tE C T (.dK0 mu)) := by
  refine pe_dnewK.weak fun σ H Qv h => ?_
  obtain ⟨g, S, ρ, rs, re, h⟩ := h
  unfold evE at h
  intro p n
  cases mu with
  | true => exact (h.ok : VQ C g H Qv _ _).add rs n ⟨[], upd_same, rfl, .nil⟩
  | false => exact (h.ok : VQ C g H Qv _ _).new rs n (.dK (vs := []) (.inl upd_same) rfl (rs.newB n) (rs.newF n) .nil)
theorem laidD {pins : List (Addr × Obj)} {σ : L2.St} {H : Hp} {s : Shared} {w : World} (I : Inv X pins σ H s) : Inv X pins σ (upd H s.heap.objs.size (DN w s.heap.objs.size [])) { s with heap := s.heap.push { cls := .type "dict", data := .dict #[] } } := by
  refine I.laid (t' := s.toks) (fun b u e => Heap.get?_push_of_some _ e) (Nat.le_refl _) ?_
  have hb := I.big
  have e1 : (s.heap.push { cls := .type "dict", data := .dict #[] }).get? s.heap.objs.size = some { cls := .type "dict", data := .dict #[] } := Heap.get?_push_size _ rfl
  refine ⟨⟨_, #[], 0, e1, ⟨rfl, rfl, rfl⟩, rfl, ?_, Nat.zero_le _, (fun _ h => nomatch h), List.nodup_nil, Paired.nil⟩, ⟨_, e1⟩, fun h1 h2 ⟨o, es, ep, q1, q2⟩ st => ⟨o, es, ep, st o q1, q2⟩⟩
  refine beq_eq_false_iff_ne.mpr fun e => ?_
  rw [e] at hb
  exact absurd hb (Nat.lt_irrefl _)
theorem s_dT0 (cx : Ctx X C T k N sc fb fl bl gl) {mu : Bool} : PE X (.Dict [] [] pos) (tE C T (.dT0 mu)) := by
  refine ⟨fun pins s σ H Qv I h => ?_⟩
  obtain ⟨g, S, ρ, rs, re, h⟩ := h
  unfold evE at h
  have n : H s.heap.objs.size = none := I.hok.fresh (Nat.le_refl _)
  refine wpAny_Dict_empty ⟨.ref s.heap.objs.size, _, laidD (w := C.w) I, rfl, ?_⟩
  cases mu with
  | true => exact (h.ok : VQ C g H Qv _ _).add rs n ⟨[], upd_same, rfl, by unfold ofKeys; exact .nil, .nil⟩
  | false => exact (h.ok : VQ C g H Qv _ _).new rs n (.dT (L := []) (.inl upd_same) rfl (rs.newB n) (rs.newF n) (by unfold ofKeys; exact .nil) .nil)
/-! ### operators -/
theorem two_then {a b : E} {f : PV → PV → Store → Res PV} {σ : L2.St} {H : Hp} {g : G} {S : Store} {ρ : Nv} {Qv : VK} (rs : RelS C g S H) (re : RelE C g H ρ σ)
    (h : ((evE T a ρ S).bind fun x S1 => (evE T b ρ S1).bind fun y S2 => f x y S2).wp (VQ C g H Qv)) : tE C T a σ H fun x H1 => tE C T b σ H1 fun y H2 => rP C f x y H2 Qv := by
  refine tE_then rs re h.bind fun p S1 g1 H1 v h s1 rs1 re1 rv => ?_
  refine tE_then rs1 re1 h.bind fun q S2 g2 H2 w h s2 rs2 re2 rw' => ?_
  exact ⟨g2, S2, p, q, rs2, rv.mono s2.toMv, rw', h.mono fun _ _ q => q.from (s1.trans s2)⟩
theorem s_bin (cx : Ctx X C T k N sc fb fl bl gl) {a b : Expr} {ia ib : E} {op : Bo} (ha : PE X a (tE C T ia)) (hb : PE X b (tE C T ib)) : PE X (.BinOp a (opA op) b pos) (tE C T (.bin op ia ib)) := by
  refine (pe_op (binR (K := X.K) cx.K op) ha hb).weak fun σ H Qv h => ?_
  obtain ⟨g, S, ρ, rs, re, h⟩ := h
  unfold evE at h
  exact two_then rs re h
theorem s_neg {a : Expr} {ia : E} (ha : PE X a (tE C T ia)) : PE X (.UnaryOp .USub a pos) (tE C T (.neg ia)) := by
  refine (pe_un un_neg ha).weak fun σ H Qv h => ?_
  obtain ⟨g, S, ρ, rs, re, h⟩ := h
  unfold evE at h
  refine tE_then rs re h.bind fun p S1 g1 H1 v h s1 rs1 re1 rv => ?_
  split at h
  · exact ⟨_, repV_int rv, (h.ok.from s1).here rs1 (.int _)⟩
  · exact h.stuck
theorem s_cmp (cx : Ctx X C T (k + 1) N sc fb fl bl gl) {a b : Expr} {ia ib : E} {op : Co} (ha : PE X a (tE C T ia)) (hb : PE X b (tE C T ib)) (hs : sup b = true) : PE X (.Compare a [coA op] [b] pos) (tE C T (.cmp op ia ib)) := by
  refine (pe_cmpR (cmpR cx.K cx.w cx.room op) ha hb (sup_mark hs _)).weak fun σ H Qv h => ?_
  obtain ⟨g, S, ρ, rs, re, h⟩ := h
  unfold evE at h
  exact two_then rs re h
theorem cmpP_bl {op : Co} {x y r : PV} {S S' : Store} (h : cmpP op x y S = .ok r S') : ∃ b, r = .bl b := by
  unfold cmpP at h
  cases op <;> simp only at h <;> (split at h <;> first | (cases h; exact ⟨_, rfl⟩) | cases h)
theorem evT_ok {e : E} {ρ : Nv} {S : Store} {R : Bool → Store → Prop} (h : (evT T e ρ S).wp R) : (evE T e ρ S).wp fun x S1 => ∃ b, truthP S1 x = some b ∧ R b S1 := by
  unfold evT at h
  refine h.bind.mono fun x S1 h => ?_
  cases e : truthP S1 x with
  | none => rw [e] at h; exact h.stuck
  | some b => rw [e] at h; exact ⟨b, rfl, h.ok⟩
theorem tT_tE {e : E} {σ : L2.St} {H : Hp} {Qb : Bool → Hp → Prop} (h : tT C T e σ H Qb) (hb : ∀ ρ S p S', evE T e ρ S = .ok p S' → ∃ b, p = .bl b) : tE C T e σ H fun x H' => ∃ k, x = .bl k ∧ Qb k H' := by
  obtain ⟨g, S, ρ, rs, re, h⟩ := h
  obtain ⟨p, S', e1, b, e2, h⟩ := evT_ok h
  obtain ⟨c, rfl⟩ := hb _ _ _ _ e1
  cases e2
  exact ⟨g, S, ρ, rs, re, _, S', e1, fun g' H' v s rs' rv => ⟨_, repV_bl rv, h g' H' s rs'⟩⟩
theorem bind_ok_inv {α β : Type} {r : Res α} {f : α → Store → Res β} {b : β} {S' : Store} (h : r.bind f = .ok b S') : ∃ a S, r = .ok a S ∧ f a S = .ok b S' := by
  cases r with
  | ok a S => exact ⟨a, S, rfl, h⟩
  | exc _ _ _ => cases h
  | stuck => cases h
/-- a comparison as a test -/
theorem s_tcmp (cx : Ctx X C T (k + 1) N sc fb fl bl gl) {a b : Expr} {ia ib : E} {op : Co} (ha : PE X a (tE C T ia)) (hb : PE X b (tE C T ib)) (hs : sup b = true) : PT X (.Compare a [coA op] [b] pos) (tT C T (.cmp op ia ib)) := by
  refine (pt_cmpR (cmpR cx.K cx.w cx.room op) ha hb (sup_mark hs _)).weak fun σ H Qv h => ?_
  obtain ⟨g, S, ρ, rs, re, h⟩ := tT_tE h fun ρ S p S' e => by
    unfold evE at e
    obtain ⟨x, S1, _, e⟩ := bind_ok_inv e
    obtain ⟨y, S2, _, e⟩ := bind_ok_inv e
    exact cmpP_bl e
  unfold evE at h
  exact two_then rs re h
theorem chain_then {a b c : E} {o1 o2 : Co} {σ : L2.St} {H : Hp} {Qv : VK} (h : tE C T (.chain o1 o2 a b c) σ H Qv) : tChain (rP C (cmpP o1)) (rP C (cmpP o2)) (tE C T a) (tE C T b) (tE C T c) σ H Qv := by
  obtain ⟨g, S, ρ, rs, re, h⟩ := h
  unfold evE at h
  refine tE_then rs re h.bind fun p S1 g1 H1 v h s1 rs1 re1 rv => ?_
  refine tE_then rs1 re1 h.bind fun q S2 g2 H2 w h s2 rs2 re2 rw' => ?_
  refine ⟨g2, S2, p, q, rs2, rv.mono s2.toMv, rw', ?_⟩
  obtain ⟨r, S3, e, h⟩ := h.bind
  obtain ⟨d, rfl⟩ := cmpP_bl e
  refine ⟨_, S3, e, fun g3 H3 z s3 rs3 rz => ⟨d, repV_bl rz, ?_⟩⟩
  have re3 := re2.mono s3.toMv
  have s03 := (s1.trans s2).trans s3
  cases d with
  | true =>
    rw [if_pos rfl]
    refine tE_then rs3 re3 h.bind fun z S4 g4 H4 w' h s4 rs4 re4 rz' => ?_
    exact ⟨g4, S4, q, z, rs4, rw'.mono (s3.trans s4).toMv, rz', h.mono fun _ _ q => q.from (s03.trans s4)⟩
  | false =>
    rw [if_neg Bool.false_ne_true]
    exact (h.ok.from s03).here rs3 (.bl false)
theorem coA_in (op : Co) (h1 : op ≠ .mem) (h2 : op ≠ .nmem) : coA op ≠ .In ∧ coA op ≠ .NotIn := by
  cases op <;> first | exact absurd rfl h1 | exact absurd rfl h2 | exact ⟨nofun, nofun⟩
theorem s_chain (cx : Ctx X C T (k + 1) N sc fb fl bl gl) {a b c : Expr} {ia ib ic : E} {o1 o2 : Co} (ha : PE X a (tE C T ia)) (hb : PE X b (tE C T ib)) (hc : PE X c (tE C T ic)) (hm : lastMarks [coA o1, coA o2] [b, c] = false) : PE X (.Compare a [coA o1, coA o2] [b, c] pos) (tE C T (.chain o1 o2 ia ib ic)) :=
  (pe_chain (cmpR cx.K cx.w cx.room o1) (cmpR cx.K cx.w cx.room o2) ha hb hc hm).weak fun _ _ _ h => chain_then h
theorem s_tchain (cx : Ctx X C T (k + 1) N sc fb fl bl gl) {a b c : Expr} {ia ib ic : E} {o1 o2 : Co} (ha : PE X a (tE C T ia)) (hb : PE X b (tE C T ib)) (hc : PE X c (tE C T ic)) (hm : lastMarks [coA o1, coA o2] [b, c] = false) : PT X (.Compare a [coA o1, coA o2] [b, c] pos) (tT C T (.chain o1 o2 ia ib ic)) := by
  refine (pt_chain (cmpR cx.K cx.w cx.room o1) (cmpR cx.K cx.w cx.room o2) ha hb hc hm).weak fun _ _ _ h => chain_then (tT_tE h fun ρ S p S' e => ?_)
  unfold evE at e
  obtain ⟨x, S1, _, e⟩ := bind_ok_inv e
  obtain ⟨y, S2, _, e⟩ := bind_ok_inv e
  obtain ⟨r, S3, e1, e⟩ := bind_ok_inv e
  obtain ⟨d, rfl⟩ := cmpP_bl e1
  cases d with
  | true =>
    obtain ⟨z, S4, _, e⟩ := bind_ok_inv e
    exact cmpP_bl e
  | false => cases e; exact ⟨false, rfl⟩
/-! ### is None -/
theorem isN_rep {g : G} {H : Hp} {p : PV} {v : V} (r : RepV C g H p v) : decide (v = .non) = isNon p := by
  cases r <;> simp [isNon]
theorem s_isN {a : Expr} {ia : E} {j : Nat} {p1 : Pos} (ha : PE X a (tE C T ia)) : PE X (.Compare a [.Is] [.Constant .none j p1] pos) (tE C T (.isN false ia)) := by
  refine (pe_cmpR op_isN ha pe_non (nomark _)).weak fun σ H Qv h => ?_
  obtain ⟨g, S, ρ, rs, re, h⟩ := h
  unfold evE at h
  refine tE_then rs re h.bind fun p S1 g1 H1 v h s1 rs1 re1 rv => ⟨rfl, ?_⟩
  rw [isN_rep rv]
  exact (h.ok.from s1).here rs1 (by rw [Bool.false_xor]; exact .bl _)
theorem s_isNN {a : Expr} {ia : E} {j : Nat} {p1 : Pos} (ha : PE X a (tE C T ia)) : PE X (.Compare a [.IsNot] [.Constant .none j p1] pos) (tE C T (.isN true ia)) := by
  refine (pe_cmpR op_notN ha pe_non (nomark _)).weak fun σ H Qv h => ?_
  obtain ⟨g, S, ρ, rs, re, h⟩ := h
  unfold evE at h
  refine tE_then rs re h.bind fun p S1 g1 H1 v h s1 rs1 re1 rv => ⟨rfl, ?_⟩
  rw [isN_rep rv]
  exact (h.ok.from s1).here rs1 (by rw [Bool.true_xor]; exact .bl _)
theorem isN_bl {ng : Bool} {ia : E} {ρ : Nv} {S : Store} {p : PV} {S' : Store} (e : evE T (.isN ng ia) ρ S = .ok p S') : ∃ b, p = .bl b := by
  unfold evE at e
  obtain ⟨x, S1, _, e⟩ := bind_ok_inv e
  cases e
  exact ⟨_, rfl⟩
theorem s_tisN {a : Expr} {ia : E} {j : Nat} {p1 : Pos} (ha : PE X a (tE C T ia)) : PT X (.Compare a [.Is] [.Constant .none j p1] pos) (tT C T (.isN false ia)) := by
  refine (pt_cmpR op_isN ha pe_non (nomark _)).weak fun σ H Qv h => ?_
  obtain ⟨g, S, ρ, rs, re, h⟩ := tT_tE h fun ρ S p S' e => isN_bl e
  unfold evE at h
  refine tE_then rs re h.bind fun p S1 g1 H1 v h s1 rs1 re1 rv => ⟨rfl, ?_⟩
  rw [isN_rep rv]
  exact (h.ok.from s1).here rs1 (by rw [Bool.false_xor]; exact .bl _)
theorem s_tisNN {a : Expr} {ia : E} {j : Nat} {p1 : Pos} (ha : PE X a (tE C T ia)) : PT X (.Compare a [.IsNot] [.Constant .none j p1] pos) (tT C T (.isN true ia)) := by
  refine (pt_cmpR op_notN ha pe_non (nomark _)).weak fun σ H Qv h => ?_
  obtain ⟨g, S, ρ, rs, re, h⟩ := tT_tE h fun ρ S p S' e => isN_bl e
  unfold evE at h
  refine tE_then rs re h.bind fun p S1 g1 H1 v h s1 rs1 re1 rv => ⟨rfl, ?_⟩
  rw [isN_rep rv]
  exact (h.ok.from s1).here rs1 (by rw [Bool.true_xor]; exact .bl _)
/-! ### truth -/
theorem s_truth (cx : Ctx X C T k N sc fb fl bl gl) {e : Expr} {ie : E} (h : PE X e (tE C T ie)) (he : ∀ whole, PySem.isTrue e X.env whole = (do let v ← whole; standAt e.pos; holding [v] (truthy v))) : PT X e (tT C T ie) := by
  refine (pt_truth h he).weak fun σ H Qv h => ?_
  obtain ⟨g, S, ρ, rs, re, h⟩ := h
  refine tE_then rs re (evT_ok h) fun p S1 g1 H1 v ⟨b, e, h⟩ s1 rs1 re1 rv => ⟨b, truthP_rep cx.K rs1 rv e, h g1 H1 s1 rs1⟩
theorem tT_then {e : E} {σ : L2.St} {H : Hp} {g : G} {S : Store} {ρ : Nv} {Qb : Bool → Hp → Prop} {R : Bool → Store → Prop} (rs : RelS C g S H) (re : RelE C g H ρ σ) (h : (evT T e ρ S).wp R)
    (k : ∀ b S' g' H', R b S' → Step g g' H H' → RelS C g' S' H' → RelE C g' H' ρ σ → Qb b H') : tT C T e σ H Qb :=
  ⟨g, S, ρ, rs, re, h.mono fun b S' r g' H' s rs' => k b S' g' H' r s rs' (re.mono s.toMv)⟩
theorem evT_and {a b : E} {ρ : Nv} {S : Store} : evT T (.and_ a b) ρ S = (evT T a ρ S).bind fun c S1 => if c = true then evT T b ρ S1 else .ok false S1 := by
  unfold evT
  rw [evE]
  cases evE T a ρ S with
  | ok x S1 =>
    simp only [Res.bind_ok]
    cases h : truthP S1 x with
    | none => rfl
    | some c =>
      cases c with
      | true => simp [ofO]
      | false => simp [ofO, h]
  | exc _ _ _ => rfl
  | stuck => rfl
theorem evT_or {a b : E} {ρ : Nv} {S : Store} : evT T (.or_ a b) ρ S = (evT T a ρ S).bind fun c S1 => if c = true then .ok true S1 else evT T b ρ S1 := by
  unfold evT
  rw [evE]
  cases evE T a ρ S with
  | ok x S1 =>
    simp only [Res.bind_ok]
    cases h : truthP S1 x with
    | none => rfl
    | some c =>
      cases c with
      | true => simp [ofO, h]
      | false => simp [ofO]
  | exc _ _ _ => rfl
  | stuck => rfl
theorem evT_not {a : E} {ρ : Nv} {S : Store} : evT T (.not_ a) ρ S = (evT T a ρ S).bind fun c S1 => .ok (!c) S1 := by
  unfold evT
  rw [evE]
  cases evE T a ρ S with
  | ok x S1 =>
    simp only [Res.bind_ok]
    cases h : truthP S1 x with
    | none => rfl
    | some c => simp [ofO, truthP]
  | exc _ _ _ => rfl
  | stuck => rfl
theorem evT_one {a : E} {ρ : Nv} {S : Store} : evT T (.one a) ρ S = evT T a ρ S := by unfold evT; rw [evE]
theorem s_wand {a b : Expr} {rest : List Expr} {ia ib : E} (ha : PT X a (tT C T ia)) (hb : PW X (.BoolOp .And (b :: rest) pos) (tT C T ib)) : PW X (.BoolOp .And (a :: b :: rest) pos) (tT C T (.and_ ia ib)) := by
  refine (pw_and ha hb).weak fun σ H Qv h => ?_
  obtain ⟨g, S, ρ, rs, re, h⟩ := h
  rw [evT_and] at h
  refine tT_then rs re h.bind fun c S1 g1 H1 h s1 rs1 re1 => ?_
  cases c with
  | true =>
    rw [if_pos rfl] at h ⊢
    exact tT_then rs1 re1 h fun c S2 g2 H2 h s2 rs2 re2 => h g2 H2 (s1.trans s2) rs2
  | false =>
    rw [if_neg Bool.false_ne_true] at h ⊢
    exact h.ok g1 H1 s1 rs1
theorem s_wor {a b : Expr} {rest : List Expr} {ia ib : E} (ha : PT X a (tT C T ia)) (hb : PW X (.BoolOp .Or (b :: rest) pos) (tT C T ib)) : PW X (.BoolOp .Or (a :: b :: rest) pos) (tT C T (.or_ ia ib)) := by
  refine (pw_or ha hb).weak fun σ H Qv h => ?_
  obtain ⟨g, S, ρ, rs, re, h⟩ := h
  rw [evT_or] at h
  refine tT_then rs re h.bind fun c S1 g1 H1 h s1 rs1 re1 => ?_
  cases c with
  | true =>
    rw [if_pos rfl] at h ⊢
    exact h.ok g1 H1 s1 rs1
  | false =>
    rw [if_neg Bool.false_ne_true] at h ⊢
    exact tT_then rs1 re1 h fun c S2 g2 H2 h s2 rs2 re2 => h g2 H2 (s1.trans s2) rs2
theorem s_wone {a : Expr} {ia : E} (ha : PT X a (tT C T ia)) : PW X (.BoolOp .And [a] pos) (tT C T (.one ia)) := by
  refine (pw_and1 ha).weak fun σ H Qv h => ?_
  obtain ⟨g, S, ρ, rs, re, h⟩ := h
  rw [evT_one] at h
  exact ⟨g, S, ρ, rs, re, h⟩
theorem s_wone' {a : Expr} {ia : E} (ha : PT X a (tT C T ia)) : PW X (.BoolOp .Or [a] pos) (tT C T (.one ia)) := by
  refine (pw_or1 ha).weak fun σ H Qv h => ?_
  obtain ⟨g, S, ρ, rs, re, h⟩ := h
  rw [evT_one] at h
  exact ⟨g, S, ρ, rs, re, h⟩
theorem s_tnot {a : Expr} {ia : E} (ha : PT X a (tT C T ia)) : PT X (.UnaryOp .Not a pos) (tT C T (.not_ ia)) := by
  refine (pt_not ha).weak fun σ H Qv h => ?_
  obtain ⟨g, S, ρ, rs, re, h⟩ := h
  rw [evT_not] at h
  exact tT_then rs re h.bind fun c S1 g1 H1 h s1 rs1 re1 => h.ok g1 H1 s1 rs1
/-! ### and, or, not, if as values -/
theorem s_and (cx : Ctx X C T k N sc fb fl bl gl) {a b : Expr} {rest : List Expr} {ia ib : E} (ha : PE X a (tE C T ia)) (hb : PE X (.BoolOp .And (b :: rest) pos) (tE C T ib)) : PE X (.BoolOp .And (a :: b :: rest) pos) (tE C T (.and_ ia ib)) := by
  refine (pe_andT ha hb).weak fun σ H Qv h => ?_
  obtain ⟨g, S, ρ, rs, re, h⟩ := h
  unfold evE at h
  refine tE_then rs re h.bind fun p S1 g1 H1 v h s1 rs1 re1 rv => ?_
  cases e : truthP S1 p with
  | none => rw [e] at h; exact h.stuck
  | some c =>
    rw [e] at h
    refine ⟨c, truthP_rep cx.K rs1 rv e, ?_⟩
    cases c with
    | true =>
      rw [if_pos rfl]
      exact tE_then rs1 re1 h fun c S2 g2 H2 v2 h s2 rs2 re2 rv2 => h g2 H2 _ (s1.trans s2) rs2 rv2
    | false =>
      rw [if_neg Bool.false_ne_true]
      exact (h.ok.from s1).here rs1 rv
theorem s_or (cx : Ctx X C T k N sc fb fl bl gl) {a b : Expr} {rest : List Expr} {ia ib : E} (ha : PE X a (tE C T ia)) (hb : PE X (.BoolOp .Or (b :: rest) pos) (tE C T ib)) : PE X (.BoolOp .Or (a :: b :: rest) pos) (tE C T (.or_ ia ib)) := by
  refine (pe_orT ha hb).weak fun σ H Qv h => ?_
  obtain ⟨g, S, ρ, rs, re, h⟩ := h
  unfold evE at h
  refine tE_then rs re h.bind fun p S1 g1 H1 v h s1 rs1 re1 rv => ?_
  cases e : truthP S1 p with
  | none => rw [e] at h; exact h.stuck
  | some c =>
    rw [e] at h
    refine ⟨c, truthP_rep cx.K rs1 rv e, ?_⟩
    cases c with
    | true =>
      rw [if_pos rfl]
      exact (h.ok.from s1).here rs1 rv
    | false =>
      rw [if_neg Bool.false_ne_true]
      exact tE_then rs1 re1 h fun c S2 g2 H2 v2 h s2 rs2 re2 rv2 => h g2 H2 _ (s1.trans s2) rs2 rv2
theorem s_one {op : BoolOp} {a : Expr} {ia : E} (ha : PE X a (tE C T ia)) : PE X (.BoolOp op [a] pos) (tE C T (.one ia)) := by
  refine (pe_one ha).weak fun σ H Qv h => ?_
  obtain ⟨g, S, ρ, rs, re, h⟩ := h
  unfold evE at h
  exact ⟨g, S, ρ, rs, re, h⟩
theorem s_not (cx : Ctx X C T k N sc fb fl bl gl) {a : Expr} {ia : E} (ha : PE X a (tE C T ia)) : PE X (.UnaryOp .Not a pos) (tE C T (.not_ ia)) := by
  refine (pe_notT ha).weak fun σ H Qv h => ?_
  obtain ⟨g, S, ρ, rs, re, h⟩ := h
  unfold evE at h
  refine tE_then rs re h.bind fun p S1 g1 H1 v h s1 rs1 re1 rv => ?_
  cases e : truthP S1 p with
  | none => rw [e] at h; exact h.stuck
  | some c =>
    rw [e] at h
    exact ⟨c, truthP_rep cx.K rs1 rv e, (h.ok.from s1).here rs1 (.bl _)⟩
theorem evE_ite {t a b : E} {ρ : Nv} {S : Store} : evE T (.ite t a b) ρ S = (evT T t ρ S).bind fun c S1 => if c = true then evE T a ρ S1 else evE T b ρ S1 := by
  unfold evT
  rw [evE]
  cases evE T t ρ S with
  | ok x S1 =>
    simp only [Res.bind_ok]
    cases h : truthP S1 x with
    | none => rfl
    | some c => cases c <;> simp [ofO]
  | exc _ _ _ => rfl
  | stuck => rfl
theorem s_ite {t a b : Expr} {it ia ib : E} (ht : PT X t (tT C T it)) (ha : PE X a (tE C T ia)) (hb : PE X b (tE C T ib)) : PE X (.IfExp t a b pos) (tE C T (.ite it ia ib)) := by
  refine (pe_ifExp ht ha hb).weak fun σ H Qv h => ?_
  obtain ⟨g, S, ρ, rs, re, h⟩ := h
  rw [evE_ite] at h
  refine tT_then rs re h.bind fun c S1 g1 H1 h s1 rs1 re1 => ?_
  cases c with
  | true =>
    rw [if_pos rfl] at h ⊢
    exact tE_then rs1 re1 h fun c S2 g2 H2 v2 h s2 rs2 re2 rv2 => h g2 H2 _ (s1.trans s2) rs2 rv2
  | false =>
    rw [if_neg Bool.false_ne_true] at h ⊢
    exact tE_then rs1 re1 h fun c S2 g2 H2 v2 h s2 rs2 re2 rv2 => h g2 H2 _ (s1.trans s2) rs2 rv2
/-! ### subscripts -/
theorem s_idx (cx : Ctx X C T (k + 1) N sc fb fl bl gl) {a i : Expr} {ia ii : E} (ha : PE X a (tE C T ia)) (hi : PE X i (tE C T ii)) (hs : sup i = true) : PE X (.Subscript a i pos) (tE C T (.idx ia ii)) := by
  refine (pe_ix (idxR cx.K cx.w cx.room) ha hi (sup_ix hs)).weak fun σ H Qv h => ?_
  obtain ⟨g, S, ρ, rs, re, h⟩ := h
  unfold evE at h
  exact two_then rs re h
def tO (C : Cf) (T : Tb) (e : Eo) : TO := fun σ H Qv => ∃ g S ρ, RelS C g S H ∧ RelE C g H ρ σ ∧ (evO T e ρ S).wp fun o S' => ∀ g' H', Step g g' H H' → RelS C g' S' H' → Qv o H'
theorem s_onone : PO X none (tO C T .none) := ⟨fun pins s σ H Qv I h => po_none.run pins s σ H Qv I (by
  obtain ⟨g, S, ρ, rs, re, h⟩ := h
  unfold evO at h
  exact h.ok g H (.refl g H) rs)⟩
theorem s_osome {e : Expr} {ie : E} (he : PE X e (tE C T ie)) : PO X (some e) (tO C T (.some ie)) := ⟨fun pins s σ H Qv I h => (po_some he).run pins s σ H Qv I (by
  obtain ⟨g, S, ρ, rs, re, h⟩ := h
  unfold evO at h
  refine tE_then rs re h.bind fun p S1 g1 H1 v h s1 rs1 re1 rv => ?_
  split at h
  · exact ⟨_, repV_int rv, h.ok g1 H1 s1 rs1⟩
  · exact h.stuck)⟩
theorem tO_then {e : Eo} {σ : L2.St} {H : Hp} {g : G} {S : Store} {ρ : Nv} {Qb : Option Int → Hp → Prop} {R : Option Int → Store → Prop} (rs : RelS C g S H) (re : RelE C g H ρ σ) (h : (evO T e ρ S).wp R)
    (k : ∀ b S' g' H', R b S' → Step g g' H H' → RelS C g' S' H' → RelE C g' H' ρ σ → Qb b H') : tO C T e σ H Qb :=
  ⟨g, S, ρ, rs, re, h.mono fun b S' r g' H' s rs' => k b S' g' H' r s rs' (re.mono s.toMv)⟩
theorem s_slc (cx : Ctx X C T k N sc fb fl bl gl) {a : Expr} {lo hi : Option Expr} {ia : E} {il ih : Eo} {p2 : Pos} (ha : PE X a (tE C T ia)) (hl : PO X lo (tO C T il)) (hh : PO X hi (tO C T ih)) : PE X (.Subscript a (.Slice lo hi none p2) pos) (tE C T (.slc ia il ih)) := by
  refine (pe_slice (slcR cx.K) ha hl hh).weak fun σ H Qv h => ?_
  obtain ⟨g, S, ρ, rs, re, h⟩ := h
  unfold evE at h
  refine tE_then rs re h.bind fun p S1 g1 H1 v h s1 rs1 re1 rv => ?_
  refine tO_then rs1 re1 h.bind fun l S2 g2 H2 h s2 rs2 re2 => ?_
  refine tO_then rs2 re2 h.bind fun u S3 g3 H3 h s3 rs3 re3 => ?_
  exact ⟨g3, S3, p, rs3, (rv.mono s2.toMv).mono s3.toMv, h.mono fun _ _ q => q.from ((s1.trans s2).trans s3)⟩
theorem s_rev (cx : Ctx X C T k N sc fb fl bl gl) {a : Expr} {ia : E} {j : Nat} {p1 p2 p3 : Pos} (ha : PE X a (tE C T ia)) : PE X (.Subscript a (.Slice none none (some (.UnaryOp .USub (.Constant (.int 1) j p1) p2)) p3) pos) (tE C T (.rev ia)) := by
  refine (pe_revL ha).weak fun σ H Qv h => ?_
  obtain ⟨g, S, ρ, rs, re, h⟩ := h
  unfold evE at h
  refine tE_then rs re h.bind fun p S1 g1 H1 v h s1 rs1 re1 rv => ?_
  split at h
  · rename_i xs e
    obtain ⟨a, vs, rfl, rd, l⟩ := lstOf_rep rs1 rv e
    exact ⟨a, vs, rfl, .inl rd, fun p n => (h.ok.from s1).new rs1 n (rep_lst rs1 n l.reverse)⟩
  · exact h.stuck
/-! ### calls -/
theorem s_call (cx : Ctx X C T k N sc fb fl bl gl) {x : Str} {f n : Nat} {e : Expr} {es : List Expr} {ie : E} {ies : Es} {p1 : Pos} (hf : (x, f, n) ∈ fl) (hn : (Es.cons ie ies).len = n) (hg : gloB sc x = true) (hd : (x == ("__debug__" : Str)) = false) (he : PA X (e :: es) (tEs C T (.cons ie ies))) (hs : sup e = true)
    (hb : (backTo pos (starEach es X.env)).any (·.1) = false) : PE X (.Call (.Name x p1) (e :: es) [] pos) (tE C T (.call f (.cons ie ies))) := by
  obtain ⟨fa, fd, ps, hl, hm, hk, hbi, F⟩ := cx.fns x f n hf
  refine (pe_call F cx.room (gl_of cx hg) hm hk hbi .nil pass0 he hd (sup_star hs es _) hb).weak fun σ H Qv h => ?_
  obtain ⟨g, S, ρ, rs, re, h⟩ := h
  unfold evE at h
  have h2 := (h.bind).both (P := fun xs _ => xs.length = n) fun xs S' e => (evEs_length _ e).trans hn
  refine tEs_then rs re h2 fun ps S1 g1 H1 vs ⟨h, hlen⟩ s1 rs1 re1 l => ?_
  rw [List.append_nil]
  exact ⟨by rw [← l.length]; exact hlen, g1, S1, ps, rs1, l, h.mono fun _ _ q => q.from s1⟩
theorem s_call0 (cx : Ctx X C T k N sc fb fl bl gl) {x : Str} {f : Nat} {p1 : Pos} (hf : (x, f, 0) ∈ fl) (hg : gloB sc x = true) (hd : (x == ("__debug__" : Str)) = false) : PE X (.Call (.Name x p1) [] [] pos) (tE C T (.call f .nil)) := by
  obtain ⟨fa, fd, ps, hl, hm, hk, hbi, F⟩ := cx.fns x f 0 hf
  refine (pe_call0 F cx.room (gl_of cx hg) hm hk hbi .nil pass0 hd).weak fun σ H Qv h => ?_
  obtain ⟨g, S, ρ, rs, re, h⟩ := h
  unfold evE at h
  rw [evEs] at h
  simp only [Res.bind_ok] at h
  exact ⟨rfl, g, S, [], rs, .nil, h⟩
def biName : Bi → Str
  | .len => "len" | .tuple => "tuple" | .list => "list" | .listM => "list" | .sum => "sum" | .max => "max" | .min => "min" | .max2 => "max" | .min2 => "min" | .abs => "abs"
  | .int => "int" | .sorted => "sorted" | .any => "any" | .all => "all" | .dict => "dict" | .dictM => "dict" | .set => "set"
theorem biBoot (b : Bi) : bootBuiltins (biName b) = some (biV b) := by cases b <;> decide +kernel
theorem biN1 (b : Bi) : biName b ≠ ("__name__" : Str) := by cases b <;> decide +kernel
theorem biN2 (b : Bi) : (biName b == ("__debug__" : Str)) = false := by cases b <;> decide +kernel
theorem s_blt (cx : Ctx X C T (k + 1) N sc fb fl bl gl) (b : Bi) {e : Expr} {es : List Expr} {ie : E} {ies : Es} {p1 : Pos} (hm : biName b ∈ bl) (hg : gloB sc (biName b) = true) (he : PA X (e :: es) (tEs C T (.cons ie ies))) (hs : sup e = true)
    (hb : (backTo pos (starEach es X.env)).any (·.1) = false) : PE X (.Call (.Name (biName b) p1) (e :: es) [] pos) (tE C T (.blt b (.cons ie ies))) := by
  have go : PE X (.Call (.Name (biName b) p1) (e :: es) [] pos) (tCB (rL C (bltP b)) (tEs C T (.cons ie ies))) := by
    have hv := biBoot b
    have hR := bltR (k := k) cx.K cx.w cx.calm cx.room b
    have hty : (∃ id, biV b = .builtin id) ∨ ∃ t, biV b = .type t := by cases b <;> first | exact .inl ⟨_, rfl⟩ | exact .inr ⟨_, rfl⟩
    rcases hty with ⟨id, q⟩ | ⟨t, q⟩
    · rw [q] at hv hR
      exact pe_callB hR (gl_of cx hg) (cx.blt _ hm) hv he (biN1 b) (biN2 b) (sup_star hs es _) hb
    · rw [q] at hv hR
      exact pe_callTy hR (gl_of cx hg) (cx.blt _ hm) hv he (biN1 b) (biN2 b) (sup_star hs es _) hb
  refine go.weak fun σ H Qv h => ?_
  obtain ⟨g, S, ρ, rs, re, h⟩ := h
  unfold evE at h
  refine tEs_then rs re h.bind fun ps S1 g1 H1 vs h s1 rs1 re1 l => ?_
  exact ⟨g1, S1, ps, rs1, l, h.mono fun _ _ q => q.from s1⟩
theorem tyBoot (ty : Ty) : bootBuiltins (Str.ofString (tyN ty)) = some (.type (tyN ty)) := by cases ty <;> decide +kernel
theorem tyN1 (ty : Ty) : Str.ofString (tyN ty) ≠ ("__name__" : Str) := by cases ty <;> decide +kernel
theorem tyN2 (ty : Ty) : (Str.ofString (tyN ty) == ("__debug__" : Str)) = false := by cases ty <;> decide +kernel
theorem s_isi (cx : Ctx X C T k N sc fb fl bl gl) {e : Expr} {ie : E} {ty : Ty} {p1 p2 : Pos} (he : PE X e (tE C T ie)) (hs : sup e = true) (hm : ("isinstance" : Str) ∈ bl) (hg : gloB sc "isinstance" = true) (hm2 : Str.ofString (tyN ty) ∈ bl) (hg2 : gloB sc (Str.ofString (tyN ty)) = true) :
    PE X (.Call (.Name "isinstance" p1) [e, .Name (Str.ofString (tyN ty)) p2] [] pos) (tE C T (.isi ie ty)) := by
  have pt : PE X (.Name (Str.ofString (tyN ty)) p2) (tC (.ty (tyN ty))) := pe_bltn (gl_of cx hg2) (cx.blt _ hm2) (tyBoot ty) rfl (tyN1 ty) (tyN2 ty)
  have pa : PA X [e, .Name (Str.ofString (tyN ty)) p2] (tCons (tE C T ie) (tCons (tC (.ty (tyN ty))) tNil)) := pa_cons he (pa_cons pt pa_nil) (sup_star hs _ _)
  have hR : CallR X (.builtin "isinstance") (fun xs H Qv => ∃ g S p x b, xs = [x, .ty (tyN ty)] ∧ RelS C g S H ∧ RepV C g H p x ∧ isiP p ty S = some b ∧ Qv (.bl b) H) := by
    intro pins s σ H xs us Qv I r ⟨g, S, p, x, b, e1, rs, rp, e2, q⟩
    subst e1
    exact isiR cx.K I rs rp e2 r q
  refine (pe_callB hR (gl_of cx hg) (cx.blt _ hm) (by decide +kernel) pa (by decide) (by decide) (sup_star hs _ _) (by rfl)).weak fun σ H Qv h => ?_
  obtain ⟨g, S, ρ, rs, re, h⟩ := h
  unfold evE at h
  refine tE_then rs re h.bind fun p S1 g1 H1 v h s1 rs1 re1 rv => ?_
  split at h
  · rename_i b e
    exact ⟨g1, S1, p, v, b, rfl, rs1, rv, e, (h.ok.from s1).here rs1 (.bl b)⟩
  · exact h.stuck
/-! ### methods -/
theorem s_meth (cx : Ctx X C T (k + 1) N sc fb fl bl gl) (m : Me) {o e : Expr} {es : List Expr} {io ie : E} {ies : Es} {apos : Pos} (ho : PE X o (tE C T io)) (he : PA X (e :: es) (tEs C T (.cons ie ies))) (hs : sup e = true)
    (hbase : attributeBase o (meName m) X.env (eval o X.env) = eval o X.env)
    (hfew : ((backTo pos (starEach (e :: es) X.env)).all (fun x => !x.1) && (backToKw pos (keywordEach [] X.env)).all (fun x => x.1.isSome)
      && decide ((e :: es).length + ([] : List Keyword).length + (if ([] : List Keyword).isEmpty then 0 else 1) < 30)) = true)
    (hline : (apos.endLine == pos.line) = true) (hplain : (backTo pos (starEach es X.env)).any (·.1) = false) :
    PE X (.Call (.Attribute o (meName m) apos) (e :: es) [] pos) (tE C T (.meth m io (.cons ie ies))) := by
  refine ⟨fun pins s σ H Qv I h => ?_⟩
  obtain ⟨g, S, ρ, rs, re, h⟩ := h
  unfold evE at h
  have h1 : tE C T io σ H fun x H1 => ∃ g1 S1 p, RelS C g1 S1 H1 ∧ RelE C g1 H1 ρ σ ∧ RepV C g1 H1 p x ∧ methOk m p S1 = true ∧ Step g g1 H H1 ∧ ((evEs T (.cons ie ies) ρ S1).bind fun vs S2 => methP m p vs S2).wp (VQ C g H Qv) :=
    tE_then rs re h.bind fun p S1 g1 H1 v h s1 rs1 re1 rv => by
      obtain ⟨hk, h⟩ := ifS h
      exact ⟨g1, S1, p, rs1, re1, rv, hk, s1, h⟩
  refine wpAny_Call_method_late hbase hfew hline rfl (thn (ho.run pins s σ H _ I h1) fun v s1 ⟨x, H1, I1, r1, g1, S1, p, rs1, re1, rv, hk, st1, h⟩ => ?_)
  obtain ⟨q1, q2⟩ := me_is cx.K I1 rs1 rv r1 hk
  refine ⟨meT m, meId m, me_pa m, me_slot m, me_ty m, q1, q2, ?_⟩
  have h2 : tEs C T (.cons ie ies) σ H1 fun vs H2 => ∃ g2 S2 ps, RelS C g2 S2 H2 ∧ RepL C g2 H2 ps vs ∧ RepV C g2 H2 p x ∧ (methP m p ps S2).wp (VQ C g2 H2 Qv) :=
    tEs_then rs1 re1 h.bind fun ps S2 g2 H2 vs h s2 rs2 re2 l => ⟨g2, S2, ps, rs2, l, rv.mono s2.toMv, h.mono fun _ _ q => q.from (st1.trans s2)⟩
  have hA := he.run pos pins s1 σ H1 _ I1 h2
  rw [sup_star hs] at hA ⊢
  refine Calls.callWith_builtin (by show (false || (backTo pos (starEach es X.env)).any (·.1)) = false; rw [hplain] <;> rfl) (Calls.evalArgs_plain ?_)
  exact thn hA fun us s2 ⟨vs, H2, I2, r2, g2, S2, ps, rs2, l, rv2, h⟩ => methR cx.K cx.w cx.room m I2 r1 r2 rs2 rv2 l h
theorem s_meth0 (cx : Ctx X C T (k + 1) N sc fb fl bl gl) (m : Me) {o : Expr} {io : E} {apos : Pos} (ho : PE X o (tE C T io))
    (hbase : attributeBase o (meName m) X.env (eval o X.env) = eval o X.env) (hline : (apos.endLine == pos.line) = true) :
    PE X (.Call (.Attribute o (meName m) apos) [] [] pos) (tE C T (.meth m io .nil)) := by
  refine ⟨fun pins s σ H Qv I h => ?_⟩
  obtain ⟨g, S, ρ, rs, re, h⟩ := h
  unfold evE at h
  have h1 : tE C T io σ H fun x H1 => ∃ g1 S1 p, RelS C g1 S1 H1 ∧ RepV C g1 H1 p x ∧ methOk m p S1 = true ∧ (methP m p [] S1).wp (VQ C g1 H1 Qv) :=
    tE_then rs re h.bind fun p S1 g1 H1 v h s1 rs1 re1 rv => by
      obtain ⟨hk, h⟩ := ifS h
      rw [evEs] at h
      exact ⟨g1, S1, p, rs1, rv, hk, h.mono fun _ _ q => q.from s1⟩
  refine wpAny_Call_method0_late hbase hline (thn (ho.run pins s σ H _ I h1) fun v s1 ⟨x, H1, I1, r1, g1, S1, p, rs1, rv, hk, h⟩ => ?_)
  obtain ⟨q1, q2⟩ := me_is cx.K I1 rs1 rv r1 hk
  exact ⟨meT m, meId m, me_pa m, me_slot m, me_ty m, q1, q2, Calls.callWith_builtin rfl (PySem.evalArgs_none (methR cx.K cx.w cx.room m I1 r1 .nil rs1 rv .nil h))⟩
end
end Q
set_option Elab.async false
set_option linter.all false
set_option maxRecDepth 100000
set_option maxHeartbeats 1000000
/-! P2g: targets, walks, comprehensions. -/
namespace Q
open L2 PyProof.Rows PySem PySem.Spec
section
variable {X : Cx} {C : Cf} {T : Tb} {k : Nat} {N : List Str} {sc : Scope} {fb : Str → Bool} {fl : List (Str × Nat × Nat)} {bl : List Str} {gl : List (Str × Nat)} {pos : Pos}
/-! ### targets -/
/-- what comes out of a walk, for a target -/
def RepT (C : Cf) (g : G) (H : Hp) (tg : Tg) (x : PV) (v : V) : Prop :=
  RepV C g H x v ∨ ((∃ ts, tg = .tup ts) ∧ ∃ xs a vs, x = .tup xs ∧ v = .ref a ∧ SqT C.K H a vs ∧ RepL C g H xs vs)
mutual
def Tg.slots : Tg → List Nat
  | .name i => [i]
  | .tup ts => slotsAll ts
def slotsAll : List Tg → List Nat
  | [] => []
  | t :: ts => t.slots ++ slotsAll ts
end
/-- the names' slots but some are as they were -/
def Same (is : List Nat) (σ σ' : L2.St) : Prop := σ'.length = σ.length ∧ ∀ j, j ∉ is → σ'[j]? = σ[j]?
def tG (C : Cf) (tg : Tg) : TG := fun v σ H Qn => ∃ g S ρ x ρ', RelS C g S H ∧ RelE C g H ρ σ ∧ RepT C g H tg x v ∧ setT S tg x ρ = some ρ' ∧ ∀ σ', RelE C g H ρ' σ' → Same tg.slots σ σ' → Qn σ' H
def tGs (C : Cf) (ts : List Tg) : TGs := fun vs σ H Qn => ∃ g S ρ xs ρ', RelS C g S H ∧ RelE C g H ρ σ ∧ RepL C g H xs vs ∧ setTs S ts xs ρ = some ρ' ∧ ∀ σ', RelE C g H ρ' σ' → Same (slotsAll ts) σ σ' → Qn σ' H
theorem _root_.L2.PG.weak {X : Cx} {e : Expr} {t t' : TG} (h : PG X e t) (i : ∀ v σ H Qn, t' v σ H Qn → t v σ H Qn) : PG X e t' := ⟨fun pins s σ H v u Qn I r q => h.run pins s σ H v u Qn I r (i v σ H Qn q)⟩
theorem _root_.L2.PGs.weak {X : Cx} {e : List Expr} {t t' : TGs} (h : PGs X e t) (i : ∀ v σ H Qn, t' v σ H Qn → t v σ H Qn) : PGs X e t' := ⟨fun pins s σ H v u Qn I r q => h.run pins s σ H v u Qn I r (i v σ H Qn q)⟩
def locB (sc : Scope) (fb : Str → Bool) (x : Str) : Bool := match sc.names.lookup x with | some .local => true | some .cell => fb x | _ => false
theorem loc_of (cx : Ctx X C T k N sc fb fl bl gl) {x : Str} (h : locB sc fb x = true) : L2.Loc X.env.scope x ∧ (X.fn x = true ∨ X.env.scope.names.lookup x = some .local) := by
  rw [cx.sc]
  unfold locB at h
  unfold L2.Loc
  split at h
  · rename_i e; exact ⟨.inl e, .inr e⟩
  · rename_i e; exact ⟨.inr e, .inl (cx.fb x h)⟩
  · cases h
theorem g_name (cx : Ctx X C T k N sc fb fl bl gl) {x : Str} {i : Nat} (hi : N[i]? = some x) (hl : locB sc fb x = true) : PG X (.Name x pos) (tG C (.name i)) := by
  obtain ⟨h1, h2⟩ := loc_of cx hl
  refine (pg_name (i := i) cx.nd (by rw [cx.N]; exact hi) h1 h2).weak fun v σ H Qn h => ?_
  obtain ⟨g, S, ρ, x, ρ', rs, re, rt, e, q⟩ := h
  unfold setT at e
  cases e
  have rv : RepV C g H x v := by
    rcases rt with h | ⟨⟨ts, e⟩, _⟩
    · exact h
    · cases e
  exact q _ (re.set i rv) ⟨by simp, fun j hj => by
    have : i ≠ j := fun z => hj (by subst z; unfold Tg.slots; simp)
    rw [List.getElem?_set_ne this]⟩
theorem gs_nil : PGs X [] (tGs C []) := by
  refine pgs_nil.weak fun vs σ H Qn h => ?_
  obtain ⟨g, S, ρ, xs, ρ', rs, re, l, e, q⟩ := h
  cases l with
  | nil => unfold setTs at e; cases e; exact ⟨rfl, q σ re ⟨rfl, fun _ _ => rfl⟩⟩
  | cons r t => unfold setTs at e; cases e
theorem gs_cons {e : Expr} {es : List Expr} {t : Tg} {ts : List Tg} (h1 : PG X e (tG C t)) (h2 : PGs X es (tGs C ts)) (hs : (assignEach (e :: es) X.env).map (·.2) = assign e X.env :: (assignEach es X.env).map (·.2)) : PGs X (e :: es) (tGs C (t :: ts)) := by
  refine (pgs_cons h1 h2 hs).weak fun vs σ H Qn h => ?_
  obtain ⟨g, S, ρ, xs, ρ', rs, re, l, e, q⟩ := h
  cases l with
  | nil => unfold setTs at e; cases e
  | cons r l =>
    unfold setTs at e
    split at e
    · rename_i ρ1 e1
      refine ⟨_, _, rfl, g, S, ρ, _, ρ1, rs, re, .inl r, e1, fun σ1 re1 sm1 => ⟨g, S, ρ1, _, ρ', rs, re1, l, e, fun σ2 re2 sm2 => q σ2 re2 ⟨sm2.1.trans sm1.1, fun j hj => ?_⟩⟩⟩
      unfold slotsAll at hj
      rw [List.mem_append, not_or] at hj
      exact (sm2.2 j hj.2).trans (sm1.2 j hj.1)
    · cases e
theorem setTs_len {S : Store} : ∀ {ts : List Tg} {xs : List PV} {ρ ρ' : Nv}, setTs S ts xs ρ = some ρ' → xs.length = ts.length
  | [], [], _, _, _ => rfl
  | [], _ :: _, _, _, e => by unfold setTs at e; cases e
  | _ :: _, [], _, _, e => by unfold setTs at e; cases e
  | t :: ts, x :: xs, ρ, ρ', e => by
    unfold setTs at e
    split at e
    · simp [setTs_len e]
    · cases e
theorem g_tup (cx : Ctx X C T k N sc fb fl bl gl) {es : List Expr} {ts : List Tg} {j : Nat} (h : PGs X es (tGs C ts)) (hn : (assignEach es X.env).length = ts.length) (hst : (assignEach es X.env).findIdx? (·.1) = none) : PG X (.Tuple es j pos) (tG C (.tup ts)) := by
  refine ⟨fun pins s σ H v u Qn I r hw => ?_⟩
  obtain ⟨g, S, ρ, x, ρ', rs, re, rt, e, q⟩ := hw
  have fin : ∀ xs vs, RepL C g H xs vs → setTs S ts xs ρ = some ρ' → vs.length = ts.length ∧ tGs C ts vs σ H Qn := fun xs vs l e => by
    refine ⟨l.length.symm.trans (setTs_len e), g, S, ρ, xs, ρ', rs, re, l, e, ?_⟩
    unfold Tg.slots at q
    exact q
  unfold setT at e
  split at e
  · rename_i xs es'
    rcases rt with rv | ⟨_, xs', a, vs, rfl, rfl, hs, l⟩
    · obtain ⟨a, vs, rfl, hsq, l⟩ := seqOf_rep rs rv es'
      obtain ⟨h1, h2⟩ := fin xs vs l e
      rcases hsq with hsq | hsq
      · exact (pg_unl (n := ts.length) cx.calm h hn hst).run pins s σ H _ u Qn I r ⟨a, vs, rfl, cx.K ▸ hsq, h1, h2⟩
      · exact (pg_tup (n := ts.length) cx.calm h hn hst).run pins s σ H _ u Qn I r ⟨a, vs, rfl, cx.K ▸ hsq, h1, h2⟩
    · cases es'
      obtain ⟨h1, h2⟩ := fin xs vs l e
      exact (pg_tup (n := ts.length) cx.calm h hn hst).run pins s σ H _ u Qn I r ⟨a, vs, rfl, cx.K ▸ hs, h1, h2⟩
  · cases e
/-! ### walks -/
/-- J gives the items of m, while its source stays -/
def Wk (C : Cf) (tg : Tg) (g0 : G) (H0 : Hp) (m : Itm) (J : L2.It) : Prop :=
  ∀ g S H, Mv g0 g H0 H → RelS C g S H → m.still S → ∀ i, (∀ x, m.xs[i]? = some x → J.go i H ∧ ∀ v H', J.yld i H v H' → ∃ g', Step g g' H H' ∧ RelS C g' S H' ∧ RepT C g' H' tg x v) ∧ (m.xs.length ≤ i → J.stop i H)
def tI (C : Cf) (T : Tb) (tg : Tg) (it : Q.It) : TI := fun σ H R => ∃ g S ρ, RelS C g S H ∧ RelE C g H ρ σ ∧ (evI T it ρ S).wp fun m S' => ∀ g' H' J, Step g g' H H' → RelS C g' S' H' → Wk C tg g' H' m J → R J H'
theorem _root_.L2.PI.weak {X : Cx} {tg e : Expr} {t t' : TI} (h : PI X tg e t) (i : ∀ σ H R, t' σ H R → t σ H R) : PI X tg e t' := ⟨fun pins s σ H R I q => h.run pins s σ H R I (i σ H R q)⟩
theorem wk_list {tg : Tg} {g0 : G} {H0 : Hp} {a : Addr} {xs : List PV} {vs : List V} (h : ∀ g S H, Mv g0 g H0 H → RelS C g S H → (⟨none, xs⟩ : Itm).still S → SqL C.K H a vs ∧ RepL C g H xs vs) : Wk C tg g0 H0 ⟨none, xs⟩ (Itl C.K a) := by
  intro g S H s rs st i
  obtain ⟨hq, l⟩ := h g S H s rs st
  refine ⟨fun x e => ?_, fun hi => ⟨vs, hq, by rw [← l.length]; exact hi⟩⟩
  obtain ⟨v, ev, rv⟩ := l.get e
  refine ⟨⟨vs, v, hq, ev⟩, fun w H' ⟨e1, e2⟩ => ?_⟩
  subst e1
  have := e2 vs hq
  rw [ev] at this
  cases this
  exact ⟨g, .refl g _, rs, .inl rv⟩
theorem wk_src {tg : Tg} {g0 : G} {S0 : Store} {H0 : Hp} {a : Addr} {n : Nat} {xs : List PV} (ea : g0.bs[n]? = some a) : Wk C tg g0 H0 ⟨some (n, .lst xs), xs⟩ (Itl C.K a) := by
  intro g S H s rs st i
  obtain ⟨vs, e1, l⟩ := rs.at (st n _ rfl) (s.get ea)
  have hq : SqL C.K H a vs := .of e1
  refine ⟨fun x e => ?_, fun hi => ⟨vs, hq, by rw [← l.length]; exact hi⟩⟩
  obtain ⟨v, ev, rv⟩ := l.get e
  refine ⟨⟨vs, v, hq, ev⟩, fun w H' ⟨e1, e2⟩ => ?_⟩
  subst e1
  have := e2 vs hq
  rw [ev] at this
  cases this
  exact ⟨g, .refl g _, rs, .inl rv⟩
theorem wk_tup {tg : Tg} {g0 : G} {H0 : Hp} {a : Addr} {xs : List PV} (r : RepV C g0 H0 (.tup xs) (.ref a)) : Wk C tg g0 H0 ⟨none, xs⟩ (Itt C.K a) := by
  intro g S H s rs st i
  obtain ⟨b, vs, e, hq, l⟩ := (r.mono s).sqt
  cases e
  refine ⟨fun x e => ?_, fun hi => ⟨vs, hq, by rw [← l.length]; exact hi⟩⟩
  obtain ⟨v, ev, rv⟩ := l.get e
  refine ⟨⟨vs, v, hq, ev⟩, fun w H' ⟨e1, e2⟩ => ?_⟩
  subst e1
  have := e2 vs hq
  rw [ev] at this
  cases this
  exact ⟨g, .refl g _, rs, .inl rv⟩
theorem wk_range {tg : Tg} {g0 : G} {H0 : Hp} {lo hi : Int} : Wk C tg g0 H0 ⟨none, rangeL lo hi⟩ (Itr lo (hi - lo).toNat) := by
  intro g S H s rs st i
  have hl : (rangeL lo hi).length = (hi - lo).toNat := by unfold rangeL; simp
  refine ⟨fun x e => ?_, fun h => by show (hi - lo).toNat ≤ i; rw [← hl]; exact h⟩
  have hi' : i < (hi - lo).toNat := by rw [← hl]; exact (List.getElem?_eq_some_iff.mp e).1
  refine ⟨hi', fun v H' ⟨e1, e2⟩ => ?_⟩
  subst e1 e2
  have : x = .int (lo + i) := by
    unfold rangeL at e
    rw [List.getElem?_map, List.getElem?_range hi'] at e
    exact (Option.some.inj e).symm
  subst this
  exact ⟨g, .refl g _, rs, .inl (.int _)⟩
theorem i_seq (cx : Ctx X C T k N sc fb fl bl gl) {tg : Tg} {te e : Expr} {ie : E} (he : PE X e (tE C T ie)) : PI X te e (tI C T tg (.seq ie)) := by
  refine ⟨fun pins s σ H R I h => ?_⟩
  obtain ⟨g, S, ρ, rs, re, h⟩ := h
  unfold evI at h
  have h1 : tE C T ie σ H fun x H1 => ∃ g1 S1 p, RelS C g1 S1 H1 ∧ RepV C g1 H1 p x ∧ (walkP p S1).wp fun m S' => ∀ g' H' J, Step g1 g' H1 H' → RelS C g' S' H' → Wk C tg g' H' m J → R J H' :=
    tE_then rs re h.bind fun p S1 g1 H1 v h s1 rs1 re1 rv => ⟨g1, S1, p, rs1, rv, h.mono fun m S' q g' H' J s' => q g' H' J (s1.trans s')⟩
  refine thn (he.run pins s σ H _ I h1) fun v s1 ⟨x, H1, I1, r1, g1, S1, p, rs1, rp, h⟩ => ?_
  have lists : ∀ a (vs : List V), x = .ref a → SqL X.K H1 a vs → R (Itl X.K a) H1 → wpAny (model X.prog X.w) X.A (pyIter v) (PIE X pins σ te R) X.xe s1 := by
    intro a vs e hq q
    subst e
    cases r1
    obtain ⟨its, rv, p, hz⟩ := I1.list hq
    refine wpAny_pyIter_list p.isList ?_
    refine ⟨s1.heap.objs.size, [s1.heap.objs.size], _, _, H1, rfl, I1.kept (t' := s1.toks) fun b o e => Heap.get?_push_of_some _ e, turn_list a _, ⟨_, Heap.get?_push_size _ rfl, rfl, rfl⟩, fun b hb => ?_, q⟩
    have e : b = s1.heap.objs.size := by simpa using hb
    subst e
    exact I1.fpOk (Nat.le_refl _) (I1.hok.fresh (Nat.le_refl _))
  have tups : ∀ a (vs : List V), x = .ref a → SqT X.K H1 a vs → R (Itt X.K a) H1 → wpAny (model X.prog X.w) X.A (pyIter v) (PIE X pins σ te R) X.xe s1 := by
    intro a vs e hq q
    subst e
    cases r1
    obtain ⟨its, rv, p, hz⟩ := I1.tuple hq
    refine wpAny_pyIter_tuple (show s1.heap.IsTuple a its.toArray from p) ?_
    refine ⟨s1.heap.objs.size, [s1.heap.objs.size], _, _, H1, rfl, I1.kept (t' := s1.toks) fun b o e => Heap.get?_push_of_some _ e, turn_tuple a _, ⟨_, Heap.get?_push_size _ rfl, rfl, rfl⟩, fun b hb => ?_, q⟩
    have e : b = s1.heap.objs.size := by simpa using hb
    subst e
    exact I1.fpOk (Nat.le_refl _) (I1.hok.fresh (Nat.le_refl _))
  unfold walkP at h
  split at h
  · rename_i xs
    obtain ⟨a, vs, e, hs, l⟩ := rp.sqt
    subst e
    refine tups a vs rfl (cx.K ▸ hs) ?_
    rw [cx.K]
    exact h.ok g1 H1 _ (.refl _ _) rs1 (wk_tup rp)
  · rename_i xs
    cases rp with
    | @lst a xs vs rd n f l =>
      refine lists a vs rfl (.inl rd) ?_
      rw [cx.K]
      exact h.ok g1 H1 _ (.refl _ _) rs1 (wk_list fun g S H s rs st => by
        exact ⟨.inl ((s.rd rd n f).1), l.mono s⟩)
  · rename_i xs
    cases rp with
    | @scr a xs vs q l =>
      refine lists a vs rfl (cx.K ▸ q.elim (fun q => .inl q.1) KLst.sq) ?_
      rw [cx.K]
      exact h.ok g1 H1 _ (.refl _ _) rs1 (wk_list fun g S H s rs st => by
        exact ⟨q.elim (fun q => .inl (s.rd q.1 q.2.1 q.2.2).1) KLst.sq, l.mono s⟩)
  · split at h
    · rename_i n xs es
      cases rp with
      | @ref n a ea =>
        obtain ⟨vs, e1, l⟩ := rs1.at es ea
        refine lists a vs rfl (.of e1) ?_
        rw [cx.K]
        exact h.ok g1 H1 _ (.refl _ _) rs1 (wk_src (S0 := S1) ea)
    · exact h.stuck
  · exact h.stuck
theorem i_range1 (cx : Ctx X C T k N sc fb fl bl gl) {tg : Tg} {te a : Expr} {ia : E} {p1 : Pos} (hg : gloB sc "range" = true) (hm : ("range" : Str) ∈ bl) (ha : PA X [a] (tEs C T (.cons ia .nil))) (hs : sup a = true) : PI X te (.Call (.Name "range" p1) [a] [] pos) (tI C T tg (.range (.cons ia .nil))) := by
  refine (pi_range1 (gl_of cx hg) (cx.blt _ hm) ha (sup_star hs _ _)).weak fun σ H R h => ?_
  obtain ⟨g, S, ρ, rs, re, h⟩ := h
  unfold evI at h
  refine tEs_then rs re (h.bind.both (P := fun xs _ => xs.length = 1) fun xs S' e => evEs_length _ e) fun ps S1 g1 H1 vs ⟨h, hl⟩ s1 rs1 re1 l => ?_
  match ps, hl with
  | [p], _ =>
    obtain ⟨v, rfl, rv⟩ := l.one'
    unfold rangeP at h
    split at h
    · rename_i j e
      cases e
      obtain ⟨hj, h⟩ := ifS h
      simp only [rgOk, Bool.and_eq_true, decide_eq_true_eq] at hj
      refine ⟨j, by rw [repV_int rv], hj.1, hj.2, ?_⟩
      have q := h.ok g1 H1 (Itr 0 (j - 0).toNat) s1 rs1 wk_range
      rw [Int.sub_zero] at q
      exact q
    · rename_i e; cases e
    · exact h.stuck
theorem i_range2 (cx : Ctx X C T k N sc fb fl bl gl) {tg : Tg} {te a b : Expr} {ia ib : E} {p1 : Pos} (hg : gloB sc "range" = true) (hm : ("range" : Str) ∈ bl) (ha : PA X [a, b] (tEs C T (.cons ia (.cons ib .nil)))) (hs : sup a = true) (hs2 : sup b = true) : PI X te (.Call (.Name "range" p1) [a, b] [] pos) (tI C T tg (.range (.cons ia (.cons ib .nil)))) := by
  refine (pi_range2 (gl_of cx hg) (cx.blt _ hm) ha (by rw [sup_star hs, sup_star hs2]; rfl) (by rw [sup_star hs2]; rfl)).weak fun σ H R h => ?_
  obtain ⟨g, S, ρ, rs, re, h⟩ := h
  unfold evI at h
  refine tEs_then rs re (h.bind.both (P := fun xs _ => xs.length = 2) fun xs S' e => evEs_length _ e) fun ps S1 g1 H1 vs ⟨h, hl⟩ s1 rs1 re1 l => ?_
  match ps, hl with
  | [p, q], _ =>
    obtain ⟨v, w, rfl, rv, rw'⟩ := l.two'
    unfold rangeP at h
    split at h
    · rename_i e; cases e
    · rename_i i j e
      cases e
      obtain ⟨hj, h⟩ := ifS h
      simp only [rgOk, Bool.and_eq_true, decide_eq_true_eq] at hj
      exact ⟨i, j, by rw [repV_int rv, repV_int rw'], ⟨hj.1.1, hj.1.2, hj.2.1, hj.2.2⟩, h.ok g1 H1 _ s1 rs1 wk_range⟩
    · exact h.stuck
end
end Q
set_option Elab.async false
set_option linter.all false
set_option maxRecDepth 100000
set_option maxHeartbeats 1000000
/-! P2h: comprehensions, statements. -/
namespace Q
open L2 PyProof.Rows PySem PySem.Spec
section
variable {X : Cx} {C : Cf} {T : Tb} {k : Nat} {N : List Str} {sc : Scope} {fb : Str → Bool} {fl : List (Str × Nat × Nat)} {bl : List Str} {gl : List (Str × Nat)} {pos : Pos}
/-! ### the block's context -/
theorem Ctx.blk (cx : Ctx X C T k N sc fb fl bl gl) {scope : Scope} (s : Shared) (H : Hp) (Ca : Addr) (cl : List (Str × Addr)) (fp : List Addr) :
    Ctx (X.blk s H scope (compEnvC scope cl Ca X.env) fp) C T k N (relS scope sc) (fun x => scope.names.lookup x == some .cell) fl bl gl where
  K := cx.K
  w := cx.w
  N := cx.N
  nd := cx.nd
  sc := by show relabel scope X.env = _; rw [← cx.sc]; rfl
  calm := cx.calm
  xe := rfl
  room := cx.room
  fb := fun x h => h
  fns := cx.fns
  blt := cx.blt
  glo := cx.glo
theorem wipe_in {σ : L2.St} {i : Nat} : ∀ {vs : List Nat}, i ∈ vs → i < σ.length → (wipe σ vs)[i]? = some none
  | [], h, _ => nomatch h
  | v :: vs, h, hl => by
    unfold wipe
    by_cases e : v = i
    · subst e; rw [List.getElem?_set_self (by rw [wipe_length]; exact hl)]
    · rw [List.getElem?_set_ne e]
      rcases List.mem_cons.mp h with z | z
      · exact absurd z.symm e
      · exact wipe_in z hl
theorem wipe_same {σ σ2 : L2.St} {own is : List Nat} (hs : Same is (wipe σ own) σ2) (hi : ∀ j ∈ is, j ∈ own) : wipe σ2 own = wipe σ own := by
  have hlen : σ2.length = σ.length := hs.1.trans (wipe_length σ own)
  apply List.ext_getElem?
  intro j
  by_cases hj : j ∈ own
  · by_cases hl : j < σ.length
    · rw [wipe_in hj hl, wipe_in hj (by rw [hlen]; exact hl)]
    · rw [List.getElem?_eq_none (by rw [wipe_length]; omega), List.getElem?_eq_none (by rw [wipe_length]; omega)]
  · rw [wipe_out hj, wipe_out hj, hs.2 j (fun m => hj (hi j m)), wipe_out hj]
theorem RelE.wipe {g : G} {H : Hp} {ρ : Nv} {σ : L2.St} (r : RelE C g H ρ σ) : ∀ own : List Nat, RelE C g H (wipeP ρ own) (L2.wipe σ own)
  | [] => r
  | v :: vs => by
    have ih := RelE.wipe r vs
    unfold wipeP L2.wipe
    refine ⟨by simp [ih.len], fun i p e => ?_⟩
    by_cases hi : v = i
    · subst hi
      by_cases hv : v < (wipeP ρ vs).length
      · rw [List.getElem?_set_self hv] at e; cases e
      · rw [List.getElem?_eq_none (by simpa using hv)] at e; cases e
    · rw [List.getElem?_set_ne hi] at e ⊢
      exact ih.at_ i p e
/-! ### the new list of a comprehension -/
theorem Step.unhide {g g3 : G} {D : Addr} {H H3 : Hp} (s : Step (g.hide D) g3 H H3) : ∃ g3', g3 = g3'.hide D ∧ Step g g3' H H3 := by
  refine ⟨⟨g3.bs, g.F⟩, ?_, .mk' s.pre rfl s.keepA⟩
  obtain ⟨b, f⟩ := g3
  have := s.Fe
  simp only [G.hide] at this ⊢
  rw [this]
/-- a step that may change what stands at D -/
structure StepD (D : Addr) (g g' : G) (H H' : Hp) : Prop where
  pre : ∃ new, g'.bs = g.bs ++ new ∧ ∀ a ∈ new, H a = none ∧ a ∉ g.bs
  Fe : g'.F = g.F
  keep : ∀ a o, H a = some o → a ∉ g.bs → a ≠ D → H' a = some o
theorem Step.toD {D : Addr} {g g' : G} {H H' : Hp} (s : Step g g' H H') : StepD D g g' H H' := ⟨s.pre, s.Fe, fun a o e n _ => s.keepA a o e n⟩
theorem StepD.toStep {D : Addr} {g g' : G} {H H' : Hp} (s : StepD D g g' H H') (n : H D = none) : Step g g' H H' :=
  .mk' s.pre s.Fe fun a o e nb => s.keep a o e nb (ne_of_none e n)
theorem StepD.trans {D : Addr} {g1 g2 g3 : G} {H1 H2 H3 : Hp} (s : StepD D g1 g2 H1 H2) (nD : D ∉ g3.bs) (t : StepD D g2 g3 H2 H3) : StepD D g1 g3 H1 H3 := by
  obtain ⟨n1, e1, f1⟩ := s.pre
  obtain ⟨n2, e2, f2⟩ := t.pre
  have notin : ∀ a o, H1 a = some o → a ∉ g1.bs → a ∉ g2.bs := fun a o h n m => by
    rw [e1] at m
    rcases List.mem_append.mp m with m | m
    · exact n m
    · rw [(f1 a m).1] at h; cases h
  refine ⟨⟨n1 ++ n2, by rw [e2, e1, List.append_assoc], fun a m => ?_⟩, t.Fe.trans s.Fe, fun a o h n hD => t.keep a o (s.keep a o h n hD) (notin a o h n) hD⟩
  rcases List.mem_append.mp m with m | m
  · exact f1 a m
  · have hb : a ∉ g1.bs := fun z => (f2 a m).2 (by rw [e1]; exact List.mem_append_left _ z)
    refine ⟨?_, hb⟩
    cases h : H1 a with
    | none => rfl
    | some o =>
      have ne : a ≠ D := fun z => nD (by rw [← z, e2]; exact List.mem_append_right _ m)
      have := s.keep a o h hb ne
      rw [(f2 a m).1] at this; cases this
theorem StepD.upd {D : Addr} {g g' : G} {H H' : Hp} {o : HO} (s : StepD D g g' H H') : StepD D g g' H (L2.upd H' D o) :=
  ⟨s.pre, s.Fe, fun a u e n hD => by rw [upd_ne hD]; exact s.keep a u e n hD⟩
theorem RelS.unhide {g : G} {D : Addr} {S : Store} {H : Hp} (r : RelS C (g.hide D) S H) : RelS C g S H :=
  ⟨r.nd, r.len, fun a m => r.tF a (List.mem_cons_of_mem _ m), fun a m => r.sep a (List.mem_cons_of_mem _ m), fun i o e => by
    obtain ⟨a, h1, h2⟩ := r.obj i o e
    exact ⟨a, h1, h2.mono Mv.unhide rfl⟩⟩
theorem RelS.nD {g : G} {D : Addr} {S : Store} {H : Hp} (r : RelS C (g.hide D) S H) : D ∉ g.bs := r.sep D List.mem_cons_self
/-- the tests of a clause -/
def tC? (C : Cf) (T : Tb) (ifs : Eo) : TT := fun σ H Qb => ∃ g S ρ, RelS C g S H ∧ RelE C g H ρ σ ∧ (evC T ifs ρ S).wp fun b S' => ∀ g' H', Step g g' H H' → RelS C g' S' H' → Qb b H'
theorem c_none : PTs X [] (tC? C T .none) := ⟨fun pins s σ H Qb I h => pts_nil.run pins s σ H Qb I (by
  obtain ⟨g, S, ρ, rs, re, h⟩ := h
  unfold evC at h
  exact h.ok g H (.refl g H) rs)⟩
theorem c_some {e : Expr} {ie : E} (h : PT X e (tT C T ie)) : PTs X [e] (tC? C T (.some ie)) := ⟨fun pins s σ H Qb I hw => (pts_one h).run pins s σ H Qb I (by
  obtain ⟨g, S, ρ, rs, re, hw⟩ := hw
  unfold evC at hw
  exact ⟨g, S, ρ, rs, re, hw⟩)⟩
theorem mvHide {g1 g2 : G} {H1 H2 : Hp} {D : Addr} (s : StepD D g1 g2 H1 H2) (n : H1 D = none) : Mv g1 (g2.hide D) H1 H2 :=
  ⟨s.pre, fun a o e nb nf z => by
    rcases List.mem_cons.mp z with z | z
    · rw [z, n] at e; cases e
    · rw [s.Fe] at z; exact nf z, fun a o e nb nf => s.keep a o e nb (ne_of_none e n)⟩
theorem mvHide' {g1 g2 : G} {H1 H2 : Hp} {D : Addr} (s : StepD D g1 g2 H1 H2) : Mv (g1.hide D) (g2.hide D) H1 H2 :=
  ⟨s.pre, fun a o e nb nf z => by
    rcases List.mem_cons.mp z with z | z
    · exact nf (z ▸ List.mem_cons_self)
    · rw [s.Fe] at z; exact nf (List.mem_cons_of_mem _ z), fun a o e nb nf => s.keep a o e nb fun z => nf (z ▸ List.mem_cons_self)⟩
/-- the heap in the midst of a comprehension: the new list stands at D, hidden -/
def CI (C : Cf) (D : Addr) (g1 : G) (H1 : Hp) (H' : Hp) (R : List PV → Store → Prop) : Prop :=
  ∃ g2 S2 acc vs, StepD D g1 g2 H1 H' ∧ RelS C (g2.hide D) S2 H' ∧ H' D = some (.lst vs) ∧ RepL C (g2.hide D) H' acc vs ∧ acc.length ≤ big ∧ R acc S2
/-- one clause's loop, the list so far at D -/
theorem comp_loop {m : Itm} {turn : PV → List PV → Store → Res (List PV)} {D : Addr} {tg : Tg} {g0 g1 : G} {H0 H1 : Hp} {J : L2.It} (wk : Wk C tg g0 H0 m J) (mv0 : ∀ g2 H2, StepD D g1 g2 H1 H2 → Mv g0 (g2.hide D) H0 H2)
    {g : TG} {own : List Nat} {σ : L2.St} {Fin : List PV → Store → Prop} {QD : Hp → Prop} {body : L2.St → Hp → (Hp → Prop) → Prop}
    (hfin : ∀ H', CI C D g1 H1 H' Fin → QD H')
    (hturn : ∀ (Nx : Hp → Prop) x v g2 H' (acc : List PV) (vs : List V) S2 (R : List PV → Store → Prop), StepD D g1 g2 H1 H' → RelS C (g2.hide D) S2 H' → H' D = some (.lst vs) → RepL C (g2.hide D) H' acc vs → acc.length ≤ big → RepT C (g2.hide D) H' tg x v →
      (turn x acc S2).wp R → (∀ H'', CI C D g1 H1 H'' R → Nx H'') → g v (L2.wipe σ own) H' fun σ2 H2 => L2.wipe σ2 own = L2.wipe σ own ∧ body σ2 H2 Nx)
    (Hs : Hp) (h0 : CI C D g1 H1 Hs fun acc S2 => (compR m turn m.xs acc S2).wp Fin) :
    ∃ W : Nat → Nat → Hp → Prop, (∃ n, W 0 n Hs) ∧ ∀ i n H, W i n H → (J.stop i H ∧ QD H) ∨ (J.go i H ∧ ∃ Nx : Hp → Prop, (∀ H', Nx H' → ∃ n', n' < n ∧ W (i + 1) n' H') ∧ ∀ x H', J.yld i H x H' → g x (L2.wipe σ own) H' fun σ2 H2 => L2.wipe σ2 own = L2.wipe σ own ∧ body σ2 H2 Nx) := by
  refine ⟨fun i n H2 => n = m.xs.length - i ∧ i ≤ m.xs.length ∧ CI C D g1 H1 H2 fun acc S2 => (compR m turn (m.xs.drop i) acc S2).wp Fin, ⟨m.xs.length, by simp, Nat.zero_le _, ?_⟩, ?_⟩
  · rw [List.drop_zero]; exact h0
  · rintro i n H2 ⟨rfl, hi, g2, S2, acc, vs, s2, rs2, eD, l2, hacc, h⟩
    have hDF : D ∈ (g2.hide D).F := List.mem_cons_self
    by_cases hlt : i < m.xs.length
    · rw [List.drop_eq_getElem_cons hlt] at h
      unfold compR at h
      obtain ⟨hst, h⟩ := ifS h
      have wk2 := (wk (g2.hide D) S2 H2 (mv0 g2 H2 s2) rs2 hst i).1 m.xs[i] (List.getElem?_eq_getElem hlt)
      refine .inr ⟨wk2.1, fun H' => CI C D g1 H1 H' fun acc S2 => (compR m turn (m.xs.drop (i + 1)) acc S2).wp Fin, fun H' q => ⟨m.xs.length - (i + 1), by omega, rfl, hlt, q⟩, ?_⟩
      intro v H3 hy
      obtain ⟨g3h, s3h, rs3, rt⟩ := wk2.2 v H3 hy
      obtain ⟨g3, rfl, s3⟩ := s3h.unhide
      exact hturn _ m.xs[i] v g3 H3 acc vs S2 _ (s2.trans rs3.nD s3.toD) rs3 (s3h.keepA D _ eD (rs2.sep D hDF)) (l2.mono s3h.toMv) hacc rt h.bind fun H'' q => q
    · have e : i = m.xs.length := by omega
      subst e
      rw [List.drop_length] at h
      unfold compR at h
      obtain ⟨hst, h⟩ := ifS h
      exact .inl ⟨(wk (g2.hide D) S2 H2 (mv0 g2 H2 s2) rs2 hst _).2 (Nat.le_refl _), hfin H2 ⟨g2, S2, acc, vs, s2, rs2, eD, l2, hacc, h.ok⟩⟩
/-- the tests and the element -/
theorem comp_elt {D : Addr} {g1 g3 : G} {H1 H3 : Hp} {σ2 : L2.St} {ρ1 : Nv} {S2 : Store} {acc : List PV} {vs : List V} {io : Eo} {ie : E} {R : List PV → Store → Prop} {Nx : Hp → Prop} (s13 : StepD D g1 g3 H1 H3) (rs3 : RelS C (g3.hide D) S2 H3) (eD3 : H3 D = some (.lst vs)) (l3 : RepL C (g3.hide D) H3 acc vs) (hacc : acc.length ≤ big)
    (re2 : RelE C (g3.hide D) H3 ρ1 σ2)
    (h : ((evC T io ρ1 S2).bind fun b S3 => if b = true then (evE T ie ρ1 S3).bind fun v S4 => if acc.length < big then .ok (acc ++ [v]) S4 else .stuck else .ok acc S3).wp R) (hN : ∀ H'', CI C D g1 H1 H'' R → Nx H'') :
    tC? C T io σ2 H3 fun b H4 => if b = true then tE C T ie σ2 H4 fun y H5 => ∃ acc, H5 D = some (.lst acc) ∧ acc.length < sizeLine ∧ Nx (upd H5 D (.lst (acc ++ [y]))) else Nx H4 := by
  refine ⟨g3.hide D, S2, ρ1, rs3, re2, h.bind.mono fun b S3 h g4h H4 s4h rs4 => ?_⟩
  obtain ⟨g4, rfl, s4⟩ := s4h.unhide
  have eD4 : H4 D = some (.lst vs) := s4h.keepA D _ eD3 (rs3.sep D List.mem_cons_self)
  have s14 := s13.trans rs4.nD s4.toD
  have l4 := l3.mono s4h.toMv
  cases b with
  | false =>
    rw [if_neg Bool.false_ne_true] at h ⊢
    exact hN _ ⟨g4, S3, acc, vs, s14, rs4, eD4, l4, hacc, h.ok⟩
  | true =>
    rw [if_pos rfl] at h ⊢
    refine tE_then rs4 (re2.mono s4h.toMv) h.bind fun p S4 g5h H5 v5 h s5h rs5 re5 rv5 => ?_
    obtain ⟨g5, rfl, s5⟩ := s5h.unhide
    have eD5 : H5 D = some (.lst vs) := s5h.keepA D _ eD4 (rs4.sep D List.mem_cons_self)
    have l5 := l4.mono s5h.toMv
    obtain ⟨hl, h⟩ := ifS h
    refine ⟨vs, eD5, by rw [← l5.length, big_eq]; exact hl, hN _ ⟨g5, S4, acc ++ [p], vs ++ [v5], (s14.trans rs5.nD s5.toD).upd, rs5.wrH eD5 List.mem_cons_self, upd_same, (l5.append (.one rv5)).wrH eD5 List.mem_cons_self, ?_, h.ok⟩⟩
    rw [List.length_append]; simp; omega
theorem comp_end {D : Addr} {g g1 : G} {H H1 H' : Hp} {S1 : Store} {Qv : VK} (s1 : Step g g1 H H1) (rs1 : RelS C g1 S1 H1) (nD : H1 D = none) (q : CI C D g1 H1 H' fun acc S5 => VQ C g H Qv (.lst acc) S5) : Qv (.ref D) H' := by
  obtain ⟨g2, S2, acc, vs, s2, rs2, eD, l2, hacc, h⟩ := q
  have s2 := s2.toStep nD
  have nF : D ∉ g2.F := by rw [s2.Fe]; exact rs1.newF nD
  exact h g2 H' _ (s1.trans s2) rs2.unhide (.lst (.inl eD) (rs2.sep D List.mem_cons_self) nF (l2.mono Mv.unhide))
theorem comp_begin {D : Addr} {g1 : G} {H1 : Hp} {S1 : Store} {R : List PV → Store → Prop} (rs1 : RelS C g1 S1 H1) (nD : H1 D = none) (h : R [] S1) : CI C D g1 H1 (upd H1 D (.lst [])) R :=
  ⟨g1, S1, [], [], (Step.refl g1 H1).toD.upd, rs1.hide nD, upd_same, .nil, Nat.zero_le _, h⟩
/-- a list comprehension of one clause; a frozen list comes out -/
theorem s_comp {tg : Tg} {it : Q.It} {io : Eo} {ie : E} {own : List Nat} (hown : ∀ j ∈ tg.slots, j ∈ own) :
    ∀ σ H Qv, tE C T (.comp own ie tg it io) σ H Qv → tLc (tI C T tg it) (tG C tg) (tC? C T io) (tE C T ie) own σ H Qv := by
  intro σ H Qv h
  obtain ⟨g, S, ρ, rs, re, h⟩ := h
  unfold evE at h
  refine ⟨g, S, ρ, rs, re, h.bind.mono fun m S1 h g1 H1 J s1 rs1 wk D nD => ?_⟩
  have rw1 := (re.mono s1.toMv).wipe own
  refine comp_loop (body := fun σ2 H2 Nx => tC? C T io σ2 H2 fun b H3 => if b = true then tE C T ie σ2 H3 fun y H4 => ∃ acc, H4 D = some (.lst acc) ∧ acc.length < sizeLine ∧ Nx (upd H4 D (.lst (acc ++ [y]))) else Nx H3) wk (fun g2 H2 s2 => mvHide s2 nD) (fun H' q => comp_end s1 rs1 nD q) ?_ (upd H1 D (.lst [])) (comp_begin rs1 nD (h.bind.mono fun acc S5 q => q.ok))
  intro Nx x v g3 H3 acc vs S2 R s13 rs3 eD3 l3 hacc rt h hN
  split at h
  · rename_i ρ1 eρ
    exact ⟨g3.hide D, S2, _, x, ρ1, rs3, rw1.mono (mvHide s13 nD), rt, eρ, fun σ2 re2 sm => ⟨wipe_same sm hown, comp_elt s13 rs3 eD3 l3 hacc re2 h hN⟩⟩
  · exact h.stuck
/-- two clauses -/
theorem s_comp2 {tg tg1 : Tg} {it it1 : Q.It} {io io1 : Eo} {ie : E} {own own1 : List Nat} (hown : ∀ j ∈ tg.slots, j ∈ own) (hown1 : ∀ j ∈ tg1.slots, j ∈ own1) :
    ∀ σ H Qv, tE C T (.comp2 own ie tg it io own1 tg1 it1 io1) σ H Qv → tLc2 (tI C T tg it) (tG C tg) (tC? C T io) (tI C T tg1 it1) (tG C tg1) (tC? C T io1) (tE C T ie) own own1 σ H Qv := by
  intro σ H Qv h
  obtain ⟨g, S, ρ, rs, re, h⟩ := h
  unfold evE at h
  refine ⟨g, S, ρ, rs, re, h.bind.mono fun m S1 h g1 H1 J s1 rs1 wk D nD => ?_⟩
  have rw1 := (re.mono s1.toMv).wipe own
  refine comp_loop (body := fun σ2 H2 Nx => tC? C T io σ2 H2 fun b H3 => if b = true then tI C T tg1 it1 σ2 H3 fun J1 H4 => ∃ W1 : Nat → Nat → Hp → Prop, (∃ m, W1 0 m H4) ∧ ∀ j k H, W1 j k H →
      (J1.stop j H ∧ Nx H) ∨ (J1.go j H ∧ ∃ Nx1 : Hp → Prop, (∀ H', Nx1 H' → ∃ k', k' < k ∧ W1 (j + 1) k' H') ∧ ∀ x H', J1.yld j H x H' → tG C tg1 x (L2.wipe σ2 own1) H' fun σ3 H5 => L2.wipe σ3 own1 = L2.wipe σ2 own1 ∧ tC? C T io1 σ3 H5 fun b H6 =>
        if b = true then tE C T ie σ3 H6 fun y H7 => ∃ acc, H7 D = some (.lst acc) ∧ acc.length < sizeLine ∧ Nx1 (upd H7 D (.lst (acc ++ [y]))) else Nx1 H6) else Nx H3) wk (fun g2 H2 s2 => mvHide s2 nD) (fun H' q => comp_end s1 rs1 nD q) ?_ (upd H1 D (.lst [])) (comp_begin rs1 nD (h.bind.mono fun acc S5 q => q.ok))
  intro Nx x v g3 H3 acc vs S2 R s13 rs3 eD3 l3 hacc rt h hN
  split at h
  · rename_i ρ1 eρ
    refine ⟨g3.hide D, S2, _, x, ρ1, rs3, rw1.mono (mvHide s13 nD), rt, eρ, fun σ2 re2 sm => ⟨wipe_same sm hown, ?_⟩⟩
    refine ⟨g3.hide D, S2, ρ1, rs3, re2, h.bind.mono fun b S3 h g4h H4 s4h rs4 => ?_⟩
    obtain ⟨g4, rfl, s4⟩ := s4h.unhide
    have eD4 : H4 D = some (.lst vs) := s4h.keepA D _ eD3 (rs3.sep D List.mem_cons_self)
    have s14 := s13.trans rs4.nD s4.toD
    have l4 := l3.mono s4h.toMv
    have re4 := re2.mono s4h.toMv
    cases b with
    | false =>
      rw [if_neg Bool.false_ne_true] at h ⊢
      exact hN _ ⟨g4, S3, acc, vs, s14, rs4, eD4, l4, hacc, h.ok⟩
    | true =>
      rw [if_pos rfl] at h ⊢
      refine ⟨g4.hide D, S3, ρ1, rs4, re4, h.bind.mono fun m1 S4 h g5h H5 J1 s5h rs5 wk1 => ?_⟩
      obtain ⟨g5, rfl, s5⟩ := s5h.unhide
      have eD5 : H5 D = some (.lst vs) := s5h.keepA D _ eD4 (rs4.sep D List.mem_cons_self)
      have s15 := s14.trans rs5.nD s5.toD
      have l5 := l4.mono s5h.toMv
      have rw5 := (re4.mono s5h.toMv).wipe own1
      refine comp_loop (tg := tg1) (g0 := g5.hide D) (H0 := H5) (g1 := g5) (H1 := H5) (body := fun σ2 H2 Nx => tC? C T io1 σ2 H2 fun b H3 => if b = true then tE C T ie σ2 H3 fun y H4 => ∃ acc, H4 D = some (.lst acc) ∧ acc.length < sizeLine ∧ Nx (upd H4 D (.lst (acc ++ [y]))) else Nx H3) wk1 (fun g6 H6 s6 => mvHide' s6)
        (fun H' ⟨g6, S6, acc6, vs6, s6, rs6, eD6, l6, hacc6, q⟩ => hN H' ⟨g6, S6, acc6, vs6, s15.trans rs6.nD s6, rs6, eD6, l6, hacc6, q⟩) ?_ H5 ⟨g5, S4, acc, vs, (Step.refl g5 H5).toD, rs5, eD5, l5, hacc, h⟩
      intro Nx x v g6 H6 acc6 vs6 S6 R6 s16 rs6 eD6 l6 hacc6 rt6 h6 hN6
      split at h6
      · rename_i ρ2 eρ2
        exact ⟨g6.hide D, S6, _, x, ρ2, rs6, rw5.mono (mvHide' s16), rt6, eρ2, fun σ3 re3 sm3 => ⟨wipe_same sm3 hown1, comp_elt s16 rs6 eD6 l6 hacc6 re3 h6 hN6⟩⟩
      · exact h6.stuck
  · exact h.stuck
end
end Q
set_option Elab.async false
set_option linter.all false
set_option maxRecDepth 100000
set_option maxHeartbeats 1000000
/-! P2i: comprehensions that stay mutable; statements. -/
namespace Q
open L2 PyProof.Rows PySem PySem.Spec
section
variable {X : Cx} {C : Cf} {T : Tb} {k : Nat} {N : List Str} {sc : Scope} {fb : Str → Bool} {fl : List (Str × Nat × Nat)} {bl : List Str} {gl : List (Str × Nat)} {pos : Pos}
theorem s_compM {tg : Tg} {it : Q.It} {io : Eo} {ie : E} {own : List Nat} (hown : ∀ j ∈ tg.slots, j ∈ own) :
    ∀ σ H Qv, tE C T (.compM own ie tg it io) σ H Qv → tLc (tI C T tg it) (tG C tg) (tC? C T io) (tE C T ie) own σ H Qv := by
  intro σ H Qv h
  obtain ⟨g, S, ρ, rs, re, h⟩ := h
  unfold evE at h
  refine ⟨g, S, ρ, rs, re, h.bind.mono fun m S1 h g1 H1 J s1 rs1 wk D nD => ?_⟩
  have rw1 := (re.mono s1.toMv).wipe own
  have h := h.bind
  have qD : RepO C (g1.add D) (upd H1 D (.lst [])) (.lst []) D := ⟨[], upd_same, .nil⟩
  let n := S1.length
  let turn : PV → Store → Res (Option PV) := fun x S2 => match setT S2 tg x (wipeP ρ own) with
        | some ρ1 => (evC T io ρ1 S2).bind fun b S3 => if b = true then (evE T ie ρ1 S3).bind fun v S4 => .ok (some v) S4 else .ok none S3
        | none => .stuck
  let CI : Nat → Hp → Prop := fun i H2 => ∃ g2 S2, Step g1 g2 H1 H2 ∧ g2.bs[n]? = some D ∧ RelS C g2 S2 H2 ∧ (compMR m turn n (m.xs.drop i) S2).wp fun _ S5 => VQ C g H Qv (.ref n) S5
  refine ⟨fun i w H2 => w = m.xs.length - i ∧ i ≤ m.xs.length ∧ CI i H2, ⟨m.xs.length, by simp, Nat.zero_le _, g1.add D, S1 ++ [.lst []], rs1.stepA nD, rs1.addGet D, rs1.add nD qD, ?_⟩, ?_⟩
  · rw [List.drop_zero]
    exact h.mono fun _ S5 q => q.ok
  · rintro i w H2 ⟨rfl, hi, g2, S2, s2, eb, rs2, h⟩
    by_cases hlt : i < m.xs.length
    · rw [List.drop_eq_getElem_cons hlt] at h
      unfold compMR at h
      obtain ⟨hst, h⟩ := ifS h
      have wk2 := (wk g2 S2 H2 s2.toMv rs2 hst i).1 m.xs[i] (List.getElem?_eq_getElem hlt)
      refine .inr ⟨wk2.1, CI (i + 1), fun H' q => ⟨m.xs.length - (i + 1), by omega, rfl, hlt, q⟩, ?_⟩
      intro v H3 hy
      obtain ⟨g3, s3, rs3, rt⟩ := wk2.2 v H3 hy
      have s13 := s2.trans s3
      have eb3 := s3.toMv.get eb
      show tG C tg v _ _ _
      have h := h.bind
      simp only [turn] at h
      split at h
      · rename_i ρ1 eρ
        refine ⟨g3, S2, _, m.xs[i], ρ1, rs3, rw1.mono s13.toMv, rt, eρ, fun σ2 re2 sm => ⟨wipe_same sm hown, ?_⟩⟩
        refine ⟨g3, S2, ρ1, rs3, re2, h.bind.mono fun b S3 h g4 H4 s4 rs4 => ?_⟩
        have s14 := s13.trans s4
        have eb4 := s4.toMv.get eb3
        cases b with
        | false =>
          dsimp only
          rw [if_neg Bool.false_ne_true] at h ⊢
          have h := h.ok
          exact ⟨g4, S3, s14, eb4, rs4, h⟩
        | true =>
          dsimp only
          rw [if_pos rfl] at h ⊢
          refine tE_then rs4 (re2.mono s4.toMv) h.bind fun p S4 g5 H5 v5 h s5 rs5 re5 rv5 => ?_
          have h := h.ok
          have eb5 := s5.toMv.get eb4
          simp only at h
          split at h
          · rename_i acc eacc
            obtain ⟨hl, h⟩ := ifS h
            obtain ⟨vs, e1, l1⟩ := rs5.at eacc eb5
            refine ⟨vs, e1, by rw [← l1.length, big_eq]; exact hl, g5, S4.set n (.lst (acc ++ [p])), ?_, eb5, rs5.wr eb5 ⟨_, upd_same, (l1.append (.one rv5)).mono (Step.wr eb5).toMv⟩, h⟩
            exact (s14.trans s5).trans (Step.wr eb5)
          · exact h.stuck
      · exact h.stuck
    · have e : i = m.xs.length := by omega
      subst e
      rw [List.drop_length] at h
      unfold compMR at h
      obtain ⟨hst, h⟩ := ifS h
      exact .inl ⟨(wk g2 S2 H2 s2.toMv rs2 hst _).2 (Nat.le_refl _), h.ok g2 H2 _ (s1.trans s2) rs2 (.ref eb)⟩

/-! ### statements -/
/-- what is wanted behind a statement -/
def SQ (C : Cf) (g : G) (H : Hp) (D : Ends) : Fl → Store → Prop := fun f S' => ∀ g' H', Step g g' H H' → RelS C g' S' H' → match f with
  | .nx ρ' => ∀ σ', RelE C g' H' ρ' σ' → D.nx σ' H'
  | .rt p => ∀ v, RepV C g' H' p v → D.rt v H'
  | .bk ρ' => ∀ σ', RelE C g' H' ρ' σ' → D.bk σ' H'
  | .ct ρ' => ∀ σ', RelE C g' H' ρ' σ' → D.ct σ' H'
def tS (C : Cf) (T : Tb) (st : Sm) : TS := fun D σ H => ∃ g S ρ, RelS C g S H ∧ RelE C g H ρ σ ∧ (evS T st ρ S).wp (SQ C g H D)
def tSs (C : Cf) (T : Tb) (st : Sms) : TS := fun D σ H => ∃ g S ρ, RelS C g S H ∧ RelE C g H ρ σ ∧ (evSs T st ρ S).wp (SQ C g H D)
theorem SQ.from {g g1 : G} {H H1 : Hp} {D : Ends} {f : Fl} {S' : Store} (h : SQ C g H D f S') (s : Step g g1 H H1) : SQ C g1 H1 D f S' := fun g' H' s' rs => h g' H' (s.trans s') rs
theorem _root_.L2.PS.weak {X : Cx} {st : Stmt} {t t' : TS} (h : PS X st t) (i : ∀ D σ H, t' D σ H → t D σ H) : PS X st t' := ⟨fun pins s σ H D I q => h.run pins s σ H D I (i D σ H q)⟩
theorem _root_.L2.PSs.weak {X : Cx} {st : List Stmt} {t t' : TS} (h : PSs X st t) (i : ∀ D σ H, t' D σ H → t D σ H) : PSs X st t' := ⟨fun pins s σ H D I q => h.run pins s σ H D I (i D σ H q)⟩
theorem st_nil : PSs X [] (tSs C T .nil) := by
  refine pss_nil.weak fun D σ H h => ?_
  obtain ⟨g, S, ρ, rs, re, h⟩ := h
  unfold evSs at h
  exact h.ok g H (.refl g H) rs σ re
theorem st_cons {s : Stmt} {ss : List Stmt} {is : Sm} {iss : Sms} (h1 : PS X s (tS C T is)) (h2 : PSs X ss (tSs C T iss)) : PSs X (s :: ss) (tSs C T (.cons is iss)) := by
  refine (pss_cons h1 h2).weak fun D σ H h => ?_
  obtain ⟨g, S, ρ, rs, re, h⟩ := h
  unfold evSs at h
  refine ⟨g, S, ρ, rs, re, h.bind.mono fun f S1 h g1 H1 s1 rs1 => ?_⟩
  cases f with
  | nx ρ1 => exact fun σ1 re1 => ⟨g1, S1, ρ1, rs1, re1, h.mono fun f S' q => q.from s1⟩
  | rt p => exact h.ok g1 H1 s1 rs1
  | bk ρ1 => exact h.ok g1 H1 s1 rs1
  | ct ρ1 => exact h.ok g1 H1 s1 rs1
theorem st_expr {e : Expr} {ie : E} (he : PE X e (tE C T ie)) (hs : swapsWith e none pos.line X.env = pure false) : PS X (.Expr e pos) (tS C T (.expr ie)) := by
  refine (ps_expr he hs).weak fun D σ H h => ?_
  obtain ⟨g, S, ρ, rs, re, h⟩ := h
  unfold evS at h
  exact tE_then rs re h.bind fun p S1 g1 H1 v h s1 rs1 re1 rv => h.ok g1 H1 s1 rs1 σ re1
theorem st_ret {e : Expr} {ie : E} (he : PE X e (tE C T ie)) : PS X (.Return (some e) pos) (tS C T (.ret ie)) := by
  refine (ps_ret he).weak fun D σ H h => ?_
  obtain ⟨g, S, ρ, rs, re, h⟩ := h
  unfold evS at h
  exact tE_then rs re h.bind fun p S1 g1 H1 v h s1 rs1 re1 rv => h.ok g1 H1 s1 rs1 v rv
theorem st_retN : PS X (.Return none pos) (tS C T .retN) := by
  refine ps_retN.weak fun D σ H h => ?_
  obtain ⟨g, S, ρ, rs, re, h⟩ := h
  unfold evS at h
  exact h.ok g H (.refl g H) rs .non .non
theorem st_pass : PS X (.Pass pos) (tS C T .pass_) := by
  refine ps_pass.weak fun D σ H h => ?_
  obtain ⟨g, S, ρ, rs, re, h⟩ := h
  unfold evS at h
  exact h.ok g H (.refl g H) rs σ re
theorem st_brk : PS X (.Break pos) (tS C T .brk) := by
  refine ps_break.weak fun D σ H h => ?_
  obtain ⟨g, S, ρ, rs, re, h⟩ := h
  unfold evS at h
  exact h.ok g H (.refl g H) rs σ re
theorem st_cnt : PS X (.Continue pos) (tS C T .cnt) := by
  refine ps_continue.weak fun D σ H h => ?_
  obtain ⟨g, S, ρ, rs, re, h⟩ := h
  unfold evS at h
  exact h.ok g H (.refl g H) rs σ re
theorem st_if {c : Expr} {a b : List Stmt} {ic : E} {ia ib : Sms} (hc : PT X c (tT C T ic)) (ha : PSs X a (tSs C T ia)) (hb : PSs X b (tSs C T ib)) : PS X (.If c a b pos) (tS C T (.ifS ic ia ib)) := by
  refine (ps_if hc ha hb).weak fun D σ H h => ?_
  obtain ⟨g, S, ρ, rs, re, h⟩ := h
  unfold evS at h
  refine tT_then rs re h.bind fun c S1 g1 H1 h s1 rs1 re1 => ?_
  cases c with
  | true =>
    rw [if_pos rfl] at h ⊢
    exact ⟨g1, S1, ρ, rs1, re1, h.mono fun f S' q => q.from s1⟩
  | false =>
    rw [if_neg Bool.false_ne_true] at h ⊢
    exact ⟨g1, S1, ρ, rs1, re1, h.mono fun f S' q => q.from s1⟩
theorem st_asg {te e : Expr} {tg : Tg} {ie : E} (he : PE X e (tE C T ie)) (hg : PG X te (tG C tg)) (hs : swapsWith e (some te) pos.line X.env = pure false) (hw : swappedStores [te] e X.env = pure none) (h1 : (assignEach [te] X.env).map (·.2) = [assign te X.env]) :
    PS X (.Assign [te] e pos) (tS C T (.asg tg ie)) := by
  refine (ps_asg he hg hs hw h1).weak fun D σ H h => ?_
  obtain ⟨g, S, ρ, rs, re, h⟩ := h
  unfold evS at h
  refine tE_then rs re h.bind fun p S1 g1 H1 v h s1 rs1 re1 rv => ?_
  split at h
  · rename_i ρ1 eρ
    exact ⟨g1, S1, ρ, p, ρ1, rs1, re1, .inl rv, eρ, fun σ1 re1' _ => h.ok g1 H1 s1 rs1 σ1 re1'⟩
  · exact h.stuck
/-- name = [..] that the compiler stores within the block -/
theorem st_asgC {t : TE} {st : Stmt} {i : Nat} {ie : E} (h : PS X st (tAsg t (gName i))) (ht : ∀ σ H Qv, tE C T ie σ H Qv → t σ H Qv) : PS X st (tS C T (.asg (.name i) ie)) := by
  refine h.weak fun D σ H h => ?_
  obtain ⟨g, S, ρ, rs, re, h⟩ := h
  unfold evS at h
  refine ht _ _ _ (tE_then rs re h.bind fun p S1 g1 H1 v h s1 rs1 re1 rv => ?_)
  unfold setT at h
  exact h.ok g1 H1 s1 rs1 _ (re1.set i rv)
theorem setN2 {i j : Nat} {x y : PV} {ρ : Nv} : setNs [i, j] [x, y] ρ = some ((ρ.set i (some x)).set j (some y)) := rfl
theorem setNs_len : ∀ {is : List Nat} {xs : List PV} {ρ ρ' : Nv}, setNs is xs ρ = some ρ' → xs.length = is.length
  | [], [], _, _, _ => rfl
  | [], _ :: _, _, _, e => by unfold setNs at e; cases e
  | _ :: _, [], _, _, e => by unfold setNs at e; cases e
  | i :: is, x :: xs, ρ, ρ', e => by unfold setNs at e; simp [setNs_len e]
theorem st_par2 (cx : Ctx X C T k N sc fb fl bl gl) {x y : Str} {i j : Nat} {a b : Expr} {ies : Es} {px py pt : Pos} {kt k2 : Nat} {pt2 : Pos} (hi : N[i]? = some x) (hj : N[j]? = some y) (hij : i ≠ j) (hx : sc.names.lookup x = some .local) (hy : sc.names.lookup y = some .local)
    (ha : PA X [a, b] (tEs C T ies)) (hw : swappedStores [.Tuple [.Name x px, .Name y py] kt pt] (.Tuple [a, b] k2 pt2) X.env = pure (some [x, y])) : PS X (.Assign [.Tuple [.Name x px, .Name y py] kt pt] (.Tuple [a, b] k2 pt2) pos) (tS C T (.par [i, j] ies)) := by
  refine (ps_par cx.calm cx.nd (by rw [cx.N]; exact hi) (by rw [cx.N]; exact hj) hij (by rw [cx.sc]; exact hx) (by rw [cx.sc]; exact hy) ha hw).weak fun D σ H h => ?_
  obtain ⟨g, S, ρ, rs, re, h⟩ := h
  unfold evS at h
  refine tEs_then rs re h.bind fun ps S1 g1 H1 vs h s1 rs1 re1 l => ?_
  split at h
  · rename_i ρ1 eρ
    have hl := setNs_len eρ
    match ps, hl with
    | [p, q], _ =>
      obtain ⟨v, w, rfl, rv, rw'⟩ := l.two'
      rw [setN2] at eρ
      cases eρ
      exact ⟨v, w, rfl, h.ok g1 H1 s1 rs1 _ ((re1.set i rv).set j rw')⟩
  · exact h.stuck
theorem st_par3 (cx : Ctx X C T k N sc fb fl bl gl) {x y z : Str} {i j l : Nat} {a b c : Expr} {ies : Es} {px py pz pt : Pos} {kt k2 : Nat} {pt2 : Pos} (hi : N[i]? = some x) (hj : N[j]? = some y) (hl : N[l]? = some z) (hij : i ≠ j) (hil : i ≠ l) (hjl : j ≠ l)
    (hx : sc.names.lookup x = some .local) (hy : sc.names.lookup y = some .local) (hz : sc.names.lookup z = some .local)
    (ha : PA X [a, b, c] (tEs C T ies)) (hw : swappedStores [.Tuple [.Name x px, .Name y py, .Name z pz] kt pt] (.Tuple [a, b, c] k2 pt2) X.env = pure (some [x, y, z])) : PS X (.Assign [.Tuple [.Name x px, .Name y py, .Name z pz] kt pt] (.Tuple [a, b, c] k2 pt2) pos) (tS C T (.par [i, j, l] ies)) := by
  refine (ps_par3 cx.calm cx.nd (by rw [cx.N]; exact hi) (by rw [cx.N]; exact hj) (by rw [cx.N]; exact hl) hij hil hjl (by rw [cx.sc]; exact hx) (by rw [cx.sc]; exact hy) (by rw [cx.sc]; exact hz) ha hw).weak fun D σ H h => ?_
  obtain ⟨g, S, ρ, rs, re, h⟩ := h
  unfold evS at h
  refine tEs_then rs re h.bind fun ps S1 g1 H1 vs h s1 rs1 re1 lr => ?_
  split at h
  · rename_i ρ1 eρ
    have hlen := setNs_len eρ
    match ps, hlen with
    | [p, q, r], _ =>
      cases lr with
      | cons rv t =>
      obtain ⟨w, w2, rfl, rw', rw2⟩ := t.two'
      unfold setNs at eρ
      rw [setN2] at eρ
      cases eρ
      exact ⟨_, w, w2, rfl, h.ok g1 H1 s1 rs1 _ (((re1.set i rv).set j rw').set l rw2)⟩
  · exact h.stuck
/-! ### loops -/
theorem st_for (cx : Ctx X C T k N sc fb fl bl gl) {te iter : Expr} {body : List Stmt} {tg : Tg} {it : Q.It} {ib : Sms} (hi : PI X te iter (tI C T tg it)) (hg : PG X te (tG C tg)) (hb : PSs X body (tSs C T ib)) (hs : ∀ x, foldedSetIterable iter X.env x = pure x) :
    PS X (.For te iter body [] pos) (tS C T (.forS tg it ib)) := by
  refine (ps_for (by rw [cx.xe]; exact PassesOwn.never) cx.calm hi hg hb hs).weak fun D σ H h => ?_
  obtain ⟨g, S, ρ, rs, re, h⟩ := h
  unfold evS at h
  refine ⟨g, S, ρ, rs, re, h.bind.mono fun m S1 h g1 H1 J s1 rs1 wk => ?_⟩
  let turn : PV → Nv → Store → Res Fl := fun x ρ1 S2 => match setT S2 tg x ρ1 with
      | some ρ2 => evSs T ib ρ2 S2
      | none => .stuck
  let CI : Nat → L2.St → Hp → Prop := fun i σ2 H2 => ∃ g2 S2 ρ2, Step g1 g2 H1 H2 ∧ RelS C g2 S2 H2 ∧ RelE C g2 H2 ρ2 σ2 ∧ (forR m turn (m.xs.drop i) ρ2 S2).wp (SQ C g H D)
  refine ⟨fun i w σ2 H2 => w = m.xs.length - i ∧ i ≤ m.xs.length ∧ CI i σ2 H2, ⟨m.xs.length, by simp, Nat.zero_le _, g1, S1, ρ, .refl g1 H1, rs1, re.mono s1.toMv, ?_⟩, ?_⟩
  · rw [List.drop_zero]; exact h
  · rintro i w σ2 H2 ⟨rfl, hi, g2, S2, ρ2, s2, rs2, re2, h⟩
    by_cases hlt : i < m.xs.length
    · rw [List.drop_eq_getElem_cons hlt] at h
      unfold forR at h
      obtain ⟨hst, h⟩ := ifS h
      have wk2 := (wk g2 S2 H2 s2.toMv rs2 hst i).1 m.xs[i] (List.getElem?_eq_getElem hlt)
      refine .inr ⟨wk2.1, CI (i + 1), fun σ' H' q => ⟨m.xs.length - (i + 1), by omega, rfl, hlt, q⟩, ?_⟩
      intro v H3 hy
      obtain ⟨g3, s3, rs3, rt⟩ := wk2.2 v H3 hy
      have s13 := s2.trans s3
      have h := h.bind
      simp only [turn] at h
      split at h
      · rename_i ρ3 eρ
        refine ⟨g3, S2, ρ2, m.xs[i], ρ3, rs3, re2.mono s3.toMv, rt, eρ, fun σ3 re3 _ => ?_⟩
        refine ⟨g3, S2, ρ3, rs3, re3, h.mono fun f S4 h g4 H4 s4 rs4 => ?_⟩
        have s14 := s13.trans s4
        cases f with
        | nx ρ4 => exact fun σ4 re4 => ⟨g4, S4, ρ4, s14, rs4, re4, h⟩
        | ct ρ4 => exact fun σ4 re4 => ⟨g4, S4, ρ4, s14, rs4, re4, h⟩
        | bk ρ4 => exact fun σ4 re4 => h.ok g4 H4 (s1.trans s14) rs4 σ4 re4
        | rt p => exact fun v rv => h.ok g4 H4 (s1.trans s14) rs4 v rv
      · exact h.stuck
    · have e : i = m.xs.length := by omega
      subst e
      rw [List.drop_length] at h
      unfold forR at h
      obtain ⟨hst, h⟩ := ifS h
      exact .inl ⟨(wk g2 S2 H2 s2.toMv rs2 hst _).2 (Nat.le_refl _), h.ok g2 H2 (s1.trans s2) rs2 σ2 re2⟩
theorem st_while (cx : Ctx X C T k N sc fb fl bl gl) {c : Expr} {body : List Stmt} {ic : E} {ib : Sms} (hc : PT X c (tT C T ic)) (hb : PSs X body (tSs C T ib)) : PS X (.While c body [] pos) (tS C T (.whileS ic ib)) := by
  refine (ps_while (by rw [cx.xe]; exact PassesOwn.never) hc hb).weak fun D σ H h => ?_
  obtain ⟨g, S, ρ, rs, re, h⟩ := h
  unfold evS at h
  obtain ⟨n, r, hn, hr⟩ := whileR_some h
  refine ⟨fun n σ2 H2 => ∃ g2 S2 ρ2, Step g g2 H H2 ∧ RelS C g2 S2 H2 ∧ RelE C g2 H2 ρ2 σ2 ∧ ∃ r, whileN (evT T ic) (evSs T ib) n ρ2 S2 = some r ∧ r.wp (SQ C g H D), ⟨n, g, S, ρ, .refl g H, rs, re, r, hn, hr⟩, ?_⟩
  rintro n σ2 H2 ⟨g2, S2, ρ2, s2, rs2, re2, r, hn, hr⟩
  cases n with
  | zero => cases hn
  | succ n =>
    unfold whileN at hn
    refine ⟨g2, S2, ρ2, rs2, re2, ?_⟩
    cases et : evT T ic ρ2 S2 with
    | stuck => rw [et] at hn; cases hn; exact hr.stuck
    | exc c v S3 => rw [et] at hn; cases hn; obtain ⟨_, _, e, _⟩ := hr; cases e
    | ok b S3 =>
      rw [et] at hn
      refine ⟨b, S3, rfl, fun g3 H3 s3 rs3 => ?_⟩
      have re3 := re2.mono s3.toMv
      have s23 := s2.trans s3
      cases b with
      | false =>
        dsimp only
        rw [if_neg Bool.false_ne_true]
        simp only at hn
        cases hn
        exact hr.ok g3 H3 s23 rs3 σ2 re3
      | true =>
        dsimp only
        rw [if_pos rfl]
        simp only at hn
        refine ⟨fun σ' H' => ∃ g2 S2 ρ2, Step g g2 H H' ∧ RelS C g2 S2 H' ∧ RelE C g2 H' ρ2 σ' ∧ ∃ r, whileN (evT T ic) (evSs T ib) n ρ2 S2 = some r ∧ r.wp (SQ C g H D), fun σ' H' q => ⟨n, Nat.lt_succ_self n, q⟩, ?_⟩
        refine ⟨g3, S3, ρ2, rs3, re3, ?_⟩
        cases eb : evSs T ib ρ2 S3 with
        | stuck => rw [eb] at hn; cases hn; exact hr.stuck
        | exc c v S4 => rw [eb] at hn; cases hn; obtain ⟨_, _, e, _⟩ := hr; cases e
        | ok f S4 =>
          rw [eb] at hn
          refine ⟨f, S4, rfl, fun g4 H4 s4 rs4 => ?_⟩
          have s24 := s23.trans s4
          cases f with
          | nx ρ4 => exact fun σ4 re4 => ⟨g4, S4, ρ4, s24, rs4, re4, r, hn, hr⟩
          | ct ρ4 => exact fun σ4 re4 => ⟨g4, S4, ρ4, s24, rs4, re4, r, hn, hr⟩
          | bk ρ4 => simp only at hn; cases hn; exact fun σ4 re4 => hr.ok g4 H4 s24 rs4 σ4 re4
          | rt p => simp only at hn; cases hn; exact fun v rv => hr.ok g4 H4 s24 rs4 v rv
end
end Q
set_option Elab.async false
set_option linter.all false
set_option maxRecDepth 100000
set_option maxHeartbeats 1000000
/-! P2j: stores into lists and dicts; op=. -/
namespace Q
open L2 PyProof.Rows PySem PySem.Spec
section
variable {X : Cx} {C : Cf} {T : Tb} {k : Nat} {N : List Str} {sc : Scope} {fb : Str → Bool} {fl : List (Str × Nat × Nat)} {bl : List Str} {gl : List (Str × Nat)} {pos : Pos}
def rSetP (C : Cf) : TSet := fun o i v H Qn => ∃ g S x y z, RelS C g S H ∧ RepV C g H x o ∧ RepV C g H y i ∧ RepV C g H z v ∧ (setP x y z S).wp fun _ S' => ∀ g' H', Step g g' H H' → RelS C g' S' H' → Qn H'
theorem setR (hK : X.K = C.K) (hw : X.w = C.w) (hr : Room (k + 1) X.A) : PSet X (rSetP C) := by
  intro pins s σ H o i v ov iv u Qn I ro ri rv h
  obtain ⟨g, S, x, y, z, rs, rx, ry, rz, h⟩ := h
  have hu1 : X.A.units + 1 < cLine := by have := hr.un; omega
  unfold setP at h
  split at h
  · rename_i n
    cases rx with
    | @ref n a ea =>
    split at h
    · -- a list
      rename_i xs es
      split at h
      · rename_i j
        split at h
        · rename_i m em
          obtain ⟨vs, e1, l⟩ := rs.at es ea
          have := repV_int ry
          subst this
          rw [l.length] at em
          exact set_list pins s σ H _ _ v ov iv u Qn I ro ri rv ⟨a, vs, _, m, rfl, rfl, e1, em, h.ok g _ (Step.wr ea) (rs.wr ea ⟨_, upd_same, (l.set rz m).mono (Step.wr ea).toMv⟩)⟩
        · exact h.stuck
      · exact h.stuck
    · rename_i ks xs es
      split at h
      · rename_i kk ek
        obtain ⟨hl, h⟩ := ifS h
        obtain ⟨vs, e1, hlen, l⟩ := rs.at es ea
        have hy := keyOf_rep ry ek
        subst hy
        cases (show ov = Value.ref a from ro)
        have el : (ks.zip vs).length = ks.length := by simp [hlen]
        refine d_setItem hu1 I (DPut.k e1 (by rw [el, big_eq]; exact hl)) ri rv fun s' I' => ⟨_, I', ?_⟩
        rw [vput_put kk v hlen]
        obtain ⟨q1, q2⟩ := vput_rep (k := kk) rz l hlen
        refine h.ok g _ (Step.wr ea) (rs.wr ea ⟨(vput ks vs kk v).2, ?_, ?_, q2.mono (Step.wr ea).toMv⟩)
        · rw [upd_same, q1]
        · rw [q1]; exact vput_len kk v hlen
      · exact h.stuck
    · rename_i ks xs es
      split at h
      · rename_i kk ek
        obtain ⟨hl, h⟩ := ifS h
        obtain ⟨L, e1, hk, rk, l⟩ := rs.at es ea
        cases (show ov = Value.ref a from ro)
        obtain ⟨b, rfl, rfl, hb⟩ := keyT_is I hK ry ek ri
        have rt : RdT C g H a ks xs L := ⟨hk, rk, l⟩
        obtain ⟨hd, hz, hdp, ys, lx, dd⟩ := dn_read I hK hw (.inl e1) rt
        refine wpAny_setItem_heap (hsz := by rw [← Paired.length lx]; exact hz) (room_n hr) hb dd fun h' dd' hs => ?_
        obtain ⟨hkn, hd8, _⟩ := keyT_some ek
        obtain ⟨q, es', ep, hq, h2, h3, h4, _, h5⟩ := dd'
        have hlen : L.length = ks.length := by rw [← hk, List.length_map]
        have rk' : RepV C g H (ofKey kk) (.ref b) := by rw [ofKey_of hkn]; exact ry
        refine ⟨upd H a (DN C.w a (putL L kk b v)), ?_, ?_⟩
        · have lx' := lx_put kk b rv lx
          refine d_write I (by rw [e1]; exact True.intro) hs ⟨q, hq⟩ ?_
          refine ⟨⟨q, es', ep, hq, h2, h3, hd, ?_, ?_, ?_, ?_⟩, ⟨q, hq⟩, fun h1 h2 ⟨o, es, ep, q1, q2⟩ st => ⟨o, es, ep, st o q1, q2⟩⟩
          · have := putL_len L kk b v
            have hb : L.length < big := by rw [hlen]; exact hl
            rw [big_eq]; omega
          · intro x hx
            rw [putL_keys] at hx
            split at hx
            · exact hdp x hx
            · rcases List.mem_append.mp hx with hx | hx
              · exact hdp x hx
              · have e : x = kk := by simpa using hx
                rw [e]; exact hd8
          · rw [lx_keys lx']; exact h5
          · rw [h4, hw.symm]
            exact of_lx lx'
        · obtain ⟨r1, r2, r3⟩ := putL_rep rt rk' rz
          exact h.ok g _ (Step.wr ea) (rs.wr ea ⟨_, upd_same, r1, r2.mono (Step.wr ea).toMv, r3.mono (Step.wr ea).toMv⟩)
      · exact h.stuck
    · exact h.stuck
  · exact h.stuck
theorem tE_at {a : E} {σ : L2.St} {H : Hp} {Qv : VK} (h : tE C T a σ H Qv) : tE C T a σ H Qv := h
theorem assign_sub {o i : Expr} (hs : sup i = true) (env : PySem.Env) (v : Value) : assign (.Subscript o i pos) env v = (do
      let ov ← holding [v] (eval o env)
      let iv ← holding [v, ov] (eval i env)
      standAt pos
      holding [v, ov, iv] (setItem ov iv v)
      release [v, ov, iv] []) := by
  cases i <;> first | rfl | cases hs
theorem aug_sub {i : Expr} (hs : sup i = true) (ov iv new : Value) : augStore i ov iv new = (do holding [new, ov, iv] (setItem ov iv new); release [new, ov, iv] []; pure .next) := by
  cases i <;> first | rfl | cases hs
theorem st_setI (cx : Ctx X C T (k + 1) N sc fb fl bl gl) {o i e : Expr} {io ii ie : E} {p1 : Pos} (ho : PE X o (tE C T io)) (hi : PE X i (tE C T ii)) (he : PE X e (tE C T ie)) (hsi : sup i = true)
    (hs : swapsWith e (some (.Subscript o i p1)) pos.line X.env = pure false) (hw : swappedStores [.Subscript o i p1] e X.env = pure none) (h1 : (assignEach [.Subscript o i p1] X.env).map (·.2) = [assign (.Subscript o i p1) X.env]) :
    PS X (.Assign [.Subscript o i p1] e pos) (tS C T (.setI io ii ie)) := by
  refine (ps_asg he (pg_sub ho hi (setR cx.K cx.w cx.room) (assign_sub hsi _)) hs hw h1).weak fun D σ H h => ?_
  obtain ⟨g, S, ρ, rs, re, h⟩ := h
  unfold evS at h
  refine tE_then rs re h.bind fun z S1 g1 H1 v h s1 rs1 re1 rz => ?_
  refine tE_then rs1 re1 h.bind fun x S2 g2 H2 o' h s2 rs2 re2 rx => ?_
  refine tE_then rs2 re2 h.bind fun y S3 g3 H3 i' h s3 rs3 re3 ry => ?_
  refine ⟨g3, S3, x, y, z, rs3, rx.mono s3.toMv, ry, rz.mono (s2.trans s3).toMv, h.bind.mono fun _ S4 h g4 H4 s4 rs4 => ?_⟩
  exact h.ok g4 H4 (((s1.trans s2).trans s3).trans s4) rs4 σ (re3.mono s4.toMv)
/-- ints, in place -/
def rAug (C : Cf) (op : Bo) : TIp := fun x y H Qv => ∃ g S p q, RelS C g S H ∧ RepV C g H p x ∧ RepV C g H q y ∧ (∃ i j, p = .int i ∧ q = .int j) ∧ (binP op p q S).wp (VQ C g H Qv)
def augB : Bo → Bool
  | .add => true | .sub => true | .mul => true | _ => false
theorem augP {op : Bo} (hop : augB op = true) : PIp X (opA op) (rAug C op) := by
  intro pins s σ H x y v u Qv I r1 r2 h
  obtain ⟨g, S, p, q, rs, rp, rq, ⟨i, j, rfl, rfl⟩, h⟩ := h
  rw [repV_int rp] at r1; rw [repV_int rq] at r2
  cases op with
  | add => exact augR iop_add I r1 r2 ⟨i, j, rfl, rfl, (h : (Res.ok _ _).wp _).ok.here rs (.int _)⟩
  | sub => exact augR iop_sub I r1 r2 ⟨i, j, rfl, rfl, (h : (Res.ok _ _).wp _).ok.here rs (.int _)⟩
  | mul =>
    simp only [binP] at h
    obtain ⟨hl, h⟩ := ifS h
    exact augR iop_mul I r1 r2 ⟨i, j, rfl, rfl, mulOk_c hl, h.ok.here rs (.int _)⟩
  | _ => cases hop
theorem st_aug (cx : Ctx X C T k N sc fb fl bl gl) {x : Str} {i : Nat} {e : Expr} {ie : E} {op : Bo} {p1 : Pos} (hop : augB op = true) (hi : N[i]? = some x) (hl : locB sc fb x = true) (he : PE X e (tE C T ie)) : PS X (.AugAssign (.Name x p1) (opA op) e pos) (tS C T (.aug i op ie)) := by
  obtain ⟨h1, h2⟩ := loc_of cx hl
  refine (ps_aug cx.nd (by rw [cx.N]; exact hi) h1 he (augP (C := C) hop) h2).weak fun D σ H h => ?_
  obtain ⟨g, S, ρ, rs, re, h⟩ := h
  unfold evS at h
  split at h
  · rename_i p ep
    obtain ⟨w, ew, rw'⟩ := re.at_ i p ep
    refine ⟨w, ew, tE_then rs re h.bind fun q S1 g1 H1 v h s1 rs1 re1 rv => ?_⟩
    cases p with
    | int m =>
      cases q with
      | int n =>
        simp only at h
        refine ⟨g1, S1, .int m, .int n, rs1, rw'.mono s1.toMv, rv, ⟨m, n, rfl, rfl⟩, h.bind.mono fun r S2 h g2 H2 z s2 rs2 rz => ?_⟩
        exact h.ok g2 H2 (s1.trans s2) rs2 _ ((re1.mono s2.toMv).set i rz)
      | _ => exact h.bind.stuck
    | _ => first | exact h.bind.stuck | (cases q <;> exact h.bind.stuck)
  · exact h.stuck
/-- o[i], by values -/
def rGetP (C : Cf) : V → V → Hp → VK → Prop := fun x y H Qv => rP C idxP x y H Qv
theorem getR (hK : X.K = C.K) (hw : X.w = C.w) (hr : Room (k + 1) X.A) : PGet X (rGetP C) := by
  intro pins s σ H x y v u Qv I r1 r2 h
  obtain ⟨g, S, p, q, rs, rp, rq, h⟩ := h
  unfold idxP at h
  split at h
  · rename_i o eo
    split at h
    · rename_i w er
      obtain ⟨a, rfl, ro⟩ := dictOf_rep rs rp eo
      cases (show v = Value.ref a from r1)
      exact dGetItem hK hw hr I ro rq r2 er fun v' w' s3 rv I3 rw' => ⟨v', H, I3, rw', h.ok.here rs rv⟩
    · exact h.stuck
  · split at h
    · rename_i xs j es
      split at h
      · rename_i w ew
        obtain ⟨a, vs, rfl, hsq, l⟩ := seqOf_rep rs rp es
        obtain ⟨w', ew', rw'⟩ := atI_rep l ew
        rw [repV_int rq] at r2
        obtain ⟨t, rfl⟩ := r2
        cases (show v = Value.ref a from r1)
        obtain ⟨m, h1, h2, h3, h4, h5⟩ := atI_get ew'
        have hn := line63
        have q := h.ok.here rs rw'
        rcases hsq with hsq | hsq
        · obtain ⟨its, r, pl, hz⟩ := I.list (hK ▸ hsq)
          obtain ⟨w2, ew2, rw2⟩ := r.get h2
          have hl := r.length
          have fin : EP X pins σ Qv w2 s := ⟨w', H, I, rw2, q⟩
          by_cases h0 : 0 ≤ j
          · have hj : j.toNat = m := by
              rw [seqIndex_of h0 h5] at h1
              exact Option.some.inj h1
            exact wpAny_getItem_list pl.isList h0 (by omega) (by rw [hj]; simpa using ew2) fin
          · have hj : (j + (its.toArray.size : Int)).toNat = m := by
              rw [seqIndex_neg (by omega) h4] at h1
              rw [List.size_toArray, ← hl]
              exact Option.some.inj h1
            exact wpAny_getItem_list_neg pl.isList (by omega) (by rw [List.size_toArray] <;> omega) (by omega) (by rw [hj]; simpa using ew2) fin
        · obtain ⟨its, r, pl, hz⟩ := I.tuple (hK ▸ hsq)
          obtain ⟨w2, ew2, rw2⟩ := r.get h2
          have hl := r.length
          exact getItem_tuple (j := m) pl (by omega) (by omega) (by rw [List.size_toArray, ← hl]; exact h1) (by simpa using ew2) ⟨w', H, I, rw2, q⟩
      · exact h.stuck
    · exact h.stuck
theorem st_augI (cx : Ctx X C T (k + 1) N sc fb fl bl gl) {o i e : Expr} {io ii ie : E} {op : Bo} {p1 : Pos} (hop : augB op = true) (ho : PE X o (tE C T io)) (hi : PE X i (tE C T ii)) (he : PE X e (tE C T ie)) (hsi : sup i = true) :
    PS X (.AugAssign (.Subscript o i p1) (opA op) e pos) (tS C T (.augI io ii op ie)) := by
  refine (ps_augS ho hi (getR (C := C) cx.K cx.w cx.room) he (augP (C := C) hop) (setR (C := C) cx.K cx.w cx.room) (aug_sub hsi)).weak fun D σ H h => ?_
  obtain ⟨g, S, ρ, rs, re, h⟩ := h
  unfold evS at h
  refine tE_then rs re h.bind fun x S1 g1 H1 o' h s1 rs1 re1 rx => ?_
  refine tE_then rs1 re1 h.bind fun y S2 g2 H2 i' h s2 rs2 re2 ry => ?_
  refine ⟨g2, S2, x, y, rs2, rx.mono s2.toMv, ry, h.bind.mono fun a S3 h g3 H3 av s3 rs3 ra => ?_⟩
  refine tE_then rs3 (re2.mono s3.toMv) h.bind fun b S4 g4 H4 bv h s4 rs4 re4 rb => ?_
  have s24 := s3.trans s4
  cases a with
  | int m =>
    cases b with
    | int n =>
      simp only at h
      refine ⟨g4, S4, .int m, .int n, rs4, ra.mono s4.toMv, rb, ⟨m, n, rfl, rfl⟩, h.bind.mono fun r S5 h g5 H5 z s5 rs5 rz => ?_⟩
      have s25 := s24.trans s5
      refine ⟨g5, S5, x, y, r, rs5, (rx.mono s2.toMv).mono s25.toMv, ry.mono s25.toMv, rz, h.bind.mono fun _ S6 h g6 H6 s6 rs6 => ?_⟩
      exact h.ok g6 H6 (((s1.trans s2).trans s25).trans s6) rs6 σ ((re4.mono s5.toMv).mono s6.toMv)
    | _ => exact h.bind.stuck
  | _ => first | exact h.bind.stuck | (cases b <;> exact h.bind.stuck)
end
end Q
set_option Elab.async false
set_option linter.all false
set_option maxRecDepth 100000
set_option maxHeartbeats 1000000
/-! P3a: what the checker asks of forms. -/
namespace Q
open L2 PyProof.Rows PySem PySem.Spec
section
variable {X : Cx} {C : Cf} {T : Tb} {k : Nat} {N : List Str} {sc : Scope} {fb : Str → Bool} {fl : List (Str × Nat × Nat)} {bl : List Str} {gl : List (Str × Nat)} {pos : Pos}
theorem evT_ite {t a b : E} {ρ : Nv} {S : Store} : evT T (.ite t a b) ρ S = (evT T t ρ S).bind fun c S1 => if c = true then evT T a ρ S1 else evT T b ρ S1 := by
  unfold evT
  rw [evE_ite]
  unfold evT
  cases (evE T t ρ S) with
  | stuck => rfl
  | exc c v S1 => rfl
  | ok x S1 =>
    simp only [Res.bind_ok]
    cases truthP S1 x with
    | none => rfl
    | some b => cases b <;> rfl
theorem s_tite {t a b : Expr} {it ia ib : E} (ht : PT X t (tT C T it)) (ha : PT X a (tT C T ia)) (hb : PT X b (tT C T ib)) : PT X (.IfExp t a b pos) (tT C T (.ite it ia ib)) := by
  refine ⟨fun pins s σ H Qb I h => ?_⟩
  obtain ⟨g, S, ρ, rs, re, h⟩ := h
  rw [evT_ite] at h
  refine isTrue_IfExp (thn (ht.run pins s σ H _ I (tT_then (Qb := fun c H1 => if c = true then tT C T ia σ H1 Qb else tT C T ib σ H1 Qb) rs re h.bind fun c S1 g1 H1 h s1 rs1 re1 => ?_)) fun c s1 ⟨H1, I1, q⟩ => ?_)
  · cases c with
    | true =>
      rw [if_pos rfl] at h ⊢
      exact tT_then rs1 re1 h fun c S2 g2 H2 h s2 rs2 re2 => h g2 H2 (s1.trans s2) rs2
    | false =>
      rw [if_neg Bool.false_ne_true] at h ⊢
      exact tT_then rs1 re1 h fun c S2 g2 H2 h s2 rs2 re2 => h g2 H2 (s1.trans s2) rs2
  · cases c with
    | true => exact ha.run pins s1 σ H1 Qb I1 q
    | false => exact hb.run pins s1 σ H1 Qb I1 q
def noC : Expr → Bool
  | .ListComp _ _ _ _ => false | .SetComp _ _ _ _ => false | .DictComp _ _ _ _ _ => false | _ => true
theorem noC_sw {e : Expr} (h : noC e = true) (t : Option Expr) (l : Nat) (env : PySem.Env) : swapsWith e t l env = pure false := by
  cases e <;> first | rfl | cases h
def supA : List Expr → Bool
  | [] => true
  | e :: es => sup e && supA es
theorem supA_star : ∀ {es : List Expr} (h : supA es = true) (env : PySem.Env), starEach es env = es.map fun e => (false, eval e env)
  | [], _, _ => rfl
  | e :: es, h, env => by
    unfold supA at h
    rw [Bool.and_eq_true] at h
    rw [sup_star h.1, supA_star h.2]
    rfl
theorem supA_back {es : List Expr} (h : supA es = true) (env : PySem.Env) : (backTo pos (starEach es env)).any (·.1) = false := by
  rw [supA_star h]
  unfold backTo
  induction es with
  | nil => rfl
  | cons e es ih =>
    unfold supA at h
    rw [Bool.and_eq_true] at h
    simp only [List.map_cons, List.any_cons, Bool.false_or]
    exact ih h.2
theorem supA_few {es : List Expr} (h : supA es = true) (env : PySem.Env) (hl : es.length < 30) : ((backTo pos (starEach es env)).all (fun x => !x.1) && (backToKw pos (keywordEach [] env)).all (fun x => x.1.isSome)
      && decide (es.length + ([] : List Keyword).length + (if ([] : List Keyword).isEmpty then 0 else 1) < 30)) = true := by
  have h1 : (backTo pos (starEach es env)).all (fun x => !x.1) = true := by
    have := supA_back (pos := pos) h env
    rw [List.all_eq_not_any_not]
    simpa using this
  rw [h1]
  have h2 : decide (es.length + ([] : List Keyword).length + (if ([] : List Keyword).isEmpty then 0 else 1) < 30) = true := decide_eq_true (by simpa using hl)
  rw [h2]
  rfl
/-- no zero-argument call by name: its attributes are looked up plainly -/
def baseB : Expr → Bool
  | .Call (.Name _ _) [] [] _ => false
  | _ => true
theorem base_of {o : Expr} (h : baseB o = true) (m : Str) (env : PySem.Env) (w : Sem Value) : attributeBase o m env w = w := by
  unfold attributeBase
  split
  · cases h
  · rfl
def isFn (sc : Scope) : Bool := match sc.kind with | .function => true | _ => false
theorem isFn_k {sc : Scope} (h : isFn sc = true) : sc.kind = .function := by
  unfold isFn at h
  split at h
  · assumption
  · cases h
/-- name = comprehension: stored within the comprehension's frame -/
def swB (sc : Scope) (e : Expr) (y : Str) (py : Pos) : Bool :=
  match e with
  | .ListComp _ _ s p => decide (sc.names.lookup y = some .local) && (py.line == p.line) && !(s.names.any fun (n, k) => n == y && (k == .local || k == .cell))
  | _ => false
theorem swB_of {sc : Scope} {e : Expr} {y : Str} {py : Pos} (hf : isFn sc = true) (hc : noC e = true ∨ ∃ a b s p, e = .ListComp a b s p) (l : Nat) (env : PySem.Env) (he : env.scope = sc) : swapsWith e (some (.Name y py)) l env = pure (swB sc e y py) := by
  rcases hc with hc | ⟨a, b, s, p, rfl⟩
  · rw [noC_sw hc]
    cases e <;> first | rfl | cases hc
  · have hb : env.blockKind = .function := by unfold Env.blockKind; rw [he, isFn_k hf]; rfl
    have ky : env.kindOf y = sc.names.lookup y := by rw [← he]; rfl
    unfold swapsWith swB
    simp only [hb, ky, Expr.pos]
    have : ∀ o : Option NameKind, (o == some NameKind.local) = decide (o = some NameKind.local) := by
      intro o
      cases o with
      | none => rfl
      | some k => cases k <;> rfl
    rw [this]
    rfl
/-- a tuple's targets whose stores go by the stack -/
def swNames (sc : Scope) (ts : List Expr) : List Str :=
  let line := (ts.head?.map (·.pos.line)).getD 0
  ts.filterMap fun
    | .Name id pos => if sc.names.lookup id == some .local && pos.line == line then some id else none
    | _ => none
def anySt (vs : List Expr) : Bool := vs.any fun | .Starred .. => true | _ => false
def noSt (vs : List Expr) : Bool := !(anySt vs)
/-- some names: the stores go from the right; none: as written -/
def swOn (sc : Scope) (ts vs : List Expr) : Bool :=
  (ts.length == 2 || ts.length == 3) && vs.length == ts.length && noSt vs && (swNames sc ts).length == ts.length && (swNames sc ts).eraseDups.length == (swNames sc ts).length && !(vs.all (foldedForSure 8)) && !(vs.all (constantsAlone 8))
def swOff (sc : Scope) (te e : Expr) : Bool :=
  match te, e with
  | .Tuple ts _ _, .Tuple vs _ _ =>
    !(ts.length == 2 || ts.length == 3) || vs.length != ts.length || !(noSt vs) || (swNames sc ts).length != ts.length || (swNames sc ts).eraseDups.length != (swNames sc ts).length || vs.all (foldedForSure 8)
  | .List _ _, .Tuple _ _ _ => false
  | _, _ => true
theorem sw_eq {ts vs : List Expr} {k1 k2 : Nat} {p1 p2 : Pos} (env : PySem.Env) : swappedStores [.Tuple ts k1 p1] (.Tuple vs k2 p2) env =
    (if (!(ts.length == 2 || ts.length == 3) || vs.length != ts.length || env.blockKind != .function) = true then pure none
    else if anySt vs = true then pure none
    else if ((swNames env.scope ts).length != ts.length || (swNames env.scope ts).eraseDups.length != (swNames env.scope ts).length) = true then pure none
    else if vs.all (foldedForSure 8) = true then pure none
    else if vs.all (constantsAlone 8) = true then (do
      let _ ← (unsupported "assign.tuple-of-constant-expressions:order-of-the-stores" : Sem PUnit)
      pure (some (swNames env.scope ts)))
    else pure (some (swNames env.scope ts))) := rfl
theorem sw_off {sc : Scope} {te e : Expr} (hf : isFn sc = true) (h : swOff sc te e = true) (env : PySem.Env) (he : env.scope = sc) : swappedStores [te] e env = pure none := by
  have hb : env.blockKind = .function := by unfold Env.blockKind; rw [he, isFn_k hf]; rfl
  have hb2 : (env.blockKind != .function) = false := by rw [hb]; rfl
  subst he
  unfold swOff at h
  split at h
  · rename_i ts k1 p1 vs k2 p2
    rw [sw_eq]
    simp only [hb2, Bool.or_false]
    by_cases c1 : (!(ts.length == 2 || ts.length == 3) || vs.length != ts.length) = true
    · rw [if_pos c1]
    · rw [if_neg c1]
      by_cases c2 : anySt vs = true
      · rw [if_pos c2]
      · rw [if_neg c2]
        by_cases c4 : ((swNames env.scope ts).length != ts.length || (swNames env.scope ts).eraseDups.length != (swNames env.scope ts).length) = true
        · rw [if_pos c4]
        · rw [if_neg c4]
          have c3 : vs.all (foldedForSure 8) = true := by
            have c2' : (!(noSt vs)) = false := by unfold noSt; simpa using c2
            have c1' := Bool.eq_false_iff.mpr c1
            have c4' := Bool.eq_false_iff.mpr c4
            rw [Bool.or_eq_false_iff] at c1' c4'
            rw [c1'.1, c1'.2, c2', c4'.1, c4'.2] at h
            exact h
          rw [if_pos c3]
  · cases h
  · rename_i h1 h2
    cases te <;> first | rfl | (cases e <;> first | rfl | exact absurd rfl (h1 _ _ _ _ _ _ rfl) | exact absurd rfl (h2 _ _ _ _ _ rfl) | exact (h1 _ _ _ _ _ _ rfl rfl).elim | exact (h2 _ _ _ _ _ rfl rfl).elim)
theorem sw_on {sc : Scope} {ts vs : List Expr} {k1 k2 : Nat} {p1 p2 : Pos} (hf : isFn sc = true) (h : swOn sc ts vs = true) (env : PySem.Env) (he : env.scope = sc) : swappedStores [.Tuple ts k1 p1] (.Tuple vs k2 p2) env = pure (some (swNames sc ts)) := by
  have hb : env.blockKind = .function := by unfold Env.blockKind; rw [he, isFn_k hf]; rfl
  have hb2 : (env.blockKind != .function) = false := by rw [hb]; rfl
  subst he
  unfold swOn at h
  simp only [Bool.and_eq_true] at h
  obtain ⟨⟨⟨⟨⟨⟨a1, a2⟩, a3⟩, a4⟩, a5⟩, a6⟩, a7⟩ := h
  rw [sw_eq]
  simp only [hb2, Bool.or_false]
  have c1 : ¬ (!(ts.length == 2 || ts.length == 3) || vs.length != ts.length) = true := by
    rw [a1]; simp only [bne, a2]; decide
  have c2 : ¬ anySt vs = true := by unfold noSt at a3; simpa using a3
  have c4 : ¬ ((swNames env.scope ts).length != ts.length || (swNames env.scope ts).eraseDups.length != (swNames env.scope ts).length) = true := by
    simp only [bne, a4, a5]; decide
  have c5 : ¬ (vs.all (foldedForSure 8)) = true := by intro q; rw [q] at a6; cases a6
  have c6 : ¬ (vs.all (constantsAlone 8)) = true := by intro q; rw [q] at a7; cases a7
  rw [if_neg c1, if_neg c2, if_neg c4, if_neg c5, if_neg c6]
def noStar : Expr → Bool
  | .Starred _ _ => false | _ => true
theorem each_cons {t : Expr} (h : noStar t = true) (ts : List Expr) (env : PySem.Env) : assignEach (t :: ts) env = (false, assign t env) :: assignEach ts env := by
  cases t <;> first | rfl | cases h
end
end Q
set_option Elab.async false
set_option linter.all false
set_option maxRecDepth 100000
set_option maxHeartbeats 4000000
/-! P3b: the checker that ties the program's text to the IR, and its soundness. -/
namespace Q
open L2 PyProof.Rows PySem PySem.Spec
/-- what is the same all over a def: its names, the defs, builtins and constants that it may use -/
structure Ga where
  N : List Str
  fl : List (Str × Nat × Nat)
  bl : List Str
  gl : List (Str × Nat)
abbrev CtxG (X : Cx) (C : Cf) (T : Tb) (k : Nat) (γ : Ga) (sc : Scope) (fb : Str → Bool) : Prop := Ctx X C T k γ.N sc fb γ.fl γ.bl γ.gl
def ownN (γ : Ga) (own : List Nat) : List (Str × Nat) := own.map fun j => ((γ.N[j]?).getD "", j)
theorem ownN_snd (γ : Ga) (own : List Nat) : (ownN γ own).map (·.2) = own := by
  unfold ownN
  rw [List.map_map]
  exact (List.map_congr_left (fun _ _ => rfl)).trans (List.map_id own)
def subB (a b : List Nat) : Bool := a.all fun j => decide (j ∈ b)
theorem subB_of {a b : List Nat} (h : subB a b = true) : ∀ j ∈ a, j ∈ b := by
  unfold subB at h
  intro j hj
  exact of_decide_eq_true (List.all_eq_true.mp h j hj)
abbrev fbC (scope : Scope) : Str → Bool := fun x => scope.names.lookup x == some .cell
mutual
def chkT (γ : Ga) : Tg → Scope → (Str → Bool) → Expr → Bool
  | .name i, sc, fb, e => match e with
    | .Name x _ => decide (γ.N[i]? = some x) && locB sc fb x
    | _ => false
  | .tup ts, sc, fb, e => match e with
    | .Tuple es _ _ => chkTs γ ts sc fb es
    | _ => false
def chkTs (γ : Ga) : List Tg → Scope → (Str → Bool) → List Expr → Bool
  | [], _, _, es => match es with | [] => true | _ => false
  | t :: ts, sc, fb, es => match es with
    | e :: es => noStar e && (chkT γ t sc fb e && chkTs γ ts sc fb es)
    | [] => false
end
mutual
def chkE (γ : Ga) : E → Scope → (Str → Bool) → Expr → Bool
  | .var i, sc, fb, e => match e with
    | .Name x _ => (decide (γ.N[i]? = some x) && visB sc x) && ((x == ("__debug__" : Str)) == false && (x == ("__classdict__" : Str)) == false)
    | _ => false
  | .non, _, _, e => match e with | .Constant .none _ _ => true | _ => false
  | .bl b, _, _, e => match e with | .Constant (.bool c) _ _ => decide (c = b) | _ => false
  | .int i, _, _, e => match e with | .Constant (.int c) _ _ => decide (c = i) | _ => false
  | .str i, _, _, e => match e with | .Constant (.str c) _ _ => decide (c = i) | _ => false
  | .glo j, sc, _, e => match e with
    | .Name x _ => (decide ((x, j) ∈ γ.gl) && gloB sc x) && (x == ("__debug__" : Str)) == false
    | _ => false
  | .tup es, sc, fb, e => match e with | .Tuple xs _ _ => chkEs γ es sc fb xs | _ => false
  | .lst _ es, sc, fb, e => match e with | .List xs _ => chkEs γ es sc fb xs | _ => false
  | .dK0 _, _, _, e => match e with | .Dict [] [] _ => true | _ => false
  | .dT0 _, _, _, e => match e with | .Dict [] [] _ => true | _ => false
  | .bin op a b, sc, fb, e => match e with | .BinOp x o y _ => decide (o = opA op) && (chkE γ a sc fb x && chkE γ b sc fb y) | _ => false
  | .neg a, sc, fb, e => match e with | .UnaryOp .USub x _ => chkE γ a sc fb x | _ => false
  | .cmp op a b, sc, fb, e => match e with | .Compare x [o] [y] _ => (decide (o = coA op) && sup y) && (chkE γ a sc fb x && chkE γ b sc fb y) | _ => false
  | .chain o1 o2 a b c, sc, fb, e => match e with
    | .Compare x [p1, p2] [y, z] _ => (decide (p1 = coA o1) && (decide (p2 = coA o2) && (lastMarks [p1, p2] [y, z] == false))) && (chkE γ a sc fb x && (chkE γ b sc fb y && chkE γ c sc fb z))
    | _ => false
  | .isN ng a, sc, fb, e => match e with
    | .Compare x [.Is] [.Constant .none _ _] _ => ng == false && chkE γ a sc fb x
    | .Compare x [.IsNot] [.Constant .none _ _] _ => ng && chkE γ a sc fb x
    | _ => false
  | .and_ a b, sc, fb, e => match e with | .BoolOp .And (x :: y :: r) pos => chkE γ a sc fb x && chkE γ b sc fb (.BoolOp .And (y :: r) pos) | _ => false
  | .or_ a b, sc, fb, e => match e with | .BoolOp .Or (x :: y :: r) pos => chkE γ a sc fb x && chkE γ b sc fb (.BoolOp .Or (y :: r) pos) | _ => false
  | .one a, sc, fb, e => match e with | .BoolOp _ [x] _ => chkE γ a sc fb x | _ => false
  | .not_ a, sc, fb, e => match e with | .UnaryOp .Not x _ => chkE γ a sc fb x | _ => false
  | .ite t a b, sc, fb, e => match e with | .IfExp t' x y _ => chkE γ t sc fb t' && (chkE γ a sc fb x && chkE γ b sc fb y) | _ => false
  | .idx a i, sc, fb, e => match e with | .Subscript x y _ => sup y && (chkE γ a sc fb x && chkE γ i sc fb y) | _ => false
  | .slc a lo hi, sc, fb, e => match e with | .Subscript x (.Slice l h none _) _ => chkE γ a sc fb x && (chkO γ lo sc fb l && chkO γ hi sc fb h) | _ => false
  | .rev a, sc, fb, e => match e with | .Subscript x (.Slice none none (some (.UnaryOp .USub (.Constant (.int 1) _ _) _)) _) _ => chkE γ a sc fb x | _ => false
  | .call f es, sc, fb, e => match e with
    | .Call (.Name x _) xs [] _ => (decide ((x, f, es.len) ∈ γ.fl) && (gloB sc x && (x == ("__debug__" : Str)) == false)) && chkEs γ es sc fb xs
    | _ => false
  | .blt b es, sc, fb, e => match e with
    | .Call (.Name x _) xs [] _ => (decide (x = biName b) && (decide (biName b ∈ γ.bl) && (gloB sc (biName b) && !xs.isEmpty))) && chkEs γ es sc fb xs
    | _ => false
  | .isi a ty, sc, fb, e => match e with
    | .Call (.Name f _) [x, .Name t _] [] _ => ((decide (f = ("isinstance" : Str)) && decide (t = Str.ofString (tyN ty))) && (decide (("isinstance" : Str) ∈ γ.bl) && (gloB sc "isinstance" && (decide (Str.ofString (tyN ty) ∈ γ.bl) && (gloB sc (Str.ofString (tyN ty)) && sup x))))) && chkE γ a sc fb x
    | _ => false
  | .meth m o es, sc, fb, e => match e with
    | .Call (.Attribute x nm apos) xs [] pos => ((decide (nm = meName m) && baseB x) && ((apos.endLine == pos.line) && decide (xs.length < 30))) && (chkE γ o sc fb x && chkEs γ es sc fb xs)
    | _ => false
  | .comp own elt tg it ifs, sc, fb, e => match e with
    | .ListComp x [⟨t, iter, fs, 0⟩] scope _ => (blkC γ.N sc scope (ownN γ own) && (subB tg.slots own && sup iter)) &&
        (chkI γ it sc fb iter && (chkT γ tg (relS scope sc) (fbC scope) t && (chkC γ ifs (relS scope sc) (fbC scope) fs && chkE γ elt (relS scope sc) (fbC scope) x)))
    | _ => false
  | .compM own elt tg it ifs, sc, fb, e => match e with
    | .ListComp x [⟨t, iter, fs, 0⟩] scope _ => (blkC γ.N sc scope (ownN γ own) && (subB tg.slots own && sup iter)) &&
        (chkI γ it sc fb iter && (chkT γ tg (relS scope sc) (fbC scope) t && (chkC γ ifs (relS scope sc) (fbC scope) fs && chkE γ elt (relS scope sc) (fbC scope) x)))
    | _ => false
  | .comp2 own elt tg it ifs own1 tg1 it1 ifs1, sc, fb, e => match e with
    | .ListComp x [⟨t, iter, fs, 0⟩, ⟨t1, iter1, fs1, 0⟩] scope _ => ((blkC γ.N sc scope (ownN γ own) && (subB tg.slots own && sup iter)) && (subB own1 own && (subB tg1.slots own1 && sup iter1))) &&
        ((chkI γ it sc fb iter && (chkT γ tg (relS scope sc) (fbC scope) t && (chkC γ ifs (relS scope sc) (fbC scope) fs && chkE γ elt (relS scope sc) (fbC scope) x))) &&
          (chkI γ it1 (relS scope sc) (fbC scope) iter1 && (chkT γ tg1 (relS scope sc) (fbC scope) t1 && chkC γ ifs1 (relS scope sc) (fbC scope) fs1)))
    | _ => false
def chkEs (γ : Ga) : Es → Scope → (Str → Bool) → List Expr → Bool
  | .nil, _, _, es => match es with | [] => true | _ => false
  | .cons e es, sc, fb, xs => match xs with | x :: xs => sup x && (chkE γ e sc fb x && chkEs γ es sc fb xs) | [] => false
def chkO (γ : Ga) : Eo → Scope → (Str → Bool) → Option Expr → Bool
  | .none, _, _, o => match o with | none => true | _ => false
  | .some e, sc, fb, o => match o with | some x => chkE γ e sc fb x | _ => false
def chkC (γ : Ga) : Eo → Scope → (Str → Bool) → List Expr → Bool
  | .none, _, _, o => match o with | [] => true | _ => false
  | .some e, sc, fb, o => match o with | [x] => chkE γ e sc fb x | _ => false
def chkI (γ : Ga) : It → Scope → (Str → Bool) → Expr → Bool
  | .seq a, sc, fb, e => chkE γ a sc fb e
  | .range es, sc, fb, e => match e with
    | .Call (.Name x _) xs [] _ => (decide (x = ("range" : Str)) && (decide (("range" : Str) ∈ γ.bl) && (gloB sc "range" && (es.len == 1 || es.len == 2)))) && chkEs γ es sc fb xs
    | _ => false
  | .zip _ _, _, _, _ => false
  | .enum _, _, _, _ => false
end
def isBo : Expr → Bool | .BoolOp _ _ _ => true | _ => false
/-- what the checker's yes is worth -/
structure SE (X : Cx) (C : Cf) (T : Tb) (γ : Ga) (sc : Scope) (e : Expr) (ir : E) : Prop where
  pe : PE X e (tE C T ir)
  pt : PT X e (tT C T ir)
  pw : isBo e = true → PW X e (tT C T ir)
  pc : noC e = true ∨ ((∃ a b s p, e = .ListComp a b s p) ∧ ∀ i y py spos, γ.N[i]? = some y → sc.names.lookup y = some .local → swapsWith e (some (.Name y py)) spos.line X.env = pure true → PS X (.Assign [.Name y py] e spos) (tS C T (.asg (.name i) ir)))
section
variable {C : Cf} {T : Tb} {γ : Ga} {k : Nat}
mutual
theorem sndT : ∀ (t : Tg) {sc : Scope} {fb : Str → Bool} {e : Expr}, chkT γ t sc fb e = true → ∀ {X : Cx}, CtxG X C T k γ sc fb → PG X e (tG C t)
  | .name i, sc, fb, e, h, X, cx => by
    unfold chkT at h
    split at h
    · rw [Bool.and_eq_true] at h
      exact g_name cx (of_decide_eq_true h.1) h.2
    · cases h
  | .tup ts, sc, fb, e, h, X, cx => by
    unfold chkT at h
    split at h
    · obtain ⟨h1, h2, h3⟩ := sndTs ts h cx
      exact g_tup cx h1 h2 h3
    · cases h
theorem sndTs : ∀ (ts : List Tg) {sc : Scope} {fb : Str → Bool} {es : List Expr}, chkTs γ ts sc fb es = true → ∀ {X : Cx}, CtxG X C T k γ sc fb →
    PGs X es (tGs C ts) ∧ (assignEach es X.env).length = ts.length ∧ (assignEach es X.env).findIdx? (·.1) = none
  | [], sc, fb, es, h, X, cx => by
    unfold chkTs at h
    split at h
    · exact ⟨gs_nil, rfl, rfl⟩
    · cases h
  | t :: ts, sc, fb, es, h, X, cx => by
    unfold chkTs at h
    split at h
    · simp only [Bool.and_eq_true] at h
      obtain ⟨h0, h1, h2⟩ := h
      obtain ⟨q1, q2, q3⟩ := sndTs ts h2 cx
      have e := each_cons h0
      refine ⟨gs_cons (sndT t h1 cx) q1 ?_, ?_, ?_⟩
      · rw [e]; rfl
      · rw [e]; simp [q2]
      · rw [e, List.findIdx?_cons]; simp only [q3]; rfl
    · cases h
end
theorem se_plain {X : Cx} {sc : Scope} {fb : Str → Bool} {e : Expr} {ir : E} (cx : CtxG X C T k γ sc fb) (h : PE X e (tE C T ir)) (hb : isBo e = false) (hc : noC e = true)
    (he : ∀ whole, PySem.isTrue e X.env whole = (do let v ← whole; standAt e.pos; holding [v] (truthy v))) : SE X C T γ sc e ir :=
  ⟨h, s_truth cx h he, fun q => by (rw [hb] at q; cases q), .inl hc⟩
theorem se_test {X : Cx} {sc : Scope} {e : Expr} {ir : E} (h : PE X e (tE C T ir)) (ht : PT X e (tT C T ir)) (hb : isBo e = false) (hc : noC e = true) : SE X C T γ sc e ir :=
  ⟨h, ht, fun q => by (rw [hb] at q; cases q), .inl hc⟩
theorem se_bool {X : Cx} {sc : Scope} {e : Expr} {ir : E} (h : PE X e (tE C T ir)) (hw : PW X e (tT C T ir)) (hc : noC e = true) : SE X C T γ sc e ir := ⟨h, hw.pt, fun _ => hw, .inl hc⟩
set_option maxHeartbeats 16000000 in
mutual
theorem sndE : ∀ (ir : E) {sc : Scope} {fb : Str → Bool} {e : Expr}, chkE γ ir sc fb e = true → ∀ {X : Cx}, CtxG X C T (k + 1) γ sc fb → SE X C T γ sc e ir
  | .var i, sc, fb, e, h, X, cx => by
    unfold chkE at h
    split at h
    · simp only [Bool.and_eq_true, decide_eq_true_eq, beq_iff_eq] at h
      obtain ⟨⟨h1, h2⟩, h3, h4⟩ := h
      exact se_plain cx (s_var cx h1 h2 h3 h4) rfl rfl fun _ => rfl
    · cases h
  | .non, sc, fb, e, h, X, cx => by
    unfold chkE at h
    split at h
    · exact se_plain cx s_non rfl rfl fun _ => rfl
    · cases h
  | .bl b, sc, fb, e, h, X, cx => by
    unfold chkE at h
    split at h
    · cases of_decide_eq_true h
      exact se_plain cx s_bl rfl rfl fun _ => rfl
    · cases h
  | .int b, sc, fb, e, h, X, cx => by
    unfold chkE at h
    split at h
    · cases of_decide_eq_true h
      exact se_plain cx s_int rfl rfl fun _ => rfl
    · cases h
  | .str b, sc, fb, e, h, X, cx => by
    unfold chkE at h
    split at h
    · cases of_decide_eq_true h
      exact se_plain cx s_str rfl rfl fun _ => rfl
    · cases h
  | .glo j, sc, fb, e, h, X, cx => by
    unfold chkE at h
    split at h
    · simp only [Bool.and_eq_true, decide_eq_true_eq, beq_iff_eq] at h
      obtain ⟨⟨h1, h2⟩, h3⟩ := h
      exact se_plain cx (s_glo cx h1 h2 h3) rfl rfl fun _ => rfl
    · cases h
  | .tup es, sc, fb, e, h, X, cx => by
    unfold chkE at h
    split at h
    · exact se_plain cx (s_tup (sndEs es h cx).1) rfl rfl fun _ => rfl
    · cases h
  | .lst mu es, sc, fb, e, h, X, cx => by
    unfold chkE at h
    split at h
    · exact se_plain cx (s_lst (sndEs es h cx).1) rfl rfl fun _ => rfl
    · cases h
  | .dK0 mu, sc, fb, e, h, X, cx => by
    unfold chkE at h
    split at h
    · exact se_plain cx s_dK0 rfl rfl fun _ => rfl
    · cases h
  | .dT0 mu, sc, fb, e, h, X, cx => by
    unfold chkE at h
    split at h
    · exact se_plain cx (s_dT0 cx) rfl rfl fun _ => rfl
    · cases h
  | .bin op a b, sc, fb, e, h, X, cx => by
    unfold chkE at h
    split at h
    · simp only [Bool.and_eq_true, decide_eq_true_eq] at h
      obtain ⟨rfl, h1, h2⟩ := h
      exact se_plain cx (s_bin cx (sndE a h1 cx).pe (sndE b h2 cx).pe) rfl rfl fun _ => rfl
    · cases h
  | .neg a, sc, fb, e, h, X, cx => by
    unfold chkE at h
    split at h
    · exact se_plain cx (s_neg (sndE a h cx).pe) rfl rfl fun _ => rfl
    · cases h
  | .cmp op a b, sc, fb, e, h, X, cx => by
    unfold chkE at h
    split at h
    · simp only [Bool.and_eq_true, decide_eq_true_eq] at h
      obtain ⟨⟨rfl, h0⟩, h1, h2⟩ := h
      exact se_test (s_cmp cx (sndE a h1 cx).pe (sndE b h2 cx).pe h0) (s_tcmp cx (sndE a h1 cx).pe (sndE b h2 cx).pe h0) rfl rfl
    · cases h
  | .chain o1 o2 a b c, sc, fb, e, h, X, cx => by
    unfold chkE at h
    split at h
    · simp only [Bool.and_eq_true, decide_eq_true_eq, beq_iff_eq] at h
      obtain ⟨⟨rfl, rfl, h0⟩, h1, h2, h3⟩ := h
      exact se_test (s_chain cx (sndE a h1 cx).pe (sndE b h2 cx).pe (sndE c h3 cx).pe h0) (s_tchain cx (sndE a h1 cx).pe (sndE b h2 cx).pe (sndE c h3 cx).pe h0) rfl rfl
    · cases h
  | .isN ng a, sc, fb, e, h, X, cx => by
    unfold chkE at h
    split at h
    · simp only [Bool.and_eq_true, beq_iff_eq] at h
      obtain ⟨rfl, h1⟩ := h
      exact se_test (s_isN (sndE a h1 cx).pe) (s_tisN (sndE a h1 cx).pe) rfl rfl
    · simp only [Bool.and_eq_true] at h
      obtain ⟨rfl, h1⟩ := h
      exact se_test (s_isNN (sndE a h1 cx).pe) (s_tisNN (sndE a h1 cx).pe) rfl rfl
    · cases h
  | .and_ a b, sc, fb, e, h, X, cx => by
    unfold chkE at h
    split at h
    · simp only [Bool.and_eq_true] at h
      have h1 := sndE a h.1 cx
      have h2 := sndE b h.2 cx
      exact se_bool (s_and cx h1.pe h2.pe) (s_wand h1.pt (h2.pw rfl)) rfl
    · cases h
  | .or_ a b, sc, fb, e, h, X, cx => by
    unfold chkE at h
    split at h
    · simp only [Bool.and_eq_true] at h
      have h1 := sndE a h.1 cx
      have h2 := sndE b h.2 cx
      exact se_bool (s_or cx h1.pe h2.pe) (s_wor h1.pt (h2.pw rfl)) rfl
    · cases h
  | .one a, sc, fb, e, h, X, cx => by
    unfold chkE at h
    split at h
    · rename_i op x p
      have h1 := sndE a h cx
      cases op with
      | And => exact se_bool (s_one h1.pe) (s_wone h1.pt) rfl
      | Or => exact se_bool (s_one h1.pe) (s_wone' h1.pt) rfl
    · cases h
  | .not_ a, sc, fb, e, h, X, cx => by
    unfold chkE at h
    split at h
    · have h1 := sndE a h cx
      exact se_test (s_not cx h1.pe) (s_tnot h1.pt) rfl rfl
    · cases h
  | .ite t a b, sc, fb, e, h, X, cx => by
    unfold chkE at h
    split at h
    · simp only [Bool.and_eq_true] at h
      have h0 := sndE t h.1 cx
      have h1 := sndE a h.2.1 cx
      have h2 := sndE b h.2.2 cx
      exact se_test (s_ite h0.pt h1.pe h2.pe) (s_tite h0.pt h1.pt h2.pt) rfl rfl
    · cases h
  | .idx a i, sc, fb, e, h, X, cx => by
    unfold chkE at h
    split at h
    · simp only [Bool.and_eq_true] at h
      exact se_plain cx (s_idx cx (sndE a h.2.1 cx).pe (sndE i h.2.2 cx).pe h.1) rfl rfl fun _ => rfl
    · cases h
  | .slc a lo hi, sc, fb, e, h, X, cx => by
    unfold chkE at h
    split at h
    · simp only [Bool.and_eq_true] at h
      exact se_plain cx (s_slc cx (sndE a h.1 cx).pe (sndO lo h.2.1 cx) (sndO hi h.2.2 cx)) rfl rfl fun _ => rfl
    · cases h
  | .rev a, sc, fb, e, h, X, cx => by
    unfold chkE at h
    split at h
    · exact se_plain cx (s_rev cx (sndE a h cx).pe) rfl rfl fun _ => rfl
    · cases h
  | .call f es, sc, fb, e, h, X, cx => by
    unfold chkE at h
    split at h
    · rename_i x p1 xs p2
      simp only [Bool.and_eq_true, decide_eq_true_eq, beq_iff_eq] at h
      obtain ⟨⟨h1, h2, h3⟩, h4⟩ := h
      have q := sndEs es h4 cx
      cases es with
      | nil =>
        cases xs with
        | nil => exact se_plain cx (s_call0 cx h1 h2 h3) rfl rfl fun _ => rfl
        | cons x xs => unfold chkEs at h4; cases h4
      | cons e es =>
        cases xs with
        | nil => unfold chkEs at h4; cases h4
        | cons x xs =>
          have s := q.2
          unfold supA at s
          rw [Bool.and_eq_true] at s
          exact se_plain cx (s_call cx h1 rfl h2 h3 q.1 s.1 (supA_back s.2 _)) rfl rfl fun _ => rfl
    · cases h
  | .blt b es, sc, fb, e, h, X, cx => by
    unfold chkE at h
    split at h
    · rename_i x p1 xs p2
      simp only [Bool.and_eq_true, decide_eq_true_eq] at h
      obtain ⟨⟨rfl, h1, h2, h3⟩, h4⟩ := h
      have q := sndEs es h4 cx
      cases xs with
      | nil => cases h3
      | cons x xs =>
        cases es with
        | nil => unfold chkEs at h4; cases h4
        | cons e es =>
          have s := q.2
          unfold supA at s
          rw [Bool.and_eq_true] at s
          exact se_plain cx (s_blt cx b h1 h2 q.1 s.1 (supA_back s.2 _)) rfl rfl fun _ => rfl
    · cases h
  | .isi a ty, sc, fb, e, h, X, cx => by
    unfold chkE at h
    split at h
    · simp only [Bool.and_eq_true, decide_eq_true_eq] at h
      obtain ⟨⟨⟨rfl, rfl⟩, h1, h2, h3, h4, h5⟩, h6⟩ := h
      exact se_plain cx (s_isi cx (sndE a h6 cx).pe h5 h1 h2 h3 h4) rfl rfl fun _ => rfl
    · cases h
  | .meth m o es, sc, fb, e, h, X, cx => by
    unfold chkE at h
    split at h
    · rename_i x nm apos xs p2
      simp only [Bool.and_eq_true, decide_eq_true_eq] at h
      obtain ⟨⟨⟨rfl, h1⟩, h2, h3⟩, h4, h5⟩ := h
      have q := sndEs es h5 cx
      have ho := (sndE o h4 cx).pe
      cases es with
      | nil =>
        cases xs with
        | nil => exact se_plain cx (s_meth0 cx m ho (base_of h1 _ _ _) h2) rfl rfl fun _ => rfl
        | cons x xs => unfold chkEs at h5; cases h5
      | cons e es =>
        cases xs with
        | nil => unfold chkEs at h5; cases h5
        | cons x xs =>
          have s := q.2
          have hf := supA_few (pos := p2) s X.env h3
          unfold supA at s
          rw [Bool.and_eq_true] at s
          exact se_plain cx (s_meth cx m ho q.1 s.1 (base_of h1 _ _ _) hf h2 (supA_back s.2 _)) rfl rfl fun _ => rfl
    · cases h
  | .comp own elt tg it ifs, sc, fb, e, h, X, cx => by
    unfold chkE at h
    split at h
    · rename_i x t iter fs scope p
      simp only [Bool.and_eq_true] at h
      obtain ⟨⟨h1, h2, h3⟩, h4, h5, h6, h7⟩ := h
      have ok := blkOk_by h1
      rw [← cx.N, ← cx.sc] at ok
      have hi := sndI it tg t h4 cx
      have hs := sup_set h3 X.env
      have e1 := ownN_snd γ own
      have w := s_comp (C := C) (T := T) (it := it) (io := ifs) (ie := elt) (subB_of h2)
      have pe := (pe_lc (pos := p) cx.calm cx.nd hi ok (fun s H C cl fp => sndT tg h5 (cx.blk s H C cl fp)) (fun s H C cl fp => sndC ifs h6 (cx.blk s H C cl fp)) (fun s H C cl fp => (sndE elt h7 (cx.blk s H C cl fp)).pe) hs).weak (by rw [e1]; exact w)
      refine ⟨pe, s_truth cx pe fun _ => rfl, (fun q => by cases q), .inr ⟨⟨_, _, _, _, rfl⟩, fun i y py spos hy hyl hsw => st_asgC (ps_setLc cx.calm cx.nd (by rw [cx.N]; exact hy) (by rw [cx.sc]; exact hyl) hsw hi ok (fun s H C cl fp => sndT tg h5 (cx.blk s H C cl fp)) (fun s H C cl fp => sndC ifs h6 (cx.blk s H C cl fp)) (fun s H C cl fp => (sndE elt h7 (cx.blk s H C cl fp)).pe) hs) (by rw [e1]; exact w)⟩⟩
    · cases h
  | .compM own elt tg it ifs, sc, fb, e, h, X, cx => by
    unfold chkE at h
    split at h
    · rename_i x t iter fs scope p
      simp only [Bool.and_eq_true] at h
      obtain ⟨⟨h1, h2, h3⟩, h4, h5, h6, h7⟩ := h
      have ok := blkOk_by h1
      rw [← cx.N, ← cx.sc] at ok
      have hi := sndI it tg t h4 cx
      have hs := sup_set h3 X.env
      have e1 := ownN_snd γ own
      have w := s_compM (C := C) (T := T) (it := it) (io := ifs) (ie := elt) (subB_of h2)
      have pe := (pe_lc (pos := p) cx.calm cx.nd hi ok (fun s H C cl fp => sndT tg h5 (cx.blk s H C cl fp)) (fun s H C cl fp => sndC ifs h6 (cx.blk s H C cl fp)) (fun s H C cl fp => (sndE elt h7 (cx.blk s H C cl fp)).pe) hs).weak (by rw [e1]; exact w)
      refine ⟨pe, s_truth cx pe fun _ => rfl, (fun q => by cases q), .inr ⟨⟨_, _, _, _, rfl⟩, fun i y py spos hy hyl hsw => st_asgC (ps_setLc cx.calm cx.nd (by rw [cx.N]; exact hy) (by rw [cx.sc]; exact hyl) hsw hi ok (fun s H C cl fp => sndT tg h5 (cx.blk s H C cl fp)) (fun s H C cl fp => sndC ifs h6 (cx.blk s H C cl fp)) (fun s H C cl fp => (sndE elt h7 (cx.blk s H C cl fp)).pe) hs) (by rw [e1]; exact w)⟩⟩
    · cases h
  | .comp2 own elt tg it ifs own1 tg1 it1 ifs1, sc, fb, e, h, X, cx => by
    unfold chkE at h
    split at h
    · rename_i x t iter fs t1 iter1 fs1 scope p
      simp only [Bool.and_eq_true] at h
      obtain ⟨⟨⟨h1, h2, h3⟩, h8, h9, h10⟩, ⟨h4, h5, h6, h7⟩, h11, h12, h13⟩ := h
      have ok := blkOk_by h1
      rw [← cx.N, ← cx.sc] at ok
      have hi := sndI it tg t h4 cx
      have hs := sup_set h3 X.env
      have hs1 := fun env => sup_set h10 env
      have e1 := ownN_snd γ own
      have hv : ∀ i ∈ own1, i ∈ (ownN γ own).map (·.2) := by rw [e1]; exact subB_of h8
      have w := s_comp2 (C := C) (T := T) (it := it) (io := ifs) (ie := elt) (it1 := it1) (io1 := ifs1) (subB_of h2) (subB_of h9)
      have pe := (pe_lc2 (pos := p) cx.calm cx.nd hi ok hv (fun s H C cl fp => sndT tg h5 (cx.blk s H C cl fp)) (fun s H C cl fp => sndC ifs h6 (cx.blk s H C cl fp)) (fun s H C cl fp => sndI it1 tg1 t1 h11 (cx.blk s H C cl fp)) (fun s H C cl fp => sndT tg1 h12 (cx.blk s H C cl fp)) (fun s H C cl fp => sndC ifs1 h13 (cx.blk s H C cl fp)) (fun s H C cl fp => (sndE elt h7 (cx.blk s H C cl fp)).pe) hs hs1).weak (by rw [e1]; exact w)
      refine ⟨pe, s_truth cx pe fun _ => rfl, (fun q => by cases q), .inr ⟨⟨_, _, _, _, rfl⟩, fun i y py spos hy hyl hsw => st_asgC (ps_setLc2 cx.calm cx.nd (by rw [cx.N]; exact hy) (by rw [cx.sc]; exact hyl) hsw hi ok hv (fun s H C cl fp => sndT tg h5 (cx.blk s H C cl fp)) (fun s H C cl fp => sndC ifs h6 (cx.blk s H C cl fp)) (fun s H C cl fp => sndI it1 tg1 t1 h11 (cx.blk s H C cl fp)) (fun s H C cl fp => sndT tg1 h12 (cx.blk s H C cl fp)) (fun s H C cl fp => sndC ifs1 h13 (cx.blk s H C cl fp)) (fun s H C cl fp => (sndE elt h7 (cx.blk s H C cl fp)).pe) hs hs1) (by rw [e1]; exact w)⟩⟩
    · cases h
theorem sndEs : ∀ (ir : Es) {sc : Scope} {fb : Str → Bool} {es : List Expr}, chkEs γ ir sc fb es = true → ∀ {X : Cx}, CtxG X C T (k + 1) γ sc fb → PA X es (tEs C T ir) ∧ supA es = true
  | .nil, sc, fb, es, h, X, cx => by
    unfold chkEs at h
    split at h
    · exact ⟨s_nil, rfl⟩
    · cases h
  | .cons ie ies, sc, fb, es, h, X, cx => by
    unfold chkEs at h
    split at h
    · simp only [Bool.and_eq_true] at h
      obtain ⟨q1, q2⟩ := sndEs ies h.2.2 cx
      exact ⟨s_cons (sndE ie h.2.1 cx).pe q1 h.1, by unfold supA; rw [h.1, q2]; rfl⟩
    · cases h
theorem sndO : ∀ (ir : Eo) {sc : Scope} {fb : Str → Bool} {o : Option Expr}, chkO γ ir sc fb o = true → ∀ {X : Cx}, CtxG X C T (k + 1) γ sc fb → PO X o (tO C T ir)
  | .none, sc, fb, es, h, X, cx => by
    unfold chkO at h
    split at h
    · exact s_onone
    · cases h
  | .some ie, sc, fb, es, h, X, cx => by
    unfold chkO at h
    split at h
    · exact s_osome (sndE ie h cx).pe
    · cases h
theorem sndC : ∀ (ir : Eo) {sc : Scope} {fb : Str → Bool} {es : List Expr}, chkC γ ir sc fb es = true → ∀ {X : Cx}, CtxG X C T (k + 1) γ sc fb → PTs X es (tC? C T ir)
  | .none, sc, fb, es, h, X, cx => by
    unfold chkC at h
    split at h
    · exact c_none
    · cases h
  | .some ie, sc, fb, es, h, X, cx => by
    unfold chkC at h
    split at h
    · exact c_some (sndE ie h cx).pt
    · cases h
theorem sndI : ∀ (ir : It) (tg : Tg) (te : Expr) {sc : Scope} {fb : Str → Bool} {e : Expr}, chkI γ ir sc fb e = true → ∀ {X : Cx}, CtxG X C T (k + 1) γ sc fb → PI X te e (tI C T tg ir)
  | .seq a, tg, te, sc, fb, e, h, X, cx => by
    unfold chkI at h
    exact i_seq cx (sndE a h cx).pe
  | .range es, tg, te, sc, fb, e, h, X, cx => by
    unfold chkI at h
    split at h
    · rename_i x p1 xs p2
      simp only [Bool.and_eq_true, decide_eq_true_eq] at h
      obtain ⟨⟨rfl, h1, h2, h0⟩, h3⟩ := h
      have q := sndEs es h3 cx
      cases es with
      | nil => cases h0
      | cons a es =>
        cases xs with
        | nil => unfold chkEs at h3; cases h3
        | cons x xs =>
          have s := q.2
          unfold supA at s
          rw [Bool.and_eq_true] at s
          cases es with
          | nil =>
            cases xs with
            | nil => exact i_range1 cx h2 h1 q.1 s.1
            | cons y xs =>
              unfold chkEs at h3
              simp only [Bool.and_eq_true] at h3
              have h4 := h3.2.2
              unfold chkEs at h4; cases h4
          | cons b es =>
            cases xs with
            | nil =>
              unfold chkEs at h3
              simp only [Bool.and_eq_true] at h3
              have h4 := h3.2.2
              unfold chkEs at h4; cases h4
            | cons y xs =>
              have s2 := s.2
              unfold supA at s2
              rw [Bool.and_eq_true] at s2
              cases es with
              | nil =>
                cases xs with
                | nil => exact i_range2 cx h2 h1 q.1 s.1 s2.1
                | cons z xs =>
                  unfold chkEs at h3
                  simp only [Bool.and_eq_true] at h3
                  have h4 := h3.2.2
                  unfold chkEs at h4
                  simp only [Bool.and_eq_true] at h4
                  have h5 := h4.2.2
                  unfold chkEs at h5; cases h5
              | cons c es => unfold Es.len Es.len Es.len at h0; simp at h0
    · cases h
  | .zip a b, tg, te, sc, fb, e, h, X, cx => by unfold chkI at h; cases h
  | .enum a, tg, te, sc, fb, e, h, X, cx => by unfold chkI at h; cases h
end
end
end Q
set_option Elab.async false
set_option linter.all false
set_option maxRecDepth 100000
set_option maxHeartbeats 4000000
/-! P3c: the checker for statements. -/
namespace Q
open L2 PyProof.Rows PySem PySem.Spec
abbrev fbT : Str → Bool := fun _ => true
def asgB (sc : Scope) (te x : Expr) : Bool :=
  match te with
  | .Name y py => true
  | _ => noC x && (noStar te && swOff sc te x)
def parB (γ : Ga) (sc : Scope) : List Nat → List Expr → List Expr → Bool
  | [i, j], [.Name x _, .Name y _], [_, _] => ((decide (γ.N[i]? = some x) && decide (γ.N[j]? = some y)) && decide (i ≠ j)) && (decide (sc.names.lookup x = some .local) && decide (sc.names.lookup y = some .local))
  | [i, j, l], [.Name x _, .Name y _, .Name z _], [_, _, _] => ((decide (γ.N[i]? = some x) && (decide (γ.N[j]? = some y) && decide (γ.N[l]? = some z))) && (decide (i ≠ j) && (decide (i ≠ l) && decide (j ≠ l)))) &&
      (decide (sc.names.lookup x = some .local) && (decide (sc.names.lookup y = some .local) && decide (sc.names.lookup z = some .local)))
  | _, _, _ => false
def tsNames : List Expr → List Str
  | [] => []
  | .Name x _ :: r => x :: tsNames r
  | _ :: r => tsNames r
mutual
def chkS (γ : Ga) (sc : Scope) : Sm → Stmt → Bool
  | .asg tg e, s => match s with
    | .Assign [te] x _ => asgB sc te x && (chkE γ e sc fbT x && chkT γ tg sc fbT te)
    | _ => false
  | .par is es, s => match s with
    | .Assign [.Tuple ts _ _] (.Tuple vs _ _) _ => (swOn sc ts vs && decide (swNames sc ts = tsNames ts)) && (parB γ sc is ts vs && chkEs γ es sc fbT vs)
    | _ => false
  | .setI o i e, s => match s with
    | .Assign [.Subscript x y p1] z _ => (noC z && (swOff sc (.Subscript x y p1) z && sup y)) && (chkE γ o sc fbT x && (chkE γ i sc fbT y && chkE γ e sc fbT z))
    | _ => false
  | .aug i op e, s => match s with
    | .AugAssign (.Name x _) o y _ => (decide (o = opA op) && (augB op && (decide (γ.N[i]? = some x) && locB sc fbT x))) && chkE γ e sc fbT y
    | _ => false
  | .augI o i op e, s => match s with
    | .AugAssign (.Subscript x y _) q z _ => (decide (q = opA op) && (augB op && sup y)) && (chkE γ o sc fbT x && (chkE γ i sc fbT y && chkE γ e sc fbT z))
    | _ => false
  | .expr e, s => match s with
    | .Expr x _ => noC x && chkE γ e sc fbT x
    | _ => false
  | .ret e, s => match s with
    | .Return (some x) _ => chkE γ e sc fbT x
    | _ => false
  | .retN, s => match s with
    | .Return none _ => true
    | _ => false
  | .ifS t a b, s => match s with
    | .If c x y _ => chkE γ t sc fbT c && (chkSs γ sc a x && chkSs γ sc b y)
    | _ => false
  | .forS tg it body, s => match s with
    | .For te iter b [] _ => sup iter && (chkI γ it sc fbT iter && (chkT γ tg sc fbT te && chkSs γ sc body b))
    | _ => false
  | .whileS t body, s => match s with
    | .While c b [] _ => chkE γ t sc fbT c && chkSs γ sc body b
    | _ => false
  | .brk, s => match s with | .Break _ => true | _ => false
  | .cnt, s => match s with | .Continue _ => true | _ => false
  | .pass_, s => match s with | .Pass _ => true | _ => false
def chkSs (γ : Ga) (sc : Scope) : Sms → List Stmt → Bool
  | .nil, ss => match ss with | [] => true | _ => false
  | .cons a as, ss => match ss with | s :: ss => chkS γ sc a s && chkSs γ sc as ss | [] => false
end
section
variable {C : Cf} {T : Tb} {γ : Ga} {k : Nat} {sc : Scope}
theorem snd_par {is : List Nat} {es : Es} {ts vs : List Expr} {k1 k2 : Nat} {p1 p2 p3 : Pos} (hf : isFn sc = true) (h1 : swOn sc ts vs = true) (h2 : swNames sc ts = tsNames ts) (h : parB γ sc is ts vs = true) {X : Cx} (cx : CtxG X C T (k + 1) γ sc fbT)
    (ha : PA X vs (tEs C T es)) : PS X (.Assign [.Tuple ts k1 p1] (.Tuple vs k2 p2) p3) (tS C T (.par is es)) := by
  have hw := sw_on (k1 := k1) (k2 := k2) (p1 := p1) (p2 := p2) hf h1 X.env cx.sc
  rw [h2] at hw
  unfold parB at h
  split at h
  · simp only [Bool.and_eq_true, decide_eq_true_eq] at h
    obtain ⟨⟨⟨a1, a2⟩, a3⟩, a4, a5⟩ := h
    exact st_par2 cx a1 a2 a3 a4 a5 ha hw
  · simp only [Bool.and_eq_true, decide_eq_true_eq] at h
    obtain ⟨⟨⟨a1, a2, a3⟩, a4, a5, a6⟩, a7, a8, a9⟩ := h
    exact st_par3 cx a1 a2 a3 a4 a5 a6 a7 a8 a9 ha hw
  · cases h
mutual
theorem sndS (hf : isFn sc = true) : ∀ (ir : Sm) {s : Stmt}, chkS γ sc ir s = true → ∀ {X : Cx}, CtxG X C T (k + 1) γ sc fbT → PS X s (tS C T ir)
  | .asg tg e, s, h, X, cx => by
    unfold chkS at h
    split at h
    · rename_i te x pos
      simp only [Bool.and_eq_true] at h
      obtain ⟨h1, h2, h3⟩ := h
      have se := sndE e h2 cx
      have hg := sndT tg h3 cx
      unfold asgB at h1
      split at h1
      · rename_i y py
        have hl : noC x = true ∨ ∃ a b s p, x = .ListComp a b s p := by
          rcases se.pc with q | ⟨q, _⟩
          · exact .inl q
          · exact .inr q
        have sw := swB_of (y := y) (py := py) hf hl pos.line X.env cx.sc
        have hw : swappedStores [.Name y py] x X.env = pure none := sw_off hf (by cases x <;> rfl) X.env cx.sc
        cases hb : swB sc x y py with
        | false =>
          rw [hb] at sw
          exact st_asg se.pe hg sw hw rfl
        | true =>
          rw [hb] at sw
          rcases se.pc with q | ⟨q, pc⟩
          · unfold swB at hb
            cases x <;> first | cases hb | cases q
          · obtain ⟨a, b, s, p, rfl⟩ := q
            unfold swB at hb
            simp only [Bool.and_eq_true, decide_eq_true_eq] at hb
            cases tg with
            | name i =>
              unfold chkT at h3
              simp only [Bool.and_eq_true, decide_eq_true_eq] at h3
              exact pc i y py pos h3.1 hb.1.1 sw
            | tup ts => unfold chkT at h3; cases h3
      · rename_i hn
        simp only [Bool.and_eq_true] at h1
        obtain ⟨h4, h5, h6⟩ := h1
        exact st_asg se.pe hg (noC_sw h4 _ _ _) (sw_off hf h6 X.env cx.sc) (by rw [each_cons h5]; rfl)
    · cases h
  | .par is es, s, h, X, cx => by
    unfold chkS at h
    split at h
    · simp only [Bool.and_eq_true, decide_eq_true_eq] at h
      obtain ⟨⟨h1, h2⟩, h3, h4⟩ := h
      exact snd_par hf h1 h2 h3 cx (sndEs es h4 cx).1
    · cases h
  | .setI o i e, s, h, X, cx => by
    unfold chkS at h
    split at h
    · simp only [Bool.and_eq_true] at h
      obtain ⟨⟨h1, h2, h3⟩, h4, h5, h6⟩ := h
      exact st_setI cx (sndE o h4 cx).pe (sndE i h5 cx).pe (sndE e h6 cx).pe h3 (noC_sw h1 _ _ _) (sw_off hf h2 X.env cx.sc) rfl
    · cases h
  | .aug i op e, s, h, X, cx => by
    unfold chkS at h
    split at h
    · simp only [Bool.and_eq_true, decide_eq_true_eq] at h
      obtain ⟨⟨rfl, h1, h2, h3⟩, h4⟩ := h
      exact st_aug cx h1 h2 h3 (sndE e h4 cx).pe
    · cases h
  | .augI o i op e, s, h, X, cx => by
    unfold chkS at h
    split at h
    · simp only [Bool.and_eq_true, decide_eq_true_eq] at h
      obtain ⟨⟨rfl, h1, h2⟩, h4, h5, h6⟩ := h
      exact st_augI cx h1 (sndE o h4 cx).pe (sndE i h5 cx).pe (sndE e h6 cx).pe h2
    · cases h
  | .expr e, s, h, X, cx => by
    unfold chkS at h
    split at h
    · simp only [Bool.and_eq_true] at h
      exact st_expr (sndE e h.2 cx).pe (noC_sw h.1 _ _ _)
    · cases h
  | .ret e, s, h, X, cx => by
    unfold chkS at h
    split at h
    · exact st_ret (sndE e h cx).pe
    · cases h
  | .retN, s, h, X, cx => by
    unfold chkS at h
    split at h
    · exact st_retN
    · cases h
  | .ifS t a b, s, h, X, cx => by
    unfold chkS at h
    split at h
    · simp only [Bool.and_eq_true] at h
      exact st_if (sndE t h.1 cx).pt (sndSs hf a h.2.1 cx) (sndSs hf b h.2.2 cx)
    · cases h
  | .forS tg it body, s, h, X, cx => by
    unfold chkS at h
    split at h
    · simp only [Bool.and_eq_true] at h
      exact st_for cx (sndI it tg _ h.2.1 cx) (sndT tg h.2.2.1 cx) (sndSs hf body h.2.2.2 cx) (sup_set h.1 _)
    · cases h
  | .whileS t body, s, h, X, cx => by
    unfold chkS at h
    split at h
    · simp only [Bool.and_eq_true] at h
      exact st_while cx (sndE t h.1 cx).pt (sndSs hf body h.2 cx)
    · cases h
  | .brk, s, h, X, cx => by
    unfold chkS at h
    split at h
    · exact st_brk
    · cases h
  | .cnt, s, h, X, cx => by
    unfold chkS at h
    split at h
    · exact st_cnt
    · cases h
  | .pass_, s, h, X, cx => by
    unfold chkS at h
    split at h
    · exact st_pass
    · cases h
theorem sndSs (hf : isFn sc = true) : ∀ (ir : Sms) {ss : List Stmt}, chkSs γ sc ir ss = true → ∀ {X : Cx}, CtxG X C T (k + 1) γ sc fbT → PSs X ss (tSs C T ir)
  | .nil, s, h, X, cx => by
    unfold chkSs at h
    split at h
    · exact st_nil
    · cases h
  | .cons a as, s, h, X, cx => by
    unfold chkSs at h
    split at h
    · simp only [Bool.and_eq_true] at h
      exact st_cons (sndS hf a h.1 cx) (sndSs hf as h.2 cx)
    · cases h
end
end
end Q
set_option Elab.async false
set_option linter.all false
set_option maxRecDepth 100000
set_option maxHeartbeats 1000000
/-! P3d: defs. -/
namespace Q
open L2 PyProof.Rows PySem PySem.Spec
mutual
/-- no object of the store within -/
def closed : PV → Bool
  | .non => true | .bl _ => true | .int _ => true | .str _ => true
  | .tup xs => closedL xs
  | .lst xs => closedL xs
  | .dK _ xs => closedL xs
  | .dT _ xs => closedL xs
  | .ins _ xs => closedL xs
  | .ref _ => false
  | .scr xs => closedL xs
def closedL : List PV → Bool
  | [] => true
  | x :: xs => closed x && closedL xs
end
def allO (f : PV → Option PV) : List PV → Option (List PV)
  | [] => some []
  | x :: xs => match f x, allO f xs with | some y, some ys => some (y :: ys) | _, _ => none
/-- a value taken out of the store -/
def frz : Nat → Store → PV → Option PV
  | 0, _, p => if closed p = true then some p else none
  | d + 1, S, p => if closed p = true then some p else match p with
    | .tup xs => (allO (frz d S) xs).map .tup
    | .lst xs => (allO (frz d S) xs).map .lst
    | .ref n => match S[n]? with
      | some (.lst xs) => (allO (frz d S) xs).map .lst
      | some (.dK ks xs) => (allO (frz d S) xs).map (.dK ks)
      | some (.dT ks xs) => (allO (frz d S) xs).map (.dT ks)
      | some (.ins c xs) => (allO (frz d S) xs).map (.ins c)
      | none => none
    | _ => none
structure Df where
  name : Str
  P : List Str
  N : List Str
  st : Stmt
  ir : Sms
  /-- pure: from closed values to a closed value -/
  pure : Bool
def startP (n : Nat) (vs : List PV) : Nv := vs.map some ++ List.replicate (n - vs.length) none
def endR (fl : Fl) (S : Store) : Res PV := match fl with | .nx _ => .ok .non S | .rt v => .ok v S | _ => .stuck
/-- what a table of defs does, by the depth of the calls -/
noncomputable def callP (ds : List Df) (cs : Nat → PV) : Nat → Nat → List PV → Store → Res PV
  | 0, _, _, _ => .stuck
  | k + 1, f, vs, S => match ds[f]? with
    | none => .stuck
    | some d =>
      if d.pure = true then
        if closedL vs = true then ((evSs ⟨callP ds cs k, cs⟩ d.ir (startP d.N.length vs) []).bind endR).bind fun v S' => match frz 8 S' v with
          | some w => .ok w S
          | none => .stuck
        else .stuck
      else (evSs ⟨callP ds cs k, cs⟩ d.ir (startP d.N.length vs) S).bind endR
def flOf (ds : List Df) : List (Str × Nat × Nat) := (ds.zipIdx).map fun p => (p.1.name, p.2, p.1.P.length)
theorem flOf_mem {ds : List Df} {x : Str} {f n : Nat} (h : (x, f, n) ∈ flOf ds) : ∃ d, ds[f]? = some d ∧ d.name = x ∧ d.P.length = n := by
  unfold flOf at h
  obtain ⟨⟨d, i⟩, hm, e⟩ := List.mem_map.mp h
  cases e
  exact ⟨d, List.mem_zipIdx_iff_getElem?.mp hm, rfl, rfl⟩
section
variable {C : Cf}
mutual
theorem closed_rep {g g' : G} {H H' : Hp} (hn : ∀ a o, H a = some o → a ∉ g.bs → a ∉ g.F → H' a = some o ∧ a ∉ g'.bs ∧ a ∉ g'.F) : ∀ {x : PV} {v : V}, RepV C g H x v → closed x = true → RepV C g' H' x v
  | _, _, .non, _ => .non
  | _, _, .bl b, _ => .bl b
  | _, _, .int i, _ => .int i
  | _, _, .str i, _ => .str i
  | _, _, .tup h d n f l, c => .tup (hn _ _ h n f).1 d (hn _ _ h n f).2.1 (hn _ _ h n f).2.2 (closedL_rep hn l (by unfold closed at c; exact c))
  | _, _, .ktup h l, c => .ktup h (closedL_rep hn l (by unfold closed at c; exact c))
  | _, _, .lst h n f l, c => .lst (rd_of hn h n f).1 (rd_of hn h n f).2.1 (rd_of hn h n f).2.2 (closedL_rep hn l (by unfold closed at c; exact c))
  | _, _, .dK h e n f l, c => .dK (rd_of hn h n f).1 e (rd_of hn h n f).2.1 (rd_of hn h n f).2.2 (closedL_rep hn l (by unfold closed at c; exact c))
  | _, _, .dT h e n f q l, c => .dT (rd_of hn h n f).1 e (rd_of hn h n f).2.1 (rd_of hn h n f).2.2 (closedL_rep hn q (closed_keys _)) (closedL_rep hn l (by unfold closed at c; exact c))
  | _, _, .ins h e n f l, c => .ins (hn _ _ h n f).1 e (hn _ _ h n f).2.1 (hn _ _ h n f).2.2 (closedL_rep hn l (by unfold closed at c; exact c))
  | _, _, .ref h, c => by unfold closed at c; cases c
  | _, _, .scr h l, c => .scr (h.imp (fun q => rd_of hn q.1 q.2.1 q.2.2) id) (closedL_rep hn l (by unfold closed at c; exact c))
theorem closedL_rep {g g' : G} {H H' : Hp} (hn : ∀ a o, H a = some o → a ∉ g.bs → a ∉ g.F → H' a = some o ∧ a ∉ g'.bs ∧ a ∉ g'.F) : ∀ {xs : List PV} {vs : List V}, RepL C g H xs vs → closedL xs = true → RepL C g' H' xs vs
  | _, _, .nil, _ => .nil
  | _, _, .cons h l, c => by
    unfold closedL at c
    rw [Bool.and_eq_true] at c
    exact .cons (closed_rep hn h c.1) (closedL_rep hn l c.2)
theorem rd_of {g g' : G} {H H' : Hp} {a : Addr} {u : HO} (hn : ∀ a o, H a = some o → a ∉ g.bs → a ∉ g.F → H' a = some o ∧ a ∉ g'.bs ∧ a ∉ g'.F) (h : Rd H a u) (n : a ∉ g.bs) (f : a ∉ g.F) : Rd H' a u ∧ a ∉ g'.bs ∧ a ∉ g'.F := by
  rcases h with h | ⟨o, h⟩
  · exact ⟨.inl (hn _ _ h n f).1, (hn _ _ h n f).2⟩
  · exact ⟨.inr ⟨o, (hn _ _ h n f).1⟩, (hn _ _ h n f).2⟩
theorem closed_key : ∀ k : NestedKey, closed (ofKey k) = true
  | .none => by unfold ofKey closed; rfl
  | .num i => by unfold ofKey closed; rfl
  | .text x => by unfold ofKey closed; rfl
  | .tup ks => by unfold ofKey closed; exact closed_keys ks
theorem closed_keys : ∀ ks : List NestedKey, closedL (ofKeys ks) = true
  | [] => by unfold ofKeys closedL; rfl
  | k :: ks => by unfold ofKeys closedL; rw [closed_key k, closed_keys ks]; rfl
end
theorem allO_rep {f : PV → Option PV} {R : PV → V → Prop} {Q : PV → V → Prop} (hf : ∀ p v q, R p v → f p = some q → Q q v ∧ closed q = true) :
    ∀ {xs ys : List PV} {vs : List V}, Paired R xs vs → allO f xs = some ys → Paired Q ys vs ∧ closedL ys = true
  | [], ys, _, .nil, h => by unfold allO at h; cases h; exact ⟨.nil, by unfold closedL; rfl⟩
  | x :: xs, ys, _, .cons r l, h => by
    unfold allO at h
    split at h
    · rename_i y ys e1 e2
      cases h
      obtain ⟨q1, q2⟩ := hf _ _ _ r e1
      obtain ⟨q3, q4⟩ := allO_rep hf l e2
      exact ⟨.cons q1 q3, by unfold closedL; rw [q2, q4]; rfl⟩
    · cases h
theorem RepL.pair {g : G} {H : Hp} : ∀ {xs : List PV} {vs : List V}, RepL C g H xs vs → Paired (RepV C g H) xs vs
  | _, _, .nil => .nil
  | _, _, .cons h l => .cons h l.pair
theorem RepL.ofPair {g : G} {H : Hp} : ∀ {xs : List PV} {vs : List V}, Paired (RepV C g H) xs vs → RepL C g H xs vs
  | _, _, .nil => .nil
  | _, _, .cons h l => .cons h (RepL.ofPair l)
theorem paired_imp {R Q : PV → V → Prop} (h : ∀ p v, R p v → Q p v) : ∀ {xs : List PV} {vs : List V}, Paired R xs vs → Paired Q xs vs
  | _, _, .nil => .nil
  | _, _, .cons r l => .cons (h _ _ r) (paired_imp h l)
theorem frz_rep {g : G} {H : Hp} {S : Store} (rs : RelS C g S H) : ∀ (d : Nat) {p q : PV} {v : V}, RepV C g H p v → frz d S p = some q → RepV C ⟨[], g.F⟩ H q v ∧ closed q = true := by
  have cl : ∀ {p : PV} {v : V}, RepV C g H p v → closed p = true → RepV C ⟨[], g.F⟩ H p v := fun r c => closed_rep (g := g) (g' := ⟨[], g.F⟩) (H := H) (H' := H) (fun a o h n f => ⟨h, by simp, f⟩) r c
  intro d
  induction d with
  | zero =>
    intro p q v r e
    unfold frz at e
    split at e
    · rename_i c
      cases e
      exact ⟨cl r c, c⟩
    · cases e
  | succ d ih =>
    intro p q v r e
    have go : ∀ {xs ys : List PV} {vs : List V}, RepL C g H xs vs → allO (frz d S) xs = some ys → RepL C ⟨[], g.F⟩ H ys vs ∧ closedL ys = true := fun l e => by
      obtain ⟨q1, q2⟩ := allO_rep (f := frz d S) (R := RepV C g H) (Q := RepV C ⟨[], g.F⟩ H) (fun p v q r e => ih r e) l.pair e
      exact ⟨RepL.ofPair q1, q2⟩
    unfold frz at e
    split at e
    · rename_i c
      cases e
      exact ⟨cl r c, c⟩
    · split at e
      · rename_i xs
        obtain ⟨ys, e1, e2⟩ := Option.map_eq_some_iff.mp e
        subst e2
        cases r with
        | tup h d n f l => obtain ⟨l', c⟩ := go l e1; exact ⟨.tup h d (by simp) f l', by unfold closed; exact c⟩
        | ktup h l => obtain ⟨l', c⟩ := go l e1; exact ⟨.ktup h l', by unfold closed; exact c⟩
      · rename_i xs
        obtain ⟨ys, e1, e2⟩ := Option.map_eq_some_iff.mp e
        subst e2
        cases r with
        | lst rd n f l => obtain ⟨l', c⟩ := go l e1; exact ⟨.lst rd (by simp) f l', by unfold closed; exact c⟩
      · rename_i n
        cases r with
        | @ref n a ea =>
          have nF : a ∉ g.F := fun m => rs.sep a m (List.mem_of_getElem? ea)
          split at e
          · rename_i xs es
            obtain ⟨ys, e1, e2⟩ := Option.map_eq_some_iff.mp e
            subst e2
            obtain ⟨vs, h, l⟩ := rs.at es ea
            obtain ⟨l', c⟩ := go l e1; exact ⟨.lst (.inl h) (by simp) nF l', by unfold closed; exact c⟩
          · rename_i ks xs es
            obtain ⟨ys, e1, e2⟩ := Option.map_eq_some_iff.mp e
            subst e2
            obtain ⟨vs, h, hl, l⟩ := rs.at es ea
            obtain ⟨l', c⟩ := go l e1; exact ⟨.dK (.inl h) hl (by simp) nF l', by unfold closed; exact c⟩
          · rename_i ks xs es
            obtain ⟨ys, e1, e2⟩ := Option.map_eq_some_iff.mp e
            subst e2
            obtain ⟨L, h, hl, lk, l⟩ := rs.at es ea
            obtain ⟨l', c⟩ := go l e1
            exact ⟨.dT (.inl h) hl (by simp) nF (closedL_rep (g := g) (g' := ⟨[], g.F⟩) (H := H) (H' := H) (fun a o h n f => ⟨h, by simp, f⟩) lk (closed_keys (C := C) ks)) l', by unfold closed; exact c⟩
          · rename_i c xs es
            obtain ⟨ys, e1, e2⟩ := Option.map_eq_some_iff.mp e
            subst e2
            obtain ⟨dx, vs, h, hl, l⟩ := rs.at es ea
            obtain ⟨l', c⟩ := go l e1; exact ⟨.ins h hl (by simp) nF l', by unfold closed; exact c⟩
          · cases e
      · cases e
theorem startE {g : G} {H : Hp} {ps : List PV} {vs : List V} (N : List Str) (l : RepL C g H ps vs) : RelE C g H (startP N.length ps) (L2.start N vs) := by
  have hl := l.length
  refine ⟨by unfold startP L2.start; simp [hl], fun i p e => ?_⟩
  unfold startP at e
  unfold L2.start
  by_cases hi : i < ps.length
  · rw [List.getElem?_append_left (by simpa using hi), List.getElem?_map] at e
    rw [List.getElem?_append_left (by simpa [← hl] using hi), List.getElem?_map]
    obtain ⟨q, e1, e2⟩ := Option.map_eq_some_iff.mp e
    cases e2
    obtain ⟨v, e3, r⟩ := l.get e1
    exact ⟨v, by rw [e3]; rfl, r⟩
  · rw [List.getElem?_append_right (by simpa using hi)] at e
    obtain ⟨_, e⟩ := List.getElem?_eq_some_iff.mp e
    rw [List.getElem_replicate] at e
    cases e
/-- the whole of a def's facts but the program's -/
def dArgs (d : Df) : Arguments := L2.defArgs d.st
/-- one def does what its IR says -/
theorem body_ok {d : Df} {T : Tb} {F : List PV → Store → Res PV} (hF : ∀ vs S, F vs S = if d.pure = true then
        if closedL vs = true then ((evSs T d.ir (startP d.N.length vs) []).bind endR).bind fun v S' => match frz 8 S' v with
          | some w => .ok w S
          | none => .stuck
        else .stuck
      else (evSs T d.ir (startP d.N.length vs) S).bind endR) {n : Nat} {vs : List V} {H : Hp} {Q : VK} {E : XK} (h : spF C n F vs H Q E) : tSs C T d.ir { nx := fun _ H' => Q .non H', rt := Q } (L2.start d.N vs) H := by
  obtain ⟨_, g, S, ps, rs, l, h⟩ := h
  rw [hF] at h
  split at h
  · split at h
    · rename_i hc
      refine ⟨⟨[], g.bs ++ g.F⟩, [], startP d.N.length ps, ⟨by simp, rfl, fun a m => ?_, fun a _ => by simp, fun i o e => by simp at e⟩, ?_, ?_⟩
      · rcases List.mem_append.mp m with m | m
        · exact rs.tB m
        · exact rs.tF a m
      · exact startE _ (closedL_rep (fun a o h n f => ⟨h, by simp, fun m => (List.mem_append.mp m).elim n f⟩) l hc)
      · have h1 := h.bind.bind
        refine h1.mono fun fl S' h2 g' H' st rs' => ?_
        have kp : ∀ a o, H a = some o → H' a = some o := fun a o e => st.keepA a o e (by simp)
        have s0 : Step g g H H' := .mk' ⟨[], by simp, fun _ h => nomatch h⟩ rfl fun a o e _ => kp a o e
        have rs0 : RelS C g S H' := ⟨rs.nd, rs.len, fun a m => by
            cases q : H a with
            | none => exact absurd q (rs.tF a m)
            | some o => rw [kp a o q]; simp, rs.sep, fun i o e => by
            obtain ⟨a, ea, r⟩ := rs.obj i o e
            refine ⟨a, ea, r.mono s0.toMv ?_⟩
            cases q : H a with
            | none => exact absurd q r.some
            | some u => exact kp a u q⟩
        have out : ∀ p v, RepV C g' H' p v → (match frz 8 S' p with | some w => (Res.ok w S : Res PV) | none => .stuck).wp (VQ C g H Q) → Q v H' := by
          intro p v rv h3
          split at h3
          · rename_i w ew
            obtain ⟨q1, q2⟩ := frz_rep rs' 8 rv ew
            refine h3.ok g H' v s0 rs0 (closed_rep (g := ⟨[], g'.F⟩) (fun a o h n f => ⟨h, ?_, ?_⟩) q1 q2)
            · rw [st.Fe] at f; exact fun m => f (List.mem_append_left _ m)
            · rw [st.Fe] at f; exact fun m => f (List.mem_append_right _ m)
          · exact h3.stuck
        cases fl with
        | nx ρ' => exact fun σ' _ => out .non .non .non h2.ok
        | rt p => exact fun v rv => out p v rv h2.ok
        | bk _ => exact h2.stuck
        | ct _ => exact h2.stuck
    · exact h.stuck
  · refine ⟨g, S, _, rs, startE _ l, h.bind.mono fun fl S' h2 g' H' st rs' => ?_⟩
    cases fl with
    | nx ρ' => exact fun σ' _ => h2.ok g' H' .non st rs' .non
    | rt p => exact fun v rv => h2.ok g' H' v st rs' rv
    | bk _ => exact h2.stuck
    | ct _ => exact h2.stuck
end
/-- what is to be decided of one def -/
structure DfOk (ds : List Df) (bl : List Str) (gl : List (Str × Nat)) (d : Df) : Prop where
  sc : FnScope d.N d.P (L2.defScope d.st)
  ck : chkSs ⟨d.N, flOf ds, bl, gl⟩ (L2.defScope d.st) d.ir (L2.defBody d.st) = true
structure Env1 (C : Cf) (P : Program) (mg : Str → Option Value) (base : Heap) (ds : List Df) (cs : Nat → PV) (bl : List Str) (gl : List (Str × Nat)) : Prop where
  dfs : ∀ (i : Nat) (d : Df), ds[i]? = some d → DfOk ds bl gl d
  fns : ∀ (i : Nat) (d : Df), ds[i]? = some d → ∃ fa fd, mg d.name = some (.ref fa) ∧ FunD C.K d.name d.name (L2.defArgs d.st) (L2.defBody d.st) (L2.defScope d.st) [] [] fa fd ∧ Binds C.K fd d.P []
  blt : ∀ x, x ∈ bl → mg x = none
  glo : ∀ x j, (x, j) ∈ gl → ∃ u v, mg x = some u ∧ RelV v u ∧ ∀ g H, (∀ a ∈ g.bs, H a ≠ none) → RepV C g H (cs j) v
theorem table_ok {C : Cf} {P : Program} {mg : Str → Option Value} {base : Heap} {ds : List Df} {cs : Nat → PV} {bl : List Str} {gl : List (Str × Nat)} (e1 : Env1 C P mg base ds cs bl gl) :
    ∀ (k i : Nat) (d : Df) (fa : Addr) (fd : FuncData), ds[i]? = some d → FunD C.K d.name d.name (L2.defArgs d.st) (L2.defBody d.st) (L2.defScope d.st) [] [] fa fd →
      FnOk P C.w C.K mg base CX0 (k + 1) fa fd d.P (spF C d.P.length (callP ds cs k i))
  | 0, i, d, fa, fd, hd, F => by
    refine ⟨fun vs H Q E h => h.1, fun A outer s H args us vs Q E hr he hb hv hs => ?_⟩
    obtain ⟨_, g, S, ps, _, _, h⟩ := hs
    unfold callP at h
    exact h.stuck
  | k + 1, i, d, fa, fd, hd, F => by
    have ok := e1.dfs i d hd
    refine F.ok ok.sc (fun vs H Q E h => h.1) fun cdv A outer s H vs Q E hr hs => ⟨tSs C ⟨callP ds cs k, cs⟩ d.ir, PSs.nox ?_, ?_⟩
    · have cx : CtxG (cxOf CX0 P C.w C.K mg base d.N d.name (L2.defScope d.st) fa cdv A outer s H E).nox C ⟨callP ds cs k, cs⟩ (k + 1) ⟨d.N, flOf ds, bl, gl⟩ (L2.defScope d.st) fbT :=
        { K := rfl, N := rfl, nd := ok.sc.nd, sc := rfl, calm := rfl, w := rfl, xe := rfl, room := hr, fb := fun _ _ => rfl
          fns := fun x f n hm => by
            obtain ⟨d', h1, h2, h3⟩ := flOf_mem hm
            obtain ⟨fa', fd', m, F', B⟩ := e1.fns f d' h1
            refine ⟨fa', fd', d'.P, h3, by rw [← h2]; exact m, F'.kp, B, ?_⟩
            have := table_ok e1 k f d' fa' fd' h1 F'
            rw [← h3]
            exact this
          blt := e1.blt
          glo := e1.glo }
      have hf : isFn (L2.defScope d.st) = true := by unfold isFn; rw [ok.sc.kind]
      exact sndSs hf d.ir ok.ck cx
    · refine body_ok (fun vs S => ?_) hs
      rw [callP, hd]
end Q
set_option Elab.async false
set_option linter.all false
set_option maxRecDepth 100000
set_option maxHeartbeats 1000000
/-! P3e: from the head's facts to the table; the law's promise. -/
namespace Q
open L2 PyProof.Rows PySem PySem.Spec
def Df.dd (d : Df) : He.DefD := ⟨(d.name, none), d.name, d.name, L2.defArgs d.st, L2.defBody d.st, L2.defScope d.st, [], []⟩
def faOf (ds : List Df) (bl : List Str) (ex : List He.Fa) : List He.Fa := ds.map (fun d => .glo d.name) ++ bl.map .free ++ ex
def BindOk (d : Df) : Prop := ∀ (kV doc pm : Value) (an : Option Addr) (cdv ct : Value) (us : List Value), us.length = d.P.length →
  bindArgs (PySem.W.fnOf d.name d.name (L2.defArgs d.st) (L2.defBody d.st) (L2.defScope d.st) .none kV doc pm an cdv ct) ⟨us, []⟩ = pure (d.P.zip us)
theorem env1_of {K : PySem.W.Frag} {w : World} {P : Program} {mg : Str → Option Value} {base h : Heap} {ds : List Df} {cs : Nat → PV} {bl : List Str} {gl : List (Str × Nat)} {ex : List He.Fa} {ca : Nat → Addr} {cn : Nat → List Str}
    (X : K.In h) (G : h.Ns mainGlobals mg) (c : He.SaysD (faOf ds bl ex) (ds.map Df.dd) K) (hok : ∀ d ∈ ds, DfOk ds bl gl d) (hb : ∀ d ∈ ds, BindOk d)
    (hg : ∀ x j, (x, j) ∈ gl → ∃ u v, mg x = some u ∧ RelV v u ∧ ∀ g H, (∀ a ∈ g.bs, H a ≠ none) → RepV ⟨K, ca, cn, w⟩ g H (cs j) v) : Env1 ⟨K, ca, cn, w⟩ P mg base ds cs bl gl := by
  refine ⟨fun i d e => hok d (List.mem_of_getElem? e), fun i d e => ?_, fun x hx => ?_, hg⟩
  · have m := List.mem_of_getElem? e
    obtain ⟨fd, F⟩ := c.defs (d := d.dd) (List.mem_map_of_mem m)
    have f := c.facts (f := .glo d.name) (by unfold faOf; simp only [List.mem_append, List.mem_map]; exact .inl (.inl ⟨d, m, rfl⟩))
    exact ⟨_, fd, He.glo_ok X G f, F, F.bindsN (hb d m)⟩
  · exact He.free_ok X G (c.facts (f := .free x) (by unfold faOf; simp only [List.mem_append, List.mem_map]; exact .inl (.inr ⟨x, hx, rfl⟩)))
theorem ints_repl {C : Cf} {g : G} {H : Hp} : ∀ ns : List Int, RepL C g H (ns.map .int) (ns.map V.int)
  | [] => .nil
  | n :: ns => .cons (.int n) (ints_repl ns)
theorem law_sp {K : PySem.W.Frag} {w : World} {ca : Nat → Addr} {cn : Nat → List Str} {F : List PV → Store → Res PV} {H : Hp} {a : Addr} {ns : List Int} {E : XK} (hS : SqL K H a (ns.map V.int)) (h : ∃ S, F [.scr (ns.map .int)] [] = .ok (.bl true) S) :
    spF ⟨K, ca, cn, w⟩ 1 F [.ref a] H (fun v _ => v = .bl true) E := by
  obtain ⟨S', h⟩ := h
  refine ⟨rfl, ⟨[], []⟩, [], [.scr (ns.map .int)], ⟨by simp, rfl, fun a m => by simp at m, fun a _ => by simp, fun i o e => by simp at e⟩, .cons (.scr (hS.imp (fun r => ⟨r, by simp, by simp⟩) id) (ints_repl ns)) .nil, ?_⟩
  rw [h]
  refine ⟨_, _, rfl, fun g' H' v _ _ rv => ?_⟩
  cases rv
  rfl
/-- for the law's walk -/
theorem law_walk {K : PySem.W.Frag} {w : World} {P : Program} {mg : Str → Option Value} {h : Heap} {ds : List Df} {cs : PySem.W.Frag → Nat → PV} {bl : List Str} {gl : List (Str × Nat)} {ex : List He.Fa} {k i : Nat} {d : Df} {fa : Addr} {x : Str}
    (X : K.In h) (G : h.Ns mainGlobals mg) (c : He.SaysD (faOf ds bl ex) (ds.map Df.dd) K) (hok : ∀ d ∈ ds, DfOk ds bl gl d) (hb : ∀ d ∈ ds, BindOk d)
    (hg : ∀ x j, (x, j) ∈ gl → ∃ u v, mg x = some u ∧ RelV v u ∧ ∀ g H, (∀ a ∈ g.bs, H a ≠ none) → RepV ⟨K, fun _ => 0, fun _ => [], w⟩ g H (cs K j) v)
    (hd : ds[i]? = some d) (hP : d.P = [x]) (hmg : mg d.name = some (.ref fa)) (plain : ∀ (ns : List Int), ns.length ≤ 63 → ∃ S, callP ds (cs K) k i [.scr (ns.map .int)] [] = .ok (.bl true) S) :
    ∃ (K : PySem.W.Frag) (fd : FuncData) (sp : Sp), K.In h ∧ (∀ (s : Shared) (u : Value), BindsTo s fd ⟨[u], []⟩ [(x, u)]) ∧
        (∀ (H : Hp) (a : Addr) (ns : List Int), ns.length ≤ 63 → Only H → SqL K H a (ns.map V.int) → sp [.ref a] H (fun v _ => v = .bl true) fun _ _ _ => False) ∧
        ∀ base : Heap, K.In base → base.Ns mainGlobals mg → FnOk P w K mg base CX0 (k + 1) fa fd [x] sp := by
  have m := List.mem_of_getElem? hd
  obtain ⟨fd, F⟩ := c.defs (d := d.dd) (List.mem_map_of_mem m)
  have f := c.facts (f := .glo d.name) (by unfold faOf; simp only [List.mem_append, List.mem_map]; exact .inl (.inl ⟨d, m, rfl⟩))
  have e := (hmg.symm.trans (He.glo_ok X G f))
  have e2 : fa = He.ga K d.name := by cases e; rfl
  subst e2
  have b := FunD.bindsA (ps := d.P) F (hb d m)
  refine ⟨K, fd, spF ⟨K, fun _ => 0, fun _ => [], w⟩ d.P.length (callP ds (cs K) k i), X, fun s u => ?_, fun H a ns hl _ hS => ?_, fun base hK hN => ?_⟩
  · have := b s [u] (by rw [hP]; rfl)
    rw [hP] at this
    exact this
  · rw [hP]
    exact law_sp hS (plain ns hl)
  · rw [← hP]
    exact table_ok (env1_of (base := base) X G c hok hb hg) k i d _ fd hd F
end Q
set_option Elab.async false
set_option linter.all false
set_option maxRecDepth 100000
set_option maxHeartbeats 1000000
/-! P4: running the evaluator in plain Lean. -/
namespace Q
open L2 PyProof.Rows PySem PySem.Spec
/-! ### simp goes into the head alone -/
theorem bind_hd {α β : Type} {r r' : Res α} {f : α → Store → Res β} (h : r = r') : r.bind f = r'.bind f := by rw [h]
theorem wp_hd {α : Type} {r r' : Res α} {f : α → Store → Prop} (h : r = r') : r.wp f = r'.wp f := by rw [h]
theorem ite_hd {α : Sort _} {c c' : Prop} {i : Decidable c} {i' : Decidable c'} {a b : α} (h : c = c') : (@ite α c i a b) = (@ite α c' i' a b) := by subst h; congr

@[simp] theorem wp_ok {α : Type} {a : α} {S : Store} {R : α → Store → Prop} : (Res.ok a S).wp R ↔ R a S := ⟨fun h => h.ok, fun h => ⟨_, _, rfl, h⟩⟩
@[simp] theorem wp_stuck {α : Type} {R : α → Store → Prop} : (Res.stuck : Res α).wp R ↔ False := ⟨fun h => h.stuck, fun h => h.elim⟩
theorem wp_bind {α β : Type} {r : Res α} {f : α → Store → Res β} {R : β → Store → Prop} : (r.bind f).wp R ↔ r.wp fun a S => (f a S).wp R := ⟨fun h => h.bind, fun h => by
  obtain ⟨a, S, e, q⟩ := h
  rw [e]; exact q⟩
theorem wp_eq {α : Type} {r : Res α} {a : α} {S : Store} : r = .ok a S ↔ r.wp fun b S' => b = a ∧ S' = S := ⟨fun h => by rw [h]; exact ⟨_, _, rfl, rfl, rfl⟩, fun ⟨_, _, e, h1, h2⟩ => by rw [e, h1, h2]⟩
theorem wp_of {α : Type} {r : Res α} {R : α → Store → Prop} (a : α) (S : Store) (e : r = .ok a S) (h : R a S) : r.wp R := ⟨a, S, e, h⟩
/-! ### loops -/
theorem still_none {xs : List PV} {S : Store} : Itm.still ⟨none, xs⟩ S := fun n o e => by cases e
section
variable {turn : PV → Nv → Store → Res Fl} {R : Nat → Nv → Store → Prop} {Qr : PV → Store → Prop}
theorem forR_wp {xs : List PV} (hs : ∀ i x ρ S, xs[i]? = some x → R i ρ S → (turn x ρ S).wp fun fl S' => match fl with | .nx ρ' => R (i + 1) ρ' S' | .ct ρ' => R (i + 1) ρ' S' | .rt v => Qr v S' | .bk ρ' => R xs.length ρ' S') :
    ∀ {ρ : Nv} {S : Store}, R 0 ρ S → (forR ⟨none, xs⟩ turn xs ρ S).wp fun fl S' => match fl with | .nx ρ' => R xs.length ρ' S' | .rt v => Qr v S' | _ => False := by
  have go : ∀ (ys zs : List PV), xs = ys ++ zs → ∀ {ρ : Nv} {S : Store}, R ys.length ρ S → (forR ⟨none, xs⟩ turn zs ρ S).wp fun fl S' => match fl with | .nx ρ' => R xs.length ρ' S' | .rt v => Qr v S' | _ => False := by
    intro ys zs
    induction zs generalizing ys with
    | nil =>
      intro e ρ S h
      unfold forR
      rw [if_pos still_none]
      rw [wp_ok]
      rw [e, List.append_nil]; exact h
    | cons z zs ih =>
      intro e ρ S h
      unfold forR
      rw [if_pos still_none, wp_bind]
      refine (hs ys.length z ρ S (by rw [e, List.getElem?_append_right (Nat.le_refl _)]; simp) h).mono fun fl S' q => ?_
      have e2 : xs = (ys ++ [z]) ++ zs := by rw [e]; simp
      cases fl with
      | nx ρ' => exact ih (ys ++ [z]) e2 (by simpa using q)
      | ct ρ' => exact ih (ys ++ [z]) e2 (by simpa using q)
      | rt v => exact wp_ok.mpr q
      | bk ρ' => exact wp_ok.mpr q
  intro ρ S h
  exact go [] xs rfl h
end
section
variable {turn : PV → List PV → Store → Res (List PV)} {R : Nat → List PV → Store → Prop}
theorem compR_wp {xs : List PV} (hs : ∀ i x acc S, xs[i]? = some x → R i acc S → (turn x acc S).wp (R (i + 1))) :
    ∀ {acc : List PV} {S : Store}, R 0 acc S → (compR ⟨none, xs⟩ turn xs acc S).wp (R xs.length) := by
  have go : ∀ (ys zs : List PV), xs = ys ++ zs → ∀ {acc : List PV} {S : Store}, R ys.length acc S → (compR ⟨none, xs⟩ turn zs acc S).wp (R xs.length) := by
    intro ys zs
    induction zs generalizing ys with
    | nil =>
      intro e acc S h
      unfold compR
      rw [if_pos still_none, wp_ok]
      rw [e, List.append_nil]; exact h
    | cons z zs ih =>
      intro e acc S h
      unfold compR
      rw [if_pos still_none, wp_bind]
      refine (hs ys.length z acc S (by rw [e, List.getElem?_append_right (Nat.le_refl _)]; simp) h).mono fun fl S' q => ?_
      exact ih (ys ++ [z]) (by rw [e]; simp) (by simpa using q)
  intro acc S h
  exact go [] xs rfl h
/-- each turn adds one item, the store stays -/
theorem compR_map {α : Type} {xs : List α} {f : α → PV} {g : α → PV} {S : Store} (hs : ∀ x acc, x ∈ xs → acc.length < xs.length → turn (f x) acc S = .ok (acc ++ [g x]) S) : compR ⟨none, xs.map f⟩ turn (xs.map f) [] S = .ok (xs.map g) S := by
  rw [wp_eq]
  refine (compR_wp (xs := xs.map f) (R := fun i acc S' => acc = (xs.take i).map g ∧ S' = S) (fun i x acc S' e ⟨h1, h2⟩ => ?_) ⟨by simp, rfl⟩).mono fun acc S' ⟨h1, h2⟩ => ⟨by rw [h1]; simp, h2⟩
  rw [List.getElem?_map] at e
  obtain ⟨a, e1, e2⟩ := Option.map_eq_some_iff.mp e
  obtain ⟨hi, e3⟩ := List.getElem?_eq_some_iff.mp e1
  subst h1 h2 e2
  rw [hs a _ (List.mem_of_getElem? e1) (by simp [List.length_take]; omega), wp_ok]
  refine ⟨?_, rfl⟩
  rw [List.take_add_one, e1]
  simp
/-- with a test -/
theorem compR_filter {α : Type} {xs : List α} {f : α → PV} {g : α → PV} {p : α → Bool} {S : Store} (hs : ∀ x acc, x ∈ xs → acc.length < xs.length → turn (f x) acc S = .ok (if p x = true then acc ++ [g x] else acc) S) : compR ⟨none, xs.map f⟩ turn (xs.map f) [] S = .ok ((xs.filter p).map g) S := by
  rw [wp_eq]
  refine (compR_wp (xs := xs.map f) (R := fun i acc S' => acc = ((xs.take i).filter p).map g ∧ S' = S) (fun i x acc S' e ⟨h1, h2⟩ => ?_) ⟨by simp, rfl⟩).mono fun acc S' ⟨h1, h2⟩ => ⟨by rw [h1]; simp, h2⟩
  rw [List.getElem?_map] at e
  obtain ⟨a, e1, e2⟩ := Option.map_eq_some_iff.mp e
  obtain ⟨hi, e3⟩ := List.getElem?_eq_some_iff.mp e1
  subst h1 h2 e2
  have hl : (((xs.take i).filter p).map g).length < xs.length := by
    have := List.length_filter_le p (xs.take i)
    rw [List.length_map]
    rw [List.length_take] at this
    omega
  rw [hs a _ (List.mem_of_getElem? e1) hl, wp_ok]
  refine ⟨?_, rfl⟩
  rw [List.take_add_one, e1]
  cases hp : p a <;> simp [hp]
end
section
variable {t : Nv → Store → Res Bool} {b : Nv → Store → Res Fl} {I : Nv → Store → Prop} {μ : Nv → Store → Nat} {Qn : Nv → Store → Prop} {Qr : PV → Store → Prop}
theorem whileR_wp (hs : ∀ ρ S, I ρ S → (t ρ S).wp fun c S1 => match c with
    | false => Qn ρ S1
    | true => (b ρ S1).wp fun fl S2 => match fl with | .nx ρ' => I ρ' S2 ∧ μ ρ' S2 < μ ρ S | .ct ρ' => I ρ' S2 ∧ μ ρ' S2 < μ ρ S | .rt v => Qr v S2 | .bk ρ' => Qn ρ' S2) {ρ : Nv} {S : Store} (h : I ρ S) :
    (whileR t b ρ S).wp fun fl S' => match fl with | .nx ρ' => Qn ρ' S' | .rt v => Qr v S' | _ => False := by
  have go : ∀ (n : Nat) (ρ : Nv) (S : Store), I ρ S → μ ρ S < n → ∃ r, whileN t b n ρ S = some r ∧ r.wp fun fl S' => match fl with | .nx ρ' => Qn ρ' S' | .rt v => Qr v S' | _ => False := by
    intro n
    induction n with
    | zero => intro ρ S h hm; omega
    | succ n ih =>
      intro ρ S h hm
      obtain ⟨c, S1, e1, q⟩ := hs ρ S h
      unfold whileN
      rw [e1]
      cases c with
      | false => exact ⟨_, rfl, wp_ok.mpr q⟩
      | true =>
        obtain ⟨fl, S2, e2, q2⟩ := q
        simp only
        rw [e2]
        cases fl with
        | nx ρ' => exact ih ρ' S2 q2.1 (by have := q2.2; omega)
        | ct ρ' => exact ih ρ' S2 q2.1 (by have := q2.2; omega)
        | rt v => exact ⟨_, rfl, wp_ok.mpr q2⟩
        | bk ρ' => exact ⟨_, rfl, wp_ok.mpr q2⟩
  obtain ⟨r, e, q⟩ := go _ ρ S h (Nat.lt_succ_self _)
  rw [whileR_eq e]
  exact q
end
/-! ### by values -/
theorem intsOf_map : ∀ ns : List Int, intsOf (ns.map .int) = some ns
  | [] => rfl
  | n :: ns => by rw [List.map_cons, intsOf, intsOf_map ns]; rfl
theorem boolsOf_map : ∀ ns : List Bool, boolsOf (ns.map .bl) = some ns
  | [] => rfl
  | n :: ns => by rw [List.map_cons, boolsOf, boolsOf_map ns]; rfl
theorem closedL_ints : ∀ ns : List Int, closedL (ns.map .int) = true
  | [] => rfl
  | n :: ns => by rw [List.map_cons, closedL, closedL_ints ns]; rfl
theorem closedL_append : ∀ xs ys : List PV, closedL (xs ++ ys) = (closedL xs && closedL ys)
  | [], ys => by simp [closedL]
  | x :: xs, ys => by rw [List.cons_append, closedL, closedL, closedL_append xs ys, Bool.and_assoc]
theorem closedL_map {α : Type} {f : α → PV} (h : ∀ x, closed (f x) = true) : ∀ xs : List α, closedL (xs.map f) = true
  | [] => rfl
  | x :: xs => by rw [List.map_cons, closedL, h x, closedL_map h xs]; rfl
theorem frz_closed {S : Store} {p : PV} (h : closed p = true) (n : Nat) : frz n S p = some p := by
  cases n <;> (unfold frz; rw [if_pos h])
end Q
set_option Elab.async false
set_option linter.all false
set_option maxRecDepth 100000
set_option maxHeartbeats 1000000
/-! P4b: the evaluator's equations at written-out environments. -/
namespace Q
open L2 PyProof.Rows PySem PySem.Spec
variable {T : Tb} {v : Option PV} {ρ : Nv} {S : Store}
@[simp] theorem big_val : (big : Nat) = 16777216 := Eq.trans rfl rfl
/-! ### names -/
def varK (o : Option (Option PV)) (S : Store) : Res PV := match o with | some (some v) => .ok v S | _ => .stuck
@[simp] theorem varK_some {p : PV} : varK (some (some p)) S = .ok p S := Eq.trans rfl rfl
@[simp] theorem x_var {i : Nat} : evE T (.var i) (v :: ρ) S = varK ((v :: ρ)[i]?) S := by unfold evE; rfl
@[simp] theorem x_non : evE T .non ρ S = .ok .non S := by unfold evE; rfl
@[simp] theorem x_bl {b : Bool} : evE T (.bl b) ρ S = .ok (.bl b) S := by unfold evE; rfl
@[simp] theorem x_int {b : Int} : evE T (.int b) ρ S = .ok (.int b) S := by unfold evE; rfl
@[simp] theorem x_str {b : Str} : evE T (.str b) ρ S = .ok (.str b) S := by unfold evE; rfl
@[simp] theorem x_glo {b : Nat} : evE T (.glo b) ρ S = .ok (T.cs b) S := by unfold evE; rfl
/-! ### displays -/
@[simp] theorem x_tup {es : Es} : evE T (.tup es) (v :: ρ) S = (evEs T es (v :: ρ) S).bind tupN := by rw [evE]
@[simp] theorem x_lst {mu : Bool} {es : Es} : evE T (.lst mu es) (v :: ρ) S = (evEs T es (v :: ρ) S).bind (alloc mu) := by rw [evE]
@[simp] theorem x_dK0 {mu : Bool} : evE T (.dK0 mu) ρ S = if mu = true then .ok (.ref S.length) (S ++ [.dK [] []]) else .ok (.dK [] []) S := by rw [evE]
@[simp] theorem x_dT0 {mu : Bool} : evE T (.dT0 mu) ρ S = if mu = true then .ok (.ref S.length) (S ++ [.dT [] []]) else .ok (.dT [] []) S := by rw [evE]
@[simp] theorem x_nil : evEs T .nil ρ S = .ok [] S := by rw [evEs]
noncomputable def consK (T : Tb) (es : Es) (ρ : Nv) (x : PV) (S1 : Store) : Res (List PV) := (evEs T es ρ S1).bind fun xs S2 => .ok (x :: xs) S2
@[simp] theorem x_cons {e : E} {es : Es} : evEs T (.cons e es) (v :: ρ) S = (evE T e (v :: ρ) S).bind (consK T es (v :: ρ)) := by rw [evEs]; rfl
@[simp] theorem x_consK {es : Es} {x : PV} : consK T es ρ x S = (evEs T es ρ S).bind fun xs S2 => .ok (x :: xs) S2 := Eq.trans rfl rfl
/-! ### operations -/
noncomputable def binK (T : Tb) (op : Bo) (b : E) (ρ : Nv) (x : PV) (S1 : Store) : Res PV := (evE T b ρ S1).bind (binP op x)
@[simp] theorem x_bin {op : Bo} {a b : E} : evE T (.bin op a b) (v :: ρ) S = (evE T a (v :: ρ) S).bind (binK T op b (v :: ρ)) := by rw [evE]; rfl
@[simp] theorem x_binK {op : Bo} {b : E} {x : PV} : binK T op b ρ x S = (evE T b ρ S).bind (binP op x) := Eq.trans rfl rfl
def negP (x : PV) (S1 : Store) : Res PV := match x with | .int i => .ok (.int (-i)) S1 | _ => .stuck
@[simp] theorem negP_int {i : Int} : negP (.int i) S = .ok (.int (-i)) S := Eq.trans rfl rfl
@[simp] theorem x_neg {a : E} : evE T (.neg a) (v :: ρ) S = (evE T a (v :: ρ) S).bind negP := by rw [evE]; rfl
noncomputable def cmpK (T : Tb) (op : Co) (b : E) (ρ : Nv) (x : PV) (S1 : Store) : Res PV := (evE T b ρ S1).bind (cmpP op x)
@[simp] theorem x_cmp {op : Co} {a b : E} : evE T (.cmp op a b) (v :: ρ) S = (evE T a (v :: ρ) S).bind (cmpK T op b (v :: ρ)) := by rw [evE]; rfl
@[simp] theorem x_cmpK {op : Co} {b : E} {x : PV} : cmpK T op b ρ x S = (evE T b ρ S).bind (cmpP op x) := Eq.trans rfl rfl
noncomputable def chn2 (T : Tb) (o2 : Co) (c : E) (ρ : Nv) (y : PV) (r : PV) (S3 : Store) : Res PV := match r with
      | .bl true => (evE T c ρ S3).bind (cmpP o2 y)
      | .bl false => .ok (.bl false) S3
      | _ => .stuck
@[simp] theorem chn2_t {o2 : Co} {c : E} {y : PV} : chn2 T o2 c ρ y (.bl true) S = (evE T c ρ S).bind (cmpP o2 y) := Eq.trans rfl rfl
@[simp] theorem chn2_f {o2 : Co} {c : E} {y : PV} : chn2 T o2 c ρ y (.bl false) S = .ok (.bl false) S := Eq.trans rfl rfl
noncomputable def chn1 (T : Tb) (o1 o2 : Co) (b c : E) (ρ : Nv) (x : PV) (S1 : Store) : Res PV := (evE T b ρ S1).bind fun y S2 => (cmpP o1 x y S2).bind (chn2 T o2 c ρ y)
@[simp] theorem x_chain {o1 o2 : Co} {a b c : E} : evE T (.chain o1 o2 a b c) (v :: ρ) S = (evE T a (v :: ρ) S).bind (chn1 T o1 o2 b c (v :: ρ)) := by rw [evE]; rfl
@[simp] theorem x_chn1 {o1 o2 : Co} {b c : E} {x : PV} : chn1 T o1 o2 b c ρ x S = (evE T b ρ S).bind fun y S2 => (cmpP o1 x y S2).bind (chn2 T o2 c ρ y) := Eq.trans rfl rfl
@[simp] theorem x_isN {ng : Bool} {a : E} : evE T (.isN ng a) (v :: ρ) S = (evE T a (v :: ρ) S).bind fun x S1 => .ok (.bl (xor ng (isNon x))) S1 := by rw [evE]
/-! ### truth -/
noncomputable def andK (T : Tb) (b : E) (ρ : Nv) (x : PV) (S1 : Store) : Res PV := match truthP S1 x with
      | some true => evE T b ρ S1
      | some false => .ok x S1
      | none => .stuck
noncomputable def orK (T : Tb) (b : E) (ρ : Nv) (x : PV) (S1 : Store) : Res PV := match truthP S1 x with
      | some true => .ok x S1
      | some false => evE T b ρ S1
      | none => .stuck
def notK (x : PV) (S1 : Store) : Res PV := match truthP S1 x with
      | some b => .ok (.bl (!b)) S1
      | none => .stuck
noncomputable def iteK (T : Tb) (a b : E) (ρ : Nv) (x : PV) (S1 : Store) : Res PV := match truthP S1 x with
      | some true => evE T a ρ S1
      | some false => evE T b ρ S1
      | none => .stuck
@[simp] theorem x_and {a b : E} : evE T (.and_ a b) (v :: ρ) S = (evE T a (v :: ρ) S).bind (andK T b (v :: ρ)) := by rw [evE]; rfl
@[simp] theorem x_or {a b : E} : evE T (.or_ a b) (v :: ρ) S = (evE T a (v :: ρ) S).bind (orK T b (v :: ρ)) := by rw [evE]; rfl
@[simp] theorem x_one {a : E} : evE T (.one a) (v :: ρ) S = evE T a (v :: ρ) S := by rw [evE]
@[simp] theorem x_not {a : E} : evE T (.not_ a) (v :: ρ) S = (evE T a (v :: ρ) S).bind notK := by rw [evE]; rfl
@[simp] theorem x_ite {t a b : E} : evE T (.ite t a b) (v :: ρ) S = (evE T t (v :: ρ) S).bind (iteK T a b (v :: ρ)) := by rw [evE]; rfl
@[simp] theorem andK_t {b : E} : andK T b ρ (.bl true) S = evE T b ρ S := Eq.trans rfl rfl
@[simp] theorem andK_f {b : E} : andK T b ρ (.bl false) S = .ok (.bl false) S := Eq.trans rfl rfl
@[simp] theorem orK_t {b : E} : orK T b ρ (.bl true) S = .ok (.bl true) S := Eq.trans rfl rfl
@[simp] theorem orK_f {b : E} : orK T b ρ (.bl false) S = evE T b ρ S := Eq.trans rfl rfl
@[simp] theorem notK_b {b : Bool} : notK (.bl b) S = .ok (.bl (!b)) S := Eq.trans rfl rfl
@[simp] theorem iteK_t {a b : E} : iteK T a b ρ (.bl true) S = evE T a ρ S := Eq.trans rfl rfl
@[simp] theorem iteK_f {a b : E} : iteK T a b ρ (.bl false) S = evE T b ρ S := Eq.trans rfl rfl
@[simp] theorem truthP_bl {b : Bool} : truthP S (.bl b) = some b := Eq.trans rfl rfl
@[simp] theorem truthP_non : truthP S .non = some false := Eq.trans rfl rfl
@[simp] theorem truthP_int {i : Int} : truthP S (.int i) = some (i != 0) := Eq.trans rfl rfl
@[simp] theorem truthP_tup {xs : List PV} : truthP S (.tup xs) = some (!xs.isEmpty) := Eq.trans rfl rfl
@[simp] theorem truthP_lst {xs : List PV} : truthP S (.lst xs) = some (!xs.isEmpty) := Eq.trans rfl rfl
/-! ### subscripts, calls -/
noncomputable def idxK (T : Tb) (b : E) (ρ : Nv) (x : PV) (S1 : Store) : Res PV := (evE T b ρ S1).bind (idxP x)
@[simp] theorem x_idx {a b : E} : evE T (.idx a b) (v :: ρ) S = (evE T a (v :: ρ) S).bind (idxK T b (v :: ρ)) := by rw [evE]; rfl
@[simp] theorem x_idxK {b : E} {x : PV} : idxK T b ρ x S = (evE T b ρ S).bind (idxP x) := Eq.trans rfl rfl
@[simp] theorem x_slc {a : E} {lo hi : Eo} : evE T (.slc a lo hi) (v :: ρ) S = (evE T a (v :: ρ) S).bind fun x S1 => (evO T lo (v :: ρ) S1).bind fun l S2 => (evO T hi (v :: ρ) S2).bind fun h S3 => slcP x l h S3 := by rw [evE]
@[simp] theorem x_onone : evO T .none ρ S = .ok none S := by rw [evO]
def oK (x : PV) (S1 : Store) : Res (Option Int) := match x with | .int i => .ok (some i) S1 | _ => .stuck
@[simp] theorem oK_int {i : Int} : oK (.int i) S = .ok (some i) S := Eq.trans rfl rfl
@[simp] theorem x_osome {e : E} : evO T (.some e) (v :: ρ) S = (evE T e (v :: ρ) S).bind oK := by rw [evO]; rfl
def revK (x : PV) (S1 : Store) : Res PV := match lstOf S1 x with
      | some xs => .ok (.lst xs.reverse) S1
      | none => .stuck
@[simp] theorem x_rev {a : E} : evE T (.rev a) (v :: ρ) S = (evE T a (v :: ρ) S).bind revK := by rw [evE]; rfl
@[simp] theorem x_call {f : Nat} {es : Es} : evE T (.call f es) (v :: ρ) S = (evEs T es (v :: ρ) S).bind (T.F f) := by rw [evE]
@[simp] theorem x_blt {b : Bi} {es : Es} : evE T (.blt b es) (v :: ρ) S = (evEs T es (v :: ρ) S).bind (bltP b) := by rw [evE]
def isiK (ty : Ty) (x : PV) (S1 : Store) : Res PV := match isiP x ty S1 with | some b => .ok (.bl b) S1 | none => .stuck
@[simp] theorem x_isi {a : E} {ty : Ty} : evE T (.isi a ty) (v :: ρ) S = (evE T a (v :: ρ) S).bind (isiK ty) := by rw [evE]; rfl
noncomputable def methK (T : Tb) (m : Me) (es : Es) (ρ : Nv) (x : PV) (S1 : Store) : Res PV := if methOk m x S1 = true then (evEs T es ρ S1).bind (methP m x) else .stuck
@[simp] theorem x_meth {m : Me} {o : E} {es : Es} : evE T (.meth m o es) (v :: ρ) S = (evE T o (v :: ρ) S).bind (methK T m es (v :: ρ)) := by rw [evE]; rfl
@[simp] theorem x_methK {m : Me} {x : PV} {es : Es} : methK T m es ρ x S = if methOk m x S = true then (evEs T es ρ S).bind (methP m x) else .stuck := Eq.trans rfl rfl
/-! ### walks -/
@[simp] theorem x_seq {e : E} : evI T (.seq e) (v :: ρ) S = (evE T e (v :: ρ) S).bind walkP := by rw [evI]
@[simp] theorem x_range {es : Es} : evI T (.range es) (v :: ρ) S = (evEs T es (v :: ρ) S).bind rangeP := by rw [evI]
@[simp] theorem walkP_tup {xs : List PV} : walkP (.tup xs) S = .ok ⟨none, xs⟩ S := Eq.trans rfl rfl
@[simp] theorem walkP_lst {xs : List PV} : walkP (.lst xs) S = .ok ⟨none, xs⟩ S := Eq.trans rfl rfl
@[simp] theorem walkP_scr {xs : List PV} : walkP (.scr xs) S = .ok ⟨none, xs⟩ S := Eq.trans rfl rfl
/-- a comprehension's turn -/
noncomputable def turnC (T : Tb) (own : List Nat) (elt : E) (tg : Tg) (ifs : Eo) (ρ : Nv) (x : PV) (acc : List PV) (S2 : Store) : Res (List PV) :=
  match setT S2 tg x (wipeP ρ own) with
        | some ρ1 => (evC T ifs ρ1 S2).bind fun b S3 => if b = true then (evE T elt ρ1 S3).bind fun v S4 => if acc.length < big then .ok (acc ++ [v]) S4 else .stuck else .ok acc S3
        | none => .stuck
noncomputable def compK (T : Tb) (own : List Nat) (elt : E) (tg : Tg) (ifs : Eo) (ρ : Nv) (m : Itm) (S1 : Store) : Res PV :=
  (compR m (turnC T own elt tg ifs ρ) m.xs [] S1).bind fun acc S5 => .ok (.lst acc) S5
@[simp] theorem x_comp {own : List Nat} {elt : E} {tg : Tg} {it : It} {ifs : Eo} : evE T (.comp own elt tg it ifs) (v :: ρ) S = (evI T it (v :: ρ) S).bind (compK T own elt tg ifs (v :: ρ)) := by rw [evE]; rfl
noncomputable def turnM (T : Tb) (own : List Nat) (elt : E) (tg : Tg) (ifs : Eo) (ρ : Nv) (x : PV) (S2 : Store) : Res (Option PV) :=
  match setT S2 tg x (wipeP ρ own) with
        | some ρ1 => (evC T ifs ρ1 S2).bind fun b S3 => if b = true then (evE T elt ρ1 S3).bind fun v S4 => .ok (some v) S4 else .ok none S3
        | none => .stuck
noncomputable def compMK (T : Tb) (own : List Nat) (elt : E) (tg : Tg) (ifs : Eo) (ρ : Nv) (m : Itm) (S1 : Store) : Res PV :=
  (compMR m (turnM T own elt tg ifs ρ) S1.length m.xs (S1 ++ [.lst []])).bind fun _ S5 => .ok (.ref S1.length) S5
@[simp] theorem x_compM {own : List Nat} {elt : E} {tg : Tg} {it : It} {ifs : Eo} : evE T (.compM own elt tg it ifs) (v :: ρ) S = (evI T it (v :: ρ) S).bind (compMK T own elt tg ifs (v :: ρ)) := by rw [evE]; rfl
@[simp] theorem x_cnone : evC T .none ρ S = .ok true S := by rw [evC]
@[simp] theorem x_csome {e : E} : evC T (.some e) (v :: ρ) S = (evE T e (v :: ρ) S).bind fun x S1 => ofO (truthP S1 x) S1 := by rw [evC]
@[simp] theorem ofO_some {α : Type} {a : α} : ofO (some a) S = .ok a S := Eq.trans rfl rfl
@[simp] theorem setT_name {i : Nat} {x : PV} : setT S (.name i) x ρ = some (ρ.set i (some x)) := by rw [setT]
@[simp] theorem wipe_nil : wipeP ρ [] = ρ := Eq.trans rfl rfl
@[simp] theorem wipe_cons {i : Nat} {is : List Nat} : wipeP ρ (i :: is) = (wipeP ρ is).set i none := Eq.trans rfl rfl
@[simp] theorem setT_tup {ts : List Tg} {x : PV} : setT S (.tup ts) x ρ = (seqOf S x).bind fun xs => setTs S ts xs ρ := by
  rw [setT]; cases seqOf S x <;> rfl
@[simp] theorem setTs_nil : setTs S [] [] ρ = some ρ := by rw [setTs]
@[simp] theorem setTs_cons {t : Tg} {ts : List Tg} {x : PV} {xs : List PV} : setTs S (t :: ts) (x :: xs) ρ = (setT S t x ρ).bind fun ρ' => setTs S ts xs ρ' := by
  rw [setTs]; cases setT S t x ρ <;> rfl
@[simp] theorem setNs_nil : setNs [] [] ρ = some ρ := Eq.trans rfl rfl
@[simp] theorem setNs_cons {i : Nat} {is : List Nat} {x : PV} {xs : List PV} : setNs (i :: is) (x :: xs) ρ = setNs is xs (ρ.set i (some x)) := Eq.trans rfl rfl
/-! ### statements -/
noncomputable def goOn (T : Tb) (ss : Sms) (fl : Fl) (S1 : Store) : Res Fl := match fl with
      | .nx ρ1 => evSs T ss ρ1 S1
      | f => .ok f S1
@[simp] theorem goOn_nx {ss : Sms} : goOn T ss (.nx ρ) S = evSs T ss ρ S := Eq.trans rfl rfl
@[simp] theorem goOn_rt {ss : Sms} {x : PV} : goOn T ss (.rt x) S = .ok (.rt x) S := Eq.trans rfl rfl
@[simp] theorem goOn_bk {ss : Sms} : goOn T ss (.bk ρ) S = .ok (.bk ρ) S := Eq.trans rfl rfl
@[simp] theorem goOn_ct {ss : Sms} : goOn T ss (.ct ρ) S = .ok (.ct ρ) S := Eq.trans rfl rfl
@[simp] theorem y_nil : evSs T .nil ρ S = .ok (.nx ρ) S := by rw [evSs]
@[simp] theorem y_cons {s : Sm} {ss : Sms} : evSs T (.cons s ss) (v :: ρ) S = (evS T s (v :: ρ) S).bind (goOn T ss) := by rw [evSs]; rfl
def nxO (o : Option Nv) (S : Store) : Res Fl := match o with | some ρ1 => .ok (.nx ρ1) S | none => .stuck
@[simp] theorem nxO_some : nxO (some ρ) S = .ok (.nx ρ) S := Eq.trans rfl rfl
@[simp] theorem y_asg {t : Tg} {e : E} : evS T (.asg t e) (v :: ρ) S = (evE T e (v :: ρ) S).bind fun x S1 => nxO (setT S1 t x (v :: ρ)) S1 := by rw [evS]; rfl
@[simp] theorem y_par {is : List Nat} {es : Es} : evS T (.par is es) (v :: ρ) S = (evEs T es (v :: ρ) S).bind fun xs S1 => nxO (setNs is xs (v :: ρ)) S1 := by rw [evS]; rfl
@[simp] theorem y_setI {o i e : E} : evS T (.setI o i e) (v :: ρ) S = (evE T e (v :: ρ) S).bind fun z S1 => (evE T o (v :: ρ) S1).bind fun x S2 => (evE T i (v :: ρ) S2).bind fun y S3 => (setP x y z S3).bind fun _ S4 => .ok (.nx (v :: ρ)) S4 := by rw [evS]
def augK (op : Bo) (x y : PV) (S : Store) : Res PV := match x, y with
          | .int _, .int _ => binP op x y S
          | _, _ => .stuck
@[simp] theorem augK_int {op : Bo} {i j : Int} : augK op (.int i) (.int j) S = binP op (.int i) (.int j) S := Eq.trans rfl rfl
noncomputable def augV (T : Tb) (op : Bo) (e : E) (i : Nat) (ρ : Nv) (o : Option (Option PV)) (S : Store) : Res Fl := match o with
      | some (some x) => (evE T e ρ S).bind fun y S1 => (augK op x y S1).bind fun z S2 => .ok (.nx (ρ.set i (some z))) S2
      | _ => .stuck
@[simp] theorem augV_some {op : Bo} {e : E} {i : Nat} {x : PV} : augV T op e i ρ (some (some x)) S = (evE T e ρ S).bind fun y S1 => (augK op x y S1).bind fun z S2 => .ok (.nx (ρ.set i (some z))) S2 := Eq.trans rfl rfl
@[simp] theorem y_aug {i : Nat} {op : Bo} {e : E} : evS T (.aug i op e) (v :: ρ) S = augV T op e i (v :: ρ) ((v :: ρ)[i]?) S := by rw [evS]; rfl
@[simp] theorem y_augI {o i e : E} {op : Bo} : evS T (.augI o i op e) (v :: ρ) S = (evE T o (v :: ρ) S).bind fun x S1 => (evE T i (v :: ρ) S1).bind fun y S2 => (idxP x y S2).bind fun a S3 => (evE T e (v :: ρ) S3).bind fun b S4 =>
      (augK op a b S4).bind fun z S5 => (setP x y z S5).bind fun _ S6 => .ok (.nx (v :: ρ)) S6 := by rw [evS]; rfl
@[simp] theorem y_expr {e : E} : evS T (.expr e) (v :: ρ) S = (evE T e (v :: ρ) S).bind fun _ S1 => .ok (.nx (v :: ρ)) S1 := by rw [evS]
@[simp] theorem y_ret {e : E} : evS T (.ret e) (v :: ρ) S = (evE T e (v :: ρ) S).bind fun x S1 => .ok (.rt x) S1 := by rw [evS]
@[simp] theorem y_retN : evS T .retN ρ S = .ok (.rt .non) S := by rw [evS]
noncomputable def pick (T : Tb) (a b : Sms) (ρ : Nv) (c : Bool) (S : Store) : Res Fl := if c = true then evSs T a ρ S else evSs T b ρ S
@[simp] theorem pick_t {a b : Sms} : pick T a b ρ true S = evSs T a ρ S := Eq.trans rfl rfl
@[simp] theorem pick_f {a b : Sms} : pick T a b ρ false S = evSs T b ρ S := Eq.trans rfl rfl
@[simp] theorem y_if {t : E} {a b : Sms} : evS T (.ifS t a b) (v :: ρ) S = (evT T t (v :: ρ) S).bind (pick T a b (v :: ρ)) := by rw [evS]; rfl
@[simp] theorem y_test {e : E} : evT T e (v :: ρ) S = (evE T e (v :: ρ) S).bind fun x S1 => ofO (truthP S1 x) S1 := Eq.trans rfl rfl
noncomputable def turnF (T : Tb) (tg : Tg) (body : Sms) (x : PV) (ρ1 : Nv) (S2 : Store) : Res Fl := match setT S2 tg x ρ1 with
      | some ρ2 => evSs T body ρ2 S2
      | none => .stuck
noncomputable def forK (T : Tb) (tg : Tg) (body : Sms) (ρ : Nv) (m : Itm) (S1 : Store) : Res Fl := forR m (turnF T tg body) m.xs ρ S1
@[simp] theorem y_for {tg : Tg} {it : It} {body : Sms} : evS T (.forS tg it body) (v :: ρ) S = (evI T it (v :: ρ) S).bind (forK T tg body (v :: ρ)) := by rw [evS]; rfl
@[simp] theorem y_while {t : E} {body : Sms} : evS T (.whileS t body) (v :: ρ) S = whileR (evT T t) (evSs T body) (v :: ρ) S := by rw [evS]
@[simp] theorem y_brk : evS T .brk ρ S = .ok (.bk ρ) S := by rw [evS]
@[simp] theorem y_cnt : evS T .cnt ρ S = .ok (.ct ρ) S := by rw [evS]
@[simp] theorem y_pass : evS T .pass_ ρ S = .ok (.nx ρ) S := by rw [evS]
@[simp] theorem endR_nx : endR (.nx ρ) S = .ok .non S := Eq.trans rfl rfl
@[simp] theorem endR_rt {x : PV} : endR (.rt x) S = .ok x S := Eq.trans rfl rfl
/-! ### operations on values -/
@[simp] theorem p_add {i j : Int} : binP .add (.int i) (.int j) S = .ok (.int (i + j)) S := Eq.trans rfl rfl
@[simp] theorem p_sub {i j : Int} : binP .sub (.int i) (.int j) S = .ok (.int (i - j)) S := Eq.trans rfl rfl
@[simp] theorem p_addT {xs ys : List PV} : binP .add (.tup xs) (.tup ys) S = tupN (xs ++ ys) S := Eq.trans rfl rfl
@[simp] theorem p_addL {xs ys : List PV} : binP .add (.lst xs) (.lst ys) S = alloc false (xs ++ ys) S := Eq.trans rfl rfl
@[simp] theorem p_mul {i j : Int} (h : mulOk i j = true) : binP .mul (.int i) (.int j) S = .ok (.int (i * j)) S := if_pos h
@[simp] theorem mulOk_def {i j : Int} : mulOk i j = ((decide (-(2 ^ 64) < i) && decide (i < 2 ^ 64)) || (decide (-(2 ^ 64) < j) && decide (j < 2 ^ 64))) := Eq.trans rfl rfl
@[simp] theorem p_fdiv {i j : Int} (h : 0 < j) (h2 : j < 1073741824) : binP .fdiv (.int i) (.int j) S = .ok (.int (i / j)) S := if_pos ⟨h, h2⟩
@[simp] theorem p_mod {i j : Int} (h : 0 < j) : binP .mod (.int i) (.int j) S = .ok (.int (i % j)) S := if_pos h
@[simp] theorem p_tupN {xs : List PV} (h : xs.length ≤ big) : tupN xs S = .ok (.tup xs) S := if_pos h
@[simp] theorem p_allocF {xs : List PV} (h : xs.length ≤ big) : alloc false xs S = .ok (.lst xs) S := if_pos h
@[simp] theorem p_allocT {xs : List PV} (h : xs.length ≤ big) : alloc true xs S = .ok (.ref S.length) (S ++ [.lst xs]) := if_pos h
@[simp] theorem p_lt {i j : Int} : cmpP .lt (.int i) (.int j) S = .ok (.bl (decide (i < j))) S := Eq.trans rfl rfl
@[simp] theorem p_le {i j : Int} : cmpP .le (.int i) (.int j) S = .ok (.bl (decide (i ≤ j))) S := Eq.trans rfl rfl
@[simp] theorem p_gt {i j : Int} : cmpP .gt (.int i) (.int j) S = .ok (.bl (decide (j < i))) S := Eq.trans rfl rfl
@[simp] theorem p_ge {i j : Int} : cmpP .ge (.int i) (.int j) S = .ok (.bl (decide (j ≤ i))) S := Eq.trans rfl rfl
def eqK (ng : Bool) (o : Option Bool) (S : Store) : Res PV := match o with | some b => .ok (.bl (xor ng b)) S | none => .stuck
@[simp] theorem eqK_some {ng b : Bool} : eqK ng (some b) S = .ok (.bl (xor ng b)) S := Eq.trans rfl rfl
@[simp] theorem p_eq {x y : PV} : cmpP .eq x y S = eqK false (eqP S x y) S := by
  show (match eqP S x y with | some b => Res.ok (PV.bl b) S | none => .stuck) = _
  cases eqP S x y with
  | none => rfl
  | some b => cases b <;> rfl
@[simp] theorem p_ne {x y : PV} : cmpP .ne x y S = eqK true (eqP S x y) S := by
  show (match eqP S x y with | some b => Res.ok (PV.bl (!b)) S | none => .stuck) = _
  cases eqP S x y with
  | none => rfl
  | some b => cases b <;> rfl
@[simp] theorem p_mem {x y : PV} : cmpP .mem x y S = eqK false (memP S x y) S := by
  show (match memP S x y with | some b => Res.ok (PV.bl b) S | none => .stuck) = _
  cases memP S x y with
  | none => rfl
  | some b => cases b <;> rfl
@[simp] theorem p_nmem {x y : PV} : cmpP .nmem x y S = eqK true (memP S x y) S := by
  show (match memP S x y with | some b => Res.ok (PV.bl (!b)) S | none => .stuck) = _
  cases memP S x y with
  | none => rfl
  | some b => cases b <;> rfl
@[simp] theorem eqP_int {i j : Int} : eqP S (.int i) (.int j) = some (decide (i = j)) := by
  show (if (SeqAt.shaped (.int i) && SeqAt.shaped (.int j)) = true then some (PyData.eqv (.int i) (.int j)) else none) = _
  have h : ∀ i : Int, SeqAt.shaped (.int i) = true := fun i => by simp [SeqAt.shaped, PyData.canLay0, PyData.depth]
  rw [h, h]
  simp [PyData.eqv]
  rfl
@[simp] theorem idxP_tup {xs : List PV} {k : Int} : idxP (.tup xs) (.int k) S = varK ((atI xs k).map some) S := by
  show (match atI xs k with | some v => Res.ok v S | none => .stuck) = _
  cases atI xs k <;> rfl
@[simp] theorem idxP_lst {xs : List PV} {k : Int} : idxP (.lst xs) (.int k) S = varK ((atI xs k).map some) S := by
  show (match atI xs k with | some v => Res.ok v S | none => .stuck) = _
  cases atI xs k <;> rfl
def lstK (o : Option Ob) : Option (List PV) := match o with | some (.lst xs) => some xs | _ => none
@[simp] theorem lstK_some {xs : List PV} : lstK (some (.lst xs)) = some xs := Eq.trans rfl rfl
@[simp] theorem seqOf_ref {n : Nat} : seqOf S (.ref n) = lstK S[n]? := by
  show (match S[n]? with | some (.lst xs) => some xs | _ => none) = _
  cases S[n]? with
  | none => rfl
  | some o => cases o <;> rfl
@[simp] theorem lstOf_ref {n : Nat} : lstOf S (.ref n) = lstK S[n]? := by
  show (match S[n]? with | some (.lst xs) => some xs | _ => none) = _
  cases S[n]? with
  | none => rfl
  | some o => cases o <;> rfl
@[simp] theorem seqOf_tup {xs : List PV} : seqOf S (.tup xs) = some xs := Eq.trans rfl rfl
@[simp] theorem seqOf_lst {xs : List PV} : seqOf S (.lst xs) = some xs := Eq.trans rfl rfl
@[simp] theorem lstOf_lst {xs : List PV} : lstOf S (.lst xs) = some xs := Eq.trans rfl rfl
def idxRK (S : Store) (k : PV) (o : Option Ob) : Res PV := match o, k with
  | some (.lst xs), .int k => varK ((atI xs k).map some) S
  | some (.dK ks vs), k => varK (((keyOf k).map fun kk => vat ks vs kk).join.map some) S
  | some (.dT ks vs), k => varK (((keyT k).map fun kk => vat ks vs kk).join.map some) S
  | _, _ => .stuck
@[simp] theorem idxRK_lst {xs : List PV} {k : Int} : idxRK S (.int k) (some (.lst xs)) = varK ((atI xs k).map some) S := Eq.trans rfl rfl
@[simp] theorem idxP_ref {n : Nat} {k : Int} {xs : List PV} (h : S[n]? = some (.lst xs)) : idxP (.ref n) (.int k) S = varK ((atI xs k).map some) S := by
  have h1 : dictOf S (.ref n) = none := by unfold dictOf; simp only [h]
  have h2 : seqOf S (.ref n) = some xs := by unfold seqOf; simp only [h]
  unfold idxP
  rw [h1]
  simp only [h2]
  cases atI xs k <;> rfl
@[simp] theorem slcP_tup {xs : List PV} {lo hi : Option Int} : slcP (.tup xs) lo hi S = .ok (.tup (cutP xs lo hi)) S := Eq.trans rfl rfl
@[simp] theorem slcP_lst {xs : List PV} {lo hi : Option Int} : slcP (.lst xs) lo hi S = .ok (.lst (cutP xs lo hi)) S := Eq.trans rfl rfl
def seqK (f : List PV → Res PV) (o : Option (List PV)) : Res PV := match o with | some xs => f xs | none => .stuck
@[simp] theorem seqK_some {f : List PV → Res PV} {xs : List PV} : seqK f (some xs) = f xs := Eq.trans rfl rfl
def lenRK (S : Store) (o : Option Ob) : Res PV := match o with
  | some (.lst xs) => .ok (.int xs.length) S
  | some (.dK ks _) => .ok (.int ks.length) S
  | some (.dT ks _) => .ok (.int ks.length) S
  | _ => .stuck
@[simp] theorem lenRK_lst {xs : List PV} : lenRK S (some (.lst xs)) = .ok (.int xs.length) S := Eq.trans rfl rfl
@[simp] theorem lenRK_dK {ks : List Key} {xs : List PV} : lenRK S (some (.dK ks xs)) = .ok (.int ks.length) S := Eq.trans rfl rfl
@[simp] theorem lenRK_dT {ks : List NestedKey} {xs : List PV} : lenRK S (some (.dT ks xs)) = .ok (.int ks.length) S := Eq.trans rfl rfl
@[simp] theorem b_lenR {n : Nat} : bltP .len [.ref n] S = lenRK S S[n]? := by
  show (match seqOf S (.ref n) with | some xs => Res.ok (PV.int xs.length) S | none => match dictOf S (.ref n) with | some (.dK ks _) => .ok (.int ks.length) S | some (.dT ks _) => .ok (.int ks.length) S | _ => .stuck) = _
  unfold seqOf dictOf
  simp only
  cases S[n]? with
  | none => rfl
  | some o => cases o <;> rfl
@[simp] theorem b_lenT {xs : List PV} : bltP .len [.tup xs] S = .ok (.int xs.length) S := Eq.trans rfl rfl
@[simp] theorem b_lenL {xs : List PV} : bltP .len [.lst xs] S = .ok (.int xs.length) S := Eq.trans rfl rfl
@[simp] theorem b_lenS {xs : List PV} : bltP .len [.scr xs] S = .ok (.int xs.length) S := Eq.trans rfl rfl
@[simp] theorem b_tuple {x : PV} : bltP .tuple [x] S = seqK (fun xs => .ok (.tup xs) S) (seqOf S x) := by
  show (match seqOf S x with | some xs => Res.ok (PV.tup xs) S | none => .stuck) = _
  cases seqOf S x <;> rfl
@[simp] theorem b_list {x : PV} : bltP .list [x] S = seqK (fun xs => .ok (.lst xs) S) (seqOf S x) := by
  show (match seqOf S x with | some xs => Res.ok (PV.lst xs) S | none => .stuck) = _
  cases seqOf S x <;> rfl
@[simp] theorem b_listM {x : PV} : bltP .listM [x] S = seqK (fun xs => .ok (.ref S.length) (S ++ [Ob.lst xs])) (seqOf S x) := by
  show (match seqOf S x with | some xs => Res.ok (PV.ref S.length) (S ++ [Ob.lst xs]) | none => .stuck) = _
  cases seqOf S x <;> rfl
@[simp] theorem intsOf_m {ns : List Int} : intsOf (ns.map .int) = some ns := intsOf_map ns
@[simp] theorem intsOf_nil : intsOf [] = some [] := Eq.trans rfl rfl
@[simp] theorem intsOf_cons {n : Int} {xs : List PV} : intsOf (.int n :: xs) = (intsOf xs).map (n :: ·) := Eq.trans rfl rfl
@[simp] theorem intsOf_app : ∀ {xs ys : List PV}, intsOf (xs ++ ys) = (intsOf xs).bind fun a => (intsOf ys).map (a ++ ·)
  | [], ys => by simp
  | x :: xs, ys => by
    cases x with
    | int n =>
      rw [List.cons_append, intsOf_cons, intsOf_cons, intsOf_app]
      cases intsOf xs with
      | none => rfl
      | some a => cases intsOf ys <;> rfl
    | _ => rfl
@[simp] theorem boolsOf_m {ns : List Bool} : boolsOf (ns.map .bl) = some ns := boolsOf_map ns
def sumK (S : Store) (o : Option (List Int)) : Res PV := match o with | some ns => .ok (.int ns.sum) S | none => .stuck
@[simp] theorem sumK_some {ns : List Int} : sumK S (some ns) = .ok (.int ns.sum) S := Eq.trans rfl rfl
@[simp] theorem b_sum {x : PV} : bltP .sum [x] S = sumK S ((seqOf S x).bind intsOf) := by
  show (match (seqOf S x).bind intsOf with | some ns => Res.ok (PV.int ns.sum) S | none => .stuck) = _
  cases (seqOf S x).bind intsOf <;> rfl
def maxL : List Int → Int
  | [] => 0
  | n :: ns => ns.foldl max n
def minL : List Int → Int
  | [] => 0
  | n :: ns => ns.foldl min n
def maxK (S : Store) (o : Option (List Int)) : Res PV := match o with | some (n :: ns) => .ok (.int (ns.foldl max n)) S | _ => .stuck
def minK (S : Store) (o : Option (List Int)) : Res PV := match o with | some (n :: ns) => .ok (.int (ns.foldl min n)) S | _ => .stuck
@[simp] theorem maxK_some {ns : List Int} (h : ns ≠ []) : maxK S (some ns) = .ok (.int (maxL ns)) S := by
  cases ns with
  | nil => exact absurd rfl h
  | cons n ns => rfl
@[simp] theorem minK_some {ns : List Int} (h : ns ≠ []) : minK S (some ns) = .ok (.int (minL ns)) S := by
  cases ns with
  | nil => exact absurd rfl h
  | cons n ns => rfl
@[simp] theorem b_max {x : PV} : bltP .max [x] S = maxK S ((seqOf S x).bind intsOf) := by
  show (match (seqOf S x).bind intsOf with | some (n :: ns) => Res.ok (PV.int (ns.foldl max n)) S | _ => .stuck) = _
  cases (seqOf S x).bind intsOf with
  | none => rfl
  | some l => cases l <;> rfl
@[simp] theorem b_min {x : PV} : bltP .min [x] S = minK S ((seqOf S x).bind intsOf) := by
  show (match (seqOf S x).bind intsOf with | some (n :: ns) => Res.ok (PV.int (ns.foldl min n)) S | _ => .stuck) = _
  cases (seqOf S x).bind intsOf with
  | none => rfl
  | some l => cases l <;> rfl
@[simp] theorem b_max2 {i j : Int} : bltP .max2 [.int i, .int j] S = .ok (.int (if j > i then j else i)) S := Eq.trans rfl rfl
@[simp] theorem b_min2 {i j : Int} : bltP .min2 [.int i, .int j] S = .ok (.int (if j < i then j else i)) S := Eq.trans rfl rfl
@[simp] theorem b_abs {i : Int} : bltP .abs [.int i] S = .ok (.int (if i < 0 then -i else i)) S := Eq.trans rfl rfl
@[simp] theorem b_int {i : Int} : bltP .int [.int i] S = .ok (.int i) S := Eq.trans rfl rfl
@[simp] theorem b_anyL {ns : List Bool} : bltP .any [.lst (ns.map .bl)] S = .ok (.bl (ns.any id)) S := by
  show (match (some (ns.map PV.bl)).bind boolsOf with | some bs => Res.ok (PV.bl (bs.any id)) S | none => .stuck) = _
  rw [Option.bind_some, boolsOf_map]
@[simp] theorem b_allL {ns : List Bool} : bltP .all [.lst (ns.map .bl)] S = .ok (.bl (ns.all id)) S := by
  show (match (some (ns.map PV.bl)).bind boolsOf with | some bs => Res.ok (PV.bl (bs.all id)) S | none => .stuck) = _
  rw [Option.bind_some, boolsOf_map]
@[simp] theorem isi_i {i : Int} {ty : Ty} : isiK ty (.int i) S = .ok (.bl (decide (ty = .int))) S := by cases ty <;> rfl
@[simp] theorem isi_t {xs : List PV} {ty : Ty} : isiK ty (.tup xs) S = .ok (.bl (decide (ty = .tuple))) S := by cases ty <;> rfl
@[simp] theorem isi_l {xs : List PV} {ty : Ty} : isiK ty (.lst xs) S = .ok (.bl (decide (ty = .list))) S := by cases ty <;> rfl
@[simp] theorem isi_s {x : Str} {ty : Ty} : isiK ty (.str x) S = .ok (.bl (decide (ty = .str))) S := by cases ty <;> rfl
@[simp] theorem isi_n {ty : Ty} : isiK ty .non S = .ok (.bl false) S := by cases ty <;> rfl
@[simp] theorem isi_b {b : Bool} {ty : Ty} : isiK ty (.bl b) S = .ok (.bl (decide (ty = .int ∨ ty = .bool))) S := by cases ty <;> rfl
def appK (S : Store) (n : Nat) (x : PV) (o : Option Ob) : Res PV := match o with
  | some (.lst xs) => if xs.length < big then .ok .non (S.set n (.lst (xs ++ [x]))) else .stuck
  | _ => .stuck
@[simp] theorem appK_lst {n : Nat} {x : PV} {xs : List PV} (h : xs.length < big) : appK S n x (some (.lst xs)) = .ok .non (S.set n (.lst (xs ++ [x]))) := if_pos h
@[simp] theorem m_append {n : Nat} {x : PV} : methP .append (.ref n) [x] S = appK S n x S[n]? := by
  show (match S[n]? with | some (.lst xs) => if xs.length < big then Res.ok PV.non (S.set n (.lst (xs ++ [x]))) else .stuck | _ => .stuck) = _
  cases S[n]? with
  | none => rfl
  | some o => cases o <;> rfl
@[simp] theorem mok_append {x : PV} : methOk .append x S = (lstOf S x).isSome := Eq.trans rfl rfl
@[simp] theorem mok_popAt {x : PV} : methOk .popAt x S = (lstOf S x).isSome := Eq.trans rfl rfl
@[simp] theorem mok_pop {x : PV} : methOk .pop x S = (lstOf S x).isSome := Eq.trans rfl rfl
@[simp] theorem mok_extend {x : PV} : methOk .extend x S = (lstOf S x).isSome := Eq.trans rfl rfl
@[simp] theorem mok_insert {x : PV} : methOk .insert x S = (lstOf S x).isSome := Eq.trans rfl rfl
@[simp] theorem mok_index {x : PV} : methOk .index x S = (lstOf S x).isSome := Eq.trans rfl rfl
@[simp] theorem mok_get1 {x : PV} : methOk .get1 x S = (dictOf S x).isSome := Eq.trans rfl rfl
@[simp] theorem mok_get2 {x : PV} : methOk .get2 x S = (dictOf S x).isSome := Eq.trans rfl rfl
@[simp] theorem mok_indexT {xs : List PV} : methOk .indexT (.tup xs) S = true := Eq.trans rfl rfl
def dctK (o : Option Ob) : Option Ob := match o with | some (.dK ks xs) => some (.dK ks xs) | some (.dT ks xs) => some (.dT ks xs) | _ => none
@[simp] theorem dctK_dK {ks : List Key} {xs : List PV} : dctK (some (.dK ks xs)) = some (.dK ks xs) := Eq.trans rfl rfl
@[simp] theorem dctK_dT {ks : List NestedKey} {xs : List PV} : dctK (some (.dT ks xs)) = some (.dT ks xs) := Eq.trans rfl rfl
@[simp] theorem dctK_lst {xs : List PV} : dctK (some (.lst xs)) = none := Eq.trans rfl rfl
@[simp] theorem dictOf_ref {n : Nat} : dictOf S (.ref n) = dctK S[n]? := by
  show (match S[n]? with | some (.dK ks xs) => some (Ob.dK ks xs) | some (.dT ks xs) => some (Ob.dT ks xs) | _ => none) = _
  cases S[n]? with
  | none => rfl
  | some o => cases o <;> rfl
theorem rangeP1 {j : Int} (h : rgOk j = true) : rangeP [.int j] S = .ok ⟨none, rangeL 0 j⟩ S := by
  show (if rgOk j = true then Res.ok (⟨none, rangeL 0 j⟩ : Itm) S else Res.stuck) = _
  rw [if_pos h]
theorem rangeP2 {i j : Int} (h : rgOk i = true) (h2 : rgOk j = true) : rangeP [.int i, .int j] S = .ok ⟨none, rangeL i j⟩ S := by
  show (if (rgOk i && rgOk j) = true then Res.ok (⟨none, rangeL i j⟩ : Itm) S else Res.stuck) = _
  rw [h, h2]; rfl
end Q
set_option Elab.async false
set_option linter.all false
set_option maxRecDepth 100000
set_option maxHeartbeats 1000000
/-! P4c: loops over ranges, lists; the law's draws. -/
namespace Q
open L2 PyProof.Rows PySem PySem.Spec
variable {T : Tb} {ρ : Nv} {S : Store}
theorem ixN_n {n j : Nat} (hj : j < n) : ixN n (j : Int) = some j := by
  unfold ixN; rw [if_pos (by omega), if_pos (by omega), Int.toNat_natCast]
theorem atI_n {α : Type} (xs : List α) (i : Nat) : atI xs (i : Int) = xs[i]? := by
  unfold atI
  by_cases h : i < xs.length
  · rw [ixN_n h]; rfl
  · have : ixN xs.length (i : Int) = none := by unfold ixN; rw [if_pos (by omega), if_neg (by omega)]
    rw [this, Option.bind_none, List.getElem?_eq_none (by omega)]
@[simp] theorem atI_0 {α : Type} (xs : List α) : atI xs 0 = xs[0]? := atI_n xs 0
@[simp] theorem atI_1 {α : Type} (xs : List α) : atI xs 1 = xs[1]? := atI_n xs 1
@[simp] theorem atI_2 {α : Type} (xs : List α) : atI xs 2 = xs[2]? := atI_n xs 2
@[simp] theorem atI_3 {α : Type} (xs : List α) : atI xs 3 = xs[3]? := atI_n xs 3
@[simp] theorem atI_nat' {α : Type} (xs : List α) (i : Nat) : atI xs (i : Int) = xs[i]? := atI_n xs i
@[simp] theorem atI_s {α : Type} (xs : List α) (i : Nat) : atI xs ((i : Int) + 1) = xs[i + 1]? := by
  have := atI_n xs (i + 1)
  rw [← this]; congr 1
@[simp] theorem atI_m1 {α : Type} (xs : List α) : atI xs (-1) = xs.getLast? := by
  unfold atI ixN
  rw [if_neg (by omega)]
  by_cases h : xs.length = 0
  · have : xs = [] := List.length_eq_zero_iff.mp h
    subst this
    rw [if_neg (by simp)]
    rfl
  · rw [if_pos (by omega), Option.bind_some, List.getLast?_eq_getElem?]
    congr 1
    omega
theorem getD_some {α : Type} {xs : List α} {i : Nat} (h : i < xs.length) (d : α) : xs[i]? = some (xs.getD i d) := by
  rw [List.getD_eq_getElem?_getD, List.getElem?_eq_getElem h]; rfl
theorem rangeL_get {lo hi : Int} {i : Nat} {x : PV} (h : (rangeL lo hi)[i]? = some x) : x = .int (lo + i) ∧ i < (hi - lo).toNat := by
  unfold rangeL at h
  rw [List.getElem?_map] at h
  obtain ⟨j, h1, h2⟩ := Option.map_eq_some_iff.mp h
  obtain ⟨h3, h4⟩ := List.getElem?_eq_some_iff.mp h1
  rw [List.getElem_range] at h4
  subst h4
  exact ⟨h2.symm, by simpa using h3⟩
theorem rangeL_len {lo hi : Int} : (rangeL lo hi).length = (hi - lo).toNat := by unfold rangeL; simp
theorem rangeL_nat (n : Nat) : rangeL 0 (n : Int) = (List.range n).map fun (i : Nat) => .int (i : Int) := by
  unfold rangeL
  simp
theorem rgOk_nat {n : Nat} (h : n ≤ 16777216) : rgOk (n : Int) = true := by
  unfold rgOk
  simp only [Bool.and_eq_true, decide_eq_true_eq]
  omega
theorem rgOk_of {n : Int} (h : -16777216 ≤ n) (h2 : n ≤ 16777216) : rgOk n = true := by
  unfold rgOk
  simp only [Bool.and_eq_true, decide_eq_true_eq]
  omega
/-- a for over range(lo, hi) -/
theorem for_rng {tg : Tg} {body : Sms} {lo hi : Int} {Q : Fl → Store → Prop} (R : Nat → Nv → Store → Prop) (h0 : R 0 ρ S)
    (hs : ∀ (i : Nat) ρ S, i < (hi - lo).toNat → R i ρ S → (turnF T tg body (.int (lo + i)) ρ S).wp fun fl S' => match fl with | .nx ρ' => R (i + 1) ρ' S' | .ct ρ' => R (i + 1) ρ' S' | .rt v => Q (.rt v) S' | .bk ρ' => R (hi - lo).toNat ρ' S')
    (k : ∀ ρ' S', R (hi - lo).toNat ρ' S' → Q (.nx ρ') S') : (forK T tg body ρ ⟨none, rangeL lo hi⟩ S).wp Q := by
  unfold forK
  refine (forR_wp (R := R) (Qr := fun v S' => Q (.rt v) S') (xs := rangeL lo hi) (fun i x ρ S e r => ?_) h0).mono fun fl S' q => ?_
  · obtain ⟨rfl, hi'⟩ := rangeL_get e
    rw [rangeL_len]
    exact hs i ρ S hi' r
  · cases fl with
    | nx ρ' => rw [rangeL_len] at q; exact k ρ' S' q
    | rt v => exact q
    | bk _ => exact q.elim
    | ct _ => exact q.elim
/-- a for over a list -/
theorem for_list {tg : Tg} {body : Sms} {xs : List PV} {Q : Fl → Store → Prop} (R : Nat → Nv → Store → Prop) (h0 : R 0 ρ S)
    (hs : ∀ (i : Nat) x ρ S, xs[i]? = some x → R i ρ S → (turnF T tg body x ρ S).wp fun fl S' => match fl with | .nx ρ' => R (i + 1) ρ' S' | .ct ρ' => R (i + 1) ρ' S' | .rt v => Q (.rt v) S' | .bk ρ' => R xs.length ρ' S')
    (k : ∀ ρ' S', R xs.length ρ' S' → Q (.nx ρ') S') : (forK T tg body ρ ⟨none, xs⟩ S).wp Q := by
  unfold forK
  refine (forR_wp (R := R) (Qr := fun v S' => Q (.rt v) S') (xs := xs) (fun i x ρ S e r => hs i x ρ S e r) h0).mono fun fl S' q => ?_
  cases fl with
  | nx ρ' => exact k ρ' S' q
  | rt v => exact q
  | bk _ => exact q.elim
  | ct _ => exact q.elim
/-- a comprehension over a list of things, each turn a value -/
theorem comp_map {α : Type} {own : List Nat} {elt : E} {tg : Tg} {xs : List α} {f g : α → PV} (hs : ∀ x acc, x ∈ xs → acc.length < xs.length → turnC T own elt tg .none ρ (f x) acc S = .ok (acc ++ [g x]) S) :
    compK T own elt tg .none ρ ⟨none, xs.map f⟩ S = .ok (.lst (xs.map g)) S := by
  unfold compK
  rw [compR_map hs]
  simp
theorem comp_filter {α : Type} {own : List Nat} {elt : E} {tg : Tg} {ifs : Eo} {xs : List α} {f g : α → PV} {p : α → Bool} (hs : ∀ x acc, x ∈ xs → acc.length < xs.length → turnC T own elt tg ifs ρ (f x) acc S = .ok (if p x = true then acc ++ [g x] else acc) S) :
    compK T own elt tg ifs ρ ⟨none, xs.map f⟩ S = .ok (.lst ((xs.filter p).map g)) S := by
  unfold compK
  rw [compR_filter hs]
  simp
/-! ### the law's own draws -/
def st (cells : List Int) (seed : Int) (rest : Store) : Store := .lst (cells.map .int) :: .lst [.ref 0, .int seed] :: rest
@[simp] theorem st_0 {c : List Int} {s : Int} {r : Store} : (st c s r)[0]? = some (.lst (c.map .int)) := Eq.trans rfl rfl
@[simp] theorem st_1 {c : List Int} {s : Int} {r : Store} : (st c s r)[1]? = some (.lst [.ref 0, .int s]) := Eq.trans rfl rfl
@[simp] theorem st_set0 {c ns : List Int} {s : Int} {r : Store} : (st c s r).set 0 (.lst (ns.map .int)) = st ns s r := Eq.trans rfl rfl
@[simp] theorem st_set1 {c : List Int} {s s' : Int} {r : Store} : (st c s r).set 1 (.lst [.ref 0, .int s']) = st c s' r := Eq.trans rfl rfl
def irDr : Sms := (.cons (.asg (.name 2) (.idx (.var 0) (.int 0))) (.cons (.whileS (.and_ (.cmp .gt (.blt .len (.cons (.var 2) .nil)) (.int 0)) (.one (.cmp .eq (.idx (.var 2) (.int 0)) (.int 0)))) (.cons (.expr (.meth .popAt (.var 2) (.cons (.int 0) .nil))) .nil)) (.cons (.ifS (.cmp .gt (.blt .len (.cons (.var 2) .nil)) (.int 0)) (.cons (.asg (.name 4) (.idx (.var 2) (.int 0))) (.cons (.setI (.var 2) (.int 0) (.bin .fdiv (.var 4) (.var 1))) (.cons (.ret (.bin .mod (.blt .int (.cons (.var 4) .nil)) (.var 1))) .nil))) .nil) (.cons (.asg (.name 3) (.bin .mod (.blt .int (.cons (.bin .add (.bin .mul (.idx (.var 0) (.int 1)) (.int 48271)) (.int 12345)) .nil)) (.int 2147483647))) (.cons (.setI (.var 0) (.int 1) (.var 3)) (.cons (.ret (.bin .mod (.blt .int (.cons (.bin .fdiv (.var 3) (.int 64)) .nil)) (.var 1))) .nil))))))
def irSt : Sms := (.cons (.asg (.name 1) (.int 7)) (.cons (.forS (.name 2) (.seq (.var 0)) (.cons (.asg (.name 1) (.bin .mod (.blt .int (.cons (.bin .add (.bin .mul (.var 1) (.int 31)) (.var 2)) .nil)) (.int 1000003))) .nil)) (.cons (.ret (.lst true (.cons (.compM [2] (.blt .abs (.cons (.var 2) .nil)) (.name 2) (.seq (.var 0)) .none) (.cons (.bin .add (.var 1) (.int 1)) .nil)))) .nil)))
theorem popAt0 {n : Nat} {x : PV} {xs : List PV} (h : S[n]? = some (.lst (x :: xs))) : methP .popAt (.ref n) [.int 0] S = .ok x (S.set n (.lst xs)) := by
  have e : ixN (x :: xs).length 0 = some 0 := ixN_n (n := (x :: xs).length) (j := 0) (by simp)
  unfold methP
  simp only [h, e]
  rfl
theorem setP_int {n : Nat} {xs : List PV} {k : Nat} {v : PV} (h : S[n]? = some (.lst xs)) (hk : k < xs.length) : setP (.ref n) (.int (k : Int)) v S = .ok () (S.set n (.lst (xs.set k v))) := by
  unfold setP
  simp only [h, ixN_n hk]
theorem draw_ok (T : Tb) (cells : List Int) (seed : Int) (rest : Store) {many : Int} (h : 0 < many) (h2 : many < 1073741824) :
    ∃ r cells' seed', (evSs T irDr (startP 5 [.ref 1, .int many]) (st cells seed rest)).bind endR = .ok (.int r) (st cells' seed' rest) ∧ 0 ≤ r ∧ r < many := by
  have hw : ((evSs T irDr (startP 5 [.ref 1, .int many]) (st cells seed rest)).bind endR).wp fun v S' => ∃ r cells' seed', v = .int r ∧ S' = st cells' seed' rest ∧ 0 ≤ r ∧ r < many := by
    unfold irDr
    generalize hQ : (fun (v : PV) (S' : Store) => ∃ r cells' seed', v = .int r ∧ S' = st cells' seed' rest ∧ 0 ≤ r ∧ r < many) = Q
    simp only [startP, List.replicate, List.map, List.length, List.cons_append, List.nil_append]
    simp
    rw [wp_bind, wp_bind]
    refine (whileR_wp (I := fun ρ S => ∃ c, ρ = [some (.ref 1), some (.int many), some (.ref 0), none, none] ∧ S = st c seed rest)
      (Qn := fun ρ S => ∃ c, ρ = [some (.ref 1), some (.int many), some (.ref 0), none, none] ∧ S = st c seed rest) (Qr := fun _ _ => False)
      (μ := fun _ S => match (S[0]? : Option Ob) with | some (Ob.lst xs) => xs.length | _ => 0) ?_ ⟨cells, rfl, rfl⟩).mono ?_
    · rintro ρ S ⟨c, rfl, rfl⟩
      cases c with
      | nil => simp; exact ⟨_, rfl⟩
      | cons x c =>
        simp [idxP_ref (n := 0) (S := st (x :: c) seed rest) rfl]
        by_cases hx : x = 0
        · simp [hx, popAt0 (n := 0) (x := .int 0) (xs := c.map .int) (S := st (0 :: c) seed rest) rfl]
          exact ⟨_, rfl⟩
        · simp [hx]
          exact ⟨_, rfl⟩
    · rintro fl S' q
      cases fl with
      | nx ρ =>
        obtain ⟨c, rfl, rfl⟩ := q
        subst hQ
        cases c with
        | nil =>
          have e : ∀ z : Int, setP (.ref 1) (.int 1) (.int z) (st [] seed rest) = .ok () (st [] z rest) := fun z => setP_int (n := 1) (k := 1) (S := st [] seed rest) rfl (by simp)
          simp [idxP_ref (n := 1) (S := st [] seed rest) rfl, e, h, h2]
          exact ⟨⟨_, _, rfl⟩, Int.emod_nonneg _ (by omega), Int.emod_lt_of_pos _ h⟩
        | cons x c =>
          have e : setP (.ref 0) (.int 0) (.int (x / many)) (st (x :: c) seed rest) = .ok () (st (x / many :: c) seed rest) := setP_int (n := 0) (k := 0) (S := st (x :: c) seed rest) rfl (by simp)
          simp [idxP_ref (n := 0) (S := st (x :: c) seed rest) rfl, h, h2, e]
          exact ⟨⟨_, _, rfl⟩, Int.emod_nonneg _ (by omega), Int.emod_lt_of_pos _ h⟩
      | rt v => exact q.elim
      | bk _ => exact q.elim
      | ct _ => exact q.elim
  obtain ⟨v, S', e, r, c, s, rfl, rfl, h3, h4⟩ := hw
  exact ⟨r, c, s, e, h3, h4⟩
theorem compMR_wp {turn : PV → Store → Res (Option PV)} {n : Nat} {xs : List PV} {R : Nat → Store → Prop}
    (hs : ∀ i x S, xs[i]? = some x → R i S → (turn x S).wp fun o S1 => match o with | some v => ∃ acc, S1[n]? = some (.lst acc) ∧ acc.length < big ∧ R (i + 1) (S1.set n (.lst (acc ++ [v]))) | none => R (i + 1) S1) :
    ∀ {S : Store}, R 0 S → (compMR ⟨none, xs⟩ turn n xs S).wp fun _ S' => R xs.length S' := by
  have go : ∀ (ys zs : List PV), xs = ys ++ zs → ∀ {S : Store}, R ys.length S → (compMR ⟨none, xs⟩ turn n zs S).wp fun _ S' => R xs.length S' := by
    intro ys zs
    induction zs generalizing ys with
    | nil =>
      intro e S h
      unfold compMR
      rw [if_pos still_none, wp_ok]
      rw [e, List.append_nil]; exact h
    | cons z zs ih =>
      intro e S h
      unfold compMR
      rw [if_pos still_none, wp_bind]
      refine (hs ys.length z S (by rw [e, List.getElem?_append_right (Nat.le_refl _)]; simp) h).mono fun o S' q => ?_
      have e2 : xs = (ys ++ [z]) ++ zs := by rw [e]; simp
      cases o with
      | none => exact ih (ys ++ [z]) e2 (by simpa using q)
      | some v =>
        obtain ⟨acc, h1, h2, h3⟩ := q
        simp only [h1]
        rw [if_pos h2]
        exact ih (ys ++ [z]) e2 (by simpa using h3)
  intro S h
  exact go [] xs rfl h
theorem state_ok (T : Tb) (ns : List Int) (hl : ns.length ≤ 63) : ∃ cells seed, (evSs T irSt (startP 3 [.scr (ns.map .int)]) []).bind endR = .ok (.ref 1) (st cells seed []) := by
  have hw : ((evSs T irSt (startP 3 [.scr (ns.map .int)]) []).bind endR).wp fun v S' => ∃ cells seed, v = .ref 1 ∧ S' = st cells seed [] := by
    unfold irSt
    generalize hQ : (fun (v : PV) (S' : Store) => ∃ cells seed, v = .ref 1 ∧ S' = st cells seed []) = Q
    simp only [startP, List.replicate, List.map, List.length, List.cons_append, List.nil_append]
    simp
    rw [wp_bind, wp_bind]
    refine for_list (R := fun _ ρ S => ∃ (s : Int) (o : Option PV), ρ = [some (.scr (ns.map .int)), some (.int s), o] ∧ S = []) ⟨_, _, rfl, rfl⟩ ?_ ?_
    · rintro i x ρ S e ⟨s, o, rfl, rfl⟩
      rw [List.getElem?_map] at e
      obtain ⟨n, e1, rfl⟩ := Option.map_eq_some_iff.mp e
      simp [turnF]
    · rintro ρ S ⟨s, o, rfl, rfl⟩
      subst hQ
      have e : compMK T [2] (E.blt Bi.abs (Es.cons (E.var 2) Es.nil)) (Tg.name 2) Eo.none [some (PV.scr (List.map PV.int ns)), some (PV.int s), o] ⟨none, ns.map .int⟩ [] = .ok (.ref 0) [.lst ((ns.map fun n => if n < 0 then -n else n).map .int)] := by
        unfold compMK
        rw [wp_eq, wp_bind]
        refine (compMR_wp (R := fun i S => S = [.lst (((ns.take i).map fun n => if n < 0 then -n else n).map .int)]) (fun i x S e h => ?_) rfl).mono fun _ S' h => ?_
        · subst h
          rw [List.getElem?_map] at e
          obtain ⟨n, e1, rfl⟩ := Option.map_eq_some_iff.mp e
          simp [turnM]
          refine ⟨by omega, ?_⟩
          rw [List.take_add_one, List.getElem?_map, e1]
          simp
        · subst h
          simp
      simp [e]
      exact ⟨ns.map fun n => if n < 0 then -n else n, s + 1, by simp [st]⟩
  obtain ⟨v, S', e, c, s, rfl, rfl⟩ := hw
  exact ⟨c, s, e⟩
end Q
set_option Elab.async false
set_option linter.all false
set_option maxRecDepth 100000
set_option maxHeartbeats 1000000
/-! P4d: calls, slices, equality by values. -/
namespace Q
open L2 PyProof.Rows PySem PySem.Spec
theorem callP_pure {ds : List Df} {cs : Nat → PV} {k f : Nat} {d : Df} {vs : List PV} {S : Store} {w : PV} (hd : ds[f]? = some d) (hp : d.pure = true) (hc : closedL vs = true) (hw : closed w = true)
    (h : ((evSs ⟨callP ds cs k, cs⟩ d.ir (startP d.N.length vs) []).bind endR).wp fun v _ => v = w) : callP ds cs (k + 1) f vs S = .ok w S := by
  rw [callP, hd]
  simp only [hp, hc, if_true]
  obtain ⟨v, S', e, rfl⟩ := h
  rw [e, Res.bind_ok]
  rw [frz_closed hw]
theorem callP_frz {ds : List Df} {cs : Nat → PV} {k f : Nat} {d : Df} {vs : List PV} {S : Store} {w : PV} (hd : ds[f]? = some d) (hp : d.pure = true) (hc : closedL vs = true)
    (h : ((evSs ⟨callP ds cs k, cs⟩ d.ir (startP d.N.length vs) []).bind endR).wp fun v S' => frz 8 S' v = some w) : callP ds cs (k + 1) f vs S = .ok w S := by
  rw [callP, hd]
  simp only [hp, hc, if_true]
  obtain ⟨v, S', e, e2⟩ := h
  rw [e, Res.bind_ok, e2]
theorem callP_raw {ds : List Df} {cs : Nat → PV} {k f : Nat} {d : Df} {vs : List PV} {S : Store} (hd : ds[f]? = some d) (hp : d.pure = false) : callP ds cs (k + 1) f vs S = (evSs ⟨callP ds cs k, cs⟩ d.ir (startP d.N.length vs) S).bind endR := by
  rw [callP, hd]
  simp only [hp, if_neg Bool.false_ne_true]
/-- a pure def's result needs no store -/
theorem cut_from {α : Type} (xs : List PV) (k : Nat) : cutP xs (some (k : Int)) none = xs.drop k := by
  unfold cutP
  rw [HT.sIx_nat, HT.sIx_none]
  by_cases h : k ≤ xs.length
  · rw [Nat.min_eq_left h, List.take_of_length_le (by simp)]
  · rw [Nat.min_eq_right (by omega), List.drop_eq_nil_of_le (Nat.le_refl _), List.drop_eq_nil_of_le (by omega), List.take_nil]
@[simp] theorem cut_1 (xs : List PV) : cutP xs (some 1) none = xs.drop 1 := cut_from (α := Unit) xs 1
theorem cut_nat (xs : List PV) {a b : Nat} (hb : b ≤ xs.length) (hab : a ≤ b) : cutP xs (some (a : Int)) (some (b : Int)) = (xs.drop a).take (b - a) := by
  unfold cutP
  rw [HT.sIx_nat, HT.sIx_nat, Nat.min_eq_left hb, Nat.min_eq_left (Nat.le_trans hab hb)]
theorem cut_to (xs : List PV) {b : Nat} : cutP xs none (some (b : Int)) = xs.take b := by
  unfold cutP
  rw [HT.sIx_nat, HT.sIx_none]
  simp only [List.drop_zero, Nat.sub_zero]
  by_cases h : b ≤ xs.length
  · rw [Nat.min_eq_left h]
  · rw [Nat.min_eq_right (by omega), List.take_of_length_le (Nat.le_refl _), List.take_of_length_le (by omega)]
/-! ### equality -/
mutual
theorem eqv_refl : ∀ d : PyData, d.canLay0 = true → PyData.eqv d d = true
  | .none, _ => by simp [PyData.eqv]
  | .bool b, _ => by simp [PyData.eqv]
  | .int b, _ => by simp [PyData.eqv]
  | .str b, _ => by simp [PyData.eqv]
  | .list xs, h => by rw [PyData.canLay0] at h; rw [PyData.eqv]; exact eqvAll_refl xs h
  | .tuple xs, h => by rw [PyData.canLay0] at h; rw [PyData.eqv]; exact eqvAll_refl xs h
  | .dict _, h => by rw [PyData.canLay0] at h; cases h
theorem eqvAll_refl : ∀ ds : List PyData, PyData.canLayAll0 ds = true → PyData.eqvAll ds ds = true
  | [], _ => by simp [PyData.eqvAll]
  | d :: ds, h => by
    rw [PyData.canLayAll0, Bool.and_eq_true] at h
    rw [PyData.eqvAll, eqv_refl d h.1, eqvAll_refl ds h.2]; rfl
end
theorem eqP_refl {S : Store} {x : PV} (h : SeqAt.shaped (toD (der S x)) = true) : eqP S x x = some true := by
  unfold eqP
  simp only [h, Bool.and_self, if_true]
  rw [eqv_refl _ (SeqAt.canLay_of_shaped h)]
/-- things whose values are data, told apart as they are -/
structure Dat {α : Type} [DecidableEq α] (e : α → PV) (d : Nat) : Prop where
  eq : ∀ a b, PyData.eqv (toD (e a)) (toD (e b)) = decide (a = b)
  lay : ∀ a, (toD (e a)).canLay0 = true
  dep : ∀ a, (toD (e a)).depth ≤ d
  nr : ∀ a S, der S (e a) = e a
theorem Dat.int : Dat PV.int 1 where
  eq := fun a b => by simp [toD, PyData.eqv]; rfl
  lay := fun a => by simp [toD, PyData.canLay0]
  dep := fun a => by simp [toD, PyData.depth]
  nr := fun a S => rfl
theorem Dat.nat : Dat (fun n : Nat => PV.int (n : Int)) 1 where
  eq := fun a b => by
    have := Dat.int.eq (a : Int) (b : Int)
    rw [this]
    by_cases h : a = b
    · subst h; simp
    · rw [decide_eq_false h, decide_eq_false (by omega)]
  lay := fun a => Dat.int.lay _
  dep := fun a => Dat.int.dep _
  nr := fun a S => rfl
section
variable {α : Type} [DecidableEq α] {e : α → PV} {d : Nat}
theorem Dat.all (h : Dat e d) : ∀ xs ys : List α, PyData.eqvAll (toDs (xs.map e)) (toDs (ys.map e)) = decide (xs = ys)
  | [], [] => by simp [toDs, PyData.eqvAll]
  | [], y :: ys => by simp [toDs, PyData.eqvAll]
  | x :: xs, [] => by simp [toDs, PyData.eqvAll]
  | x :: xs, y :: ys => by
    simp only [List.map_cons, toDs, PyData.eqvAll, h.eq, Dat.all h xs ys]
    by_cases h1 : x = y <;> by_cases h2 : xs = ys <;> simp [h1, h2]
theorem Dat.layAll (h : Dat e d) : ∀ xs : List α, PyData.canLayAll0 (toDs (xs.map e)) = true
  | [] => by simp [toDs, PyData.canLayAll0]
  | x :: xs => by simp only [List.map_cons, toDs, PyData.canLayAll0, h.lay, Dat.layAll h xs]; rfl
theorem Dat.depAll (h : Dat e d) : ∀ xs : List α, PyData.depthAll (toDs (xs.map e)) ≤ d
  | [] => by simp [toDs, PyData.depthAll]
  | x :: xs => by
    simp only [List.map_cons, toDs, PyData.depthAll]
    have := h.dep x
    have := Dat.depAll h xs
    omega
theorem Dat.tup (h : Dat e d) : Dat (fun xs : List α => PV.tup (xs.map e)) (d + 1) where
  eq := fun a b => by simp only [toD, PyData.eqv]; exact h.all a b
  lay := fun a => by simp only [toD, PyData.canLay0]; exact h.layAll a
  dep := fun a => by simp only [toD, PyData.depth]; have := h.depAll a; omega
  nr := fun a S => rfl
theorem Dat.lst (h : Dat e d) : Dat (fun xs : List α => PV.lst (xs.map e)) (d + 1) where
  eq := fun a b => by simp only [toD, PyData.eqv]; exact h.all a b
  lay := fun a => by simp only [toD, PyData.canLay0]; exact h.layAll a
  dep := fun a => by simp only [toD, PyData.depth]; have := h.depAll a; omega
  nr := fun a S => rfl
theorem Dat.sh (h : Dat e d) (hd : d ≤ 64) (a : α) : SeqAt.shaped (toD (e a)) = true := by
  unfold SeqAt.shaped
  rw [h.lay, Bool.true_and]
  exact decide_eq_true (Nat.le_trans (h.dep a) hd)
theorem Dat.eqP (h : Dat e d) (hd : d ≤ 64) (S : Store) (a b : α) : Q.eqP S (e a) (e b) = some (decide (a = b)) := by
  unfold Q.eqP
  simp only [h.nr, h.sh hd, Bool.and_self, if_true, h.eq]
end
theorem eqP_tI (S : Store) (xs ys : List Int) : eqP S (.tup (xs.map .int)) (.tup (ys.map .int)) = some (decide (xs = ys)) := Dat.int.tup.eqP (by decide) S xs ys
theorem eqP_tN (S : Store) (xs ys : List Nat) : eqP S (.tup (xs.map fun n : Nat => .int (n : Int))) (.tup (ys.map fun n : Nat => .int (n : Int))) = some (decide (xs = ys)) := Dat.nat.tup.eqP (by decide) S xs ys
end Q
set_option Elab.async false
set_option linter.all false
set_option maxRecDepth 100000
set_option maxHeartbeats 0
/-! The table of the law k52_best_partings: printed by gen.py. -/
namespace Q
open L2 PyProof.Rows PySem PySem.Spec
def top (i : Nat) : Stmt := PySem.Challenge.pw_plaintraining_k52_best_partings.main.body.getD i (.Pass ⟨0, 0, 0, 0⟩)
def igreedy_parting : Sms := (.cons (.par [3, 4] (.cons (.lst true .nil) (.cons .non .nil))) (.cons (.forS (.name 2) (.range (.cons (.blt .len (.cons (.var 0) .nil)) .nil)) (.cons (.ifS (.or_ (.isN false (.var 4)) (.one (.cmp .gt (.bin .add (.var 4) (.idx (.var 0) (.var 2))) (.var 1)))) (.cons (.expr (.meth .append (.var 3) (.cons (.var 2) .nil))) (.cons (.asg (.name 4) (.int 0)) .nil)) .nil) (.cons (.asg (.name 4) (.bin .add (.var 4) (.idx (.var 0) (.var 2)))) .nil))) (.cons (.ret (.blt .tuple (.cons (.var 3) .nil))) .nil)))
def iparting_works : Sms := (.cons (.asg (.name 2) (.bin .add (.slc (.var 1) (.some (.int 1)) .none) (.tup (.cons (.blt .len (.cons (.var 0) .nil)) .nil)))) (.cons (.ret (.blt .tuple (.cons (.comp [3] (.blt .sum (.cons (.slc (.var 0) (.some (.idx (.var 1) (.var 3))) (.some (.idx (.var 2) (.var 3)))) .nil)) (.name 3) (.range (.cons (.blt .len (.cons (.var 1) .nil)) .nil)) .none) .nil))) .nil))
def ibest_most : Sms := (.cons (.asg (.name 2) (.blt .max (.cons (.bin .add (.blt .list (.cons (.var 0) .nil)) (.lst false (.cons (.int 0) .nil))) .nil))) (.cons (.whileS (.cmp .gt (.blt .len (.cons (.call 0 (.cons (.var 0) (.cons (.var 2) .nil))) .nil)) (.var 1)) (.cons (.asg (.name 3) (.call 0 (.cons (.var 0) (.cons (.var 2) .nil)))) (.cons (.asg (.name 4) (.call 1 (.cons (.var 0) (.cons (.var 3) .nil)))) (.cons (.asg (.name 2) (.blt .min (.cons (.comp [5] (.bin .add (.idx (.var 4) (.var 5)) (.idx (.var 0) (.idx (.var 3) (.bin .add (.var 5) (.int 1))))) (.name 5) (.range (.cons (.bin .sub (.blt .len (.cons (.var 3) .nil)) (.int 1)) .nil)) .none) .nil))) .nil)))) (.cons (.ret (.var 2)) .nil)))
def ibest_parting : Sms := (.cons (.asg (.name 2) (.call 2 (.cons (.var 0) (.cons (.var 1) .nil)))) (.cons (.asg (.name 3) (.ite (.cmp .eq (.var 2) (.blt .max (.cons (.bin .add (.blt .list (.cons (.var 0) .nil)) (.lst false (.cons (.int 0) .nil))) .nil))) (.tup .nil) (.call 0 (.cons (.var 0) (.cons (.bin .sub (.var 2) (.int 1)) .nil))))) (.cons (.ret (.tup (.cons (.var 2) (.cons (.call 0 (.cons (.var 0) (.cons (.var 2) .nil))) (.cons (.var 3) .nil))))) .nil)))
def iis_parting : Sms := (.cons (.ifS (.or_ (.not_ (.isi (.var 2) .tuple)) (.one (.cmp .gt (.blt .len (.cons (.var 2) .nil)) (.var 1)))) (.cons (.ret (.bl false)) .nil) .nil) (.cons (.ifS (.blt .any (.cons (.comp [4] (.or_ (.not_ (.isi (.var 4) .int)) (.one (.isi (.var 4) .bool))) (.name 4) (.seq (.var 2)) .none) .nil)) (.cons (.ret (.bl false)) .nil) .nil) (.cons (.ifS (.cmp .eq (.blt .len (.cons (.var 0) .nil)) (.int 0)) (.cons (.ret (.cmp .eq (.var 2) (.tup .nil))) .nil) .nil) (.cons (.asg (.name 3) (.blt .all (.cons (.comp [5] (.cmp .lt (.idx (.var 2) (.var 5)) (.idx (.var 2) (.bin .add (.var 5) (.int 1)))) (.name 5) (.range (.cons (.bin .sub (.blt .len (.cons (.var 2) .nil)) (.int 1)) .nil)) .none) .nil))) (.cons (.ret (.and_ (.cmp .gt (.blt .len (.cons (.var 2) .nil)) (.int 0)) (.and_ (.cmp .eq (.idx (.var 2) (.int 0)) (.int 0)) (.and_ (.var 3) (.one (.cmp .lt (.idx (.var 2) (.neg (.int 1))) (.blt .len (.cons (.var 0) .nil)))))))) .nil)))))
def ijudge_parting : Sms := (.cons (.ifS (.or_ (.not_ (.isi (.var 2) .tuple)) (.or_ (.cmp .ne (.blt .len (.cons (.var 2) .nil)) (.int 3)) (.or_ (.isi (.idx (.var 2) (.int 0)) .bool) (.one (.not_ (.isi (.idx (.var 2) (.int 0)) .int)))))) (.cons (.ret (.bl false)) .nil) .nil) (.cons (.asg (.tup [(.name 3), (.name 4), (.name 5)]) (.var 2)) (.cons (.ifS (.or_ (.not_ (.call 4 (.cons (.var 0) (.cons (.var 1) (.cons (.var 4) .nil))))) (.one (.cmp .ne (.blt .max (.cons (.bin .add (.call 1 (.cons (.var 0) (.cons (.var 4) .nil))) (.tup (.cons (.int 0) .nil))) .nil)) (.var 3)))) (.cons (.ret (.bl false)) .nil) .nil) (.cons (.ret (.call 6 (.cons (.var 0) (.cons (.var 1) (.cons (.var 3) (.cons (.var 5) .nil)))))) .nil))))
def ijudge_closer : Sms := (.cons (.ifS (.cmp .eq (.var 2) (.blt .max (.cons (.bin .add (.blt .list (.cons (.var 0) .nil)) (.lst false (.cons (.int 0) .nil))) .nil))) (.cons (.ret (.cmp .eq (.var 3) (.tup .nil))) .nil) .nil) (.cons (.ifS (.or_ (.not_ (.call 4 (.cons (.var 0) (.cons (.blt .len (.cons (.var 0) .nil)) (.cons (.var 3) .nil))))) (.one (.cmp .le (.blt .len (.cons (.var 3) .nil)) (.var 1)))) (.cons (.ret (.bl false)) .nil) .nil) (.cons (.asg (.name 4) (.call 1 (.cons (.var 0) (.cons (.var 3) .nil)))) (.cons (.asg (.name 5) (.comp [6] (.cmp .ge (.bin .add (.idx (.var 4) (.var 6)) (.idx (.var 0) (.idx (.var 3) (.bin .add (.var 6) (.int 1))))) (.var 2)) (.name 6) (.range (.cons (.bin .sub (.blt .len (.cons (.var 3) .nil)) (.int 1)) .nil)) .none)) (.cons (.ret (.blt .all (.cons (.var 5) .nil))) .nil)))))
def i_law_state : Sms := (.cons (.asg (.name 1) (.int 7)) (.cons (.forS (.name 2) (.seq (.var 0)) (.cons (.asg (.name 1) (.bin .mod (.blt .int (.cons (.bin .add (.bin .mul (.var 1) (.int 31)) (.var 2)) .nil)) (.int 1000003))) .nil)) (.cons (.ret (.lst true (.cons (.compM [2] (.blt .abs (.cons (.var 2) .nil)) (.name 2) (.seq (.var 0)) .none) (.cons (.bin .add (.var 1) (.int 1)) .nil)))) .nil)))
def i_law_draw : Sms := (.cons (.asg (.name 2) (.idx (.var 0) (.int 0))) (.cons (.whileS (.and_ (.cmp .gt (.blt .len (.cons (.var 2) .nil)) (.int 0)) (.one (.cmp .eq (.idx (.var 2) (.int 0)) (.int 0)))) (.cons (.expr (.meth .popAt (.var 2) (.cons (.int 0) .nil))) .nil)) (.cons (.ifS (.cmp .gt (.blt .len (.cons (.var 2) .nil)) (.int 0)) (.cons (.asg (.name 4) (.idx (.var 2) (.int 0))) (.cons (.setI (.var 2) (.int 0) (.bin .fdiv (.var 4) (.var 1))) (.cons (.ret (.bin .mod (.blt .int (.cons (.var 4) .nil)) (.var 1))) .nil))) .nil) (.cons (.asg (.name 3) (.bin .mod (.blt .int (.cons (.bin .add (.bin .mul (.idx (.var 0) (.int 1)) (.int 48271)) (.int 12345)) .nil)) (.int 2147483647))) (.cons (.setI (.var 0) (.int 1) (.var 3)) (.cons (.ret (.bin .mod (.blt .int (.cons (.bin .fdiv (.var 3) (.int 64)) .nil)) (.var 1))) .nil))))))
def i_law_all : Sms := (.cons (.ifS (.cmp .eq (.var 0) (.int 0)) (.cons (.ret (.lst false (.cons (.tup .nil) .nil))) .nil) .nil) (.cons (.asg (.name 2) (.lst false (.cons (.tup (.cons (.int 0) .nil)) .nil))) (.cons (.forS (.name 3) (.range (.cons (.int 1) (.cons (.var 0) .nil))) (.cons (.asg (.name 2) (.bin .add (.var 2) (.comp [4] (.bin .add (.var 4) (.tup (.cons (.var 3) .nil))) (.name 4) (.seq (.var 2)) (.some (.cmp .lt (.blt .len (.cons (.var 4) .nil)) (.var 1)))))) .nil)) (.cons (.ret (.var 2)) .nil))))
def i_law_sums : Sms := (.cons (.asg (.name 2) (.bin .add (.blt .list (.cons (.slc (.var 1) (.some (.int 1)) .none) .nil)) (.lst false (.cons (.blt .len (.cons (.var 0) .nil)) .nil)))) (.cons (.ret (.comp [3] (.blt .sum (.cons (.slc (.var 0) (.some (.idx (.var 1) (.var 3))) (.some (.idx (.var 2) (.var 3)))) .nil)) (.name 3) (.range (.cons (.blt .len (.cons (.var 1) .nil)) .nil)) .none)) .nil))
def i_law_greedy : Sms := (.cons (.par [3, 4] (.cons (.lst true .nil) (.cons (.int 0) .nil))) (.cons (.forS (.name 2) (.range (.cons (.blt .len (.cons (.var 0) .nil)) .nil)) (.cons (.ifS (.or_ (.cmp .eq (.var 2) (.int 0)) (.one (.cmp .gt (.bin .add (.var 4) (.idx (.var 0) (.var 2))) (.var 1)))) (.cons (.expr (.meth .append (.var 3) (.cons (.var 2) .nil))) (.cons (.asg (.name 4) (.int 0)) .nil)) .nil) (.cons (.asg (.name 4) (.bin .add (.var 4) (.idx (.var 0) (.var 2)))) .nil))) (.cons (.ret (.blt .tuple (.cons (.var 3) .nil))) .nil)))
def ilaw : Sms := (.cons (.asg (.name 1) (.call 7 (.cons (.var 0) .nil))) (.cons (.forS (.name 2) (.range (.cons (.int 12) .nil)) (.cons (.asg (.name 3) (.blt .tuple (.cons (.comp [11] (.call 8 (.cons (.var 1) (.cons (.int 12) .nil))) (.name 11) (.range (.cons (.call 8 (.cons (.var 1) (.cons (.int 9) .nil))) .nil)) .none) .nil))) (.cons (.par [9, 10] (.cons (.bin .add (.int 1) (.call 8 (.cons (.var 1) (.cons (.int 9) .nil)))) (.cons (.call 8 (.cons (.var 1) (.cons (.int 30) .nil))) .nil))) (.cons (.ifS (.cmp .ne (.call 0 (.cons (.var 3) (.cons (.var 10) .nil))) (.call 11 (.cons (.var 3) (.cons (.var 10) .nil)))) (.cons (.ret (.bl false)) .nil) .nil) (.cons (.asg (.name 4) (.call 9 (.cons (.blt .len (.cons (.var 3) .nil)) (.cons (.var 9) .nil)))) (.cons (.asg (.name 5) (.idx (.var 4) (.call 8 (.cons (.var 1) (.cons (.blt .len (.cons (.var 4) .nil)) .nil))))) (.cons (.ifS (.cmp .ne (.blt .tuple (.cons (.call 1 (.cons (.var 3) (.cons (.var 5) .nil))) .nil)) (.blt .tuple (.cons (.call 10 (.cons (.var 3) (.cons (.var 5) .nil))) .nil))) (.cons (.ret (.bl false)) .nil) .nil) (.cons (.asg (.name 6) (.blt .min (.cons (.comp [5] (.blt .max (.cons (.bin .add (.call 10 (.cons (.var 3) (.cons (.var 5) .nil))) (.lst false (.cons (.int 0) .nil))) .nil)) (.name 5) (.seq (.var 4)) .none) .nil))) (.cons (.asg (.name 7) (.blt .max (.cons (.bin .add (.blt .list (.cons (.var 3) .nil)) (.lst false (.cons (.int 0) .nil))) .nil))) (.cons (.asg (.name 8) (.tup (.cons (.var 6) (.cons (.call 11 (.cons (.var 3) (.cons (.var 6) .nil))) (.cons (.ite (.cmp .eq (.var 6) (.var 7)) (.tup .nil) (.call 11 (.cons (.var 3) (.cons (.bin .sub (.var 6) (.int 1)) .nil)))) .nil))))) (.cons (.ifS (.or_ (.cmp .ne (.call 3 (.cons (.var 3) (.cons (.var 9) .nil))) (.var 8)) (.one (.not_ (.call 5 (.cons (.var 3) (.cons (.var 9) (.cons (.var 8) .nil))))))) (.cons (.ret (.bl false)) .nil) .nil) .nil))))))))))) (.cons (.ret (.bl true)) .nil)))
def dgreedy_parting : Df := ⟨"greedy_parting", ["works", "most"], ["works", "most", "t", "told", "taken"], top 1, igreedy_parting, true⟩
def dparting_works : Df := ⟨"parting_works", ["works", "begins"], ["works", "begins", "ends", "t"], top 2, iparting_works, true⟩
def dbest_most : Df := ⟨"best_most", ["works", "stages"], ["works", "stages", "most", "begins", "sums", "t"], top 3, ibest_most, true⟩
def dbest_parting : Df := ⟨"best_parting", ["works", "stages"], ["works", "stages", "most", "closer"], top 4, ibest_parting, true⟩
def dis_parting : Df := ⟨"is_parting", ["works", "stages", "begins"], ["works", "stages", "begins", "rising", "one", "t"], top 5, iis_parting, true⟩
def djudge_parting : Df := ⟨"judge_parting", ["works", "stages", "value"], ["works", "stages", "value", "most", "begins", "closer"], top 6, ijudge_parting, true⟩
def djudge_closer : Df := ⟨"judge_closer", ["works", "stages", "most", "closer"], ["works", "stages", "most", "closer", "sums", "full", "t"], top 7, ijudge_closer, true⟩
def d_law_state : Df := ⟨"_law_state", ["script"], ["script", "seed", "cell"], top 9, i_law_state, false⟩
def d_law_draw : Df := ⟨"_law_draw", ["state", "many"], ["state", "many", "cells", "mixed", "value"], top 10, i_law_draw, false⟩
def d_law_all : Df := ⟨"_law_all", ["many", "stages"], ["many", "stages", "told", "t", "row"], top 11, i_law_all, true⟩
def d_law_sums : Df := ⟨"_law_sums", ["works", "begins"], ["works", "begins", "ends", "t"], top 12, i_law_sums, true⟩
def d_law_greedy : Df := ⟨"_law_greedy", ["works", "most"], ["works", "most", "t", "begins", "total"], top 13, i_law_greedy, true⟩
def dlaw : Df := ⟨"law", ["script"], ["script", "state", "t", "works", "rows", "row", "best", "one", "paper", "stages", "most", "s"], top 14, ilaw, true⟩
def ds : List Df := [dgreedy_parting, dparting_works, dbest_most, dbest_parting, dis_parting, djudge_parting, djudge_closer, d_law_state, d_law_draw, d_law_all, d_law_sums, d_law_greedy, dlaw]
def bl : List Str := ["abs", "all", "any", "bool", "int", "isinstance", "len", "list", "max", "min", "range", "sum", "tuple"]
def gl : List (Str × Nat) := []
theorem okgreedy_parting : DfOk ds bl gl dgreedy_parting := ⟨⟨rfl, rfl, rfl, by decide +kernel, rfl, by decide +kernel, by decide +kernel⟩, by decide +kernel⟩
theorem bngreedy_parting : BindOk dgreedy_parting := fun _ _ _ _ _ _ us hl => match us, hl with | [_, _], _ => rfl
theorem okparting_works : DfOk ds bl gl dparting_works := ⟨⟨rfl, rfl, rfl, by decide +kernel, rfl, by decide +kernel, by decide +kernel⟩, by decide +kernel⟩
theorem bnparting_works : BindOk dparting_works := fun _ _ _ _ _ _ us hl => match us, hl with | [_, _], _ => rfl
theorem okbest_most : DfOk ds bl gl dbest_most := ⟨⟨rfl, rfl, rfl, by decide +kernel, rfl, by decide +kernel, by decide +kernel⟩, by decide +kernel⟩
theorem bnbest_most : BindOk dbest_most := fun _ _ _ _ _ _ us hl => match us, hl with | [_, _], _ => rfl
theorem okbest_parting : DfOk ds bl gl dbest_parting := ⟨⟨rfl, rfl, rfl, by decide +kernel, rfl, by decide +kernel, by decide +kernel⟩, by decide +kernel⟩
theorem bnbest_parting : BindOk dbest_parting := fun _ _ _ _ _ _ us hl => match us, hl with | [_, _], _ => rfl
theorem okis_parting : DfOk ds bl gl dis_parting := ⟨⟨rfl, rfl, rfl, by decide +kernel, rfl, by decide +kernel, by decide +kernel⟩, by decide +kernel⟩
theorem bnis_parting : BindOk dis_parting := fun _ _ _ _ _ _ us hl => match us, hl with | [_, _, _], _ => rfl
theorem okjudge_parting : DfOk ds bl gl djudge_parting := ⟨⟨rfl, rfl, rfl, by decide +kernel, rfl, by decide +kernel, by decide +kernel⟩, by decide +kernel⟩
theorem bnjudge_parting : BindOk djudge_parting := fun _ _ _ _ _ _ us hl => match us, hl with | [_, _, _], _ => rfl
theorem okjudge_closer : DfOk ds bl gl djudge_closer := ⟨⟨rfl, rfl, rfl, by decide +kernel, rfl, by decide +kernel, by decide +kernel⟩, by decide +kernel⟩
theorem bnjudge_closer : BindOk djudge_closer := fun _ _ _ _ _ _ us hl => match us, hl with | [_, _, _, _], _ => rfl
theorem ok_law_state : DfOk ds bl gl d_law_state := ⟨⟨rfl, rfl, rfl, by decide +kernel, rfl, by decide +kernel, by decide +kernel⟩, by decide +kernel⟩
theorem bn_law_state : BindOk d_law_state := fun _ _ _ _ _ _ us hl => match us, hl with | [_], _ => rfl
theorem ok_law_draw : DfOk ds bl gl d_law_draw := ⟨⟨rfl, rfl, rfl, by decide +kernel, rfl, by decide +kernel, by decide +kernel⟩, by decide +kernel⟩
theorem bn_law_draw : BindOk d_law_draw := fun _ _ _ _ _ _ us hl => match us, hl with | [_, _], _ => rfl
theorem ok_law_all : DfOk ds bl gl d_law_all := ⟨⟨rfl, rfl, rfl, by decide +kernel, rfl, by decide +kernel, by decide +kernel⟩, by decide +kernel⟩
theorem bn_law_all : BindOk d_law_all := fun _ _ _ _ _ _ us hl => match us, hl with | [_, _], _ => rfl
theorem ok_law_sums : DfOk ds bl gl d_law_sums := ⟨⟨rfl, rfl, rfl, by decide +kernel, rfl, by decide +kernel, by decide +kernel⟩, by decide +kernel⟩
theorem bn_law_sums : BindOk d_law_sums := fun _ _ _ _ _ _ us hl => match us, hl with | [_, _], _ => rfl
theorem ok_law_greedy : DfOk ds bl gl d_law_greedy := ⟨⟨rfl, rfl, rfl, by decide +kernel, rfl, by decide +kernel, by decide +kernel⟩, by decide +kernel⟩
theorem bn_law_greedy : BindOk d_law_greedy := fun _ _ _ _ _ _ us hl => match us, hl with | [_, _], _ => rfl
theorem oklaw : DfOk ds bl gl dlaw := ⟨⟨rfl, rfl, rfl, by decide +kernel, rfl, by decide +kernel, by decide +kernel⟩, by decide +kernel⟩
theorem bnlaw : BindOk dlaw := fun _ _ _ _ _ _ us hl => match us, hl with | [_], _ => rfl
theorem okAll : ∀ d ∈ ds, DfOk ds bl gl d := fun d h => by
  simp only [ds, List.mem_cons, List.not_mem_nil, or_false] at h
  rcases h with rfl | rfl | rfl | rfl | rfl | rfl | rfl | rfl | rfl | rfl | rfl | rfl | rfl
  · exact okgreedy_parting
  · exact okparting_works
  · exact okbest_most
  · exact okbest_parting
  · exact okis_parting
  · exact okjudge_parting
  · exact okjudge_closer
  · exact ok_law_state
  · exact ok_law_draw
  · exact ok_law_all
  · exact ok_law_sums
  · exact ok_law_greedy
  · exact oklaw
theorem bnAll : ∀ d ∈ ds, BindOk d := fun d h => by
  simp only [ds, List.mem_cons, List.not_mem_nil, or_false] at h
  rcases h with rfl | rfl | rfl | rfl | rfl | rfl | rfl | rfl | rfl | rfl | rfl | rfl | rfl
  · exact bngreedy_parting
  · exact bnparting_works
  · exact bnbest_most
  · exact bnbest_parting
  · exact bnis_parting
  · exact bnjudge_parting
  · exact bnjudge_closer
  · exact bn_law_state
  · exact bn_law_draw
  · exact bn_law_all
  · exact bn_law_sums
  · exact bn_law_greedy
  · exact bnlaw
def exF : List He.Fa := []
def fn : List He.DefD := ds.map Df.dd
def fa : List He.Fa := faOf ds bl exF
abbrev R : PySem.W.OpenRow := PySem.W.OpenLaw.row PySem.Challenge.rw_plaintraining_k52_best_partings
abbrev hk : PySem.W.Hook := He.hookD 4 fa fn
def ob (s : PySem.W.SharedT) : He.AlD := He.obsDG 4 fa fn (HandSHeadRun.getT s)
theorem ob_eq (s : PySem.W.SharedT) : ob s = hk.obs s.abs := He.obsDG_eq (HandSHeadRun.getT_eq s)
abbrev loose : List PySem.Str := (["greedy_parting", "parting_works", "best_most", "best_parting", "is_parting", "judge_parting", "judge_closer", "_law_state", "_law_draw", "_law_all", "_law_sums", "_law_greedy"] : List PySem.Str)
abbrev iLaw : Nat := 12
abbrev tLaw : Nat := 14
theorem run (w : World) : HandSHeadRun.RunEq R (PySem.W.view R.prog [tLaw]) hk ob 600 loose w := by
  intro os
  kernel_rfl
end Q
open PySem PySem.W PySem.Calls PyProof.Rows in
theorem Q.head (plain : ∀ (ns : List Int), ns.length ≤ 63 → ∃ S, Q.callP Q.ds (fun _ => .non) 40 Q.iLaw [.scr (ns.map .int)] [] = .ok (.bl true) S) : PySem.Challenge.rw_plaintraining_k52_best_partings.Holds := by
  w_on; o_law
  refine HandSHeadRun.head_any (r := OpenLaw.row PySem.Challenge.rw_plaintraining_k52_best_partings) (q := view (OpenLaw.row PySem.Challenge.rw_plaintraining_k52_best_partings).prog [Q.tLaw]) (H := Q.hk) (ob := Q.ob) (M := 600) (loose := Q.loose) (d := HandSHeadRun.topDef (OpenLaw.row PySem.Challenge.rw_plaintraining_k52_best_partings).prog Q.tLaw) (kwd := []) Q.ob_eq
    (by kernel_rfl) (fun s => by kernel_rfl) Q.run (by kernel_rfl) (by kernel_rfl) (by kernel_rfl) (by rfl) (by first | assumption | decide +kernel) (by decide +kernel) ⟨rfl, rfl, rfl, rfl, rfl, by decide +kernel⟩ ?hw ?hc
  case hw => w_witness2
  case hc =>
    refine L2.walk_ofE (l := PySem.Challenge.rw_plaintraining_k52_best_partings) (n := 63) (k := 41) (x := "script") (CX := L2.CX0) rfl (by decide) (by kernel_rfl) ⟨rfl, by decide, by decide⟩ ?F (fun _ _ _ _ z => z)
    intro w mg fa h Y G hmg0
    obtain ⟨K, KX, c⟩ := Y
    have hmg : mg ("law" : PySem.Str) = some (.ref fa) := by
      have e : (HandSHeadRun.topDef (OpenLaw.row PySem.Challenge.rw_plaintraining_k52_best_partings).prog Q.tLaw).name = ("law" : PySem.Str) := by kernel_rfl
      rw [← e]
      exact hmg0
    exact Q.law_walk (cs := fun _ _ => .non) (P := (PySem.Challenge.rw_plaintraining_k52_best_partings).prog) (w := w) (k := 40) (i := Q.iLaw) (d := Q.dlaw) (gl := Q.gl) KX G c Q.okAll Q.bnAll (fun x j h => by simp [Q.gl] at h) rfl rfl hmg plain
set_option Elab.async false
set_option linter.all false
set_option maxRecDepth 100000
set_option maxHeartbeats 1000000
/-! M52: greedy partings are best. -/
namespace Q
/-! ### greatest and least -/
theorem foldl_max_spec : ∀ (ns : List Int) (n : Int), (ns.foldl max n = n ∨ ns.foldl max n ∈ ns) ∧ n ≤ ns.foldl max n ∧ ∀ x ∈ ns, x ≤ ns.foldl max n
  | [], n => ⟨.inl rfl, Int.le_refl _, fun _ h => nomatch h⟩
  | m :: ns, n => by
    obtain ⟨h1, h2, h3⟩ := foldl_max_spec ns (max n m)
    rw [List.foldl_cons]
    refine ⟨?_, by omega, fun x hx => ?_⟩
    · rcases h1 with h1 | h1
      · rw [h1]
        by_cases h : n ≤ m
        · right; rw [Int.max_eq_right h]; exact List.mem_cons_self
        · left; rw [Int.max_eq_left (by omega)]
      · exact .inr (List.mem_cons_of_mem _ h1)
    · rcases List.mem_cons.mp hx with rfl | hx
      · omega
      · exact h3 x hx
theorem foldl_min_spec : ∀ (ns : List Int) (n : Int), (ns.foldl min n = n ∨ ns.foldl min n ∈ ns) ∧ ns.foldl min n ≤ n ∧ ∀ x ∈ ns, ns.foldl min n ≤ x
  | [], n => ⟨.inl rfl, Int.le_refl _, fun _ h => nomatch h⟩
  | m :: ns, n => by
    obtain ⟨h1, h2, h3⟩ := foldl_min_spec ns (min n m)
    rw [List.foldl_cons]
    refine ⟨?_, by omega, fun x hx => ?_⟩
    · rcases h1 with h1 | h1
      · rw [h1]
        by_cases h : n ≤ m
        · left; rw [Int.min_eq_left h]
        · right; rw [Int.min_eq_right (by omega)]; exact List.mem_cons_self
      · exact .inr (List.mem_cons_of_mem _ h1)
    · rcases List.mem_cons.mp hx with rfl | hx
      · omega
      · exact h3 x hx
theorem maxL_mem {ns : List Int} (h : ns ≠ []) : maxL ns ∈ ns := by
  cases ns with
  | nil => exact absurd rfl h
  | cons n ns =>
    rcases (foldl_max_spec ns n).1 with e | e
    · show ns.foldl max n ∈ _; rw [e]; exact List.mem_cons_self
    · exact List.mem_cons_of_mem _ e
theorem le_maxL {ns : List Int} {x : Int} (h : x ∈ ns) : x ≤ maxL ns := by
  cases ns with
  | nil => cases h
  | cons n ns =>
    rcases List.mem_cons.mp h with rfl | h
    · exact (foldl_max_spec ns x).2.1
    · exact (foldl_max_spec ns n).2.2 x h
theorem maxL_le {ns : List Int} {m : Int} (h : ns ≠ []) (hm : ∀ x ∈ ns, x ≤ m) : maxL ns ≤ m := hm _ (maxL_mem h)
theorem minL_mem {ns : List Int} (h : ns ≠ []) : minL ns ∈ ns := by
  cases ns with
  | nil => exact absurd rfl h
  | cons n ns =>
    rcases (foldl_min_spec ns n).1 with e | e
    · show ns.foldl min n ∈ _; rw [e]; exact List.mem_cons_self
    · exact List.mem_cons_of_mem _ e
theorem minL_le {ns : List Int} {x : Int} (h : x ∈ ns) : minL ns ≤ x := by
  cases ns with
  | nil => cases h
  | cons n ns =>
    rcases List.mem_cons.mp h with rfl | h
    · exact (foldl_min_spec ns x).2.1
    · exact (foldl_min_spec ns n).2.2 x h
/-! ### partings -/
/-- rising, from lo on, below hi -/
def inc : Nat → Nat → List Nat → Prop
  | _, _, [] => True
  | lo, hi, b :: bs => lo ≤ b ∧ b < hi ∧ inc (b + 1) hi bs
theorem inc_mono : ∀ {bs : List Nat} {lo lo' hi : Nat}, inc lo hi bs → lo' ≤ lo → inc lo' hi bs
  | [], _, _, _, _, _ => trivial
  | b :: bs, _, _, _, h, hl => ⟨Nat.le_trans hl h.1, h.2⟩
theorem inc_hi : ∀ {bs : List Nat} {lo hi hi' : Nat}, inc lo hi bs → hi ≤ hi' → inc lo hi' bs
  | [], _, _, _, _, _ => trivial
  | b :: bs, _, _, _, h, hl => ⟨h.1, Nat.lt_of_lt_of_le h.2.1 hl, inc_hi h.2.2 hl⟩
theorem inc_snoc : ∀ {bs : List Nat} {lo hi b : Nat}, inc lo b bs → lo ≤ b → b < hi → inc lo hi (bs ++ [b])
  | [], _, _, _, _, h1, h2 => ⟨h1, h2, trivial⟩
  | c :: bs, _, _, _, h, h1, h2 => ⟨h.1, Nat.lt_trans h.2.1 h2, inc_snoc h.2.2 h.2.1 h2⟩
theorem inc_split : ∀ {bs : List Nat} {lo hi : Nat}, inc lo (hi + 1) bs → inc lo hi bs ∨ ∃ cs, bs = cs ++ [hi] ∧ inc lo hi cs ∧ lo ≤ hi
  | [], _, _, _ => .inl trivial
  | c :: bs, lo, hi, h => by
    rcases inc_split h.2.2 with q | ⟨cs, rfl, q1, q2⟩
    · by_cases e : c = hi
      · subst e
        cases bs with
        | nil => exact .inr ⟨[], rfl, trivial, h.1⟩
        | cons b bs => exact absurd q.2.1 (by have := q.1; omega)
      · exact .inl ⟨h.1, by have := h.2.1; omega, q⟩
    · exact .inr ⟨c :: cs, rfl, ⟨h.1, by omega, q1⟩, by have := h.1; omega⟩
theorem inc_mem : ∀ {bs : List Nat} {lo hi b : Nat}, inc lo hi bs → b ∈ bs → lo ≤ b ∧ b < hi
  | c :: bs, lo, hi, b, h, m => by
    rcases List.mem_cons.mp m with rfl | m
    · exact ⟨h.1, h.2.1⟩
    · have := inc_mem h.2.2 m
      exact ⟨by have := h.1; omega, this.2⟩
/-- the parts' sums: tot stands in the part that is begun -/
def sums : Nat → Int → List Int → List Nat → List Int
  | _, tot, [], _ => [tot]
  | i, tot, w :: ws, [] => sums (i + 1) (tot + w) ws []
  | i, tot, w :: ws, b :: bs => if b = i then tot :: sums (i + 1) w ws bs else sums (i + 1) (tot + w) ws (b :: bs)
theorem sums_skip {i hi : Nat} {tot w : Int} {ws : List Int} {bs : List Nat} (h : inc (i + 1) hi bs) : sums i tot (w :: ws) bs = sums (i + 1) (tot + w) ws bs := by
  cases bs with
  | nil => rw [sums]
  | cons b bs => rw [sums, if_neg (by have := h.1; omega)]
theorem sums_ge : ∀ {ws : List Int} {i : Nat} {tot : Int} {bs : List Nat}, (∀ w ∈ ws, 0 ≤ w) → ∃ s ∈ sums i tot ws bs, tot ≤ s
  | [], _, tot, _, _ => ⟨tot, by rw [sums]; exact List.mem_cons_self, Int.le_refl _⟩
  | w :: ws, i, tot, [], h => by
    obtain ⟨s, h1, h2⟩ := sums_ge (ws := ws) (i := i + 1) (tot := tot + w) (bs := []) fun x hx => h x (List.mem_cons_of_mem _ hx)
    have := h w List.mem_cons_self
    exact ⟨s, by rw [sums]; exact h1, by omega⟩
  | w :: ws, i, tot, b :: bs, h => by
    rw [sums]
    by_cases e : b = i
    · rw [if_pos e]
      exact ⟨tot, List.mem_cons_self, Int.le_refl _⟩
    · rw [if_neg e]
      obtain ⟨s, h1, h2⟩ := sums_ge (ws := ws) (i := i + 1) (tot := tot + w) (bs := b :: bs) fun x hx => h x (List.mem_cons_of_mem _ hx)
      have := h w List.mem_cons_self
      exact ⟨s, h1, by omega⟩
/-- each work is within some part -/
theorem sums_work : ∀ {ws : List Int} {i : Nat} {tot : Int} {bs : List Nat} {x : Int}, (∀ w ∈ ws, 0 ≤ w) → 0 ≤ tot → x ∈ ws → ∃ s ∈ sums i tot ws bs, x ≤ s
  | w :: ws, i, tot, bs, x, h, ht, hx => by
    have h' : ∀ y ∈ ws, 0 ≤ y := fun y hy => h y (List.mem_cons_of_mem _ hy)
    have hw := h w List.mem_cons_self
    have both : ∀ (t : Int) (cs : List Nat), w ≤ t → ∃ s ∈ sums (i + 1) t ws cs, x ≤ s := fun t cs hwt => by
      rcases List.mem_cons.mp hx with rfl | hx
      · obtain ⟨s, h1, h2⟩ := sums_ge (i := i + 1) (tot := t) (bs := cs) h'
        exact ⟨s, h1, by omega⟩
      · exact sums_work h' (by omega) hx
    cases bs with
    | nil => rw [sums]; exact both _ _ (by omega)
    | cons b bs =>
      rw [sums]
      split
      · obtain ⟨s, h1, h2⟩ := both w bs (Int.le_refl _)
        exact ⟨s, List.mem_cons_of_mem _ h1, h2⟩
      · exact both _ _ (by omega)
theorem sums_ne {ws : List Int} {i : Nat} {tot : Int} {bs : List Nat} : sums i tot ws bs ≠ [] := by
  induction ws generalizing i tot bs with
  | nil => rw [sums]; simp
  | cons w ws ih =>
    cases bs with
    | nil => rw [sums]; exact ih
    | cons b bs => rw [sums]; split; simp; exact ih
/-- greedy: where the parts behind the first begin -/
def gr (m : Int) : Nat → Int → List Int → List Nat
  | _, _, [] => []
  | i, tot, w :: ws => if m < tot + w then i :: gr m (i + 1) w ws else gr m (i + 1) (tot + w) ws
theorem gr_inc (m : Int) : ∀ (ws : List Int) (i : Nat) (tot : Int), inc i (i + ws.length) (gr m i tot ws)
  | [], _, _ => trivial
  | w :: ws, i, tot => by
    unfold gr
    have h := fun t => gr_inc m ws (i + 1) t
    have e : i + (w :: ws).length = i + 1 + ws.length := by simp; omega
    rw [e]
    split
    · exact ⟨Nat.le_refl _, by omega, h w⟩
    · exact inc_mono (h _) (by omega)
theorem gr_len (m : Int) : ∀ (ws : List Int) (i : Nat) (tot : Int), (gr m i tot ws).length ≤ ws.length
  | [], _, _ => Nat.le_refl _
  | w :: ws, i, tot => by
    unfold gr
    split
    · have := gr_len m ws (i + 1) w; simp; exact this
    · have := gr_len m ws (i + 1) (tot + w); simp; omega
theorem gr_sums {m : Int} : ∀ {ws : List Int} {i : Nat} {tot : Int}, (∀ w ∈ ws, w ≤ m) → tot ≤ m → ∀ s ∈ sums i tot ws (gr m i tot ws), s ≤ m
  | [], _, _, _, ht, s, hs => by rw [sums] at hs; rw [List.mem_singleton.mp hs]; exact ht
  | w :: ws, i, tot, h, ht, s, hs => by
    have h' : ∀ y ∈ ws, y ≤ m := fun y hy => h y (List.mem_cons_of_mem _ hy)
    unfold gr at hs
    split at hs
    · rw [sums, if_pos rfl] at hs
      rcases List.mem_cons.mp hs with rfl | hs
      · exact ht
      · exact gr_sums h' (h w List.mem_cons_self) s hs
    · rw [sums_skip (gr_inc m ws (i + 1) (tot + w))] at hs
      exact gr_sums h' (by omega) s hs
theorem opt {m : Int} : ∀ {ws : List Int} {i hi : Nat} {tot tot' : Int} {bs : List Nat}, (∀ w ∈ ws, 0 ≤ w) → inc i hi bs → 0 ≤ tot' → (∀ s ∈ sums i tot' ws bs, s ≤ m) →
    (tot ≤ tot' → (gr m i tot ws).length ≤ bs.length) ∧ (gr m i tot ws).length ≤ bs.length + 1
  | [], _, _, _, _, _, _, _, _, _ => by unfold gr; simp
  | w :: ws, i, hi, tot, tot', bs, h, hb, ht, hs => by
    have h' : ∀ y ∈ ws, 0 ≤ y := fun y hy => h y (List.mem_cons_of_mem _ hy)
    have hw := h w List.mem_cons_self
    unfold gr
    by_cases hbeg : ∃ cs, bs = i :: cs
    · obtain ⟨cs, rfl⟩ := hbeg
      rw [sums, if_pos rfl] at hs
      have hs' : ∀ s ∈ sums (i + 1) w ws cs, s ≤ m := fun s q => hs s (List.mem_cons_of_mem _ q)
      split
      · have := (opt (tot := w) h' hb.2.2 hw hs').1 (Int.le_refl _)
        simp only [List.length_cons]
        exact ⟨fun _ => by omega, by omega⟩
      · have := (opt (tot := tot + w) h' hb.2.2 hw hs').2
        simp only [List.length_cons]
        exact ⟨fun _ => by omega, by omega⟩
    · have hb' : inc (i + 1) hi bs := by
        cases bs with
        | nil => trivial
        | cons b bs =>
          refine ⟨?_, hb.2⟩
          have := hb.1
          have : b ≠ i := fun e => hbeg ⟨bs, by rw [e]⟩
          omega
      rw [sums_skip hb'] at hs
      split
      · have q := (opt (tot := w) h' hb' (by omega) hs).1 (by omega)
        refine ⟨fun hle => ?_, by simp; exact q⟩
        obtain ⟨s, h1, h2⟩ := sums_ge (i := i + 1) (tot := tot' + w) (bs := bs) h'
        have := hs s h1
        omega
      · have q := opt (tot := tot + w) h' hb' (by omega) hs
        exact ⟨fun hle => q.1 (by omega), q.2⟩
/-- where a part ends: its sum with the next work -/
def nx (m : Int) : Int → List Int → List Int
  | _, [] => []
  | tot, w :: ws => if m < tot + w then (tot + w) :: nx m w ws else nx m (tot + w) ws
theorem nx_gt {m : Int} : ∀ {ws : List Int} {tot x : Int}, x ∈ nx m tot ws → m < x
  | w :: ws, tot, x, h => by
    unfold nx at h
    split at h
    · rcases List.mem_cons.mp h with rfl | h
      · assumption
      · exact nx_gt h
    · exact nx_gt h
theorem nx_len {m : Int} : ∀ {ws : List Int} {i : Nat} {tot : Int}, (nx m tot ws).length = (gr m i tot ws).length
  | [], _, _ => rfl
  | w :: ws, i, tot => by
    unfold nx gr
    split
    · simp only [List.length_cons]; rw [nx_len]
    · exact nx_len
theorem gr_same {m m' : Int} (hm : m ≤ m') : ∀ {ws : List Int} {i : Nat} {tot : Int}, (∀ x ∈ nx m tot ws, m' < x) → gr m' i tot ws = gr m i tot ws
  | [], _, _, _ => rfl
  | w :: ws, i, tot, h => by
    unfold nx at h
    unfold gr
    split
    · rename_i c
      rw [if_pos (by omega)] at h
      rw [if_pos (by omega), gr_same hm fun x hx => h x (List.mem_cons_of_mem _ hx)]
    · rename_i c
      by_cases c2 : m < tot + w
      · rw [if_pos c2] at h
        exact absurd (h (tot + w) List.mem_cons_self) c
      · rw [if_neg c2] at h
        rw [if_neg c2, gr_same hm h]
theorem nx_zip {m : Int} {W : Nat → Int} : ∀ {ws : List Int} {i : Nat} {tot : Int}, (∀ j x, ws[j]? = some x → W (i + j) = x) →
    nx m tot ws = List.zipWith (fun s b => s + W b) (sums i tot ws (gr m i tot ws)) (gr m i tot ws)
  | [], _, _, _ => by unfold nx gr; simp
  | w :: ws, i, tot, h => by
    have h' : ∀ j x, ws[j]? = some x → W (i + 1 + j) = x := fun j x e => by
      have := h (j + 1) x (by simpa using e)
      rw [← this]; congr 1; omega
    have h0 : W i = w := h 0 w rfl
    unfold nx gr
    split
    · rw [sums, if_pos rfl, List.zipWith_cons_cons, h0, nx_zip h']
    · rw [sums_skip (gr_inc m ws (i + 1) (tot + w)), nx_zip h']
/-! ### all partings -/
def rowsT (stages : Nat) : Nat → List (List Nat)
  | 0 => [[0]]
  | t + 1 => rowsT stages t ++ ((rowsT stages t).filter fun row => decide (row.length < stages)).map fun row => row ++ [t + 1]
theorem rowsT_mem {stages : Nat} (h : 1 ≤ stages) : ∀ {t : Nat} {row : List Nat}, row ∈ rowsT stages t ↔ ∃ bs, row = 0 :: bs ∧ inc 1 (t + 1) bs ∧ row.length ≤ stages
  | 0, row => by
    rw [rowsT, List.mem_singleton]
    constructor
    · rintro rfl; exact ⟨[], rfl, trivial, by simpa using h⟩
    · rintro ⟨bs, rfl, h1, _⟩
      cases bs with
      | nil => rfl
      | cons b bs => have := h1.1; have := h1.2.1; omega
  | t + 1, row => by
    rw [rowsT, List.mem_append, List.mem_map]
    constructor
    · rintro (q | ⟨r, q, rfl⟩)
      · obtain ⟨bs, e, h1, h2⟩ := (rowsT_mem h).mp q
        exact ⟨bs, e, inc_hi h1 (by omega), h2⟩
      · rw [List.mem_filter] at q
        obtain ⟨bs, rfl, h1, h2⟩ := (rowsT_mem h).mp q.1
        have h3 := of_decide_eq_true q.2
        exact ⟨bs ++ [t + 1], rfl, inc_snoc h1 (by omega) (by omega), by simp at h3 ⊢; omega⟩
    · rintro ⟨bs, rfl, h1, h2⟩
      rcases inc_split h1 with q | ⟨cs, rfl, q1, q2⟩
      · exact .inl ((rowsT_mem h).mpr ⟨bs, rfl, q, h2⟩)
      · right
        simp at h2
        refine ⟨0 :: cs, List.mem_filter.mpr ⟨(rowsT_mem h).mpr ⟨cs, rfl, q1, by simp; omega⟩, ?_⟩, rfl⟩
        exact decide_eq_true (by simp; omega)
theorem rowsT_ne {stages t : Nat} : rowsT stages t ≠ [] := by
  induction t with
  | zero => rw [rowsT]; simp
  | succ t ih => rw [rowsT]; simp [ih]
/-! ### the best -/
/-- the works are w :: ws; a row is 0 :: bs -/
def rsum (w : Int) (ws : List Int) (row : List Nat) : List Int := sums 1 w ws row.tail
def grd (m w : Int) (ws : List Int) : List Nat := 0 :: gr m 1 w ws
def best (stages : Nat) (w : Int) (ws : List Int) : Int := minL ((rowsT stages ws.length).map fun row => maxL (rsum w ws row ++ [0]))
section
variable {stages : Nat} {w : Int} {ws : List Int} (h1 : 1 ≤ stages) (h0 : ∀ x ∈ w :: ws, 0 ≤ x)
include h1 h0
theorem best_row : ∃ row ∈ rowsT stages ws.length, best stages w ws = maxL (rsum w ws row ++ [0]) := by
  have := minL_mem (ns := (rowsT stages ws.length).map fun row => maxL (rsum w ws row ++ [0])) (by simp [rowsT_ne])
  obtain ⟨row, h, e⟩ := List.mem_map.mp this
  exact ⟨row, h, e.symm⟩
/-- at the best greedy takes few enough -/
theorem best_few : (grd (best stages w ws) w ws).length ≤ stages := by
  obtain ⟨row, hm, e⟩ := best_row h1 h0
  obtain ⟨bs, rfl, hi, hl⟩ := (rowsT_mem h1).mp hm
  have q := (opt (m := best stages w ws) (i := 1) (tot := w) (tot' := w) (bs := bs) (ws := ws) (fun x hx => h0 x (List.mem_cons_of_mem _ hx)) hi (h0 w List.mem_cons_self) (fun s hs => by
    rw [e]; exact le_maxL (List.mem_append_left _ hs))).1 (Int.le_refl _)
  simp only [grd, List.length_cons] at hl ⊢
  omega
/-- no work is greater than the best -/
theorem best_ge {x : Int} (hx : x ∈ w :: ws) : x ≤ best stages w ws := by
  obtain ⟨row, hm, e⟩ := best_row h1 h0
  rw [e]
  have h0' : ∀ y ∈ ws, 0 ≤ y := fun y hy => h0 y (List.mem_cons_of_mem _ hy)
  rcases List.mem_cons.mp hx with rfl | hx
  · obtain ⟨s, a, b⟩ := sums_ge (i := 1) (tot := x) (bs := row.tail) h0'
    exact Int.le_trans b (le_maxL (List.mem_append_left _ a))
  · obtain ⟨s, a, b⟩ := sums_work (i := 1) (tot := w) (bs := row.tail) h0' (h0 w List.mem_cons_self) hx
    exact Int.le_trans b (le_maxL (List.mem_append_left _ a))
theorem best_nn : 0 ≤ best stages w ws := Int.le_trans (h0 w List.mem_cons_self) (best_ge h1 h0 List.mem_cons_self)
/-- below the best greedy takes too many -/
theorem best_many {m : Int} (hm : ∀ x ∈ w :: ws, x ≤ m) (hb : m < best stages w ws) : stages < (grd m w ws).length := by
  by_cases hl : (grd m w ws).length ≤ stages
  · have hr : grd m w ws ∈ rowsT stages ws.length := (rowsT_mem h1).mpr ⟨gr m 1 w ws, rfl, by have := gr_inc m ws 1 w; rw [Nat.add_comm] at this; exact this, hl⟩
    have q : best stages w ws ≤ maxL (rsum w ws (grd m w ws) ++ [0]) := minL_le (List.mem_map.mpr ⟨_, hr, rfl⟩)
    have q2 : maxL (rsum w ws (grd m w ws) ++ [0]) ≤ m := maxL_le (by simp) fun x hx => by
      rcases List.mem_append.mp hx with hx | hx
      · exact gr_sums (fun y hy => hm y (List.mem_cons_of_mem _ hy)) (hm w List.mem_cons_self) x hx
      · rw [List.mem_singleton.mp hx]; exact Int.le_trans (h0 w List.mem_cons_self) (hm w List.mem_cons_self)
    omega
  · omega
/-- greedy at the best takes the best -/
theorem best_max : maxL (rsum w ws (grd (best stages w ws) w ws) ++ [0]) = best stages w ws := by
  have hm : ∀ x ∈ w :: ws, x ≤ best stages w ws := fun x hx => best_ge h1 h0 hx
  have q2 : maxL (rsum w ws (grd (best stages w ws) w ws) ++ [0]) ≤ best stages w ws := maxL_le (by simp) fun x hx => by
    rcases List.mem_append.mp hx with hx | hx
    · exact gr_sums (fun y hy => hm y (List.mem_cons_of_mem _ hy)) (hm w List.mem_cons_self) x hx
    · rw [List.mem_singleton.mp hx]; exact best_nn h1 h0
  have hr : grd (best stages w ws) w ws ∈ rowsT stages ws.length := (rowsT_mem h1).mpr ⟨gr (best stages w ws) 1 w ws, rfl, by have := gr_inc (best stages w ws) ws 1 w; rw [Nat.add_comm] at this; exact this, best_few h1 h0⟩
  have q : best stages w ws ≤ maxL (rsum w ws (grd (best stages w ws) w ws) ++ [0]) := minL_le (List.mem_map.mpr ⟨_, hr, rfl⟩)
  omega
/-- a step of the search -/
theorem best_step {m : Int} (hm : ∀ x ∈ w :: ws, x ≤ m) (hb : m ≤ best stages w ws) (hl : stages < (grd m w ws).length) : nx m w ws ≠ [] ∧ m < minL (nx m w ws) ∧ minL (nx m w ws) ≤ best stages w ws := by
  have hne : nx m w ws ≠ [] := by
    intro e
    have := nx_len (m := m) (ws := ws) (i := 1) (tot := w)
    rw [e] at this
    simp only [grd, List.length_cons, List.length_nil] at hl this
    omega
  refine ⟨hne, nx_gt (minL_mem hne), ?_⟩
  by_cases c : minL (nx m w ws) ≤ best stages w ws
  · exact c
  · have e := gr_same (i := 1) hb (tot := w) (ws := ws) fun x hx => Int.lt_of_lt_of_le (by omega) (minL_le hx)
    have q := best_few h1 h0
    unfold grd at q hl
    rw [e] at q
    omega
end
end Q
set_option Elab.async false
set_option linter.all false
set_option maxRecDepth 100000
set_option maxHeartbeats 1000000
/-! L52: the law k52 in plain Lean. -/
namespace Q
open L2 PyProof.Rows PySem PySem.Spec
variable {cs : Nat → PV} {k : Nat} {S : Store}
abbrev tpI (ws : List Int) : PV := .tup (ws.map .int)
abbrev tpN (bs : List Nat) : PV := .tup (bs.map fun b : Nat => .int (b : Int))
def greedyF (most : Int) : List Int → List Nat
  | [] => []
  | w :: ws => grd most w ws
theorem closed_tpI (ws : List Int) : closed (tpI ws) = true := by unfold closed; exact closedL_ints ws
theorem closedL_nats (bs : List Nat) : closedL (bs.map fun b : Nat => .int (b : Int)) = true := closedL_map (fun _ => rfl) bs
theorem closed_tpN (bs : List Nat) : closed (tpN bs) = true := by unfold closed; exact closedL_map (fun _ => rfl) bs
def grI (most : Int) (ws : List Int) (i : Nat) (acc : List Nat) (tot : Int) : Prop := acc ++ gr most i tot (ws.drop i) = greedyF most ws ∧ acc.length ≤ i
theorem grI_0 {most w : Int} {ws : List Int} (h : ws[0]? = some w) : grI most ws 1 [0] w := by
  cases ws with
  | nil => cases h
  | cons a ws => cases h; exact ⟨rfl, Nat.le_refl _⟩
theorem grI_beg {most w tot : Int} {ws : List Int} {i : Nat} {acc : List Nat} (h : ws[i]? = some w) (g : grI most ws i acc tot) (c : most < tot + w) : grI most ws (i + 1) (acc ++ [i]) w := by
  obtain ⟨hi, e⟩ := List.getElem?_eq_some_iff.mp h
  have d : ws.drop i = w :: ws.drop (i + 1) := by rw [← e]; exact List.drop_eq_getElem_cons hi
  have g1 := g.1
  rw [d, gr, if_pos c] at g1
  refine ⟨by rw [← g1]; simp, by have := g.2; simp; exact this⟩
theorem grI_go {most w tot : Int} {ws : List Int} {i : Nat} {acc : List Nat} (h : ws[i]? = some w) (g : grI most ws i acc tot) (c : ¬ most < tot + w) : grI most ws (i + 1) acc (tot + w) := by
  obtain ⟨hi, e⟩ := List.getElem?_eq_some_iff.mp h
  have d : ws.drop i = w :: ws.drop (i + 1) := by rw [← e]; exact List.drop_eq_getElem_cons hi
  have g1 := g.1
  rw [d, gr, if_neg c] at g1
  exact ⟨g1, by have := g.2; omega⟩
theorem sp_greedy (ws : List Int) (most : Int) (hl : ws.length ≤ 63) : callP ds cs (k + 1) 0 [tpI ws, .int most] S = .ok (tpN (greedyF most ws)) S := by
  refine callP_pure (d := dgreedy_parting) rfl rfl (by simp [closedL, closed, closedL_ints]) (closed_tpN _) ?_
  generalize hQ : (fun (v : PV) (_ : Store) => v = tpN (greedyF most ws)) = Q
  show ((evSs _ igreedy_parting [some (tpI ws), some (.int most), none, none, none] []).bind endR).wp Q
  unfold igreedy_parting
  have hr := rangeP1 (S := [.lst []]) (rgOk_nat (n := ws.length) (by omega))
  simp [hr]
  rw [wp_bind, wp_bind]
  refine for_rng (R := fun i ρ S => ∃ (acc : List Nat) (t : PV) (o : Option PV), ρ = [some (tpI ws), some (.int most), o, some (.ref 0), some t] ∧ S = [.lst (acc.map fun b : Nat => .int (b : Int))] ∧
    ((i = 0 ∧ acc = [] ∧ t = .non) ∨ (0 < i ∧ ∃ tot, t = .int tot ∧ grI most ws i acc tot))) ⟨[], .non, none, rfl, rfl, .inl ⟨rfl, rfl, rfl⟩⟩ ?_ ?_
  · rintro i ρ S hi ⟨acc, t, o, rfl, rfl, h⟩
    have hi' : i < ws.length := by omega
    obtain ⟨w, hw⟩ : ∃ w, ws[i]? = some w := ⟨_, List.getElem?_eq_getElem hi'⟩
    rcases h with ⟨rfl, rfl, rfl⟩ | ⟨h0, tot, rfl, g⟩
    · exact wp_of (.nx [some (tpI ws), some (.int most), some (.int 0), some (.ref 0), some (.int w)]) [.lst [.int 0]] (by simp [turnF, isNon, hw]) ⟨[0], .int w, _, rfl, rfl, .inr ⟨by omega, w, rfl, grI_0 hw⟩⟩
    · have hacc := g.2
      by_cases c : most < tot + w
      · have hb : acc.length < 16777216 := by omega
        exact wp_of (.nx [some (tpI ws), some (.int most), some (.int i), some (.ref 0), some (.int w)]) [.lst ((acc ++ [i]).map fun b : Nat => .int (b : Int))] (by simp [turnF, isNon, hw, c, hb]) ⟨acc ++ [i], .int w, _, rfl, rfl, .inr ⟨by omega, w, rfl, grI_beg hw g c⟩⟩
      · exact wp_of (.nx [some (tpI ws), some (.int most), some (.int i), some (.ref 0), some (.int (tot + w))]) [.lst (acc.map fun b : Nat => .int (b : Int))] (by simp [turnF, isNon, hw, c]) ⟨acc, .int (tot + w), _, rfl, rfl, .inr ⟨by omega, _, rfl, grI_go hw g c⟩⟩
  · rintro ρ S ⟨acc, t, o, rfl, rfl, h⟩
    subst hQ
    have e : acc = greedyF most ws := by
      rcases h with ⟨h1, rfl, _⟩ | ⟨h1, tot, _, g⟩
      · cases ws with
        | nil => rfl
        | cons w ws => simp at h1
      · have := g.1
        rw [List.drop_eq_nil_of_le (by omega), gr, List.append_nil] at this
        exact this
    simp [e]
theorem sp_lgreedy (ws : List Int) (most : Int) (hl : ws.length ≤ 63) : callP ds cs (k + 1) 11 [tpI ws, .int most] S = .ok (tpN (greedyF most ws)) S := by
  refine callP_pure (d := d_law_greedy) rfl rfl (by simp [closedL, closed, closedL_ints]) (closed_tpN _) ?_
  generalize hQ : (fun (v : PV) (_ : Store) => v = tpN (greedyF most ws)) = Q
  show ((evSs _ i_law_greedy [some (tpI ws), some (.int most), none, none, none] []).bind endR).wp Q
  unfold i_law_greedy
  have hr := rangeP1 (S := [.lst []]) (rgOk_nat (n := ws.length) (by omega))
  simp [hr]
  rw [wp_bind, wp_bind]
  refine for_rng (R := fun i ρ S => ∃ (acc : List Nat) (tot : Int) (o : Option PV), ρ = [some (tpI ws), some (.int most), o, some (.ref 0), some (.int tot)] ∧ S = [.lst (acc.map fun b : Nat => .int (b : Int))] ∧
    ((i = 0 ∧ acc = []) ∨ (0 < i ∧ grI most ws i acc tot))) ⟨[], 0, none, rfl, rfl, .inl ⟨rfl, rfl⟩⟩ ?_ ?_
  · rintro i ρ S hi ⟨acc, tot, o, rfl, rfl, h⟩
    have hi' : i < ws.length := by omega
    obtain ⟨w, hw⟩ : ∃ w, ws[i]? = some w := ⟨_, List.getElem?_eq_getElem hi'⟩
    rcases h with ⟨rfl, rfl⟩ | ⟨h0, g⟩
    · exact wp_of (.nx [some (tpI ws), some (.int most), some (.int 0), some (.ref 0), some (.int w)]) [.lst [.int 0]] (by simp [turnF, hw]) ⟨[0], w, _, rfl, rfl, .inr ⟨by omega, grI_0 hw⟩⟩
    · have hacc := g.2
      have hz : ¬ i = 0 := by omega
      by_cases c : most < tot + w
      · have hb : acc.length < 16777216 := by omega
        exact wp_of (.nx [some (tpI ws), some (.int most), some (.int i), some (.ref 0), some (.int w)]) [.lst ((acc ++ [i]).map fun b : Nat => .int (b : Int))] (by simp [turnF, hw, c, hb, hz]) ⟨acc ++ [i], w, _, rfl, rfl, .inr ⟨by omega, grI_beg hw g c⟩⟩
      · exact wp_of (.nx [some (tpI ws), some (.int most), some (.int i), some (.ref 0), some (.int (tot + w))]) [.lst (acc.map fun b : Nat => .int (b : Int))] (by simp [turnF, hw, c, hz]) ⟨acc, tot + w, _, rfl, rfl, .inr ⟨by omega, grI_go hw g c⟩⟩
  · rintro ρ S ⟨acc, tot, o, rfl, rfl, h⟩
    subst hQ
    have e : acc = greedyF most ws := by
      rcases h with ⟨h1, rfl⟩ | ⟨h1, g⟩
      · cases ws with
        | nil => rfl
        | cons w ws => simp at h1
      · have := g.1
        rw [List.drop_eq_nil_of_le (by omega), gr, List.append_nil] at this
        exact this
    simp [e]
/-! ### the parts' sums -/
def seg (ws : List Int) (b e : Nat) : Int := ((ws.drop b).take (e - b)).sum
def pR (ws : List Int) (b : Nat) : List Nat → List Int
  | [] => [seg ws b ws.length]
  | c :: bs => seg ws b c :: pR ws c bs
theorem pR_range (ws : List Int) : ∀ (bs : List Nat) (b : Nat), (List.range (bs.length + 1)).map (fun t => seg ws ((b :: bs).getD t 0) ((bs ++ [ws.length]).getD t 0)) = pR ws b bs
  | [], b => by simp [pR]
  | c :: bs, b => by
    rw [List.length_cons, List.range_succ_eq_map, List.map_cons, List.map_map, pR, ← pR_range ws bs c]
    rfl
theorem seg_succ {ws : List Int} {b i : Nat} {x : Int} (h : b ≤ i) (hx : ws[i]? = some x) : seg ws b (i + 1) = seg ws b i + x := by
  unfold seg
  have e : i + 1 - b = (i - b) + 1 := by omega
  rw [e, List.take_add_one, List.getElem?_drop, show b + (i - b) = i by omega, hx]
  simp
theorem seg_self (ws : List Int) (b : Nat) : seg ws b b = 0 := by unfold seg; simp
theorem pR_sums (ws : List Int) : ∀ (l : List Int) (i b : Nat) (tot : Int) (bs : List Nat), l = ws.drop i → i ≤ ws.length → b ≤ i → tot = seg ws b i → inc i ws.length bs → pR ws b bs = sums i tot l bs
  | [], i, b, tot, bs, hl, hi, hb, ht, hn => by
    have : ws.length ≤ i := by have := congrArg List.length hl; simp at this; omega
    have e : i = ws.length := by omega
    subst e
    cases bs with
    | nil => rw [sums, pR, ht]
    | cons c bs => have := hn.1; have := hn.2.1; omega
  | x :: l, i, b, tot, bs, hl, hi, hb, ht, hn => by
    have hlt : i < ws.length := by
      by_cases h : i < ws.length
      · exact h
      · rw [List.drop_eq_nil_of_le (by omega)] at hl; cases hl
    rw [List.drop_eq_getElem_cons hlt] at hl
    have e1 : ws[i]? = some x := by rw [List.getElem?_eq_getElem hlt]; exact congrArg some (List.cons.inj hl).1.symm
    have e2 := (List.cons.inj hl).2
    have st := seg_succ (b := b) hb e1
    by_cases hbeg : ∃ cs, bs = i :: cs
    · obtain ⟨cs, rfl⟩ := hbeg
      rw [sums, if_pos rfl, pR, ht]
      congr 1
      exact pR_sums ws l (i + 1) i x cs e2 (by omega) (by omega) (by rw [seg_succ (Nat.le_refl i) e1, seg_self]; omega) hn.2.2
    · have hn' : inc (i + 1) ws.length bs := by
        cases bs with
        | nil => trivial
        | cons c bs =>
          refine ⟨?_, hn.2⟩
          have := hn.1
          have : c ≠ i := fun e => hbeg ⟨bs, by rw [e]⟩
          omega
      rw [sums_skip hn']
      exact pR_sums ws l (i + 1) b (tot + x) bs e2 (by omega) (by omega) (by rw [st, ht]) hn'
/-- a row that is a parting -/
def rowOk (ws : List Int) (row : List Nat) : Prop := (ws = [] ∧ row = []) ∨ ∃ w ws' bs, ws = w :: ws' ∧ row = 0 :: bs ∧ inc 1 ws.length bs
def rs (ws : List Int) (row : List Nat) : List Int := match ws with
  | [] => []
  | w :: ws' => rsum w ws' row
def endsOf (ws : List Int) (row : List Nat) : List Nat := row.drop 1 ++ [ws.length]
theorem rs_eq {ws : List Int} {row : List Nat} (h : rowOk ws row) : (List.range row.length).map (fun t => seg ws (row.getD t 0) ((endsOf ws row).getD t 0)) = rs ws row := by
  rcases h with ⟨rfl, rfl⟩ | ⟨w, ws', bs, rfl, rfl, h⟩
  · rfl
  · rw [List.length_cons]
    show (List.range (bs.length + 1)).map (fun t => seg (w :: ws') ((0 :: bs).getD t 0) ((bs ++ [(w :: ws').length]).getD t 0)) = _
    rw [pR_range]
    exact pR_sums (w :: ws') ws' 1 0 w bs rfl (by simp) (by omega) (by simp [seg]) h
theorem inc_ge : ∀ {bs : List Nat} {lo hi t : Nat}, inc lo hi bs → t < bs.length → bs.getD t 0 ≤ (bs.drop 1 ++ [hi]).getD t 0 ∧ (bs.drop 1 ++ [hi]).getD t 0 ≤ hi
  | [b], lo, hi, 0, h, _ => by simpa using Nat.le_of_lt h.2.1
  | b :: c :: bs, lo, hi, 0, h, _ => by
    have := h.2.2.1; have := h.2.2.2.1
    simp; omega
  | b :: c :: bs, lo, hi, t + 1, h, ht => by
    have := inc_ge (t := t) h.2.2 (by simpa using ht)
    simpa using this
  | [b], lo, hi, t + 1, h, ht => by simp at ht
theorem rowOk_seg {ws : List Int} {row : List Nat} (h : rowOk ws row) {t : Nat} (ht : t < row.length) : row.getD t 0 ≤ (endsOf ws row).getD t 0 ∧ (endsOf ws row).getD t 0 ≤ ws.length := by
  rcases h with ⟨rfl, rfl⟩ | ⟨w, ws', bs, rfl, rfl, h⟩
  · simp at ht
  · have : inc 0 (w :: ws').length (0 :: bs) := ⟨Nat.le_refl _, by simp, h⟩
    exact inc_ge this ht
theorem intsOf_seg (ws : List Int) (a c : Nat) : intsOf (((ws.map .int).drop a).take c) = some ((ws.drop a).take c) := by
  rw [← List.map_drop, ← List.map_take, intsOf_map]
theorem endsLen {ws : List Int} {row : List Nat} (h : row ≠ []) : (endsOf ws row).length = row.length := by
  unfold endsOf
  cases row with
  | nil => exact absurd rfl h
  | cons a r => simp
theorem sp_pworks (ws : List Int) (row : List Nat) (h : rowOk ws row) (hl : ws.length ≤ 63) (hr : row.length ≤ 63) : callP ds cs (k + 1) 1 [tpI ws, tpN row] S = .ok (tpI (rs ws row)) S := by
  refine callP_pure (d := dparting_works) rfl rfl (by simp [closedL, closed, closedL_ints, closedL_nats]) (closed_tpI _) ?_
  show ((evSs _ iparting_works [some (tpI ws), some (tpN row), none, none] []).bind endR).wp fun v _ => v = tpI (rs ws row)
  unfold iparting_works
  have hrg := rangeP1 (S := []) (rgOk_nat (n := row.length) (by omega))
  have hb : row.length - 1 ≤ 16777215 := by omega
  have hc : compK { F := callP ds cs k, cs := cs } [3] (E.blt Bi.sum (Es.cons ((E.var 0).slc (Eo.some ((E.var 1).idx (E.var 3))) (Eo.some ((E.var 2).idx (E.var 3)))) Es.nil)) (Tg.name 3) Eo.none
      [some (tpI ws), some (tpN row), some (tpN (endsOf ws row)), none] ⟨none, rangeL 0 row.length⟩ [] = .ok (.lst ((rs ws row).map .int)) [] := by
    rw [rangeL_nat, ← rs_eq h, List.map_map]
    refine comp_map (g := fun t => .int (seg ws (row.getD t 0) ((endsOf ws row).getD t 0))) fun t acc ht hacc => ?_
    have ht' : t < row.length := List.mem_range.mp ht
    have h1 := getD_some ht' 0
    have h2 : (endsOf ws row)[t]? = some ((endsOf ws row).getD t 0) := getD_some (by rw [endsLen (by intro e; rw [e] at ht'; simp at ht')]; exact ht') 0
    obtain ⟨h3, h4⟩ := rowOk_seg h ht'
    have hacc' : acc.length < 16777216 := by simp at hacc; omega
    have hcut := cut_nat (ws.map .int) (a := row.getD t 0) (b := (endsOf ws row).getD t 0) (by simpa using h4) h3
    generalize row.getD t 0 = a at *
    generalize (endsOf ws row).getD t 0 = b at *
    simp [turnC, h1, h2, hcut, intsOf_seg, hacc', seg]
  have he : (row.map fun b : Nat => PV.int (b : Int)).tail ++ [PV.int ws.length] = (endsOf ws row).map fun b : Nat => .int (b : Int) := by unfold endsOf; simp
  have hb2 : (endsOf ws row).length ≤ 16777216 := by unfold endsOf; simp; omega
  simp [hrg, hb, hb2, he, hc]
theorem sp_lsums (ws : List Int) (row : List Nat) (h : rowOk ws row) (hl : ws.length ≤ 63) (hr : row.length ≤ 63) : callP ds cs (k + 1) 10 [tpI ws, tpN row] S = .ok (.lst ((rs ws row).map .int)) S := by
  refine callP_pure (d := d_law_sums) rfl rfl (by simp [closedL, closed, closedL_ints, closedL_nats]) (by unfold closed; exact closedL_ints _) ?_
  show ((evSs _ i_law_sums [some (tpI ws), some (tpN row), none, none] []).bind endR).wp fun v _ => v = .lst ((rs ws row).map .int)
  unfold i_law_sums
  have hrg := rangeP1 (S := []) (rgOk_nat (n := row.length) (by omega))
  have hb : row.length - 1 ≤ 16777215 := by omega
  have hc : compK { F := callP ds cs k, cs := cs } [3] (E.blt Bi.sum (Es.cons ((E.var 0).slc (Eo.some ((E.var 1).idx (E.var 3))) (Eo.some ((E.var 2).idx (E.var 3)))) Es.nil)) (Tg.name 3) Eo.none
      [some (tpI ws), some (tpN row), some (.lst ((endsOf ws row).map fun b : Nat => .int (b : Int))), none] ⟨none, rangeL 0 row.length⟩ [] = .ok (.lst ((rs ws row).map .int)) [] := by
    rw [rangeL_nat, ← rs_eq h, List.map_map]
    refine comp_map (g := fun t => .int (seg ws (row.getD t 0) ((endsOf ws row).getD t 0))) fun t acc ht hacc => ?_
    have ht' : t < row.length := List.mem_range.mp ht
    have h1 := getD_some ht' 0
    have h2 : (endsOf ws row)[t]? = some ((endsOf ws row).getD t 0) := getD_some (by rw [endsLen (by intro e; rw [e] at ht'; simp at ht')]; exact ht') 0
    obtain ⟨h3, h4⟩ := rowOk_seg h ht'
    have hacc' : acc.length < 16777216 := by simp at hacc; omega
    have hcut := cut_nat (ws.map .int) (a := row.getD t 0) (b := (endsOf ws row).getD t 0) (by simpa using h4) h3
    generalize row.getD t 0 = a at *
    generalize (endsOf ws row).getD t 0 = b at *
    simp [turnC, h1, h2, hcut, intsOf_seg, hacc', seg]
  have he : (row.map fun b : Nat => PV.int (b : Int)).tail ++ [PV.int ws.length] = (endsOf ws row).map fun b : Nat => .int (b : Int) := by unfold endsOf; simp
  have hb2 : (endsOf ws row).length ≤ 16777216 := by unfold endsOf; simp; omega
  simp [hrg, hb, hb2, he, hc]
/-! ### all rows -/
def rowsA (stages : Nat) (n : Nat) : List (List Nat) := match n with
  | 0 => [[]]
  | m + 1 => rowsT stages m
theorem rowsT_len (stages : Nat) : ∀ t, (rowsT stages t).length ≤ 2 ^ t
  | 0 => Nat.le_refl _
  | t + 1 => by
    have h1 := rowsT_len stages t
    have h2 := List.length_filter_le (fun row => decide (row.length < stages)) (rowsT stages t)
    rw [rowsT, List.length_append, List.length_map, Nat.pow_succ]
    omega
theorem rowsT_row {stages : Nat} : ∀ {t : Nat} {row : List Nat}, row ∈ rowsT stages t → row.length ≤ t + 1
  | 0, row, h => by rw [rowsT, List.mem_singleton] at h; subst h; simp
  | t + 1, row, h => by
    rw [rowsT, List.mem_append, List.mem_map] at h
    rcases h with h | ⟨r, h, rfl⟩
    · have := rowsT_row h; omega
    · have := rowsT_row (List.mem_filter.mp h).1; simp; omega
theorem sp_rows (n stages : Nat) (hn : n ≤ 8) : callP ds cs (k + 1) 9 [.int n, .int stages] S = .ok (.lst ((rowsA stages n).map tpN)) S := by
  refine callP_pure (d := d_law_all) rfl rfl (by simp [closedL, closed]) (by unfold closed; exact closedL_map closed_tpN _) ?_
  generalize hQ : (fun (v : PV) (_ : Store) => v = .lst ((rowsA stages n).map tpN)) = Q
  show ((evSs _ i_law_all [some (.int n), some (.int stages), none, none, none] []).bind endR).wp Q
  unfold i_law_all
  cases n with
  | zero => subst hQ; simp [rowsA]
  | succ m =>
    have hz : ¬ ((m : Int) + 1 = 0) := by omega
    have hrg := rangeP2 (S := []) (i := 1) (j := (m : Int) + 1) (rgOk_of (by decide) (by decide)) (rgOk_of (by omega) (by omega))
    simp [hz, hrg]
    rw [wp_bind, wp_bind]
    refine for_rng (R := fun i ρ S => ∃ (o o2 : Option PV), ρ = [some (.int (m + 1)), some (.int stages), some (.lst ((rowsT stages i).map tpN)), o, o2] ∧ S = []) ⟨_, _, rfl, rfl⟩ ?_ ?_
    · rintro i ρ S hi ⟨o, o2, rfl, rfl⟩
      have hi' : i < 8 := by omega
      have hlen : (rowsT stages i).length ≤ 256 := Nat.le_trans (rowsT_len stages i) (Nat.pow_le_pow_right (n := 2) (by decide) (by omega : i ≤ 8))
      have hc : compK { F := callP ds cs k, cs := cs } [4] (E.bin Bo.add (E.var 4) (E.tup (Es.cons (E.var 3) Es.nil))) (Tg.name 4) (Eo.some (E.cmp Co.lt (E.blt Bi.len (Es.cons (E.var 4) Es.nil)) (E.var 1)))
          [some (.int (m + 1)), some (.int stages), some (.lst ((rowsT stages i).map tpN)), some (.int (1 + i)), o2] ⟨none, (rowsT stages i).map tpN⟩ [] = .ok (.lst ((((rowsT stages i).filter fun row => decide (row.length < stages)).map fun row => row ++ [i + 1]).map tpN)) [] := by
        rw [List.map_map]
        refine comp_filter fun row acc hrow hacc => ?_
        have hrl := rowsT_row hrow
        have h1 : acc.length < 16777216 := by omega
        have h2 : row.length ≤ 16777215 := by omega
        by_cases c : row.length < stages
        · simp [turnC, h1, h2, c]
          omega
        · simp [turnC, h1, h2, c]
      have hlen2 := List.length_filter_le (fun row => decide (row.length < stages)) (rowsT stages i)
      refine wp_of (.nx [some (.int (m + 1)), some (.int stages), some (.lst ((rowsT stages (i + 1)).map tpN)), some (.int (1 + i)), o2]) [] ?_ ⟨_, _, rfl, rfl⟩
      have hb3 : (rowsT stages i).length + ((rowsT stages i).filter fun row => decide (row.length < stages)).length ≤ 16777216 := by omega
      simp [turnF, hc, hb3, rowsT]
    · rintro ρ S ⟨o, o2, rfl, rfl⟩
      subst hQ
      simp [rowsA]
/-! ### the best -/
def bestA (stages : Nat) : List Int → Int
  | [] => 0
  | w :: ws => best stages w ws
def oneA (ws : List Int) : Int := maxL (ws ++ [0])
theorem oneA_ge {ws : List Int} {x : Int} (h : x ∈ ws) : x ≤ oneA ws := le_maxL (List.mem_append_left _ h)
theorem oneA_nn {ws : List Int} : 0 ≤ oneA ws := le_maxL (List.mem_append_right _ (List.mem_singleton.mpr rfl))
theorem oneA_le {stages : Nat} (h1 : 1 ≤ stages) {ws : List Int} (h0 : ∀ x ∈ ws, 0 ≤ x) : oneA ws ≤ bestA stages ws := by
  cases ws with
  | nil => exact Int.le_refl _
  | cons w ws =>
    refine maxL_le (by simp) fun x hx => ?_
    rcases List.mem_append.mp hx with hx | hx
    · exact best_ge h1 h0 hx
    · rw [List.mem_singleton.mp hx]; exact best_nn h1 h0
theorem greedy_row (m : Int) (ws : List Int) : rowOk ws (greedyF m ws) := by
  cases ws with
  | nil => exact .inl ⟨rfl, rfl⟩
  | cons w ws =>
    refine .inr ⟨w, ws, _, rfl, rfl, ?_⟩
    have := gr_inc m ws 1 w
    rw [Nat.add_comm] at this
    exact this
theorem greedy_len (m : Int) (ws : List Int) : (greedyF m ws).length ≤ ws.length := by
  cases ws with
  | nil => exact Nat.le_refl _
  | cons w ws => have := gr_len m ws 1 w; simp [greedyF, grd]; exact this
/-- where parts end: sums with the next work -/
def nxA (m : Int) : List Int → List Int
  | [] => []
  | w :: ws => nx m w ws
theorem rs_len {ws : List Int} {row : List Nat} (h : rowOk ws row) : (rs ws row).length = row.length := by
  rw [← rs_eq h]; simp
theorem nxA_eq (m : Int) (ws : List Int) : (List.range ((greedyF m ws).length - 1)).map (fun t => (rs ws (greedyF m ws)).getD t 0 + ws.getD ((greedyF m ws).getD (t + 1) 0) 0) = nxA m ws := by
  cases ws with
  | nil => rfl
  | cons w ws =>
    have hz := nx_zip (m := m) (W := fun b => (w :: ws).getD b 0) (ws := ws) (i := 1) (tot := w) (fun j x e => by
      show (w :: ws).getD (1 + j) 0 = x
      rw [Nat.add_comm, List.getD_cons_succ, List.getD_eq_getElem?_getD, e]; rfl)
    show _ = nx m w ws
    rw [hz]
    have hl := rs_len (greedy_row m (w :: ws))
    have e : rs (w :: ws) (greedyF m (w :: ws)) = sums 1 w ws (gr m 1 w ws) := rfl
    rw [e] at hl ⊢
    have e2 : greedyF m (w :: ws) = 0 :: gr m 1 w ws := rfl
    rw [e2] at hl ⊢
    generalize gr m 1 w ws = g at *
    generalize sums 1 w ws g = ss at *
    apply List.ext_getElem
    · simp at hl ⊢; omega
    · intro i h1 h2
      simp at h1 hl
      simp [List.getD_eq_getElem?_getD, show i < ss.length by omega, h1]
theorem sp_next (T : Tb) (m : Int) (ws : List Int) (hl : ws.length ≤ 63) {x y z : Option PV} :
    compK T [5] (.bin .add (.idx (.var 4) (.var 5)) (.idx (.var 0) (.idx (.var 3) (.bin .add (.var 5) (.int 1))))) (.name 5) .none
      [some (tpI ws), x, y, some (tpN (greedyF m ws)), some (tpI (rs ws (greedyF m ws))), z] ⟨none, rangeL 0 ((greedyF m ws).length - 1 : Nat)⟩ S = .ok (.lst ((nxA m ws).map .int)) S := by
  have hg := greedy_len m ws
  have hrl := rs_len (greedy_row m ws)
  rw [rangeL_nat, ← nxA_eq, List.map_map]
  refine comp_map (g := fun t => .int ((rs ws (greedyF m ws)).getD t 0 + ws.getD ((greedyF m ws).getD (t + 1) 0) 0)) fun t acc ht hacc => ?_
  have ht' := List.mem_range.mp ht
  have h1 : (rs ws (greedyF m ws))[t]? = _ := getD_some (by omega) 0
  have h2 : (greedyF m ws)[t + 1]? = _ := getD_some (by omega) 0
  have h3 : (greedyF m ws).getD (t + 1) 0 < ws.length := by
    rcases greedy_row m ws with ⟨e1, e2⟩ | ⟨w, ws', bs, e1, e2, h⟩
    · rw [e2] at ht'; simp at ht'
    · rw [e2]
      rw [e2] at ht'
      have : bs.getD t 0 ∈ bs := by
        have := getD_some (xs := bs) (i := t) (by simpa using ht') 0
        exact List.mem_of_getElem? this
      exact (inc_mem h this).2
  have h4 := getD_some h3 0
  have hacc' : acc.length < 16777216 := by simp at hacc; omega
  generalize (rs ws (greedyF m ws)).getD t 0 = a at *
  generalize (greedyF m ws).getD (t + 1) 0 = b at *
  generalize ws.getD b 0 = c at *
  simp [turnC, h1, h2, h4, hacc']
theorem nxA_fact {stages : Nat} (h1 : 1 ≤ stages) {ws : List Int} (h0 : ∀ x ∈ ws, 0 ≤ x) {m : Int} (hm : oneA ws ≤ m) (hb : m ≤ bestA stages ws) (hl : stages < (greedyF m ws).length) :
    nxA m ws ≠ [] ∧ m < minL (nxA m ws) ∧ minL (nxA m ws) ≤ bestA stages ws := by
  cases ws with
  | nil => simp [greedyF] at hl
  | cons w ws => exact best_step h1 h0 (fun x hx => Int.le_trans (oneA_ge hx) hm) hb hl
theorem bestA_few {stages : Nat} (h1 : 1 ≤ stages) {ws : List Int} (h0 : ∀ x ∈ ws, 0 ≤ x) : (greedyF (bestA stages ws) ws).length ≤ stages := by
  cases ws with
  | nil => simp [greedyF]
  | cons w ws => exact best_few h1 h0
theorem bestA_many {stages : Nat} (h1 : 1 ≤ stages) {ws : List Int} (h0 : ∀ x ∈ ws, 0 ≤ x) {m : Int} (hm : oneA ws ≤ m) (hb : m < bestA stages ws) : stages < (greedyF m ws).length := by
  cases ws with
  | nil => have := oneA_nn (ws := []); simp [bestA] at hb; omega
  | cons w ws => exact best_many h1 h0 (fun x hx => Int.le_trans (oneA_ge hx) hm) hb
theorem sp_best_most (ws : List Int) (stages : Nat) (hl : ws.length ≤ 63) (h1 : 1 ≤ stages) (h0 : ∀ x ∈ ws, 0 ≤ x) : callP ds cs (k + 2) 2 [tpI ws, .int stages] S = .ok (.int (bestA stages ws)) S := by
  refine callP_pure (d := dbest_most) rfl rfl (by simp [closedL, closed, closedL_ints]) rfl ?_
  generalize hQ : (fun (v : PV) (_ : Store) => v = .int (bestA stages ws)) = Q
  show ((evSs _ ibest_most [some (tpI ws), some (.int stages), none, none, none, none] []).bind endR).wp Q
  unfold ibest_most
  have hb : ws.length + 1 ≤ 16777216 := by omega
  have hone : maxL (ws ++ [0]) = oneA ws := rfl
  have hle := oneA_le h1 h0
  simp [hb, hone]
  rw [wp_bind, wp_bind]
  refine (whileR_wp (I := fun ρ S => ∃ (m : Int) (a b : Option PV), ρ = [some (tpI ws), some (.int stages), some (.int m), a, b, none] ∧ S = [] ∧ oneA ws ≤ m ∧ m ≤ bestA stages ws)
    (Qn := fun ρ S => ∃ (a b : Option PV), ρ = [some (tpI ws), some (.int stages), some (.int (bestA stages ws)), a, b, none]) (Qr := fun _ _ => False)
    (μ := fun ρ _ => match ρ with | _ :: _ :: some (.int m) :: _ => (bestA stages ws - m).toNat | _ => 0) ?_ ⟨_, _, _, rfl, rfl, Int.le_refl _, hle⟩).mono ?_
  · rintro ρ S ⟨m, a, b, rfl, rfl, g1, g2⟩
    have hg := greedy_len m ws
    by_cases c : stages < (greedyF m ws).length
    · obtain ⟨n1, n2, n3⟩ := nxA_fact h1 h0 g1 g2 c
      refine wp_of true [] (by simp [sp_greedy ws m hl, c]) ?_
      have hrow := greedy_row m ws
      have hrg := rangeP1 (S := []) (rgOk_nat (n := (greedyF m ws).length - 1) (by omega))
      have e1 : ((greedyF m ws).length : Int) - 1 = (((greedyF m ws).length - 1 : Nat) : Int) := by omega
      refine wp_of (.nx [some (tpI ws), some (.int stages), some (.int (minL (nxA m ws))), some (tpN (greedyF m ws)), some (tpI (rs ws (greedyF m ws))), none]) [] ?_ ⟨⟨_, _, _, rfl, rfl, by omega, n3⟩, ?_⟩
      · simp [sp_greedy ws m hl, sp_pworks ws _ hrow hl (by omega), e1, hrg, sp_next _ m ws hl, n1]
      · show (bestA stages ws - minL (nxA m ws)).toNat < (bestA stages ws - m).toNat
        omega
    · refine wp_of false [] (by simp [sp_greedy ws m hl]; omega) ?_
      have : m = bestA stages ws := by
        by_cases e : m = bestA stages ws
        · exact e
        · exact absurd (bestA_many h1 h0 g1 (by omega)) c
      subst this
      exact ⟨_, _, rfl⟩
  · rintro fl S' q
    cases fl with
    | nx ρ =>
      obtain ⟨a, b, rfl⟩ := q
      subst hQ
      simp
    | rt v => exact q.elim
    | bk _ => exact q.elim
    | ct _ => exact q.elim
def closerA (stages : Nat) (ws : List Int) : PV := if bestA stages ws = oneA ws then .tup [] else tpN (greedyF (bestA stages ws - 1) ws)
def paperA (stages : Nat) (ws : List Int) : PV := .tup [.int (bestA stages ws), tpN (greedyF (bestA stages ws) ws), closerA stages ws]
theorem closed_closer (stages : Nat) (ws : List Int) : closed (closerA stages ws) = true := by
  unfold closerA
  split
  · rfl
  · exact closed_tpN _
theorem sp_best_parting (ws : List Int) (stages : Nat) (hl : ws.length ≤ 63) (h1 : 1 ≤ stages) (h0 : ∀ x ∈ ws, 0 ≤ x) : callP ds cs (k + 3) 3 [tpI ws, .int stages] S = .ok (paperA stages ws) S := by
  refine callP_pure (d := dbest_parting) rfl rfl (by simp [closedL, closed, closedL_ints]) (by unfold paperA; simp [closed, closedL, closedL_nats, closed_closer]) ?_
  show ((evSs _ ibest_parting [some (tpI ws), some (.int stages), none, none] []).bind endR).wp fun v _ => v = paperA stages ws
  unfold ibest_parting
  have hb : ws.length + 1 ≤ 16777216 := by omega
  have hone : maxL (ws ++ [0]) = oneA ws := rfl
  by_cases c : bestA stages ws = oneA ws
  · simp [sp_best_most ws stages hl h1 h0, hb, hone, c, paperA, closerA, sp_greedy ws _ hl]
  · simp [sp_best_most ws stages hl h1 h0, hb, hone, c, paperA, closerA, sp_greedy ws _ hl]
end Q
set_option Elab.async false
set_option linter.all false
set_option maxRecDepth 100000
set_option maxHeartbeats 2000000
/-! L52b: the judge of papers. -/
namespace Q
open L2 PyProof.Rows PySem PySem.Spec
variable {cs : Nat → PV} {k : Nat} {S : Store}
@[simp] theorem eqP_e {S : Store} : eqP S (.tup []) (.tup []) = some true := eqP_tN S [] []
theorem inc_rise : ∀ {bs : List Nat} {lo hi t : Nat}, inc lo hi bs → t + 1 < bs.length → bs.getD t 0 < bs.getD (t + 1) 0
  | b :: c :: bs, lo, hi, 0, h, _ => by have := h.2.2.1; simp; omega
  | b :: c :: bs, lo, hi, t + 1, h, ht => by
    have := inc_rise (t := t) h.2.2 (by simpa using ht)
    simpa using this
  | [b], lo, hi, t, h, ht => by simp at ht
theorem inc_last : ∀ {bs : List Nat} {lo hi b : Nat}, inc lo hi bs → bs.getLast? = some b → b < hi := fun h e => (inc_mem h (List.mem_of_getLast? e)).2
theorem sp_is (ws : List Int) (row : List Nat) (stages : Nat) (h : rowOk ws row) (hl : ws.length ≤ 63) (hs : row.length ≤ stages) (hr : row.length ≤ 63) : callP ds cs (k + 1) 4 [tpI ws, .int stages, tpN row] S = .ok (.bl true) S := by
  refine callP_pure (d := dis_parting) rfl rfl (by simp [closedL, closed, closedL_ints, closedL_nats]) rfl ?_
  show ((evSs _ iis_parting [some (tpI ws), some (.int stages), some (tpN row), none, none, none] []).bind endR).wp fun v _ => v = .bl true
  unfold iis_parting
  have hs' : ¬ stages < row.length := by omega
  have hc : compK { F := callP ds cs k, cs := cs } [4] (E.or_ (.not_ (.isi (.var 4) .int)) (.one (.isi (.var 4) .bool))) (Tg.name 4) Eo.none
      [some (tpI ws), some (.int stages), some (tpN row), none, none, none] ⟨none, row.map fun b : Nat => .int (b : Int)⟩ [] = .ok (.lst ((row.map fun _ => false).map .bl)) [] := by
    rw [List.map_map]
    refine comp_map (g := fun _ => .bl false) fun b acc hb hacc => ?_
    have hacc' : acc.length < 16777216 := by omega
    simp [turnC, hacc']
  have hany : ((row.map fun _ => false).any id) = false := by simp
  rcases h with ⟨hw, hrow⟩ | ⟨w, ws', bs, hw, hrow, h⟩
  · have he : eqP [] (tpN row) (.tup []) = some true := by rw [hrow]; exact eqP_tN [] [] []
    subst hw
    generalize (row.map fun _ => false) = bools2 at *
    simp [hs', hc, he, hany]
  · have hwne : ws ≠ [] := by rw [hw]; simp
    have hrne : row ≠ [] := by rw [hrow]; simp
    have hpos : 0 < row.length := by rw [hrow]; simp
    have e1 : (row.length : Int) - 1 = ((row.length - 1 : Nat) : Int) := by rw [hrow]; simp
    have hrg := rangeP1 (S := []) (rgOk_nat (n := row.length - 1) (by omega))
    have h' : inc 0 ws.length row := by rw [hrow]; exact ⟨Nat.le_refl _, by rw [hw]; simp, h⟩
    have h00 : row[0]? = some 0 := by rw [hrow]; rfl
    have h000 : ∀ h : 0 < row.length, row[0]'h = 0 := fun h => by have := List.getElem?_eq_getElem h; rw [h00] at this; exact (Option.some.inj this).symm
    obtain ⟨l, hlast⟩ : ∃ l, row.getLast? = some l := ⟨_, List.getLast?_eq_some_getLast hrne⟩
    have hll := inc_last h' hlast
    have hc2 : compK { F := callP ds cs k, cs := cs } [5] (.cmp .lt (.idx (.var 2) (.var 5)) (.idx (.var 2) (.bin .add (.var 5) (.int 1)))) (Tg.name 5) Eo.none
      [some (tpI ws), some (.int stages), some (tpN row), none, none, none] ⟨none, rangeL 0 (row.length - 1 : Nat)⟩ [] = .ok (.lst (((List.range (row.length - 1)).map fun _ => true).map .bl)) [] := by
      rw [rangeL_nat, List.map_map]
      refine comp_map (g := fun _ => .bl true) fun t acc ht hacc => ?_
      have ht' := List.mem_range.mp ht
      have hacc' : acc.length < 16777216 := by simp at hacc hr; omega
      have q := inc_rise (t := t) h' (by omega)
      have q1 : row[t]? = _ := getD_some (by omega) 0
      have q2 : row[t + 1]? = _ := getD_some (by omega) 0
      generalize row.getD t 0 = a at *
      generalize row.getD (t + 1) 0 = b at *
      simp [turnC, q1, q2, hacc', q]
    have hall : ((List.range (row.length - 1)).map fun _ => true).all id = true := by simp
    generalize ((List.range (row.length - 1)).map fun _ => true) = bools at *
    generalize (row.map fun _ => false) = bools2 at *
    simp [hs', hc, e1, hrg, hc2, hwne, hrne, hpos, h000, h00, hlast, hll, hall, hany]
theorem sp_closer (ws : List Int) (stages : Nat) (hl : ws.length ≤ 63) (h1 : 1 ≤ stages) (h0 : ∀ x ∈ ws, 0 ≤ x) : callP ds cs (k + 2) 6 [tpI ws, .int stages, .int (bestA stages ws), closerA stages ws] S = .ok (.bl true) S := by
  refine callP_pure (d := djudge_closer) rfl rfl (by simp [closedL, closed, closedL_ints, closed_closer]) rfl ?_
  show ((evSs _ ijudge_closer [some (tpI ws), some (.int stages), some (.int (bestA stages ws)), some (closerA stages ws), none, none, none] []).bind endR).wp fun v _ => v = .bl true
  unfold ijudge_closer
  have hb : ws.length + 1 ≤ 16777216 := by omega
  have hone : maxL (ws ++ [0]) = oneA ws := rfl
  by_cases c : bestA stages ws = oneA ws
  · have e : closerA stages ws = .tup [] := by unfold closerA; rw [if_pos c]
    simp [hb, hone, c, e]
  · have e : closerA stages ws = tpN (greedyF (bestA stages ws - 1) ws) := by unfold closerA; rw [if_neg c]
    have hle := oneA_le h1 h0
    have hmany := bestA_many h1 h0 (m := bestA stages ws - 1) (by omega) (by omega)
    have hg := greedy_len (bestA stages ws - 1) ws
    have hrow := greedy_row (bestA stages ws - 1) ws
    have hm' : ¬ (greedyF (bestA stages ws - 1) ws).length ≤ stages := by omega
    have his := sp_is (cs := cs) (k := k) (S := []) ws _ ws.length hrow hl hg (by omega)
    have hpw := sp_pworks (cs := cs) (k := k) (S := []) ws _ hrow hl (by omega)
    have hrl := rs_len hrow
    have hnx := nxA_eq (bestA stages ws - 1) ws
    have hgt : ∀ x ∈ nxA (bestA stages ws - 1) ws, bestA stages ws ≤ x := by
      intro x hx
      cases ws with
      | nil => simp [nxA] at hx
      | cons w ws => have := nx_gt (show x ∈ nx _ w ws from hx); omega
    generalize bestA stages ws - 1 = m at *
    generalize bestA stages ws = B at *
    generalize hgr : greedyF m ws = g at *
    have e1 : (g.length : Int) - 1 = ((g.length - 1 : Nat) : Int) := by omega
    have hrg := rangeP1 (S := []) (rgOk_nat (n := g.length - 1) (by omega))
    have hc : compK { F := callP ds cs (k + 1), cs := cs } [6] (.cmp .ge (.bin .add (.idx (.var 4) (.var 6)) (.idx (.var 0) (.idx (.var 3) (.bin .add (.var 6) (.int 1))))) (.var 2)) (Tg.name 6) Eo.none
      [some (tpI ws), some (.int stages), some (.int B), some (tpN g), some (tpI (rs ws g)), none, none] ⟨none, rangeL 0 (g.length - 1 : Nat)⟩ [] = .ok (.lst (((List.range (g.length - 1)).map fun _ => true).map .bl)) [] := by
      rw [rangeL_nat, List.map_map]
      refine comp_map (g := fun _ => .bl true) fun t acc ht hacc => ?_
      have ht' := List.mem_range.mp ht
      have hacc' : acc.length < 16777216 := by simp at hacc; omega
      have q1 : (rs ws g)[t]? = _ := getD_some (by omega) 0
      have q2 : g[t + 1]? = _ := getD_some (by omega) 0
      have q3 : g.getD (t + 1) 0 < ws.length := by
        rcases hrow with ⟨e1, e2⟩ | ⟨w, ws', bs, e1, e2, h⟩
        · rw [e2] at ht'; simp at ht'
        · rw [e2]
          rw [e2] at ht'
          have : bs.getD t 0 ∈ bs := by
            have := getD_some (xs := bs) (i := t) (by simpa using ht') 0
            exact List.mem_of_getElem? this
          exact (inc_mem h this).2
      have q4 := getD_some q3 0
      have q5 := hgt ((rs ws g).getD t 0 + ws.getD (g.getD (t + 1) 0) 0) (by rw [← hnx]; exact List.mem_map.mpr ⟨t, ht, rfl⟩)
      generalize (rs ws g).getD t 0 = a at *
      generalize g.getD (t + 1) 0 = b at *
      generalize ws.getD b 0 = x at *
      simp [turnC, q1, q2, q4, hacc', q5]
    have hall : ((List.range (g.length - 1)).map fun _ => true).all id = true := by simp
    generalize ((List.range (g.length - 1)).map fun _ => true) = bools at *
    simp [hb, hone, c, e, his, hpw, hm', e1, hrg, hc, hall]
theorem bestA_max {stages : Nat} (h1 : 1 ≤ stages) {ws : List Int} (h0 : ∀ x ∈ ws, 0 ≤ x) : maxL (rs ws (greedyF (bestA stages ws) ws) ++ [0]) = bestA stages ws := by
  cases ws with
  | nil => rfl
  | cons w ws => exact best_max h1 h0
theorem sp_judge (ws : List Int) (stages : Nat) (hl : ws.length ≤ 63) (h1 : 1 ≤ stages) (h0 : ∀ x ∈ ws, 0 ≤ x) : callP ds cs (k + 3) 5 [tpI ws, .int stages, paperA stages ws] S = .ok (.bl true) S := by
  have hcp : closed (paperA stages ws) = true := by unfold paperA; simp [closed, closedL, closedL_nats, closed_closer]
  refine callP_pure (d := djudge_parting) rfl rfl (by simp [closedL, closed, closedL_ints, hcp]) rfl ?_
  show ((evSs _ ijudge_parting [some (tpI ws), some (.int stages), some (paperA stages ws), none, none, none] []).bind endR).wp fun v _ => v = .bl true
  unfold ijudge_parting paperA
  have hg := greedy_len (bestA stages ws) ws
  have hrow := greedy_row (bestA stages ws) ws
  have his := sp_is (cs := cs) (k := k + 1) (S := []) ws _ stages hrow hl (bestA_few h1 h0) (by omega)
  have hpw := sp_pworks (cs := cs) (k := k + 1) (S := []) ws _ hrow hl (by omega)
  have hmax := bestA_max h1 h0
  have hrl := rs_len hrow
  have hb : (greedyF (bestA stages ws) ws).length + 1 ≤ 16777216 := by omega
  have hcl := sp_closer (cs := cs) (k := k) (S := []) ws stages hl h1 h0
  simp [his, hpw, hmax, hrl, hb, hcl]
end Q
set_option Elab.async false
set_option linter.all false
set_option maxRecDepth 100000
set_option maxHeartbeats 4000000
/-! L52c: the law. -/
namespace Q
open L2 PyProof.Rows PySem PySem.Spec
variable {cs : Nat → PV} {k : Nat}
theorem draw52 (c : List Int) (s : Int) (many : Int) (h : 0 < many) (h2 : many < 1073741824) : ∃ r c' s', callP ds cs (k + 1) 8 [.ref 1, .int many] (st c s []) = .ok (.int r) (st c' s' []) ∧ 0 ≤ r ∧ r < many := by
  obtain ⟨r, c', s', e, h3⟩ := draw_ok ⟨callP ds cs k, cs⟩ c s [] h h2
  exact ⟨r, c', s', (callP_raw (d := d_law_draw) rfl rfl).trans e, h3⟩
theorem state52 (ns : List Int) (hl : ns.length ≤ 63) : ∃ c s, callP ds cs (k + 1) 7 [.scr (ns.map .int)] [] = .ok (.ref 1) (st c s []) := by
  obtain ⟨c, s, e⟩ := state_ok ⟨callP ds cs k, cs⟩ ns hl
  exact ⟨c, s, (callP_raw (d := d_law_state) rfl rfl).trans e⟩
theorem works52 (n : Nat) (hn : n ≤ 8) (c : List Int) (s : Int) {a0 a2 a3 a4 a5 a6 a7 a8 a9 a10 a11 : Option PV} : ∃ (ws : List Int) (c' : List Int) (s' : Int),
    compK ⟨callP ds cs (k + 1), cs⟩ [11] (.call 8 (.cons (.var 1) (.cons (.int 12) .nil))) (.name 11) .none [a0, some (.ref 1), a2, a3, a4, a5, a6, a7, a8, a9, a10, a11] ⟨none, rangeL 0 (n : Int)⟩ (st c s []) = .ok (.lst (ws.map .int)) (st c' s' []) ∧
      ws.length = n ∧ ∀ w ∈ ws, 0 ≤ w ∧ w < 12 := by
  have hw : (compK ⟨callP ds cs (k + 1), cs⟩ [11] (.call 8 (.cons (.var 1) (.cons (.int 12) .nil))) (.name 11) .none [a0, some (.ref 1), a2, a3, a4, a5, a6, a7, a8, a9, a10, a11] ⟨none, rangeL 0 (n : Int)⟩ (st c s [])).wp
      fun v S' => ∃ (ws : List Int) (c' : List Int) (s' : Int), v = .lst (ws.map .int) ∧ S' = st c' s' [] ∧ ws.length = n ∧ ∀ w ∈ ws, 0 ≤ w ∧ w < 12 := by
    unfold compK
    rw [wp_bind]
    refine (compR_wp (R := fun i acc S => ∃ (ws : List Int) (c' : List Int) (s' : Int), acc = ws.map .int ∧ S = st c' s' [] ∧ ws.length = i ∧ ∀ w ∈ ws, 0 ≤ w ∧ w < 12) (fun i x acc S e h => ?_) ⟨[], c, s, rfl, rfl, rfl, fun _ h => nomatch h⟩).mono fun acc S' h => ?_
    · obtain ⟨ws, c', s', rfl, rfl, hl, hw⟩ := h
      obtain ⟨rfl, hi⟩ := rangeL_get e
      obtain ⟨r, c2, s2, e2, h3, h4⟩ := draw52 (cs := cs) (k := k) c' s' 12 (by decide) (by decide)
      have hb : ws.length < 16777216 := by omega
      refine wp_of ((ws ++ [r]).map .int) (st c2 s2 []) (by simp [turnC, e2, hb]) ⟨ws ++ [r], c2, s2, rfl, rfl, by simp [hl], fun w hm => ?_⟩
      rcases List.mem_append.mp hm with hm | hm
      · exact hw w hm
      · rw [List.mem_singleton.mp hm]; exact ⟨h3, h4⟩
    · obtain ⟨ws, c', s', rfl, rfl, hl, hw⟩ := h
      rw [wp_ok]
      rw [rangeL_len] at hl
      exact ⟨ws, c', s', rfl, rfl, by omega, hw⟩
  obtain ⟨v, S', e, ws, c', s', rfl, rfl, h1, h2⟩ := hw
  exact ⟨ws, c', s', e, h1, h2⟩
theorem rowsA_ok {stages : Nat} (h1 : 1 ≤ stages) {ws : List Int} {row : List Nat} (h : row ∈ rowsA stages ws.length) : rowOk ws row ∧ row.length ≤ ws.length := by
  cases ws with
  | nil => rw [List.length_nil, rowsA, List.mem_singleton] at h; exact ⟨.inl ⟨rfl, h⟩, by rw [h]; exact Nat.le_refl _⟩
  | cons w ws =>
    rw [List.length_cons, rowsA] at h
    obtain ⟨bs, rfl, h2, h3⟩ := (rowsT_mem h1).mp h
    exact ⟨.inr ⟨w, ws, bs, rfl, rfl, h2⟩, by have := rowsT_row h; simpa using this⟩
theorem rowsA_ne {stages n : Nat} : rowsA stages n ≠ [] := by
  cases n with
  | zero => simp [rowsA]
  | succ n => exact rowsT_ne
theorem bestA_min (stages : Nat) (ws : List Int) : minL ((rowsA stages ws.length).map fun row => maxL (rs ws row ++ [0])) = bestA stages ws := by
  cases ws with
  | nil => rfl
  | cons w ws => rfl
theorem rowsA_len (stages : Nat) {n : Nat} (hn : n ≤ 8) : (rowsA stages n).length ≤ 256 := by
  cases n with
  | zero => simp [rowsA]
  | succ n =>
    have h : n ≤ 8 := by omega
    exact Nat.le_trans (rowsT_len stages n) (Nat.pow_le_pow_right (n := 2) (by decide) h)
theorem mins52 (ws : List Int) (stages : Nat) (hl : ws.length ≤ 8) (h1 : 1 ≤ stages) (c : List Int) (s : Int) (a0 a1 a2 a4 a5 a6 a7 a8 a9 a10 a11 : Option PV) :
    compK ⟨callP ds cs (k + 1), cs⟩ [5] (.blt .max (.cons (.bin .add (.call 10 (.cons (.var 3) (.cons (.var 5) .nil))) (.lst false (.cons (.int 0) .nil))) .nil)) (.name 5) .none [a0, a1, a2, some (tpI ws), a4, a5, a6, a7, a8, a9, a10, a11] ⟨none, (rowsA stages ws.length).map tpN⟩ (st c s []) =
      .ok (.lst (((rowsA stages ws.length).map fun row => maxL (rs ws row ++ [0])).map .int)) (st c s []) := by
  rw [List.map_map]
  refine comp_map (g := fun row => .int (maxL (rs ws row ++ [0]))) fun row acc hrow hacc => ?_
  obtain ⟨h2, h3⟩ := rowsA_ok h1 hrow
  have hrl := rs_len h2
  have hlen := rowsA_len stages hl
  have hacc' : acc.length < 16777216 := by omega
  have hb : row.length + 1 ≤ 16777216 := by omega
  simp [turnC, sp_lsums ws row h2 (by omega) (by omega), hrl, hb, hacc']
theorem paper_dat (stages : Nat) (ws : List Int) (S : Store) : eqP S (paperA stages ws) (paperA stages ws) = some true := by
  refine eqP_refl ?_
  have hc : ∃ l, closerA stages ws = tpN l := by
    unfold closerA
    split
    · exact ⟨[], rfl⟩
    · exact ⟨_, rfl⟩
  obtain ⟨l, hc⟩ := hc
  have l1 := Dat.nat.tup.lay (greedyF (bestA stages ws) ws)
  have d1 := Dat.nat.tup.dep (greedyF (bestA stages ws) ws)
  have l2 := Dat.nat.tup.lay l
  have d2 := Dat.nat.tup.dep l
  have l0 := Dat.int.lay (bestA stages ws)
  have d0 := Dat.int.dep (bestA stages ws)
  unfold paperA
  rw [hc]
  show SeqAt.shaped (toD (.tup _)) = true
  unfold SeqAt.shaped
  simp only [toD, toDs, PyData.canLay0, PyData.canLayAll0, PyData.depth, PyData.depthAll] at *
  simp only [l1, l2, Bool.and_self, Bool.true_and, decide_eq_true_eq]
  omega
theorem plain52 (ns : List Int) (hl : ns.length ≤ 63) : ∃ S, callP ds (fun _ => .non) 40 12 [.scr (ns.map .int)] [] = .ok (.bl true) S := by
  refine ⟨[], callP_pure (d := dlaw) (k := 39) rfl rfl (by simp [closedL, closed, closedL_ints]) rfl ?_⟩
  generalize hcs : (fun (_ : Nat) => PV.non) = cs
  generalize hQ : (fun (v : PV) (_ : Store) => v = .bl true) = Q
  show ((evSs ⟨callP ds cs 39, cs⟩ ilaw [some (.scr (ns.map .int)), none, none, none, none, none, none, none, none, none, none, none] []).bind endR).wp Q
  unfold ilaw
  obtain ⟨c, s, e⟩ := state52 (cs := cs) (k := 38) ns hl
  have hrg := rangeP1 (S := st c s []) (j := 12) (by decide)
  simp [e, hrg]
  rw [wp_bind, wp_bind]
  refine for_rng (R := fun _ ρ S => ∃ (c : List Int) (s : Int) (a2 a3 a4 a5 a6 a7 a8 a9 a10 a11 : Option PV), ρ = [some (.scr (ns.map .int)), some (.ref 1), a2, a3, a4, a5, a6, a7, a8, a9, a10, a11] ∧ S = st c s []) ⟨c, s, _, _, _, _, _, _, _, _, _, _, rfl, rfl⟩ ?_ ?_
  · rintro i ρ S hi ⟨c, s, a2, a3, a4, a5, a6, a7, a8, a9, a10, a11, rfl, rfl⟩
    obtain ⟨n, c1, s1, e1, hn0, hn⟩ := draw52 (cs := cs) (k := 38) c s 9 (by decide) (by decide)
    obtain ⟨n, rfl⟩ : ∃ m : Nat, n = m := ⟨n.toNat, by omega⟩
    obtain ⟨ws, c2, s2, e2, hws, hw⟩ := works52 (cs := cs) (k := 38) n (by omega) c1 s1 (a0 := some (.scr (ns.map .int))) (a2 := some (.int i)) (a3 := a3) (a4 := a4) (a5 := a5) (a6 := a6) (a7 := a7) (a8 := a8) (a9 := a9) (a10 := a10) (a11 := a11)
    obtain ⟨m3, c3, s3, e3, h30, h31⟩ := draw52 (cs := cs) (k := 38) c2 s2 9 (by decide) (by decide)
    obtain ⟨stages, hst, hst1⟩ : ∃ stages : Nat, 1 + m3 = (stages : Int) ∧ 1 ≤ stages := ⟨(1 + m3).toNat, by omega, by omega⟩
    obtain ⟨m4, c4, s4, e4, h40, h41⟩ := draw52 (cs := cs) (k := 38) c3 s3 30 (by decide) (by decide)
    have hl8 : ws.length ≤ 8 := by omega
    have hl63 : ws.length ≤ 63 := by omega
    have h0 : ∀ x ∈ ws, 0 ≤ x := fun x hx => (hw x hx).1
    have hrl := rowsA_len stages hl8
    have hrne := rowsA_ne (stages := stages) (n := ws.length)
    have hrpos : 0 < (rowsA stages ws.length).length := List.length_pos_iff.mpr hrne
    obtain ⟨j, c5, s5, e5, hj0, hj1⟩ := draw52 (cs := cs) (k := 38) c4 s4 ((rowsA stages ws.length).length) (by omega) (by omega)
    obtain ⟨j, rfl⟩ : ∃ m : Nat, j = m := ⟨j.toNat, by omega⟩
    have hj : j < (rowsA stages ws.length).length := by omega
    obtain ⟨row, hrow⟩ : ∃ row, (rowsA stages ws.length)[j]? = some row := ⟨_, List.getElem?_eq_getElem hj⟩
    obtain ⟨hro, hrlen⟩ := rowsA_ok hst1 (List.mem_of_getElem? hrow)
    have hrow' : ((rowsA stages ws.length).map tpN)[j]? = some (tpN row) := by rw [List.getElem?_map, hrow]; rfl
    have hrs := rs_len hro
    have g1 := fun S m => sp_greedy (cs := cs) (k := 38) (S := S) ws m hl63
    have g2 := fun S m => sp_lgreedy (cs := cs) (k := 38) (S := S) ws m hl63
    have g3 := fun S => sp_rows (cs := cs) (k := 38) (S := S) ws.length stages hl8
    have g4 := fun S => sp_pworks (cs := cs) (k := 38) (S := S) ws row hro hl63 (by omega)
    have g5 := fun S => sp_lsums (cs := cs) (k := 38) (S := S) ws row hro hl63 (by omega)
    have g6 := fun S => sp_best_parting (cs := cs) (k := 36) (S := S) ws stages hl63 hst1 h0
    have g7 := fun S => sp_judge (cs := cs) (k := 36) (S := S) ws stages hl63 hst1 h0
    have g8 := fun a0 a1 a2 a4 a5 a6 a7 a8 a9 a10 a11 => mins52 (cs := cs) (k := 38) ws stages hl8 hst1 c5 s5 a0 a1 a2 a4 a5 a6 a7 a8 a9 a10 a11
    have hmin := bestA_min stages ws
    have hmne : ((rowsA stages ws.length).map fun row => maxL (rs ws row ++ [0])) ≠ [] := by simp [hrne]
    have hone : maxL (ws ++ [0]) = oneA ws := rfl
    have hrg2 := fun S => rangeP1 (S := S) (rgOk_nat (n := n) (by omega))
    have hb : ws.length + 1 ≤ 16777216 := by omega
    have hp : PV.tup [.int (bestA stages ws), tpN (greedyF (bestA stages ws) ws), closerA stages ws] = paperA stages ws := rfl
    have hpd := fun S => paper_dat stages ws S
    generalize ((rowsA stages ws.length).map fun row => maxL (rs ws row ++ [0])) = mins at *
    have hrm : ((rowsA stages ws.length).map tpN).length = (rowsA stages ws.length).length := List.length_map _
    generalize (rowsA stages ws.length).map tpN = rowsV at *
    refine wp_of (.nx [some (.scr (ns.map .int)), some (.ref 1), some (.int i), some (tpI ws), some (.lst rowsV), some (tpN row), some (.int (bestA stages ws)), some (.int (oneA ws)), some (paperA stages ws), some (.int stages), some (.int m4), a11]) (st c5 s5 []) ?_ ⟨c5, s5, _, _, _, _, _, _, _, _, _, _, rfl, rfl⟩
    by_cases cc : bestA stages ws = oneA ws
    · have hcl : closerA stages ws = .tup [] := by unfold closerA; rw [if_pos cc]
      rw [hcl, cc] at hp
      simp [turnF, e1, hrg2, e2, e3, hst, e4, g1, g2, g3, hrm, e5, hrow', g4, g5, g8, hmne, hmin, hb, hone, cc, hp, g6, g7, hpd, eqP_tI, eqP_tN, hrs]
    · have hcl : closerA stages ws = tpN (greedyF (bestA stages ws - 1) ws) := by unfold closerA; rw [if_neg cc]
      rw [hcl] at hp
      simp [turnF, e1, hrg2, e2, e3, hst, e4, g1, g2, g3, hrm, e5, hrow', g4, g5, g8, hmne, hmin, hb, hone, cc, hp, g6, g7, hpd, eqP_tI, eqP_tN, hrs]
  · rintro ρ S ⟨c, s, a2, a3, a4, a5, a6, a7, a8, a9, a10, a11, rfl, rfl⟩
    subst hQ
    simp
end Q
theorem PySem.Challenge.cw_plaintraining_k52_best_partings_holds : PySem.Challenge.rw_plaintraining_k52_best_partings.Holds := by
  exact Q.head Q.plain52
