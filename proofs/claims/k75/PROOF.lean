import PyProof.Rows.All
import Wide.All
import OpenK.AllK
import Wide.FinOn
import HandS.ForMost
import HandS.Evl
import KE.KDictKeyed
import HandS.IsInst
import HandS.TupAny
import HandS.Wide
import HandS.Conv
import PyProof.Rows.SeqRoads
import HandS.Defaults
import HandS.SetFor
import HandS.Strs
import PyProof.TupleOfSeq
import KE.KDictDisplayH
import KE.GoesEnum
import KE.GoesZip
import HandS.Zip
import HandS.Comp
import KE.KStateDown
import Lean
import HandS.Base
import HandS.Call
import HandS.List
import HandS.Ends
import HandS.More
import HandS.Words
import HandS.WordsExc
import HandS.Head0
import HandS.Head1
import HandS.Head2
import HandS.HeadEnd
import HandS.HeadHook1
import HandS.HeadHook2
import PySem.Challenge.RW_wholesay_k75_whole_machines_and_carries
set_option Elab.async false
set_option linter.all false
set_option autoImplicit false
set_option maxRecDepth 100000
set_option maxHeartbeats 0
/-! The pure layer, A: data without a heap, what stands in the slots, the state of a def's body told by data alone. -/
namespace PL
open PySem PySem.Spec PyProof.Rows L2

/-- data: what a value is, the heap left out -/
inductive D where
  | non | bl (b : Bool) | int (i : Int) | str (s : Str) | tup (xs : List D) | lst (xs : List D) | dic (ks : List Int) (vs : List D) | dicN (f : List (NestedKey × Addr × V) → Addr → Heap → Prop) (ks : List NestedKey) (vs : List D) | scr (is : List Int)

/-- at a stands a tuple of vs that is known whole: it has no dict of its own -/
def TupAt (K : PySem.W.Frag) (F : Hp) (a : Addr) (vs : List V) : Prop :=
  (∃ o : Obj, F a = some (.frz o (.tup vs)) ∧ o.dict = none) ∨
    ∃ (o : Obj) (its : Array Value) (n : Nat), K.lookup a = some o ∧ o.cls = .type "tuple" ∧ o.dict = none ∧ o.data = .seq its n ∧ its.size ≤ sizeLine ∧ Vals vs its.toList
theorem TupAt.sq {K : PySem.W.Frag} {F : Hp} {a : Addr} {vs : List V} (h : TupAt K F a vs) : SqT K F a vs := by
  rcases h with ⟨o, h, _⟩ | ⟨o, its, n, h1, h2, _, h3, h4, h5⟩
  · exact .inl (.inr ⟨o, h⟩)
  · exact .inr ⟨o, its, n, h1, h2, h3, h4, h5⟩
theorem TupAt.mono {K : PySem.W.Frag} {F F' : Hp} {a : Addr} {vs : List V} (e : ∀ a o, F a = some o → F' a = some o) (h : TupAt K F a vs) : TupAt K F' a vs := by
  rcases h with ⟨o, h, d⟩ | h
  · exact .inl ⟨o, e _ _ h, d⟩
  · exact .inr h
/-! ### keys -/
mutual
def D.key : D → NestedKey
  | .non => .none
  | .bl b => .num (if b = true then 1 else 0)
  | .int i => .num i
  | .str s => .text s
  | .tup ds => .tup (D.keys ds)
  | .lst _ => .none
  | .dic _ _ => .none
  | .dicN _ _ _ => .none
  | .scr _ => .none
def D.keys : List D → List NestedKey
  | [] => []
  | d :: ds => d.key :: D.keys ds
end
mutual
/-- may be a key, nested no deeper than n tuples -/
def D.keyable : Nat → D → Bool
  | _, .non => true
  | _, .bl _ => true
  | _, .int _ => true
  | _, .str _ => true
  | 0, .tup _ => false
  | n + 1, .tup ds => D.keyables n ds
  | _, .lst _ => false
  | _, .dic _ _ => false
  | _, .dicN _ _ _ => false
  | _, .scr _ => false
def D.keyables : Nat → List D → Bool
  | _, [] => true
  | n, d :: ds => d.keyable n && D.keyables n ds
end
mutual
/-- v stands for the data d, by the kept part F of the heap -/
inductive Rep (K : PySem.W.Frag) (F : Hp) : V → D → Prop
  | non : Rep K F .non .non
  | bl (b : Bool) : Rep K F (.bl b) (.bl b)
  | int (i : Int) : Rep K F (.int i) (.int i)
  | str (s : Str) : Rep K F (.str s) (.str s)
  | tup {a : Addr} {vs : List V} {ds : List D} : TupAt K F a vs → RepL K F vs ds → Rep K F (.ref a) (.tup ds)
  | lst {a : Addr} {vs : List V} {ds : List D} : F a = some (.lst vs) → RepL K F vs ds → Rep K F (.ref a) (.lst ds)
  | dic {a : Addr} {kvs : List (Key × V)} {ks : List Int} {ds : List D} : F a = some (.dK kvs) → kvs.map (·.1) = ks.map Sum.inl → RepL K F (kvs.map (·.2)) ds → Rep K F (.ref a) (.dic ks ds)
  | dicN {a : Addr} {f : List (NestedKey × Addr × V) → Addr → Heap → Prop} {ys : List (NestedKey × Addr × V)} {kds ds : List D} : F a = some (.ext (f ys a)) → RepL K F (ys.map fun y => .ref y.2.1) kds → D.keyables 8 kds = true → ys.map (·.1) = D.keys kds → RepL K F (ys.map (·.2.2)) ds → Rep K F (.ref a) (.dicN f (D.keys kds) ds)
  | scr {a : Addr} {is : List Int} : SqL K F a (is.map V.int) → Rep K F (.ref a) (.scr is)
inductive RepL (K : PySem.W.Frag) (F : Hp) : List V → List D → Prop
  | nil : RepL K F [] []
  | cons {v : V} {d : D} {vs : List V} {ds : List D} : Rep K F v d → RepL K F vs ds → RepL K F (v :: vs) (d :: ds)
end

abbrev Ex (H H' : Hp) : Prop := ∀ a o, H a = some o → H' a = some o
theorem Ex.rfl' (H : Hp) : Ex H H := fun _ _ h => h
theorem ex_tr {H H1 H2 : Hp} (a : Ex H H1) (b : Ex H1 H2) : Ex H H2 := fun x o h => b x o (a x o h)
theorem ex_new {H : Hp} {p : Addr} {o : HO} (h : H p = none) : Ex H (upd H p o) := Evl.Ex.new h
theorem ex_back {H H' : Hp} {p : Addr} (e : Ex H H') (h : H' p = none) : H p = none := Evl.fresh_back e h

section
variable {K : PySem.W.Frag} {F F' : Hp}
mutual
theorem Rep.mono (e : Ex F F') : ∀ {v : V} {d : D}, Rep K F v d → Rep K F' v d
  | _, _, .non => .non
  | _, _, .bl b => .bl b
  | _, _, .int i => .int i
  | _, _, .str s => .str s
  | _, _, .tup h r => .tup (h.mono e) (RepL.mono e r)
  | _, _, .lst h r => .lst (e _ _ h) (RepL.mono e r)
  | _, _, .dic h k r => .dic (e _ _ h) k (RepL.mono e r)
  | _, _, .dicN h k1 k2 k3 r => .dicN (e _ _ h) (RepL.mono e k1) k2 k3 (RepL.mono e r)
  | _, _, .scr h => .scr (Evl.ex_l e h)
theorem RepL.mono (e : Ex F F') : ∀ {vs : List V} {ds : List D}, RepL K F vs ds → RepL K F' vs ds
  | _, _, .nil => .nil
  | _, _, .cons h r => .cons (Rep.mono e h) (RepL.mono e r)
end
theorem RepL.len : ∀ {vs : List V} {ds : List D}, RepL K F vs ds → vs.length = ds.length
  | _, _, .nil => rfl
  | _, _, .cons _ r => by rw [List.length_cons, List.length_cons, RepL.len r]
theorem RepL.get : ∀ {vs : List V} {ds : List D} {i : Nat} {d : D}, RepL K F vs ds → ds[i]? = some d → ∃ v, vs[i]? = some v ∧ Rep K F v d
  | _, _, _, _, .nil, e => by simp at e
  | _, _, 0, _, .cons h _, e => by simp at e; subst e; exact ⟨_, rfl, h⟩
  | _, _, i + 1, d, .cons _ r, e => by
    obtain ⟨v, h1, h2⟩ := RepL.get (i := i) (d := d) r (by simpa using e)
    exact ⟨v, by simpa using h1, h2⟩
theorem RepL.get' : ∀ {vs : List V} {ds : List D} {i : Nat} {v : V}, RepL K F vs ds → vs[i]? = some v → ∃ d, ds[i]? = some d ∧ Rep K F v d
  | _, _, _, _, .nil, e => by simp at e
  | _, _, 0, _, .cons h _, e => by simp at e; subst e; exact ⟨_, rfl, h⟩
  | _, _, i + 1, v, .cons _ r, e => by
    obtain ⟨d, h1, h2⟩ := RepL.get' (i := i) (v := v) r (by simpa using e)
    exact ⟨d, by simpa using h1, h2⟩
theorem RepL.app : ∀ {vs us : List V} {ds es : List D}, RepL K F vs ds → RepL K F us es → RepL K F (vs ++ us) (ds ++ es)
  | _, _, _, _, .nil, s => s
  | _, _, _, _, .cons h r, s => .cons h (RepL.app r s)
theorem RepL.snoc {vs : List V} {ds : List D} {v : V} {d : D} (r : RepL K F vs ds) (h : Rep K F v d) : RepL K F (vs ++ [v]) (ds ++ [d]) := r.app (.cons h .nil)
theorem RepL.ints : ∀ {vs : List V} {is : List Int}, RepL K F vs (is.map D.int) → vs = is.map V.int
  | _, [], r => by cases r; rfl
  | _, i :: is, r => by
    rw [List.map_cons] at r
    cases r with
    | cons h t => cases h; rw [List.map_cons, RepL.ints t]
theorem RepL.of_ints : ∀ (is : List Int), RepL K F (is.map V.int) (is.map D.int)
  | [] => .nil
  | i :: is => .cons (.int i) (RepL.of_ints is)
end

mutual
theorem depth_key : ∀ (d : D) (n : Nat), d.keyable n = true → d.key.depth ≤ n
  | .non, n, _ => by simp [D.key, NestedKey.depth]
  | .bl _, n, _ => by simp [D.key, NestedKey.depth]
  | .int _, n, _ => by simp [D.key, NestedKey.depth]
  | .str _, n, _ => by simp [D.key, NestedKey.depth]
  | .tup ds, 0, h => by simp [D.keyable] at h
  | .tup ds, n + 1, h => by
    have := depth_keys ds n (by simpa [D.keyable] using h)
    simp only [D.key, NestedKey.depth]
    omega
  | .lst _, n, h => by simp [D.keyable] at h
  | .dic _ _, n, h => by simp [D.keyable] at h
  | .dicN _ _ _, n, h => by simp [D.keyable] at h
  | .scr _, n, h => by simp [D.keyable] at h
theorem depth_keys : ∀ (ds : List D) (n : Nat), D.keyables n ds = true → NestedKey.depthAll (D.keys ds) ≤ n
  | [], n, _ => by simp [D.keys, NestedKey.depthAll]
  | d :: ds, n, h => by
    simp only [D.keyables, Bool.and_eq_true] at h
    have h1 := depth_key d n h.1
    have h2 := depth_keys ds n h.2
    simp only [D.keys, NestedKey.depthAll]
    exact Nat.max_le.mpr ⟨h1, h2⟩
end
end PL
/-! The pure layer, B: the state told by data (R) and its steps. -/
namespace PL
open PySem PySem.Spec PyProof.Rows L2

structure Cc where
  P : Program
  w : World
  K : PySem.W.Frag

/-! ### a dict of the body's own whose keys are tuples of any depth -/
def DicRaw (c : Cc) (p : Addr) (ys : List (NestedKey × Addr × V)) (h : Heap) : Prop :=
  ys.length ≤ sizeLine ∧ (p == sysModules) = false ∧ ∃ xs : List (NestedKey × Addr × Value), Paired (fun y x => y.1 = x.1 ∧ y.2.1 = x.2.1 ∧ RelV y.2.2 x.2.2) ys xs ∧
    ∃ o es ep, h.get? p = some o ∧ o.ExactDict ∧ o.data = .dict es ep ∧ es.toList = xs.map (entryOfKey (nestedKind c.P c.w)) ∧ (xs.map (·.1)).Nodup
abbrev DicO (c : Cc) (p : Addr) (ys : List (NestedKey × Addr × V)) : HO := .ext (DicRaw c p ys)

/-! ### slots -/
/-- what a slot holds: data (it never changes any more), a list or a dict of the body's own, the law's state -/
inductive Sl where
  | dat (d : D) | lst (ds : List D) | dicI (kvs : List (Int × D)) | dicN (kvs : List (NestedKey × D)) | st
def Sl.own : Sl → Bool
  | .dat _ => false
  | .st => false
  | _ => true
/-- the law's state: where it stands, what it holds -/
structure WS where
  sa : Addr
  ca : Addr
  la : Addr
  cells : List Int
  lefts : List Int
  at_ : Int
structure PSt where
  env : List (Option Sl)
  w : Option WS
def InW (w : Option WS) (a : Addr) : Prop := ∃ ws, w = some ws ∧ (a = ws.sa ∨ a = ws.ca ∨ a = ws.la)
structure WOk (F H : Hp) (ws : WS) : Prop where
  s : H ws.sa = some (.dK [(Sum.inr ("cells" : Str), .ref ws.ca), (Sum.inr ("lefts" : Str), .ref ws.la), (Sum.inr ("at" : Str), .int ws.at_)])
  c : H ws.ca = some (.lst (ws.cells.map V.int))
  l : H ws.la = some (.lst (ws.lefts.map V.int))
  ne : ws.ca ≠ ws.la
  fs : F ws.sa = none
  fc : F ws.ca = none
  fl : F ws.la = none

def RepI (K : PySem.W.Frag) (F : Hp) : List (Key × V) → List (Int × D) → Prop := Paired fun u k => u.1 = Sum.inl k.1 ∧ Rep K F u.2 k.2
def KeyAt (K : PySem.W.Frag) (F : Hp) (a : Addr) (k : NestedKey) : Prop := ∃ d : D, Rep K F (.ref a) d ∧ d.keyable 8 = true ∧ d.key = k
def RepN (K : PySem.W.Frag) (F : Hp) : List (NestedKey × Addr × V) → List (NestedKey × D) → Prop := Paired fun y k => y.1 = k.1 ∧ KeyAt K F y.2.1 y.1 ∧ Rep K F y.2.2 k.2
theorem RepI.mono {K : PySem.W.Frag} {F F' : Hp} (e : Ex F F') {us : List (Key × V)} {kvs : List (Int × D)} (h : RepI K F us kvs) : RepI K F' us kvs := Paired.mapP h fun _ _ z => ⟨z.1, z.2.mono e⟩
theorem KeyAt.mono {K : PySem.W.Frag} {F F' : Hp} (e : Ex F F') {a : Addr} {k : NestedKey} (h : KeyAt K F a k) : KeyAt K F' a k := let ⟨d, r, q⟩ := h; ⟨d, r.mono e, q⟩
theorem RepN.mono {K : PySem.W.Frag} {F F' : Hp} (e : Ex F F') {us : List (NestedKey × Addr × V)} {kvs : List (NestedKey × D)} (h : RepN K F us kvs) : RepN K F' us kvs := Paired.mapP h fun _ _ z => ⟨z.1, z.2.1.mono e, z.2.2.mono e⟩

/-- the value x in a slot is s -/
def SlOk (c : Cc) (F H : Hp) (w : Option WS) (x : V) : Sl → Prop
  | .dat d => Rep c.K F x d
  | .lst ds => ∃ p vs, x = .ref p ∧ H p = some (.lst vs) ∧ RepL c.K F vs ds
  | .dicI kvs => ∃ p us, x = .ref p ∧ H p = some (.dK us) ∧ RepI c.K F us kvs
  | .dicN kvs => ∃ p ys, x = .ref p ∧ H p = some (DicO c p ys) ∧ RepN c.K F ys kvs
  | .st => ∃ ws, w = some ws ∧ x = .ref ws.sa
theorem SlOk.mono {c : Cc} {F F' H H' : Hp} {w : Option WS} {x : V} {s : Sl} (h : SlOk c F H w x s) (e : Ex F F') (k : ∀ p o, x = .ref p → s.own = true → H p = some o → H' p = some o) : SlOk c F' H' w x s := by
  cases s with
  | dat d => exact Rep.mono e h
  | lst ds => obtain ⟨p, vs, rfl, h1, h2⟩ := h; exact ⟨p, vs, rfl, k p _ rfl rfl h1, h2.mono e⟩
  | dicI kvs => obtain ⟨p, us, rfl, h1, h2⟩ := h; exact ⟨p, us, rfl, k p _ rfl rfl h1, h2.mono e⟩
  | dicN kvs => obtain ⟨p, ys, rfl, h1, h2⟩ := h; exact ⟨p, ys, rfl, k p _ rfl rfl h1, h2.mono e⟩
  | st => exact h
theorem SlOk.isRef {c : Cc} {F H : Hp} {w : Option WS} {x : V} {s : Sl} (h : SlOk c F H w x s) (o : s.own = true) : ∃ p u, x = .ref p ∧ H p = some u ∧ Mut (some u) := by
  cases s with
  | dat d => cases o
  | lst ds => obtain ⟨p, vs, rfl, h1, h2⟩ := h; exact ⟨p, _, rfl, h1, True.intro⟩
  | dicI kvs => obtain ⟨p, us, rfl, h1, h2⟩ := h; exact ⟨p, _, rfl, h1, True.intro⟩
  | dicN kvs => obtain ⟨p, ys, rfl, h1, h2⟩ := h; exact ⟨p, _, rfl, h1, True.intro⟩
  | st => cases o

/-- THE STATE by data. F0, H0: the kept part and the heap at the entry; F: what never changes any more -/
structure R (c : Cc) (F0 H0 F H : Hp) (σ : L2.St) (S : PSt) : Prop where
  len : σ.length = S.env.length
  fh : Ex F H
  ff : Ex F0 F
  hh : ∀ a o, ¬ InW S.w a → H0 a = some o → H a = some o
  nw : ∀ a, F0 a = none → F a ≠ none → H0 a = none
  sl : ∀ (i : Nat) s, S.env[i]? = some (some s) → ∃ x, σ[i]? = some (some x) ∧ SlOk c F H S.w x s
  own : ∀ (i : Nat) s p, S.env[i]? = some (some s) → s.own = true → σ[i]? = some (some (.ref p)) → F p = none ∧ H0 p = none ∧ ¬ InW S.w p
  dis : ∀ (i j : Nat) s t p, S.env[i]? = some (some s) → S.env[j]? = some (some t) → s.own = true → t.own = true → σ[i]? = some (some (.ref p)) → σ[j]? = some (some (.ref p)) → i = j
  ws : ∀ w, S.w = some w → WOk F H w

section
variable {c : Cc} {F0 H0 F H F' H' : Hp} {σ : L2.St} {S : PSt} {p : Addr} {o : HO}
theorem R.inW_some (r : R c F0 H0 F H σ S) {a : Addr} (h : InW S.w a) : ∃ u, H a = some u := by
  obtain ⟨ws, e, h⟩ := h
  have k := r.ws ws e
  rcases h with rfl | rfl | rfl
  · exact ⟨_, k.s⟩
  · exact ⟨_, k.c⟩
  · exact ⟨_, k.l⟩
theorem R.inW_F (r : R c F0 H0 F H σ S) {a : Addr} (h : InW S.w a) : F a = none := by
  obtain ⟨ws, e, h⟩ := h
  have k := r.ws ws e
  rcases h with rfl | rfl | rfl
  · exact k.fs
  · exact k.fc
  · exact k.fl
/-- a place free now was free at the entry -/
theorem R.free0 (r : R c F0 H0 F H σ S) (h : H p = none) : H0 p = none ∧ ¬ InW S.w p := by
  have nw : ¬ InW S.w p := fun z => by
    obtain ⟨u, e⟩ := r.inW_some z
    rw [h] at e; cases e
  refine ⟨?_, nw⟩
  cases q : H0 p with
  | none => rfl
  | some u => rw [r.hh p u nw q] at h; cases h
theorem R.freeF (r : R c F0 H0 F H σ S) (h : H p = none) : F p = none := ex_back r.fh h

/-- the state of the rest changes: what is kept may grow by what is new, own objects and the law's state stand -/
theorem R.grow (r : R c F0 H0 F H σ S) (eH : ∀ a u, F a = none → H a = some u → H' a = some u) (eF : Ex F F') (fh : Ex F' H') (nw : ∀ a, F a = none → F' a ≠ none → H a = none) : R c F0 H0 F' H' σ S := by
  have eH' : Ex H H' := fun a u e => by
    cases q : F a with
    | none => exact eH a u q e
    | some z =>
      have e1 := r.fh a z q
      rw [e] at e1; cases e1
      exact fh a _ (eF a _ q)
  have nF : ∀ a u, H a = some u → F a = none → F' a = none := fun a u e n => by
    cases q : F' a with
    | none => rfl
    | some z =>
      have := nw a n (by rw [q]; simp)
      rw [e] at this; cases this
  refine ⟨r.len, fh, ex_tr r.ff eF, fun a u n e => eH' a u (r.hh a u n e), fun a n h => ?_, fun i s e => ?_, fun i s p e ow q => ?_, r.dis, fun w e => ?_⟩
  · by_cases q : F a = none
    · exact (r.free0 (nw a q h)).1
    · exact r.nw a n q
  · obtain ⟨x, q, k⟩ := r.sl i s e
    exact ⟨x, q, k.mono eF fun p u _ _ z => eH' p u z⟩
  · obtain ⟨n, h0, nw'⟩ := r.own i s p e ow q
    obtain ⟨x, q', k⟩ := r.sl i s e
    rw [q] at q'; cases q'
    obtain ⟨p', u, ep, eu, _⟩ := k.isRef ow
    cases ep
    exact ⟨nF p u eu n, h0, nw'⟩
  · have k := r.ws w e
    exact ⟨eH' _ _ k.s, eH' _ _ k.c, eH' _ _ k.l, k.ne, nF _ _ k.s k.fs, nF _ _ k.c k.fc, nF _ _ k.l k.fl⟩
/-- a new object, kept from now on -/
theorem R.new (r : R c F0 H0 F H σ S) (h : H p = none) : R c F0 H0 (upd F p o) (upd H p o) σ S := by
  have hF := r.freeF h
  refine r.grow (fun a u _ e => ex_new h a u e) (ex_new hF) (fun a u e => ?_) fun a n e => ?_
  · by_cases q : a = p
    · subst q; rw [upd_same] at e ⊢; exact e
    · rw [upd_ne q] at e ⊢; exact r.fh a u e
  · by_cases q : a = p
    · subst q; exact h
    · rw [upd_ne q] at e; exact absurd n e
/-- a new object, not kept -/
theorem R.tmp (r : R c F0 H0 F H σ S) (h : H p = none) : R c F0 H0 F (upd H p o) σ S :=
  r.grow (fun a u _ e => ex_new h a u e) (Ex.rfl' F) (fun a u e => ex_new h a u (r.fh a u e)) fun a n e => absurd n e
/-- an object that nobody knows is changed or kept -/
theorem R.loose (r : R c F0 H0 F H σ S) {p : Addr} (hp : H p = none ∨ (F p = none ∧ H0 p = none ∧ ¬ InW S.w p ∧ ∀ (i : Nat) s, S.env[i]? = some (some s) → s.own = true → σ[i]? ≠ some (some (.ref p)))) : R c F0 H0 F (upd H p o) σ S := by
  rcases hp with h | ⟨h1, h2, h3, h4⟩
  · exact r.tmp h
  · have ne : ∀ a u, F a = some u → a ≠ p := fun a u e z => by subst z; rw [h1] at e; cases e
    refine ⟨r.len, fun a u e => ?_, r.ff, fun a u n e => ?_, r.nw, fun i s e => ?_, r.own, r.dis, fun w e => ?_⟩
    · rw [upd_ne (ne a u e)]; exact r.fh a u e
    · rw [upd_ne (fun z => by subst z; rw [h2] at e; cases e)]; exact r.hh a u n e
    · obtain ⟨x, q, k⟩ := r.sl i s e
      refine ⟨x, q, k.mono (Ex.rfl' F) fun p' u ex ow z => ?_⟩
      subst ex
      rw [upd_ne (fun z' => by subst z'; exact h4 i s e ow q)]; exact z
    · have k := r.ws w e
      have nn : ∀ a, InW S.w a → a ≠ p := fun a z z' => by subst z'; exact h3 z
      exact ⟨by rw [upd_ne (nn _ ⟨w, e, .inl rfl⟩)]; exact k.s, by rw [upd_ne (nn _ ⟨w, e, .inr (.inl rfl)⟩)]; exact k.c, by rw [upd_ne (nn _ ⟨w, e, .inr (.inr rfl)⟩)]; exact k.l, k.ne, k.fs, k.fc, k.fl⟩

theorem get_set {α : Type} {l : List α} {i j : Nat} {x y : α} (h : (l.set i x)[j]? = some y) : (i = j ∧ y = x ∧ i < l.length) ∨ (i ≠ j ∧ l[j]? = some y) := by
  by_cases e : i = j
  · subst e
    by_cases hl : i < l.length
    · rw [List.getElem?_set_self hl] at h; cases h; exact .inl ⟨rfl, rfl, hl⟩
    · rw [List.getElem?_eq_none (by rw [List.length_set]; omega)] at h; cases h
  · rw [List.getElem?_set_ne e] at h; exact .inr ⟨e, h⟩
def PSt.put (S : PSt) (i : Nat) (s : Option Sl) : PSt := ⟨S.env.set i s, S.w⟩
/-- a slot is stored -/
theorem R.put (r : R c F0 H0 F H σ S) {i : Nat} {x : V} {s : Sl} (k : SlOk c F H S.w x s)
    (ho : s.own = true → ∀ p, x = .ref p → F p = none ∧ H0 p = none ∧ ¬ InW S.w p ∧ ∀ (j : Nat) t, j ≠ i → S.env[j]? = some (some t) → t.own = true → σ[j]? ≠ some (some (.ref p))) : R c F0 H0 F H (σ.set i (some x)) (S.put i (some s)) := by
  refine ⟨?_, r.fh, r.ff, r.hh, r.nw, fun j t e => ?_, fun j t p e ow q => ?_, fun j l t u p e1 e2 o1 o2 q1 q2 => ?_, r.ws⟩
  · show (σ.set i (some x)).length = (S.env.set i (some s)).length
    rw [List.length_set, List.length_set]; exact r.len
  · rcases get_set e with ⟨rfl, e', hl⟩ | ⟨ne, e'⟩
    · cases e'
      exact ⟨x, List.getElem?_set_self (by rw [r.len]; exact hl), k⟩
    · obtain ⟨y, q, k'⟩ := r.sl j t e'
      exact ⟨y, by rw [List.getElem?_set_ne ne]; exact q, k'⟩
  · rcases get_set e with ⟨rfl, e', hl⟩ | ⟨ne, e'⟩
    · cases e'
      rw [List.getElem?_set_self (by rw [r.len]; exact hl)] at q
      cases q
      obtain ⟨h1, h2, h3, _⟩ := ho ow p rfl
      exact ⟨h1, h2, h3⟩
    · rw [List.getElem?_set_ne ne] at q
      exact r.own j t p e' ow q
  · rcases get_set e1 with ⟨rfl, e1', hl⟩ | ⟨ne1, e1'⟩
    · cases e1'
      rw [List.getElem?_set_self (by rw [r.len]; exact hl)] at q1
      cases q1
      rcases get_set e2 with ⟨z, _, _⟩ | ⟨ne2, e2'⟩
      · exact z
      · rw [List.getElem?_set_ne ne2] at q2
        exact absurd q2 ((ho o1 p rfl).2.2.2 l u (Ne.symm ne2) e2' o2)
    · rw [List.getElem?_set_ne ne1] at q1
      rcases get_set e2 with ⟨z, e2', hl⟩ | ⟨ne2, e2'⟩
      · subst z
        cases e2'
        rw [List.getElem?_set_self (by rw [r.len]; exact hl)] at q2
        cases q2
        exact absurd q1 ((ho o2 p rfl).2.2.2 j t (Ne.symm ne1) e1' o1)
      · rw [List.getElem?_set_ne ne2] at q2
        exact r.dis j l t u p e1' e2' o1 o2 q1 q2
theorem R.putD (r : R c F0 H0 F H σ S) {i : Nat} {x : V} {d : D} (k : Rep c.K F x d) : R c F0 H0 F H (σ.set i (some x)) (S.put i (some (.dat d))) := r.put (s := .dat d) k fun z => nomatch z
/-- slots are forgotten -/
theorem R.weak (r : R c F0 H0 F H σ S) {σ' : L2.St} {env : List (Option Sl)} (hl : σ'.length = env.length) (h : ∀ (i : Nat) s, env[i]? = some (some s) → S.env[i]? = some (some s) ∧ σ'[i]? = σ[i]?) : R c F0 H0 F H σ' ⟨env, S.w⟩ := by
  refine ⟨hl, r.fh, r.ff, r.hh, r.nw, fun i s e => ?_, fun i s p e ow q => ?_, fun i j s t p e1 e2 o1 o2 q1 q2 => ?_, r.ws⟩
  · obtain ⟨h1, h2⟩ := h i s e
    obtain ⟨x, q, k⟩ := r.sl i s h1
    exact ⟨x, h2.trans q, k⟩
  · obtain ⟨h1, h2⟩ := h i s e
    exact r.own i s p h1 ow (h2.symm.trans q)
  · obtain ⟨h1, h2⟩ := h i s e1
    obtain ⟨h3, h4⟩ := h j t e2
    exact r.dis i j s t p h1 h3 o1 o2 (h2.symm.trans q1) (h4.symm.trans q2)
/-- all slots are forgotten -/
theorem R.bare (r : R c F0 H0 F H σ S) : R c F0 H0 F H [] ⟨[], S.w⟩ := r.weak rfl fun i s e => by simp at e
theorem R.drop (r : R c F0 H0 F H σ S) (i : Nat) : R c F0 H0 F H σ (S.put i none) := by
  refine r.weak (by rw [List.length_set]; exact r.len) fun j s e => ?_
  rcases get_set e with ⟨_, e', _⟩ | ⟨_, e'⟩
  · cases e'
  · exact ⟨e', rfl⟩
theorem R.dropS (r : R c F0 H0 F H σ S) (i : Nat) (x : Option V) : R c F0 H0 F H (σ.set i x) (S.put i none) := by
  refine r.weak (by rw [List.length_set, List.length_set]; exact r.len) fun j s e => ?_
  rcases get_set e with ⟨_, e', _⟩ | ⟨ne, e'⟩
  · cases e'
  · exact ⟨e', List.getElem?_set_ne ne⟩
/-- the object of a slot is changed -/
theorem R.mut (r : R c F0 H0 F H σ S) {i : Nat} {s s' : Sl} {p : Addr} (e : S.env[i]? = some (some s)) (ow : s.own = true) (q : σ[i]? = some (some (.ref p))) (k : SlOk c F (upd H p o) S.w (.ref p) s') (ow' : s'.own = true) : R c F0 H0 F (upd H p o) σ (S.put i (some s')) := by
  obtain ⟨h1, h2, h3⟩ := r.own i s p e ow q
  have r1 : R c F0 H0 F (upd H p o) σ (S.put i none) := (r.drop i).loose (.inr ⟨h1, h2, h3, fun j t ej oj qj => by
    rcases get_set ej with ⟨_, e', _⟩ | ⟨ne, e'⟩
    · cases e'
    · exact ne (r.dis i j s t p e e' ow oj q qj)⟩)
  have r2 := r1.put (i := i) (x := .ref p) (s := s') k fun _ p' ep => by
    cases ep
    refine ⟨h1, h2, h3, fun j t nj ej oj qj => ?_⟩
    rcases get_set ej with ⟨_, e', _⟩ | ⟨ne, e'⟩
    · cases e'
    · exact ne (r.dis i j s t p e e' ow oj q qj)
  have e1 : σ.set i (some (.ref p)) = σ := by
    apply List.ext_getElem?
    intro j
    by_cases hj : i = j
    · subst hj
      rw [List.getElem?_set_self (by rw [r.len]; exact (List.getElem?_eq_some_iff.mp e).1), q]
    · rw [List.getElem?_set_ne hj]
  have e2 : (S.put i none).put i (some s') = S.put i (some s') := by
    unfold PSt.put; rw [List.set_set]
  rw [e1, e2] at r2
  exact r2
/-- a slot's own object is kept from now on: it is data -/
theorem R.keep (r : R c F0 H0 F H σ S) {i : Nat} {s : Sl} {p : Addr} {u : HO} {d : D} (e : S.env[i]? = some (some s)) (ow : s.own = true) (q : σ[i]? = some (some (.ref p))) (hu : H p = some u) (k : Rep c.K (upd F p u) (.ref p) d) :
    R c F0 H0 (upd F p u) H σ (S.put i (some (.dat d))) ∧ Ex F (upd F p u) := by
  obtain ⟨h1, h2, h3⟩ := r.own i s p e ow q
  have eF : Ex F (upd F p u) := ex_new h1
  refine ⟨⟨by show σ.length = (S.env.set i _).length; rw [List.length_set]; exact r.len, fun a v ev => ?_, ex_tr r.ff eF, r.hh, fun a n h => ?_, fun j t ej => ?_, fun j t p' ej oj qj => ?_, fun j l t t' p' e1 e2 o1 o2 q1 q2 => ?_, fun w ew => ?_⟩, eF⟩
  · by_cases z : a = p
    · subst z; rw [upd_same] at ev; cases ev; exact hu
    · rw [upd_ne z] at ev; exact r.fh a v ev
  · by_cases z : a = p
    · subst z; exact h2
    · rw [upd_ne z] at h; exact r.nw a n h
  · rcases get_set ej with ⟨rfl, e', _⟩ | ⟨ne, e'⟩
    · cases e'; exact ⟨_, q, k⟩
    · obtain ⟨x, q', k'⟩ := r.sl j t e'
      exact ⟨x, q', k'.mono eF fun _ _ _ _ z => z⟩
  · rcases get_set ej with ⟨rfl, e', _⟩ | ⟨ne, e'⟩
    · cases e'; cases oj
    · obtain ⟨a1, a2, a3⟩ := r.own j t p' e' oj qj
      refine ⟨?_, a2, a3⟩
      rw [upd_ne (fun z => by subst z; exact ne (r.dis i j s t p' e e' ow oj q qj))]
      exact a1
  · rcases get_set e1 with ⟨rfl, e1', _⟩ | ⟨_, e1'⟩
    · cases e1'; cases o1
    · rcases get_set e2 with ⟨rfl, e2', _⟩ | ⟨_, e2'⟩
      · cases e2'; cases o2
      · exact r.dis j l t t' p' e1' e2' o1 o2 q1 q2
  · have kk := r.ws w ew
    have nn : ∀ a, InW S.w a → a ≠ p := fun a z z' => by subst z'; exact h3 z
    exact ⟨kk.s, kk.c, kk.l, kk.ne, by rw [upd_ne (nn _ ⟨w, ew, .inl rfl⟩)]; exact kk.fs, by rw [upd_ne (nn _ ⟨w, ew, .inr (.inl rfl)⟩)]; exact kk.fc, by rw [upd_ne (nn _ ⟨w, ew, .inr (.inr rfl)⟩)]; exact kk.fl⟩
/-- a loose object is kept from now on -/
theorem R.keepL (r : R c F0 H0 F H σ S) {p : Addr} {u : HO} (hu : H p = some u) (h1 : F p = none) (h2 : H0 p = none) (h3 : ¬ InW S.w p) (h4 : ∀ (i : Nat) s, S.env[i]? = some (some s) → s.own = true → σ[i]? ≠ some (some (.ref p))) :
    R c F0 H0 (upd F p u) H σ S ∧ Ex F (upd F p u) := by
  have eF : Ex F (upd F p u) := ex_new h1
  refine ⟨⟨r.len, fun a v ev => ?_, ex_tr r.ff eF, r.hh, fun a n h => ?_, fun j t ej => ?_, fun j t p' ej oj qj => ?_, r.dis, fun w ew => ?_⟩, eF⟩
  · by_cases z : a = p
    · subst z; rw [upd_same] at ev; cases ev; exact hu
    · rw [upd_ne z] at ev; exact r.fh a v ev
  · by_cases z : a = p
    · subst z; exact h2
    · rw [upd_ne z] at h; exact r.nw a n h
  · obtain ⟨x, q', k'⟩ := r.sl j t ej
    exact ⟨x, q', k'.mono eF fun _ _ _ _ z => z⟩
  · obtain ⟨a1, a2, a3⟩ := r.own j t p' ej oj qj
    refine ⟨?_, a2, a3⟩
    rw [upd_ne (fun z => by subst z; exact h4 j t ej oj qj)]
    exact a1
  · have kk := r.ws w ew
    have nn : ∀ a, InW S.w a → a ≠ p := fun a z z' => by subst z'; exact h3 z
    exact ⟨kk.s, kk.c, kk.l, kk.ne, by rw [upd_ne (nn _ ⟨w, ew, .inl rfl⟩)]; exact kk.fs, by rw [upd_ne (nn _ ⟨w, ew, .inr (.inl rfl)⟩)]; exact kk.fc, by rw [upd_ne (nn _ ⟨w, ew, .inr (.inr rfl)⟩)]; exact kk.fl⟩
end
end PL
/-! The pure layer, C: expressions by data. -/
namespace PL
open PySem PySem.Spec PyProof.Rows L2

/-- what an expression gives: data, the object of a slot, the law's state, a new list or dict that nobody holds yet -/
inductive Vl where
  | dat (d : D) | own (i : Nat) | st | new (s : Sl)
abbrev ccOf (X : Cx) : Cc := ⟨X.prog, X.w, X.K⟩
/-- an object that no slot holds and that is not kept -/
def Loose (H0 F : Hp) (σ : L2.St) (S : PSt) (x : V) : Prop := ∃ p, x = .ref p ∧ F p = none ∧ H0 p = none ∧ ¬ InW S.w p ∧ ∀ (j : Nat) t, S.env[j]? = some (some t) → t.own = true → σ[j]? ≠ some (some (.ref p))
/-- Hs: the heap ahead of the expression -/
def VlOk (c : Cc) (H0 Hs F H : Hp) (σ : L2.St) (S : PSt) (x : V) : Vl → Prop
  | .dat d => Rep c.K F x d
  | .own i => σ[i]? = some (some x) ∧ ∃ s, S.env[i]? = some (some s) ∧ s.own = true
  | .st => ∃ ws, S.w = some ws ∧ x = .ref ws.sa
  | .new s => s.own = true ∧ SlOk c F H S.w x s ∧ Loose H0 F σ S x ∧ ∀ p, x = .ref p → Hs p = none
/-- what a value holds -/
def PSt.con (S : PSt) : Vl → Option Sl
  | .dat d => some (.dat d)
  | .own i => (S.env[i]?).bind id
  | .st => some .st
  | .new s => some s
/-- still good behind what leads from S to S' -/
def Vl.keeps (S S' : PSt) : Vl → Prop
  | .dat _ => True
  | .own i => S'.env[i]? = S.env[i]?
  | .st => S'.w.map (·.sa) = S.w.map (·.sa)
  | .new _ => True

section
variable {c : Cc} {F0 H0 Hs F H F' H' : Hp} {σ : L2.St} {S S' : PSt} {x : V} {v : Vl} {s : Sl}
theorem VlOk.sl (h : VlOk c H0 Hs F H σ S x v) (r : R c F0 H0 F H σ S) (e : S.con v = some s) : SlOk c F H S.w x s := by
  cases v with
  | dat d => cases e; exact h
  | own i =>
    obtain ⟨h1, t, h2, h3⟩ := h
    have e' : (S.env[i]?).bind id = some s := e
    rw [h2] at e'
    cases e'
    obtain ⟨y, q, k⟩ := r.sl i _ h2
    rw [h1] at q; cases q; exact k
  | st =>
    cases e
    obtain ⟨ws, e1, e2⟩ := h
    exact ⟨ws, e1, e2⟩
  | new t => cases e; exact h.2.1
end

theorem repI_keys {K : PySem.W.Frag} {F : Hp} : ∀ {us : List (Key × V)} {kvs : List (Int × D)}, RepI K F us kvs → us.map (·.1) = (kvs.map (·.1)).map Sum.inl
  | _, _, .nil => rfl
  | _, _, .cons z r => by rw [List.map_cons, List.map_cons, List.map_cons, repI_keys r, z.1]
theorem repI_vals {K : PySem.W.Frag} {F : Hp} : ∀ {us : List (Key × V)} {kvs : List (Int × D)}, RepI K F us kvs → RepL K F (us.map (·.2)) (kvs.map (·.2))
  | _, _, .nil => .nil
  | _, _, .cons z r => .cons z.2 (repI_vals r)

/-- what an expression may do: what is kept grows, nothing that stands is changed but the law's state -/
structure Gr (σ : L2.St) (S S1 : PSt) (F H F' H' : Hp) : Prop where
  eF : Ex F F'
  eH : ∀ a o, H a = some o → ¬ InW S.w a → H' a = some o ∧ ¬ InW S1.w a
  nF : ∀ a, F a = none → F' a ≠ none → H a = none ∨ ∃ (i : Nat) (s : Sl), S.env[i]? = some (some s) ∧ s.own = true ∧ σ[i]? = some (some (.ref a))
  sw : ∀ a, InW S.w a → InW S1.w a
  so : ∀ (i : Nat) (s : Sl), S1.env[i]? = some (some s) → s.own = true → S.env[i]? = some (some s)
theorem Gr.rf {σ : L2.St} {S : PSt} {F H : Hp} : Gr σ S S F H F H := ⟨Ex.rfl' F, fun _ _ h n => ⟨h, n⟩, fun _ n h => absurd n h, fun _ h => h, fun _ _ h _ => h⟩
theorem Gr.tr {c : Cc} {F0 H0 : Hp} {σ : L2.St} {S S1 S2 : PSt} {F H F1 H1 F2 H2 : Hp} (a : Gr σ S S1 F H F1 H1) (r : R c F0 H0 F1 H1 σ S1) (b : Gr σ S1 S2 F1 H1 F2 H2) : Gr σ S S2 F H F2 H2 := by
  refine ⟨ex_tr a.eF b.eF, fun p o h n => ?_, fun p n h => ?_, fun p h => b.sw p (a.sw p h), fun i s h o => a.so i s (b.so i s h o) o⟩
  · obtain ⟨h1, n1⟩ := a.eH p o h n
    exact b.eH p o h1 n1
  · by_cases q : F1 p = none
    · rcases b.nF p q h with z | ⟨i, s, e, o, z⟩
      · left
        cases q2 : H p with
        | none => rfl
        | some u =>
          by_cases w : InW S.w p
          · obtain ⟨v, ev⟩ := r.inW_some (a.sw p w)
            rw [z] at ev; cases ev
          · have := (a.eH p u q2 w).1
            rw [z] at this; cases this
      · exact .inr ⟨i, s, a.so i s e o, o, z⟩
    · exact a.nF p n q
theorem VlOk.later {c : Cc} {F0 H0 Hs F H F' H' : Hp} {σ : L2.St} {S S' : PSt} {x : V} {v : Vl} (h : VlOk c H0 Hs F H σ S x v) (k : v.keeps S S') (g : Gr σ S S' F H F' H') : VlOk c H0 Hs F' H' σ S' x v := by
  cases v with
  | dat d => exact Rep.mono g.eF h
  | own i =>
    obtain ⟨h1, t, h2, h3⟩ := h
    exact ⟨h1, t, by rw [show S'.env[i]? = S.env[i]? from k]; exact h2, h3⟩
  | st =>
    obtain ⟨ws, e1, e2⟩ := h
    have k' : S'.w.map (·.sa) = S.w.map (·.sa) := k
    rw [e1] at k'
    cases q : S'.w with
    | none => rw [q] at k'; cases k'
    | some ws' =>
      rw [q] at k'
      have : ws'.sa = ws.sa := Option.some.inj k'
      exact ⟨ws', q, by rw [this]; exact e2⟩
  | new t =>
    obtain ⟨ow, sl, ⟨p, ep, a1, a2, a3, a4⟩, hs⟩ := h
    subst ep
    obtain ⟨p', u, ep, eu, _⟩ := sl.isRef ow
    cases ep
    have hp := g.eH p u eu a3
    have sl' : SlOk c F' H' S'.w (.ref p) t := by
      have h1 : SlOk c F' H' S.w (.ref p) t := sl.mono g.eF fun q o eq _ z => by
        cases eq
        exact (g.eH p o z a3).1
      cases t with
      | st => cases ow
      | dat _ => cases ow
      | lst _ => exact h1
      | dicI _ => exact h1
      | dicN _ => exact h1
    refine ⟨ow, sl', ⟨p, rfl, ?_, a2, hp.2, fun j t' e o => a4 j t' (g.so j t' e o) o⟩, hs⟩
    cases q : F' p with
    | none => rfl
    | some z =>
      rcases g.nF p a1 (by rw [q]; simp) with w | ⟨i, s, e, o, w⟩
      · rw [eu] at w; cases w
      · exact absurd w (a4 i s e o)

theorem Gr.back {c : Cc} {F0 H0 F H F' H' : Hp} {σ : L2.St} {S S' : PSt} {p : Addr} (g : Gr σ S S' F H F' H') (r : R c F0 H0 F' H' σ S') (h : H' p = none) : H p = none := by
  cases q : H p with
  | none => rfl
  | some u =>
    by_cases w : InW S.w p
    · obtain ⟨v, ev⟩ := r.inW_some (g.sw p w)
      rw [h] at ev; cases ev
    · have := (g.eH p u q w).1
      rw [h] at this; cases this
/-- seen from further ahead -/
theorem VlOk.from {c : Cc} {F0 H0 Hs Hb Fb F H F' H' : Hp} {σ : L2.St} {S S' S0 : PSt} {x : V} {v : Vl} (h : VlOk c H0 Hs F H σ S x v) (g : Gr σ S0 S' Fb Hb F' Hs) (r : R c F0 H0 F' Hs σ S') : VlOk c H0 Hb F H σ S x v := by
  cases v with
  | new t => exact ⟨h.1, h.2.1, h.2.2.1, fun p e => g.back r (h.2.2.2 p e)⟩
  | _ => exact h
/-- a new object, kept from now on -/
theorem gr_new {σ : L2.St} {S : PSt} {F H : Hp} {p : Addr} {o : HO} (hF : F p = none) (hH : H p = none) (hW : ¬ InW S.w p) : Gr σ S S F H (upd F p o) (upd H p o) := by
  refine ⟨ex_new hF, fun a u e n => ⟨ex_new hH a u e, n⟩, fun a n h => ?_, fun _ h => h, fun _ _ h _ => h⟩
  by_cases q : a = p
  · subst q; exact .inl hH
  · rw [upd_ne q] at h; exact absurd n h
theorem gr_tmp {σ : L2.St} {S : PSt} {F H : Hp} {p : Addr} {o : HO} (hH : H p = none) : Gr σ S S F H F (upd H p o) := ⟨Ex.rfl' F, fun a u e n => ⟨ex_new hH a u e, n⟩, fun a n h => absurd n h, fun _ h => h, fun _ _ h _ => h⟩
/-- an object made on the way is kept -/
theorem Gr.keep {σ : L2.St} {S S1 : PSt} {F H F' H' : Hp} {p : Addr} {o : HO} (g : Gr σ S S1 F H F' H') (hF : F' p = none) (hp : H p = none) : Gr σ S S1 F H (upd F' p o) H' := by
  refine ⟨ex_tr g.eF (ex_new hF), g.eH, fun a n h => ?_, g.sw, g.so⟩
  by_cases q : a = p
  · subst q; exact .inl hp
  · rw [upd_ne q] at h; exact g.nF a n h
theorem gr_own {σ : L2.St} {S : PSt} {F H : Hp} {p : Addr} {o : HO} {i : Nat} {s : Sl} {d : D} (e : S.env[i]? = some (some s)) (ow : s.own = true) (q : σ[i]? = some (some (.ref p))) (hF : F p = none) : Gr σ S (S.put i (some (.dat d))) F H (upd F p o) H := by
  refine ⟨ex_new hF, fun a u e n => ⟨e, n⟩, fun a n h => ?_, fun _ h => h, fun j t h o => ?_⟩
  · by_cases z : a = p
    · subst z; exact .inr ⟨i, s, e, ow, q⟩
    · rw [upd_ne z] at h; exact absurd n h
  · rcases get_set h with ⟨_, e', _⟩ | ⟨_, e'⟩
    · cases e'; cases o
    · exact e'

/-! ### the judgements' readings -/
def tV (c : Cc) (S : PSt) (v : Vl) (S1 : PSt) : TE := fun σ H Q => ∃ F0 H0 F, R c F0 H0 F H σ S ∧ ∀ x F' H', R c F0 H0 F' H' σ S1 → Gr σ S S1 F H F' H' → VlOk c H0 H F' H' σ S1 x v → Q x H'
def tT (c : Cc) (S : PSt) (b : Bool) (S1 : PSt) : TT := fun σ H Q => ∃ F0 H0 F, R c F0 H0 F H σ S ∧ ∀ F' H', R c F0 H0 F' H' σ S1 → Gr σ S S1 F H F' H' → Q b H'
inductive VlsOk (c : Cc) (H0 Hs F H : Hp) (σ : L2.St) (S : PSt) : List V → List Vl → Prop
  | nil : VlsOk c H0 Hs F H σ S [] []
  | cons {x : V} {v : Vl} {xs : List V} {vs : List Vl} : VlOk c H0 Hs F H σ S x v → VlsOk c H0 Hs F H σ S xs vs → VlsOk c H0 Hs F H σ S (x :: xs) (v :: vs)
def tA (c : Cc) (S : PSt) (vs : List Vl) (S1 : PSt) : TA := fun σ H Q => ∃ F0 H0 F, R c F0 H0 F H σ S ∧ ∀ xs F' H', R c F0 H0 F' H' σ S1 → Gr σ S S1 F H F' H' → VlsOk c H0 H F' H' σ S1 xs vs → Q xs H'
abbrev PV (X : Cx) (e : Expr) (S : PSt) (v : Vl) (S1 : PSt) : Prop := PE X e (tV (ccOf X) S v S1)
abbrev PTd (X : Cx) (e : Expr) (S : PSt) (b : Bool) (S1 : PSt) : Prop := PT X e (tT (ccOf X) S b S1)
abbrev PWd (X : Cx) (e : Expr) (S : PSt) (b : Bool) (S1 : PSt) : Prop := PW X e (tT (ccOf X) S b S1)
abbrev PVs (X : Cx) (es : List Expr) (S : PSt) (vs : List Vl) (S1 : PSt) : Prop := PA X es (tA (ccOf X) S vs S1)

section
variable {X : Cx} {e a b : Expr} {es : List Expr}
theorem peI {t t' : TE} (h : PE X e t) (i : ∀ σ H Q, t' σ H Q → t σ H Q) : PE X e t' := ⟨fun pins s σ H Q I q => h.run pins s σ H Q I (i σ H Q q)⟩
theorem ptI {t t' : TT} (h : PT X e t) (i : ∀ σ H Q, t' σ H Q → t σ H Q) : PT X e t' := ⟨fun pins s σ H Q I q => h.run pins s σ H Q I (i σ H Q q)⟩
theorem pwI {t t' : TT} (h : PW X e t) (i : ∀ σ H Q, t' σ H Q → t σ H Q) : PW X e t' := ⟨fun wh pins s σ H Q I q => h.run wh pins s σ H Q I (i σ H Q q)⟩
theorem paI {t t' : TA} (h : PA X es t) (i : ∀ σ H Q, t' σ H Q → t σ H Q) : PA X es t' := ⟨fun pos pins s σ H Q I q => h.run pos pins s σ H Q I (i σ H Q q)⟩
end

section
variable {X : Cx} {e a b : Expr} {es : List Expr} {S S1 S2 S3 : PSt} {v u : Vl} {vs : List Vl} {pos : Pos}
/-! ### names, constants -/
def Sl.at (i : Nat) : Sl → Vl
  | .dat d => .dat d
  | .st => .st
  | _ => .own i
theorem pv_var (i : Nat) {x : Str} {s : Sl} (hN : X.N[i]? = some x) (hv : Vis X.env.scope x) (he : S.env[i]? = some (some s)) (hd : (x == ("__debug__" : Str)) = false := by decide) (hcd : (x == ("__classdict__" : Str)) = false := by decide) :
    PV X (.Name x pos) S (s.at i) S := peI (pe_var hN hv hd hcd) fun σ H Q ⟨F0, H0, F, r, k⟩ => by
  obtain ⟨y, q, z⟩ := r.sl i s he
  refine ⟨y, q, k y F H r Gr.rf ?_⟩
  cases s with
  | dat d => exact z
  | st =>
    obtain ⟨ws, e1, e2⟩ := z
    exact ⟨ws, e1, e2⟩
  | lst _ => exact ⟨q, _, he, rfl⟩
  | dicI _ => exact ⟨q, _, he, rfl⟩
  | dicN _ => exact ⟨q, _, he, rfl⟩
theorem pv_c {x : V} {d : D} (h : PE X e (tC x)) (r : ∀ F, Rep X.K F x d) : PV X e S (.dat d) S := peI h fun σ H Q ⟨F0, H0, F, rr, k⟩ => k x F H rr Gr.rf (r F)
theorem pv_int {i : Int} {j : Nat} : PV X (.Constant (.int i) j pos) S (.dat (.int i)) S := pv_c pe_int fun _ => .int i
theorem pv_bl {b : Bool} {j : Nat} : PV X (.Constant (.bool b) j pos) S (.dat (.bl b)) S := pv_c pe_bl fun _ => .bl b
theorem pv_non {j : Nat} : PV X (.Constant .none j pos) S (.dat .non) S := pv_c pe_non fun _ => .non
theorem pv_str {z : Str} {j : Nat} : PV X (.Constant (.str z) j pos) S (.dat (.str z)) S := pv_c pe_str fun _ => .str z
/-- a module's constant -/
theorem pv_glob {x : Str} {y : V} {w : Value} {d : D} (hg : Gl X x) (hm : X.mg x = some w) (r : RelV y w) (rd : ∀ F, Rep X.K F y d) (hd : (x == ("__debug__" : Str)) = false := by decide) : PV X (.Name x pos) S (.dat d) S := pv_c (pe_glob hg hm r hd) rd

/-! ### a new object that nobody holds, kept from now on -/
theorem PV.frz {ds : List D} (h : PV X e S (.new (.lst ds)) S1) : PV X e S (.dat (.lst ds)) S1 := peI h fun σ H Q ⟨F0, H0, F, r, k⟩ => ⟨F0, H0, F, r, fun x F' H' r' g z => by
  obtain ⟨_, ⟨p, ws, rfl, h1, h2⟩, ⟨p', ep, a1, a2, a3, a4⟩, hs⟩ := z
  cases ep
  obtain ⟨r2, e2⟩ := r'.keepL h1 a1 a2 a3 a4
  exact k _ _ _ r2 (g.keep a1 (hs p rfl)) (.lst upd_same (h2.mono e2))⟩
theorem PV.frzI {kvs : List (Int × D)} (h : PV X e S (.new (.dicI kvs)) S1) : PV X e S (.dat (.dic (kvs.map (·.1)) (kvs.map (·.2)))) S1 := peI h fun σ H Q ⟨F0, H0, F, r, k⟩ => ⟨F0, H0, F, r, fun x F' H' r' g z => by
  obtain ⟨_, ⟨p, us, rfl, h1, h2⟩, ⟨p', ep, a1, a2, a3, a4⟩, hs⟩ := z
  cases ep
  obtain ⟨r2, e2⟩ := r'.keepL h1 a1 a2 a3 a4
  exact k _ _ _ r2 (g.keep a1 (hs p rfl)) (.dic upd_same (repI_keys h2) (repI_vals (h2.mono e2)))⟩
/-- a slot's own list, dict is kept from now on -/
theorem PV.frzO {i : Nat} {ds : List D} (h : PV X e S (.own i) S1) (he : S1.env[i]? = some (some (.lst ds)) := by rfl) : PV X e S (.dat (.lst ds)) (S1.put i (some (.dat (.lst ds)))) := peI h fun σ H Q ⟨F0, H0, F, r, k⟩ => ⟨F0, H0, F, r, fun x F' H' r' g z => by
  obtain ⟨q, _⟩ := z
  obtain ⟨y, q', p, ws, rfl, h1, h2⟩ := r'.sl i _ he
  rw [q] at q'; cases q'
  have z := r'.own i _ p he rfl q
  have e2 : Ex F' (upd F' p (.lst ws)) := ex_new z.1
  have rp : Rep X.K (upd F' p (.lst ws)) (.ref p) (.lst ds) := .lst upd_same (h2.mono e2)
  obtain ⟨r2, _⟩ := r'.keep (d := .lst ds) he rfl q h1 rp
  exact k _ _ _ r2 (g.tr r' (gr_own he rfl q z.1)) rp⟩
theorem PV.frzOI {i : Nat} {kvs : List (Int × D)} (h : PV X e S (.own i) S1) (he : S1.env[i]? = some (some (.dicI kvs)) := by rfl) : PV X e S (.dat (.dic (kvs.map (·.1)) (kvs.map (·.2)))) (S1.put i (some (.dat (.dic (kvs.map (·.1)) (kvs.map (·.2)))))) := peI h fun σ H Q ⟨F0, H0, F, r, k⟩ => ⟨F0, H0, F, r, fun x F' H' r' g z => by
  obtain ⟨q, _⟩ := z
  obtain ⟨y, q', p, us, rfl, h1, h2⟩ := r'.sl i _ he
  rw [q] at q'; cases q'
  have z := r'.own i _ p he rfl q
  have e2 : Ex F' (upd F' p (.dK us)) := ex_new z.1
  have rp : Rep X.K (upd F' p (.dK us)) (.ref p) (.dic (kvs.map (·.1)) (kvs.map (·.2))) := .dic upd_same (repI_keys h2) (repI_vals (h2.mono e2))
  obtain ⟨r2, _⟩ := r'.keep he rfl q h1 rp
  exact k _ _ _ r2 (g.tr r' (gr_own he rfl q z.1)) rp⟩

/-! ### arguments -/
theorem pvs_nil : PVs X [] S [] S := paI pa_nil fun σ H Q ⟨F0, H0, F, r, k⟩ => k [] F H r Gr.rf .nil
theorem VlsOk.from {c : Cc} {F0 H0 Hs Hb Fb F H F' : Hp} {σ : L2.St} {S S' S0 : PSt} {xs : List V} {vs : List Vl} (h : VlsOk c H0 Hs F H σ S xs vs) (g : Gr σ S0 S' Fb Hb F' Hs) (r : R c F0 H0 F' Hs σ S') : VlsOk c H0 Hb F H σ S xs vs := by
  induction h with
  | nil => exact .nil
  | cons h _ ih => exact .cons (VlOk.from (H' := H) h g r) ih
theorem pvs_cons (ha : PV X e S v S1) (hr : PVs X es S1 vs S2) (hk : v.keeps S1 S2 := by first | exact True.intro | exact rfl) (hs : starEach (e :: es) X.env = (false, eval e X.env) :: starEach es X.env := by rfl) : PVs X (e :: es) S (v :: vs) S2 :=
  paI (pa_cons ha hr hs) fun σ H Q ⟨F0, H0, F, r, k⟩ => ⟨F0, H0, F, r, fun x F1 H1 r1 e1 z1 => ⟨F0, H0, F1, r1, fun xs F2 H2 r2 e2 z2 => k _ F2 H2 r2 (e1.tr r1 e2) (.cons (z1.later (F0 := F0) hk e2) (z2.from e1 r1))⟩⟩
theorem pvs_one (ha : PV X e S v S1) (hs : starEach [e] X.env = (false, eval e X.env) :: starEach [] X.env := by rfl) : PVs X [e] S [v] S1 :=
  paI (pa_cons ha pa_nil hs) fun σ H Q ⟨F0, H0, F, r, k⟩ => ⟨F0, H0, F, r, fun x F1 H1 r1 e1 z1 => k _ F1 H1 r1 e1 (.cons z1 .nil)⟩
def dats : List Vl → Option (List D)
  | [] => some []
  | .dat d :: vs => (dats vs).map (d :: ·)
  | _ :: _ => none
theorem dats_rep {c : Cc} {H0 Hs F H : Hp} {σ : L2.St} {S : PSt} {xs : List V} {vs : List Vl} {ds : List D} (h : VlsOk c H0 Hs F H σ S xs vs) (e : dats vs = some ds) : RepL c.K F xs ds := by
  induction h generalizing ds with
  | nil => cases e; exact .nil
  | @cons x v xs vs hx _ ih =>
    cases v with
    | dat d =>
      have e' : (dats vs).map (d :: ·) = some ds := e
      cases q : dats vs with
      | none => rw [q] at e'; cases e'
      | some ds' =>
        rw [q] at e'
        have e2 : d :: ds' = ds := Option.some.inj e'
        subst e2
        exact .cons hx (ih q)
    | own _ => cases e
    | st => cases e
    | new _ => cases e

/-! ### displays -/
/-- a new tuple, known whole -/
def tTupF (t : TA) : TE := fun σ H Q => t σ H fun xs H1 => xs.length ≤ sizeLine ∧ ∀ p o, H1 p = none → o.dict = none → Q (.ref p) (upd H1 p (.frz o (.tup xs)))
theorem pe_tupF {x1 : Nat} {t : TA} (h : PA X es t) : PE X (.Tuple es x1 pos) (tTupF t) := by
  refine ⟨fun pins s σ H Q I hq => ?_⟩
  refine wpAny_Tuple_spliced (thn (h.run pos pins s σ H _ I hq) fun us s1 ⟨xs, H1, I1, r, z, q⟩ => ⟨by rw [← r.length]; exact z, ?_⟩)
  have hf : H1 s1.heap.objs.size = none := I1.hok.fresh (Nat.le_refl _)
  refine ⟨.ref s1.heap.objs.size, upd H1 s1.heap.objs.size (.frz { cls := .type "tuple", data := .seq us.toArray } (.tup xs)), I1.laid (t' := s1.toks) (fun b u e => Heap.get?_push_of_some _ e) (Nat.le_refl _) ?_, rfl, q _ _ hf rfl⟩
  exact ⟨Heap.get?_push_size _ rfl, z, us, r, ⟨_, Heap.get?_push_size _ rfl, rfl, _, rfl⟩⟩
theorem pv_tup {x1 : Nat} {ds : List D} (h : PVs X es S vs S1) (hd : dats vs = some ds) (hl : ds.length ≤ 1000 := by first | decide | simp) : PV X (.Tuple es x1 pos) S (.dat (.tup ds)) S1 := peI (pe_tupF h) fun σ H Q ⟨F0, H0, F, r, k⟩ => ⟨F0, H0, F, r, fun xs F1 H1 r1 e1 z1 => by
  have rp := dats_rep z1 hd
  refine ⟨Nat.le_trans (by rw [rp.len]; exact hl) (by decide), fun p o hp hn => ?_⟩
  have e2 : Ex F1 (upd F1 p (.frz o (.tup xs))) := ex_new (r1.freeF hp)
  exact k _ _ _ (r1.new hp) (e1.tr r1 (gr_new (r1.freeF hp) hp (r1.free0 hp).2)) (.tup (.inl ⟨o, upd_same, hn⟩) (rp.mono e2))⟩
/-- a new object at p, held by nobody -/
theorem loose_new {c : Cc} {F0 H0 F H : Hp} {σ : L2.St} {S : PSt} {p : Addr} {o : HO} (r : R c F0 H0 F H σ S) (hp : H p = none) : Loose H0 F σ S (.ref p) := by
  obtain ⟨a1, a2⟩ := r.free0 hp
  refine ⟨p, rfl, r.freeF hp, a1, a2, fun j t e o q => ?_⟩
  obtain ⟨x, q', k⟩ := r.sl j t e
  rw [q] at q'; cases q'
  obtain ⟨p', u, ep, eu, _⟩ := k.isRef o
  cases ep
  rw [hp] at eu; cases eu
theorem pv_lst {ds : List D} (h : PVs X es S vs S1) (hd : dats vs = some ds) (hl : ds.length ≤ 1000 := by first | decide | simp) : PV X (.List es pos) S (.new (.lst ds)) S1 := peI (pe_lst h) fun σ H Q ⟨F0, H0, F, r, k⟩ => ⟨F0, H0, F, r, fun xs F1 H1 r1 e1 z1 => by
  have rp := dats_rep z1 hd
  refine ⟨Nat.le_trans (by rw [rp.len]; exact hl) (by decide), fun p hp => ?_⟩
  exact k _ _ _ (r1.tmp hp) (e1.tr r1 (gr_tmp hp)) ⟨rfl, ⟨p, xs, rfl, upd_same, rp⟩, loose_new (o := .lst xs) r1 hp, fun q eq => by cases eq; exact e1.back r1 hp⟩⟩

/-! ### operators on numbers -/
theorem pv_op {op : Operator} {r : R2} {d1 d2 d : D} (ho : OpR X (binaryOp op) r) (ha : PV X a S (.dat d1) S1) (hb : PV X b S1 (.dat d2) S2)
    (hr : ∀ (x y : V) F H Q, Rep X.K F x d1 → Rep X.K F y d2 → (∀ z, Rep X.K F z d → Q z H) → r x y H Q) : PV X (.BinOp a op b pos) S (.dat d) S2 :=
  peI (pe_op ho ha hb) fun σ H Q ⟨F0, H0, F, rr, k⟩ => ⟨F0, H0, F, rr, fun x F1 H1 r1 e1 z1 => ⟨F0, H0, F1, r1, fun y F2 H2 r2 e2 z2 =>
    hr x y F2 H2 Q (Rep.mono e2.eF z1) z2 fun z hz => k z F2 H2 r2 (e1.tr r1 e2) hz⟩⟩
theorem rep_int {K : PySem.W.Frag} {F : Hp} {x : V} {i : Int} (h : Rep K F x (.int i)) : x = .int i := by cases h; rfl
theorem rep_bl {K : PySem.W.Frag} {F : Hp} {x : V} {i : Bool} (h : Rep K F x (.bl i)) : x = .bl i := by cases h; rfl
theorem pv_add {i j : Int} (ha : PV X a S (.dat (.int i)) S1) (hb : PV X b S1 (.dat (.int j)) S2) : PV X (.BinOp a .Add b pos) S (.dat (.int (i + j))) S2 := pv_op op_add ha hb fun x y F H Q h1 h2 k => ⟨i, j, rep_int h1, rep_int h2, k _ (.int _)⟩
theorem pv_sub {i j : Int} (ha : PV X a S (.dat (.int i)) S1) (hb : PV X b S1 (.dat (.int j)) S2) : PV X (.BinOp a .Sub b pos) S (.dat (.int (i - j))) S2 := pv_op op_sub ha hb fun x y F H Q h1 h2 k => ⟨i, j, rep_int h1, rep_int h2, k _ (.int _)⟩
theorem pv_mul {i j : Int} (ha : PV X a S (.dat (.int i)) S1) (hb : PV X b S1 (.dat (.int j)) S2) (hc : CMul i j) : PV X (.BinOp a .Mult b pos) S (.dat (.int (i * j))) S2 := pv_op op_mul ha hb fun x y F H Q h1 h2 k => ⟨i, j, rep_int h1, rep_int h2, hc, k _ (.int _)⟩
theorem pv_fdiv {i j : Int} (ha : PV X a S (.dat (.int i)) S1) (hb : PV X b S1 (.dat (.int j)) S2) (hc : 0 < j ∧ j < 1073741824 := by decide) : PV X (.BinOp a .FloorDiv b pos) S (.dat (.int (i / j))) S2 := pv_op op_fdiv ha hb fun x y F H Q h1 h2 k => ⟨i, j, rep_int h1, rep_int h2, hc, k _ (.int _)⟩
theorem pv_mod {i j : Int} (ha : PV X a S (.dat (.int i)) S1) (hb : PV X b S1 (.dat (.int j)) S2) (hc : 0 < j := by decide) : PV X (.BinOp a .Mod b pos) S (.dat (.int (i % j))) S2 := pv_op op_mod ha hb fun x y F H Q h1 h2 k => ⟨i, j, rep_int h1, rep_int h2, hc, k _ (.int _)⟩
theorem pv_pow {i j : Int} (ha : PV X a S (.dat (.int i)) S1) (hb : PV X b S1 (.dat (.int j)) S2) (hc : CPow i j) : PV X (.BinOp a .Pow b pos) S (.dat (.int (i ^ j.toNat))) S2 := pv_op op_pow ha hb fun x y F H Q h1 h2 k => ⟨i, j, rep_int h1, rep_int h2, hc, k _ (.int _)⟩
theorem pv_neg {i : Int} (ha : PV X a S (.dat (.int i)) S1) : PV X (.UnaryOp .USub a pos) S (.dat (.int (-i))) S1 := peI (pe_un un_neg ha) fun σ H Q ⟨F0, H0, F, rr, k⟩ => ⟨F0, H0, F, rr, fun x F1 H1 r1 e1 z1 => ⟨i, rep_int z1, k _ F1 H1 r1 e1 (.int _)⟩⟩

/-! ### comparisons -/
abbrev PCd (X : Cx) (op : CmpOp) (a b : Expr) (S : PSt) (z : Bool) (S1 : PSt) : Prop := PC X op a b (tV (ccOf X) S (.dat (.bl z)) S1)
theorem pc_op {op : CmpOp} {r : R2} {ta tb : TE} (ho : OpR X (compareOp op) r) (ha : PE X a ta) (hb : PE X b tb) : PC X op a b (tOp r ta tb) :=
  ⟨fun pins s σ H Q I h => binT ha hb I h fun v u s2 x y H2 I2 rx ry q => ho pins s2 σ H2 x y v u Q I2 rx ry q⟩
theorem pcI {op : CmpOp} {t t' : TE} (h : PC X op a b t) (i : ∀ σ H Q, t' σ H Q → t σ H Q) : PC X op a b t' := ⟨fun pins s σ H Q I q => h.run pins s σ H Q I (i σ H Q q)⟩
/-- a comparison as a value, as a test -/
theorem vC {op : CmpOp} {z : Bool} (h : PCd X op a b S z S1) (h1 : behindInMarks op b = false := by first | exact nobehind _ (by decide) (by decide) | rfl) : PV X (.Compare a [op] [b] pos) S (.dat (.bl z)) S1 := pe_cmp h h1
theorem tCd {op : CmpOp} {z : Bool} (h : PCd X op a b S z S1) (h1 : behindInMarks op b = false := by first | exact nobehind _ (by decide) (by decide) | rfl) : PTd X (.Compare a [op] [b] pos) S z S1 :=
  ptI (pt_cmp h h1) fun σ H Q ⟨F0, H0, F, rr, k⟩ => ⟨F0, H0, F, rr, fun x F1 H1 r1 e1 z1 => ⟨z, by cases z1; rfl, k F1 H1 r1 e1⟩⟩
theorem cd_op {op : CmpOp} {r : R2} {d1 d2 : D} {z : Bool} (ho : OpR X (compareOp op) r) (ha : PV X a S (.dat d1) S1) (hb : PV X b S1 (.dat d2) S2)
    (hr : ∀ (x y : V) F H (Q : VK), Ex F H → Rep X.K F x d1 → Rep X.K F y d2 → Q (.bl z) H → r x y H Q) : PCd X op a b S z S2 :=
  pcI (pc_op ho ha hb) fun σ H Q ⟨F0, H0, F, rr, k⟩ => ⟨F0, H0, F, rr, fun x F1 H1 r1 e1 z1 => ⟨F0, H0, F1, r1, fun y F2 H2 r2 e2 z2 =>
    hr x y F2 H2 Q r2.fh (Rep.mono e2.eF z1) z2 (k _ F2 H2 r2 (e1.tr r1 e2) (.bl z))⟩⟩
theorem cd_lt {i j : Int} (ha : PV X a S (.dat (.int i)) S1) (hb : PV X b S1 (.dat (.int j)) S2) : PCd X .Lt a b S (decide (i < j)) S2 := cd_op op_lt ha hb fun x y F H Q _ h1 h2 k => ⟨i, j, rep_int h1, rep_int h2, k⟩
theorem cd_le {i j : Int} (ha : PV X a S (.dat (.int i)) S1) (hb : PV X b S1 (.dat (.int j)) S2) : PCd X .LtE a b S (decide (i ≤ j)) S2 := cd_op op_le ha hb fun x y F H Q _ h1 h2 k => ⟨i, j, rep_int h1, rep_int h2, k⟩
theorem cd_gt {i j : Int} (ha : PV X a S (.dat (.int i)) S1) (hb : PV X b S1 (.dat (.int j)) S2) : PCd X .Gt a b S (decide (j < i)) S2 := cd_op op_gt ha hb fun x y F H Q _ h1 h2 k => ⟨i, j, rep_int h1, rep_int h2, k⟩
theorem cd_ge {i j : Int} (ha : PV X a S (.dat (.int i)) S1) (hb : PV X b S1 (.dat (.int j)) S2) : PCd X .GtE a b S (decide (j ≤ i)) S2 := cd_op op_ge ha hb fun x y F H Q _ h1 h2 k => ⟨i, j, rep_int h1, rep_int h2, k⟩
/-- flat data as a value -/
def D.fl : D → Option V
  | .non => some .non
  | .bl b => some (.bl b)
  | .int i => some (.int i)
  | .str s => some (.str s)
  | _ => none
theorem rep_v {K : PySem.W.Frag} {F : Hp} {x : V} {d : D} (h : Rep K F x d) {y : V} (e : d.fl = some y) : x = y := by
  cases h <;> first | (cases e; rfl) | cases e
theorem cd_eq {d1 d2 : D} {x y : V} {z : Bool} (ha : PV X a S (.dat d1) S1) (hb : PV X b S1 (.dat d2) S2) (h1 : d1.fl = some x) (h2 : d2.fl = some y) (hs : scal x y = true) (hz : decide (x = y) = z) : PCd X .Eq a b S z S2 :=
  cd_op op_eq ha hb fun x' y' F H Q _ k1 k2 k => ⟨by rw [rep_v k1 h1, rep_v k2 h2]; exact hs, by rw [rep_v k1 h1, rep_v k2 h2, hz]; exact k⟩
theorem cd_ne {d1 d2 : D} {x y : V} {z : Bool} (ha : PV X a S (.dat d1) S1) (hb : PV X b S1 (.dat d2) S2) (h1 : d1.fl = some x) (h2 : d2.fl = some y) (hs : scal x y = true) (hz : (!decide (x = y)) = z) : PCd X .NotEq a b S z S2 :=
  cd_op op_ne ha hb fun x' y' F H Q _ k1 k2 k => ⟨by rw [rep_v k1 h1, rep_v k2 h2]; exact hs, by rw [rep_v k1 h1, rep_v k2 h2, hz]; exact k⟩
theorem dec_int (i j : Int) : decide (V.int i = V.int j) = decide (i = j) := by by_cases h : i = j <;> simp [h]
theorem dec_bl (i j : Bool) : decide (V.bl i = V.bl j) = decide (i = j) := by by_cases h : i = j <;> simp [h]
theorem dec_str (i j : Str) : decide (V.str i = V.str j) = decide (i = j) := by by_cases h : i = j <;> simp [h]
theorem cd_eqI {i j : Int} (ha : PV X a S (.dat (.int i)) S1) (hb : PV X b S1 (.dat (.int j)) S2) : PCd X .Eq a b S (decide (i = j)) S2 := cd_eq ha hb rfl rfl rfl (dec_int i j)
theorem cd_neI {i j : Int} (ha : PV X a S (.dat (.int i)) S1) (hb : PV X b S1 (.dat (.int j)) S2) : PCd X .NotEq a b S (!decide (i = j)) S2 := cd_ne ha hb rfl rfl rfl (by rw [dec_int])
theorem cd_neB {i j : Bool} (ha : PV X a S (.dat (.bl i)) S1) (hb : PV X b S1 (.dat (.bl j)) S2) : PCd X .NotEq a b S (!decide (i = j)) S2 := cd_ne ha hb rfl rfl rfl (by rw [dec_bl])
theorem cd_eqS {i j : Str} (ha : PV X a S (.dat (.str i)) S1) (hb : PV X b S1 (.dat (.str j)) S2) : PCd X .Eq a b S (decide (i = j)) S2 := cd_eq ha hb rfl rfl rfl (dec_str i j)
theorem cd_neS {i j : Str} (ha : PV X a S (.dat (.str i)) S1) (hb : PV X b S1 (.dat (.str j)) S2) : PCd X .NotEq a b S (!decide (i = j)) S2 := cd_ne ha hb rfl rfl rfl (by rw [dec_str])
def D.isN : D → Bool
  | .non => true
  | _ => false
theorem rep_isN {K : PySem.W.Frag} {F : Hp} {x : V} {d : D} (h : Rep K F x d) : decide (x = V.non) = d.isN := by cases h <;> rfl
theorem cd_isN {d : D} {j : Nat} {p2 : Pos} (ha : PV X a S (.dat d) S1) : PCd X .Is a (.Constant .none j p2) S d.isN S1 :=
  cd_op op_isN ha pv_non fun x y F H Q _ h1 h2 k => ⟨by cases h2; rfl, by rw [rep_isN h1]; exact k⟩
theorem cd_notN {d : D} {j : Nat} {p2 : Pos} (ha : PV X a S (.dat d) S1) : PCd X .IsNot a (.Constant .none j p2) S (!d.isN) S1 :=
  cd_op op_notN ha pv_non fun x y F H Q _ h1 h2 k => ⟨by cases h2; rfl, by rw [rep_isN h1]; exact k⟩
/-- a <= b <= c of numbers -/
theorem pv_lele {cx : Expr} {i j l : Int} (ha : PV X a S (.dat (.int i)) S1) (hb : PV X b S1 (.dat (.int j)) S1) (hc : PV X cx S1 (.dat (.int l)) S1)
    (hm : lastMarks [.LtE, .LtE] [b, cx] = false := by with_unfolding_all rfl) : PV X (.Compare a [.LtE, .LtE] [b, cx] pos) S (.dat (.bl (decide (i ≤ j) && decide (j ≤ l)))) S1 :=
  peI (pe_chain op_le op_le ha hb hc hm) fun σ H Q ⟨F0, H0, F, rr, k⟩ => ⟨F0, H0, F, rr, fun x F1 H1 r1 e1 z1 => ⟨F0, H0, F1, r1, fun y F2 H2 r2 e2 z2 => ⟨i, j, rep_int z1, rep_int z2, decide (i ≤ j), rfl, by
    by_cases h : i ≤ j
    · rw [decide_eq_true h] at k ⊢
      exact ⟨F0, H0, F2, r2, fun w F3 H3 r3 e3 z3 => ⟨j, l, rep_int z2, rep_int z3, by
        exact k _ F3 H3 r3 ((e1.tr r1 e2).tr r2 e3) (by rw [Bool.true_and]; exact .bl _)⟩⟩
    · rw [decide_eq_false h] at k ⊢
      exact k _ F2 H2 r2 (e1.tr r1 e2) (.bl _)⟩⟩⟩

/-! ### truth, and, or, not -/
theorem PV.t {z : Bool} (h : PV X e S (.dat (.bl z)) S1) (he : ∀ whole, isTrue e X.env whole = (do let v ← whole; standAt e.pos; holding [v] (truthy v)) := by intro _; rfl) : PTd X e S z S1 :=
  ptI (pt_val h he) fun σ H Q ⟨F0, H0, F, rr, k⟩ => ⟨F0, H0, F, rr, fun x F1 H1 r1 e1 z1 => ⟨z, by cases z1; rfl, k F1 H1 r1 e1⟩⟩
theorem td_not {z : Bool} (h : PTd X e S z S1) : PTd X (.UnaryOp .Not e pos) S (!z) S1 := ptI (pt_not h) fun σ H Q ⟨F0, H0, F, rr, k⟩ => ⟨F0, H0, F, rr, fun F1 H1 r1 e1 => k F1 H1 r1 e1⟩
theorem PWd.t {z : Bool} (h : PWd X e S z S1) : PTd X e S z S1 := PW.pt h
theorem td_one {op : BoolOp} {z : Bool} (h : PTd X e S z S1) : PWd X (.BoolOp op [e] pos) S z S1 := by
  cases op with
  | And => exact pw_and1 h
  | Or => exact pw_or1 h
theorem td_and {z y : Bool} (ha : PTd X a S z S1) (hb : z = true → PWd X (.BoolOp .And (b :: es) pos) S1 y S1) : PWd X (.BoolOp .And (a :: b :: es) pos) S (z && y) S1 := by
  cases z with
  | true =>
    refine pwI (pw_and ha (hb rfl)) fun σ H Q ⟨F0, H0, F, rr, k⟩ => ⟨F0, H0, F, rr, fun F1 H1 r1 e1 => ?_⟩
    exact ⟨F0, H0, F1, r1, fun F2 H2 r2 e2 => k F2 H2 r2 (e1.tr r1 e2)⟩
  | false =>
    refine ⟨fun wh pins s σ H Q I h => ?_⟩
    obtain ⟨F0, H0, F, rr, k⟩ := h
    refine isTrue_and (thn (ha.run pins s σ H (fun c H1 => c = false ∧ Q false H1) I ⟨F0, H0, F, rr, fun F1 H1 r1 e1 => ⟨rfl, k F1 H1 r1 e1⟩⟩) fun c s1 ⟨H1, I1, ec, q1⟩ => ?_)
    subst ec
    exact ⟨H1, I1, q1⟩
theorem td_or {z y : Bool} (ha : PTd X a S z S1) (hb : z = false → PWd X (.BoolOp .Or (b :: es) pos) S1 y S1) : PWd X (.BoolOp .Or (a :: b :: es) pos) S (z || y) S1 := by
  cases z with
  | false =>
    refine pwI (pw_or ha (hb rfl)) fun σ H Q ⟨F0, H0, F, rr, k⟩ => ⟨F0, H0, F, rr, fun F1 H1 r1 e1 => ?_⟩
    exact ⟨F0, H0, F1, r1, fun F2 H2 r2 e2 => k F2 H2 r2 (e1.tr r1 e2)⟩
  | true =>
    refine ⟨fun wh pins s σ H Q I h => ?_⟩
    obtain ⟨F0, H0, F, rr, k⟩ := h
    refine isTrue_or (thn (ha.run pins s σ H (fun c H1 => c = true ∧ Q true H1) I ⟨F0, H0, F, rr, fun F1 H1 r1 e1 => ⟨rfl, k F1 H1 r1 e1⟩⟩) fun c s1 ⟨H1, I1, ec, q1⟩ => ?_)
    subst ec
    exact ⟨H1, I1, q1⟩
theorem vd_one {op : BoolOp} (h : PV X e S v S1) : PV X (.BoolOp op [e] pos) S v S1 := pe_one h
theorem vd_and {z y : Bool} (ha : PV X a S (.dat (.bl z)) S1) (hb : z = true → PV X (.BoolOp .And (b :: es) pos) S1 (.dat (.bl y)) S1) : PV X (.BoolOp .And (a :: b :: es) pos) S (.dat (.bl (z && y))) S1 := by
  cases z with
  | true =>
    refine peI (pe_and ha (hb rfl)) fun σ H Q ⟨F0, H0, F, rr, k⟩ => ⟨F0, H0, F, rr, fun x F1 H1 r1 e1 z1 => ⟨true, by cases z1; rfl, ?_⟩⟩
    rw [if_pos rfl]
    exact ⟨F0, H0, F1, r1, fun x F2 H2 r2 e2 z2 => k x F2 H2 r2 (e1.tr r1 e2) z2⟩
  | false =>
    refine ⟨fun pins s σ H Q I h => ?_⟩
    obtain ⟨F0, H0, F, rr, k⟩ := h
    refine BoolOp_and (thn (ha.run pins s σ H (fun x H1 => x = .bl false ∧ Q (.bl false) H1) I ⟨F0, H0, F, rr, fun x F1 H1 r1 e1 z1 => ⟨by cases z1; rfl, k _ F1 H1 r1 e1 (.bl _)⟩⟩) fun w s1 ⟨x, H1, I1, rw1, ec, q1⟩ => ?_)
    subst ec
    cases rw1
    exact wpAny_truthy_bool ⟨.bl false, H1, I1, rfl, q1⟩
theorem vd_or {z y : Bool} (ha : PV X a S (.dat (.bl z)) S1) (hb : z = false → PV X (.BoolOp .Or (b :: es) pos) S1 (.dat (.bl y)) S1) : PV X (.BoolOp .Or (a :: b :: es) pos) S (.dat (.bl (z || y))) S1 := by
  cases z with
  | false =>
    refine peI (pe_or ha (hb rfl)) fun σ H Q ⟨F0, H0, F, rr, k⟩ => ⟨F0, H0, F, rr, fun x F1 H1 r1 e1 z1 => ⟨false, by cases z1; rfl, ?_⟩⟩
    rw [if_neg Bool.false_ne_true]
    exact ⟨F0, H0, F1, r1, fun x F2 H2 r2 e2 z2 => k x F2 H2 r2 (e1.tr r1 e2) z2⟩
  | true =>
    refine ⟨fun pins s σ H Q I h => ?_⟩
    obtain ⟨F0, H0, F, rr, k⟩ := h
    refine BoolOp_or (thn (ha.run pins s σ H (fun x H1 => x = .bl true ∧ Q (.bl true) H1) I ⟨F0, H0, F, rr, fun x F1 H1 r1 e1 z1 => ⟨by cases z1; rfl, k _ F1 H1 r1 e1 (.bl _)⟩⟩) fun w s1 ⟨x, H1, I1, rw1, ec, q1⟩ => ?_)
    subst ec
    cases rw1
    exact wpAny_truthy_bool ⟨.bl true, H1, I1, rfl, q1⟩
theorem vd_not {z : Bool} (h : PV X e S (.dat (.bl z)) S1) : PV X (.UnaryOp .Not e pos) S (.dat (.bl (!z))) S1 := peI (pe_not h) fun σ H Q ⟨F0, H0, F, rr, k⟩ => ⟨F0, H0, F, rr, fun x F1 H1 r1 e1 z1 => ⟨z, by cases z1; rfl, k _ F1 H1 r1 e1 (.bl _)⟩⟩
/-- a if t else b -/
theorem vd_if {t : Expr} {z : Bool} (ht : PTd X t S z S1) (ha : z = true → PV X a S1 v S2) (hb : z = false → PV X b S1 v S2) : PV X (.IfExp t a b pos) S v S2 := by
  refine ⟨fun pins s σ H Q I h => ?_⟩
  obtain ⟨F0, H0, F, rr, k⟩ := h
  refine wpAny_IfExp (thn (ht.run pins s σ H (fun c H1 => c = z ∧ ∃ F1, R (ccOf X) F0 H0 F1 H1 σ S1 ∧ Gr σ S S1 F H F1 H1) I ⟨F0, H0, F, rr, fun F1 H1 r1 e1 => ⟨rfl, F1, r1, e1⟩⟩) fun c s1 ⟨H1, I1, ec, F1, r1, e1⟩ => ?_)
  subst ec
  cases c with
  | true => exact (ha rfl).run pins s1 σ H1 Q I1 ⟨F0, H0, F1, r1, fun x F2 H2 r2 e2 z2 => k x F2 H2 r2 (e1.tr r1 e2) (VlOk.from (H' := H2) z2 e1 r1)⟩
  | false => exact (hb rfl).run pins s1 σ H1 Q I1 ⟨F0, H0, F1, r1, fun x F2 H2 r2 e2 z2 => k x F2 H2 r2 (e1.tr r1 e2) (VlOk.from (H' := H2) z2 e1 r1)⟩
/-- .. as a test -/
theorem td_if {t : Expr} {z y : Bool} (ht : PTd X t S z S1) (ha : z = true → PTd X a S1 y S2) (hb : z = false → PTd X b S1 y S2) : PTd X (.IfExp t a b pos) S y S2 := by
  refine ⟨fun pins s σ H Q I h => ?_⟩
  obtain ⟨F0, H0, F, rr, k⟩ := h
  show wpAny _ _ (do if ← isTrue t X.env (eval t X.env) then isTrue a X.env (eval a X.env) else isTrue b X.env (eval b X.env)) _ _ s
  refine wpAny_bind (thn (ht.run pins s σ H (fun c H1 => c = z ∧ ∃ F1, R (ccOf X) F0 H0 F1 H1 σ S1 ∧ Gr σ S S1 F H F1 H1) I ⟨F0, H0, F, rr, fun F1 H1 r1 e1 => ⟨rfl, F1, r1, e1⟩⟩) fun c s1 ⟨H1, I1, ec, F1, r1, e1⟩ => ?_)
  subst ec
  cases c with
  | true => exact (ha rfl).run pins s1 σ H1 Q I1 ⟨F0, H0, F1, r1, fun F2 H2 r2 e2 => k F2 H2 r2 (e1.tr r1 e2)⟩
  | false => exact (hb rfl).run pins s1 σ H1 Q I1 ⟨F0, H0, F1, r1, fun F2 H2 r2 e2 => k F2 H2 r2 (e1.tr r1 e2)⟩

/-! ### lists and tuples read -/
/-- a value that holds items: true a tuple, false a list -/
def Sl.seq : Sl → Option (Bool × List D)
  | .dat (.tup ds) => some (true, ds)
  | .dat (.lst ds) => some (false, ds)
  | .lst ds => some (false, ds)
  | _ => none
def SqB (K : PySem.W.Frag) (t : Bool) (H : Hp) (p : Addr) (vs : List V) : Prop := match t with
  | true => SqT K H p vs
  | false => SqL K H p vs
theorem SlOk.items {c : Cc} {F H : Hp} {w : Option WS} {x : V} {s : Sl} {t : Bool} {ds : List D} (h : SlOk c F H w x s) (fh : Ex F H) (e : s.seq = some (t, ds)) : ∃ p vs, x = .ref p ∧ SqB c.K t H p vs ∧ RepL c.K F vs ds := by
  cases s with
  | dat d =>
    cases h with
    | tup h r => cases e; exact ⟨_, _, rfl, Evl.ex_t fh h.sq, r⟩
    | lst h r => cases e; exact ⟨_, _, rfl, SqL.of (fh _ _ h), r⟩
    | _ => cases e
  | lst ds' => cases e; obtain ⟨p, vs, rfl, h1, h2⟩ := h; exact ⟨p, vs, rfl, SqL.of h1, h2⟩
  | dicI _ => cases e
  | dicN _ => cases e
  | st => cases e
theorem SqB.or {K : PySem.W.Frag} {t : Bool} {H : Hp} {p : Addr} {vs : List V} (h : SqB K t H p vs) : SqL K H p vs ∨ SqT K H p vs := by
  cases t with
  | true => exact .inr h
  | false => exact .inl h
theorem atI_rep {K : PySem.W.Frag} {F : Hp} {vs : List V} {ds : List D} {i : Int} {d : D} (r : RepL K F vs ds) (h : atI ds i = some d) : ∃ x, atI vs i = some x ∧ Rep K F x d := by
  unfold atI at h ⊢
  rw [r.len]
  cases e : ixN ds.length i with
  | none => rw [e] at h; cases h
  | some j =>
    rw [e] at h
    exact r.get h
/-- xs[i] -/
theorem pv_ix {s : Sl} {t : Bool} {ds : List D} {i : Int} {d : D} (ha : PV X a S v S1) (hb : PV X b S1 (.dat (.int i)) S2) (hk : v.keeps S1 S2 := by first | exact True.intro | exact rfl) (hc : S2.con v = some s) (hq : s.seq = some (t, ds)) (hi : atI ds i = some d) (hs : PlainIx b := by exact fun _ _ => rfl) :
    PV X (.Subscript a b pos) S (.dat d) S2 := by
  have key : ∀ σ H (Q : VK), tV (ccOf X) S (.dat d) S2 σ H Q → tV (ccOf X) S v S1 σ H (fun x H1 => tV (ccOf X) S1 (.dat (.int i)) S2 σ H1 (fun y H2 => y = .int i ∧ ∃ p vs z, x = .ref p ∧ SqB X.K t H2 p vs ∧ atI vs i = some z ∧ Q z H2)) := fun σ H Q ⟨F0, H0, F, rr, k⟩ => ⟨F0, H0, F, rr, fun x F1 H1 r1 e1 z1 => ⟨F0, H0, F1, r1, fun y F2 H2 r2 e2 z2 => by
    obtain ⟨p, vs, ex, h1, h2⟩ := ((z1.later (F0 := F0) hk e2).sl r2 hc).items r2.fh hq
    obtain ⟨z, h3, h4⟩ := atI_rep h2 hi
    exact ⟨rep_int z2, p, vs, z, ex, h1, h3, k z F2 H2 r2 (e1.tr r1 e2) h4⟩⟩⟩
  have w : ∀ {r : R2} {σ : L2.St} {H : Hp} {Q : VK}, tV (ccOf X) S (.dat d) S2 σ H Q → (∀ x y H2, (y = .int i ∧ ∃ p vs z, x = .ref p ∧ SqB X.K t H2 p vs ∧ atI vs i = some z ∧ Q z H2) → r x y H2 Q) → tOp r (tV (ccOf X) S v S1) (tV (ccOf X) S1 (.dat (.int i)) S2) σ H Q := fun {r σ H Q} h g => by
    obtain ⟨F0, H0, F, rr, k⟩ := key σ H Q h
    refine ⟨F0, H0, F, rr, fun x F1 H1 r1 e1 z1 => ?_⟩
    obtain ⟨G0, I0, G, rr', k'⟩ := k x F1 H1 r1 e1 z1
    exact ⟨G0, I0, G, rr', fun y F2 H2 r2 e2 z2 => g x y H2 (k' y F2 H2 r2 e2 z2)⟩
  cases t with
  | true => exact peI (pe_ix ix_tup ha hb hs) fun σ H Q h => w h fun x y H2 ⟨ey, p, vs, z, ex, h1, h2, h3⟩ => ⟨p, vs, i, z, ex, ey, h1, h2, h3⟩
  | false => exact peI (pe_ix ix_list ha hb hs) fun σ H Q h => w h fun x y H2 ⟨ey, p, vs, z, ex, h1, h2, h3⟩ => ⟨p, vs, i, z, ex, ey, h1, h2, h3⟩
end
end PL
/-! The pure layer, D: dicts by data. -/
namespace PL
open PySem PySem.Spec PyProof.Rows L2

/-! ### tables -/
section
variable {κ β : Type} [DecidableEq κ]
def aget (l : List (κ × β)) (k : κ) : Option β := (l.find? fun p => decide (p.1 = k)).map (·.2)
def aput (l : List (κ × β)) (k : κ) (v : β) : List (κ × β) := if (l.any fun p => decide (p.1 = k)) = true then l.map (fun p => if p.1 = k then (p.1, v) else p) else l ++ [(k, v)]
theorem aget_nil {k : κ} : aget ([] : List (κ × β)) k = none := rfl
theorem aget_cons {p : κ × β} {l : List (κ × β)} {k : κ} : aget (p :: l) k = if p.1 = k then some p.2 else aget l k := by
  unfold aget
  by_cases h : p.1 = k
  · simp [List.find?_cons, h]
  · simp [List.find?_cons, h]
end

theorem valV_cons {p : Key × V} {l : List (Key × V)} {k : Key} : valV (p :: l) k = if p.1 = k then some p.2 else valV l k := by
  by_cases h : p.1 = k
  · rw [if_pos h, valV_pos h]
  · rw [if_neg h, valV_neg h]
theorem RepI.val {K : PySem.W.Frag} {F : Hp} {us : List (Key × V)} {kvs : List (Int × D)} (r : RepI K F us kvs) (k : Int) : (valV us (Sum.inl k) = none ∧ aget kvs k = none) ∨ ∃ x d, valV us (Sum.inl k) = some x ∧ aget kvs k = some d ∧ Rep K F x d := by
  unfold RepI at r
  induction r with
  | nil => exact .inl ⟨rfl, rfl⟩
  | @cons p q ps qs h t ih =>
    rw [valV_cons, aget_cons]
    by_cases e : q.1 = k
    · rw [if_pos e, if_pos (by rw [h.1, e])]
      exact .inr ⟨_, _, rfl, rfl, h.2⟩
    · rw [if_neg e, if_neg (by rw [h.1]; exact fun z => e (Sum.inl.inj z))]
      exact ih
theorem RepI.any {K : PySem.W.Frag} {F : Hp} {us : List (Key × V)} {kvs : List (Int × D)} (r : RepI K F us kvs) (k : Int) : (us.any fun kv => decide (kv.1 = (Sum.inl k : Key))) = kvs.any fun kv => decide (kv.1 = k) := by
  unfold RepI at r
  induction r with
  | nil => rfl
  | @cons p q ps qs h t ih =>
    rw [List.any_cons, List.any_cons, ih]
    congr 1
    rw [h.1]
    by_cases e : q.1 = k
    · simp [e]
    · simp [e]
theorem RepI.put {K : PySem.W.Frag} {F : Hp} {us : List (Key × V)} {kvs : List (Int × D)} (r : RepI K F us kvs) (k : Int) {x : V} {d : D} (h : Rep K F x d) : RepI K F (putK us (Sum.inl k) x) (aput kvs k d) := by
  unfold putK aput
  rw [r.any k]
  by_cases e : (kvs.any fun kv => decide (kv.1 = k)) = true
  · rw [if_pos e, if_pos e]
    clear e
    unfold RepI at r ⊢
    induction r with
    | nil => exact .nil
    | @cons p q ps qs hh t ih =>
      rw [List.map_cons, List.map_cons]
      refine .cons ?_ ih
      by_cases e : q.1 = k
      · rw [if_pos e, if_pos (by rw [hh.1, e])]; exact ⟨hh.1, h⟩
      · rw [if_neg e, if_neg (by rw [hh.1]; exact fun z => e (Sum.inl.inj z))]; exact hh
  · rw [if_neg e, if_neg e]
    exact Paired.snoc r ⟨rfl, h⟩
theorem RepI.len {K : PySem.W.Frag} {F : Hp} {us : List (Key × V)} {kvs : List (Int × D)} (r : RepI K F us kvs) : us.length = kvs.length := Paired.length r
/-- a dict with number keys: of one's own, or kept -/
def Sl.dI : Sl → Option (List (Int × D))
  | .dicI kvs => some kvs
  | .dat (.dic ks vs) => some (ks.zip vs)
  | _ => none
theorem repI_of {K : PySem.W.Frag} {F : Hp} : ∀ {us : List (Key × V)} {ks : List Int} {ds : List D}, us.map (·.1) = ks.map Sum.inl → RepL K F (us.map (·.2)) ds → RepI K F us (ks.zip ds)
  | [], [], _, _, _ => .nil
  | [], _ :: _, _, h, _ => by simp at h
  | _ :: _, [], _, h, _ => by simp at h
  | u :: us, k :: ks, _, h, r => by
    simp only [List.map_cons, List.cons.injEq] at h
    rw [List.map_cons] at r
    cases r with
    | cons h1 r => exact .cons ⟨h.1, h1⟩ (repI_of h.2 r)
theorem SlOk.dI {c : Cc} {F H : Hp} {w : Option WS} {x : V} {s : Sl} {kvs : List (Int × D)} (h : SlOk c F H w x s) (fh : Ex F H) (e : s.dI = some kvs) : ∃ p us, x = .ref p ∧ H p = some (.dK us) ∧ RepI c.K F us kvs := by
  cases s with
  | dat d =>
    cases h with
    | dic h k r => cases e; exact ⟨_, _, rfl, fh _ _ h, repI_of k r⟩
    | _ => cases e
  | dicI _ => cases e; exact h
  | lst _ => cases e
  | dicN _ => cases e
  | st => cases e

/-! ### keys that are tuples of any depth -/
section
variable {X : Cx} {pins : List (Addr × Obj)} {σ : L2.St} {F H : Hp} {s : Shared}
mutual
theorem nk_of (I : Inv X pins σ H s) (fh : Ex F H) : ∀ {x : V} {d : D} {u : Value} {n : Nat}, Rep X.K F x d → d.keyable n = true → RelV x u → NestedIs s.heap d.key u
  | _, _, _, _, .non, _, r => by cases r; exact .none
  | _, _, _, _, .bl b, _, r => by cases r; exact .bool rfl
  | _, _, _, _, .int i, _, r => by obtain ⟨t, rfl⟩ := r; exact .int i t
  | _, _, _, _, .str z, _, r => by obtain ⟨t, rfl⟩ := r; exact .text z t
  | _, _, _, 0, .tup h rs, k, r => by simp [D.keyable] at k
  | _, _, _, n + 1, .tup h rs, k, r => by
    cases r
    obtain ⟨its, rv, ⟨o, ho, hc, m, hd⟩, _⟩ := I.tuple (Evl.ex_t fh h.sq)
    exact .tup ho hc hd (by simpa using nks_of I fh rs (by simpa [D.keyable] using k) rv)
  | _, _, _, _, .lst h rs, k, r => by simp [D.keyable] at k
  | _, _, _, _, .dic h k' rs, k, r => by simp [D.keyable] at k
  | _, _, _, _, .dicN h k1 k2 k3 rs, k, r => by simp [D.keyable] at k
  | _, _, _, _, .scr h, k, r => by simp [D.keyable] at k
theorem nks_of (I : Inv X pins σ H s) (fh : Ex F H) : ∀ {xs : List V} {ds : List D} {us : List Value} {n : Nat}, RepL X.K F xs ds → D.keyables n ds = true → Vals xs us → NestedAll s.heap (D.keys ds) us
  | _, _, _, _, .nil, _, r => by cases r; exact .nil
  | _, _, _, _, .cons h rs, k, r => by
    simp only [D.keyables, Bool.and_eq_true] at k
    cases r with
    | cons r rr => exact .cons (nk_of I fh h k.1 r) (nks_of I fh rs k.2 rr)
end
theorem key_is (I : Inv X pins σ H s) (fh : Ex F H) {a : Addr} {d : D} (h : Rep X.K F (.ref a) d) (k : d.keyable 8 = true) : (nestedKind X.prog X.w).is s.heap d.key a := ⟨nk_of I fh h k rfl, depth_key d 8 k⟩
theorem dicN_keys (I : Inv X pins σ H s) (fh : Ex F H) : ∀ {ys : List (NestedKey × Addr × V)} {kvs : List (NestedKey × D)} {xs : List (NestedKey × Addr × Value)}, RepN X.K F ys kvs → Paired (fun y x => y.1 = x.1 ∧ y.2.1 = x.2.1 ∧ RelV y.2.2 x.2.2) ys xs → ∀ x ∈ xs, (nestedKind X.prog X.w).is s.heap x.1 x.2.1
  | _, _, _, .nil, pr, x, hx => by cases pr; exact nomatch hx
  | _, _, _, .cons hr tr, pr, x, hx => by
    cases pr with
    | cons hp t =>
      rcases List.mem_cons.mp hx with e | hx
      · subst e
        obtain ⟨d, rd, kd, ek⟩ := hr.2.1
        rw [← hp.1, ← hp.2.1, ← ek]
        exact key_is I fh rd kd
      · exact dicN_keys I fh tr t x hx
theorem dicN_of (I : Inv X pins σ H s) (fh : Ex F H) {p : Addr} {ys : List (NestedKey × Addr × V)} {kvs : List (NestedKey × D)} (h : H p = some (DicO (ccOf X) p ys)) (r : RepN X.K F ys kvs) :
    ys.length ≤ sizeLine ∧ (p == sysModules) = false ∧ ∃ xs : List (NestedKey × Addr × Value), Paired (fun y x => y.1 = x.1 ∧ y.2.1 = x.2.1 ∧ RelV y.2.2 x.2.2) ys xs ∧ s.heap.DictOfH (nestedKind X.prog X.w) p xs := by
  have hraw : DicRaw (ccOf X) p ys s.heap := (show ObjOk X.prog X.w H s.heap p (DicO (ccOf X) p ys) from I.hok p _ h).1
  obtain ⟨z, hd, xs, pr, o, es, ep, h1, h2, h3, h4, h5⟩ := hraw
  exact ⟨z, hd, xs, pr, o, es, ep, h1, h2, h3, h4, fun x hx => dicN_keys I fh r pr x hx, h5⟩
theorem RepN.val {K : PySem.W.Frag} {F : Hp} {ys : List (NestedKey × Addr × V)} {kvs : List (NestedKey × D)} {xs : List (NestedKey × Addr × Value)} (r : RepN K F ys kvs) (pr : Paired (fun y x => y.1 = x.1 ∧ y.2.1 = x.2.1 ∧ RelV y.2.2 x.2.2) ys xs) (k : NestedKey) :
    (atKey xs k = none ∧ aget kvs k = none) ∨ ∃ a u x d, atKey xs k = some (a, u) ∧ aget kvs k = some d ∧ RelV x u ∧ Rep K F x d := by
  unfold RepN at r
  induction pr generalizing kvs with
  | nil => cases r; exact .inl ⟨rfl, rfl⟩
  | @cons y x ys' xs' hp t ih =>
    cases r with
    | @cons _ q _ qs hr tr =>
      rw [aget_cons]
      have ax : atKey (x :: xs') k = if x.1 = k then some x.2 else atKey xs' k := by
        unfold atKey
        by_cases h : x.1 = k
        · simp [List.find?_cons, h]
        · simp [List.find?_cons, h]
      have e1 : q.1 = x.1 := hr.1.symm.trans hp.1
      rw [ax]
      by_cases e : q.1 = k
      · rw [if_pos e, if_pos (by rw [← e1, e])]
        exact .inr ⟨_, _, _, _, rfl, rfl, hp.2.2, hr.2.2⟩
      · rw [if_neg e, if_neg (by rw [← e1]; exact e)]
        exact ih tr
/-- what the store leaves -/
theorem RepN.put {K : PySem.W.Frag} {F : Hp} {ys : List (NestedKey × Addr × V)} {kvs : List (NestedKey × D)} {xs : List (NestedKey × Addr × Value)} (r : RepN K F ys kvs) (pr : Paired (fun y x => y.1 = x.1 ∧ y.2.1 = x.2.1 ∧ RelV y.2.2 x.2.2) ys xs) {k : NestedKey} {a : Addr} {x : V} {u : Value} {d : D}
    (ka : KeyAt K F a k) (rx : RelV x u) (rd : Rep K F x d) : ∃ ys', Paired (fun y x => y.1 = x.1 ∧ y.2.1 = x.2.1 ∧ RelV y.2.2 x.2.2) ys' (storedH xs k a u) ∧ RepN K F ys' (aput kvs k d) ∧ ys'.length ≤ ys.length + 1 := by
  have e0 : (kvs.any fun p => decide (p.1 = k)) = (atKey xs k).isSome := by
    rcases r.val pr k with ⟨h1, h2⟩ | ⟨_, _, _, _, h1, h2, _⟩
    · rw [h1]
      unfold aget at h2
      cases q : kvs.any fun p => decide (p.1 = k) with
      | false => rfl
      | true =>
        obtain ⟨p, hp, hk⟩ := List.any_eq_true.mp q
        cases f : kvs.find? fun p => decide (p.1 = k) with
        | none => exact absurd hk (by simpa using List.find?_eq_none.mp f p hp)
        | some z => rw [f] at h2; cases h2
    · rw [h1]
      unfold aget at h2
      cases f : kvs.find? fun p => decide (p.1 = k) with
      | none => rw [f] at h2; cases h2
      | some z => exact List.any_eq_true.mpr ⟨z, List.mem_of_find?_eq_some f, List.find?_some (p := fun (q : NestedKey × D) => decide (q.1 = k)) f⟩
  unfold storedH aput
  rw [e0]
  by_cases e : (atKey xs k).isSome = true
  · rw [if_pos e, if_pos e]
    refine ⟨ys.map fun y => if y.1 = k then (y.1, y.2.1, x) else y, ?_, ?_, by rw [List.length_map]; omega⟩
    · clear e e0 r
      induction pr with
      | nil => exact .nil
      | @cons y x' ys' xs' hp t ih =>
        rw [List.map_cons, List.map_cons]
        refine .cons ?_ ih
        unfold putAt
        by_cases q : y.1 = k
        · rw [if_pos q, if_pos (by rw [← hp.1, q])]; exact ⟨hp.1, hp.2.1, rx⟩
        · rw [if_neg q, if_neg (by rw [← hp.1]; exact q)]; exact hp
    · clear e e0 pr
      unfold RepN at r ⊢
      induction r with
      | nil => exact .nil
      | @cons y q ys' qs hr t ih =>
        rw [List.map_cons, List.map_cons]
        refine .cons ?_ ih
        by_cases z : y.1 = k
        · rw [if_pos z, if_pos (by rw [← hr.1, z])]; exact ⟨hr.1, hr.2.1, rd⟩
        · rw [if_neg z, if_neg (by rw [← hr.1]; exact z)]; exact hr
  · rw [if_neg e, if_neg e]
    refine ⟨ys ++ [(k, a, x)], Paired.snoc pr ⟨rfl, rfl, rx⟩, Paired.snoc r ⟨rfl, ka, rd⟩, by simp⟩
end

/-! ### rules -/
section
variable {X : Cx} {e a b o i value : Expr} {es : List Expr} {S S1 S2 S3 : PSt} {v u : Vl} {vs : List Vl} {pos tpos : Pos}
/-- d[k], k in d, k not in d, number keys -/
theorem vd_getI {s : Sl} {kvs : List (Int × D)} {k : Int} {d : D} (hu : X.A.units + 1 < cLine) (ha : PV X o S v S1) (hb : PV X i S1 (.dat (.int k)) S2) (hk : v.keeps S1 S2 := by first | exact True.intro | exact rfl) (hc : S2.con v = some s) (hd : s.dI = some kvs) (hg : aget kvs k = some d) (hs : NoSl i := by exact fun _ _ => rfl) :
    PV X (.Subscript o i pos) S (.dat d) S2 := peI (pe_dget hu ha hb hs) fun σ H Q ⟨F0, H0, F, rr, q⟩ => ⟨F0, H0, F, rr, fun x F1 H1 r1 e1 z1 => ⟨F0, H0, F1, r1, fun y F2 H2 r2 e2 z2 => by
  obtain ⟨p, us, ex, hp, ri⟩ := ((z1.later (F0 := F0) hk e2).sl r2 hc).dI r2.fh hd
  rcases ri.val k with ⟨_, n⟩ | ⟨w, d', h1, h2, h3⟩
  · rw [hg] at n; cases n
  · rw [hg] at h2; cases h2
    rw [rep_int z2]
    exact ⟨p, w, ex, .inl ⟨us, Sum.inl k, .inl hp, rfl, h1.symm⟩, q w F2 H2 r2 (e1.tr r1 e2) h3⟩⟩⟩
theorem cd_inI {s : Sl} {kvs : List (Int × D)} {k : Int} (hu : X.A.units + 1 < cLine) (hb : PV X i S (.dat (.int k)) S1) (ha : PV X o S1 v S2) (hc : S2.con v = some s) (hd : s.dI = some kvs) : PCd X .In i o S (aget kvs k).isSome S2 :=
  pcI (pc_din hu hb ha) fun σ H Q ⟨F0, H0, F, rr, q⟩ => ⟨F0, H0, F, rr, fun y F1 H1 r1 e1 z1 => ⟨F0, H0, F1, r1, fun x F2 H2 r2 e2 z2 => by
  obtain ⟨p, us, ex, hp, ri⟩ := (z2.sl r2 hc).dI r2.fh hd
  rw [rep_int z1]
  refine ⟨p, valV us (Sum.inl k), ex, .inl ⟨us, Sum.inl k, .inl hp, rfl, rfl⟩, ?_⟩
  have ee : (valV us (Sum.inl k : Key)).isSome = (aget kvs k).isSome := by
    rcases ri.val k with ⟨h1, h2⟩ | ⟨_, _, h1, h2, _⟩ <;> rw [h1, h2] <;> rfl
  rw [ee]
  exact q _ F2 H2 r2 (e1.tr r1 e2) (.bl _)⟩⟩
theorem cd_notInI {s : Sl} {kvs : List (Int × D)} {k : Int} (hu : X.A.units + 1 < cLine) (hb : PV X i S (.dat (.int k)) S1) (ha : PV X o S1 v S2) (hc : S2.con v = some s) (hd : s.dI = some kvs) : PCd X .NotIn i o S (!(aget kvs k).isSome) S2 :=
  pcI (pc_dnotin hu hb ha) fun σ H Q ⟨F0, H0, F, rr, q⟩ => ⟨F0, H0, F, rr, fun y F1 H1 r1 e1 z1 => ⟨F0, H0, F1, r1, fun x F2 H2 r2 e2 z2 => by
  obtain ⟨p, us, ex, hp, ri⟩ := (z2.sl r2 hc).dI r2.fh hd
  rw [rep_int z1]
  refine ⟨p, valV us (Sum.inl k), ex, .inl ⟨us, Sum.inl k, .inl hp, rfl, rfl⟩, ?_⟩
  have ee : (valV us (Sum.inl k : Key)).isSome = (aget kvs k).isSome := by
    rcases ri.val k with ⟨h1, h2⟩ | ⟨_, _, h1, h2, _⟩ <;> rw [h1, h2] <;> rfl
  rw [ee]
  exact q _ F2 H2 r2 (e1.tr r1 e2) (.bl _)⟩⟩

/-! ### tuple keys -/
/-- a dict of one's own at x -/
def rNGet (c : Cc) (p : Addr) (ys : List (NestedKey × Addr × V)) (H : Hp) : Prop := H p = some (DicO c p ys)
theorem dicN_typeIs {pins : List (Addr × Obj)} {σ : L2.St} {H : Hp} {s : Shared} {p : Addr} {ys : List (NestedKey × Addr × V)} (I : Inv X pins σ H s) (h : H p = some (DicO (ccOf X) p ys)) : s.TypeIs (.ref p) "dict" := by
  have hraw : DicRaw (ccOf X) p ys s.heap := (show ObjOk X.prog X.w H s.heap p (DicO (ccOf X) p ys) from I.hok p _ h).1
  obtain ⟨z, hd, xs, pr, o, es, ep, h1, h2, h3, h4, h5⟩ := hraw
  exact ⟨o, h1, h2.1⟩
theorem keyN_of {K : PySem.W.Frag} {F : Hp} {y : V} {ds : List D} (h : Rep K F y (.tup ds)) : ∃ b, y = .ref b := by cases h; exact ⟨_, rfl⟩
theorem vd_getN {kvs : List (NestedKey × D)} {ds : List D} {d : D} (hu : X.A.units + 9 < cLine) (ha : PV X o S v S1) (hb : PV X i S1 (.dat (.tup ds)) S2) (hk : v.keeps S1 S2 := by first | exact True.intro | exact rfl) (hc : S2.con v = some (.dicN kvs)) (hkey : (D.tup ds).keyable 8 = true) (hg : aget kvs (D.tup ds).key = some d) (hs : NoSl i := by exact fun _ _ => rfl) :
    PV X (.Subscript o i pos) S (.dat d) S2 := by
  refine ⟨fun pins s σ H Q I h => ?_⟩
  obtain ⟨F0, H0, F, rr, q⟩ := h
  refine subD_of PySem.F.slot_dict_getitem.lookup hs (thn (ha.run pins s σ H (fun x H1 => ∃ F1, R (ccOf X) F0 H0 F1 H1 σ S1 ∧ Gr σ S S1 F H F1 H1 ∧ VlOk (ccOf X) H0 H F1 H1 σ S1 x v) I ⟨F0, H0, F, rr, fun x F1 H1 r1 e1 z1 => ⟨F1, r1, e1, z1⟩⟩) fun u s1 ⟨x, H1, I1, rx, F1, r1, e1, z1⟩ =>
    thn (hb.run pins s1 σ H1 (fun y H2 => ∃ F2, R (ccOf X) F0 H0 F2 H2 σ S2 ∧ Gr σ S1 S2 F1 H1 F2 H2 ∧ Rep X.K F2 y (.tup ds)) I1 ⟨F0, H0, F1, r1, fun y F2 H2 r2 e2 z2 => ⟨F2, r2, e2, z2⟩⟩) fun iv s2 ⟨y, H2, I2, ry, F2, r2, e2, z2⟩ => ?_)
  obtain ⟨p, ys, ex, hp, rn⟩ := (z1.later (F0 := F0) hk e2).sl r2 hc
  subst ex
  cases rx
  obtain ⟨b, rfl⟩ := keyN_of z2
  cases ry
  obtain ⟨z, hd, xs, pr, dd⟩ := dicN_of I2 r2.fh hp rn
  refine ⟨dd.typeIs, ?_⟩
  rcases rn.val pr (D.tup ds).key with ⟨_, n⟩ | ⟨a', u, w, d', h1, h2, h3, h4⟩
  · rw [hg] at n; cases n
  · rw [hg] at h2; cases h2
    exact wpAny_getItem_heap (knd := nestedKind X.prog X.w) (by show X.A.units + 1 + 8 < cLine; omega) (key_is I2 r2.fh z2 hkey) dd h1 ⟨w, H2, I2.tok _, h3, q w F2 H2 r2 (e1.tr r1 e2) h4⟩
theorem in_both {kvs : List (NestedKey × D)} {ds : List D} (hu : X.A.units + 9 < cLine) (hb : PV X i S (.dat (.tup ds)) S1) (ha : PV X o S1 v S2) (hc : S2.con v = some (.dicN kvs)) (hkey : (D.tup ds).keyable 8 = true) :
    ∀ (pins : List (Addr × Obj)) (s : Shared) (σ : L2.St) (H : Hp) (Q : Bool → Hp → Prop), Inv X pins σ H s → (∃ F0 H0 F, R (ccOf X) F0 H0 F H σ S ∧ ∀ F' H', R (ccOf X) F0 H0 F' H' σ S2 → Gr σ S S2 F H F' H' → Q (aget kvs (D.tup ds).key).isSome H') →
      wpAny (model X.prog X.w) X.A (eval i X.env) (fun v s₁ => wpAny (model X.prog X.w) X.A (eval o X.env) (fun u s₂ => ∃ a b xs H2, v = .ref a ∧ u = .ref b ∧ Inv X pins σ H2 s₂ ∧ (b == sysModules) = false ∧ s₂.heap.DictOfH (nestedKind X.prog X.w) b xs ∧ (nestedKind X.prog X.w).is s₂.heap (D.tup ds).key a ∧ Q (atKey xs (D.tup ds).key).isSome H2) X.xe s₁) X.xe s := by
  intro pins s σ H Q I h
  obtain ⟨F0, H0, F, rr, q⟩ := h
  refine thn (hb.run pins s σ H (fun x H1 => ∃ F1, R (ccOf X) F0 H0 F1 H1 σ S1 ∧ Gr σ S S1 F H F1 H1 ∧ Rep X.K F1 x (.tup ds)) I ⟨F0, H0, F, rr, fun x F1 H1 r1 e1 z1 => ⟨F1, r1, e1, z1⟩⟩) fun u s1 ⟨x, H1, I1, rx, F1, r1, e1, z1⟩ =>
    thn (ha.run pins s1 σ H1 (fun y H2 => ∃ F2, R (ccOf X) F0 H0 F2 H2 σ S2 ∧ Gr σ S1 S2 F1 H1 F2 H2 ∧ VlOk (ccOf X) H0 H1 F2 H2 σ S2 y v) I1 ⟨F0, H0, F1, r1, fun y F2 H2 r2 e2 z2 => ⟨F2, r2, e2, z2⟩⟩) fun iv s2 ⟨y, H2, I2, ry, F2, r2, e2, z2⟩ => ?_
  obtain ⟨p, ys, ex, hp, rn⟩ := z2.sl r2 hc
  subst ex
  cases ry
  have z1' := Rep.mono e2.eF z1
  obtain ⟨b, rfl⟩ := keyN_of z1'
  cases rx
  obtain ⟨z, hd, xs, pr, dd⟩ := dicN_of I2 r2.fh hp rn
  refine ⟨b, p, xs, H2, rfl, rfl, I2, hd, dd, key_is I2 r2.fh z1' hkey, ?_⟩
  have ee : (atKey xs (D.tup ds).key).isSome = (aget kvs (D.tup ds).key).isSome := by
    rcases rn.val pr (D.tup ds).key with ⟨h1, h2⟩ | ⟨_, _, _, _, h1, h2, _⟩ <;> rw [h1, h2] <;> rfl
  rw [ee]
  exact q F2 H2 r2 (e1.tr r1 e2)
theorem cd_inN {kvs : List (NestedKey × D)} {ds : List D} (hu : X.A.units + 9 < cLine) (hb : PV X i S (.dat (.tup ds)) S1) (ha : PV X o S1 v S2) (hc : S2.con v = some (.dicN kvs)) (hkey : (D.tup ds).keyable 8 = true) : PCd X .In i o S (aget kvs (D.tup ds).key).isSome S2 :=
  ⟨fun pins s σ H Q I ⟨F0, H0, F, rr, q⟩ => thn (in_both hu hb ha hc hkey pins s σ H (fun z H' => Q (.bl z) H') I ⟨F0, H0, F, rr, fun F' H' r' g => q _ F' H' r' g (.bl _)⟩) fun v s1 h1 => thn h1 fun u s2 ⟨a, b, xs, H2, ev, eu, I2, hd, dd, kk, q2⟩ => by
    subst ev eu
    exact wpAny_in_heap (knd := nestedKind X.prog X.w) (by show X.A.units + 1 + 8 < cLine; omega) kk hd dd ⟨.bl _, H2, I2.tok _, rfl, q2⟩⟩
theorem cd_notInN {kvs : List (NestedKey × D)} {ds : List D} (hu : X.A.units + 9 < cLine) (hb : PV X i S (.dat (.tup ds)) S1) (ha : PV X o S1 v S2) (hc : S2.con v = some (.dicN kvs)) (hkey : (D.tup ds).keyable 8 = true) : PCd X .NotIn i o S (!(aget kvs (D.tup ds).key).isSome) S2 :=
  ⟨fun pins s σ H Q I ⟨F0, H0, F, rr, q⟩ => thn (in_both hu hb ha hc hkey pins s σ H (fun z H' => Q (.bl (!z)) H') I ⟨F0, H0, F, rr, fun F' H' r' g => q _ F' H' r' g (.bl _)⟩) fun v s1 h1 => thn h1 fun u s2 ⟨a, b, xs, H2, ev, eu, I2, hd, dd, kk, q2⟩ => by
    subst ev eu
    exact wpAny_notIn_heap (knd := nestedKind X.prog X.w) (by show X.A.units + 1 + 8 < cLine; omega) kk hd dd ⟨.bl _, H2, I2.tok _, rfl, q2⟩⟩
end
end PL
/-! The pure layer, E: statements by data. -/
namespace PL
open PySem PySem.Spec PyProof.Rows L2

structure Post where
  nx : PSt → Prop
  rt : D → Option WS → Prop
  bk : PSt → Prop := fun _ => False
  ct : PSt → Prop := fun _ => False
def tS (c : Cc) (S : PSt) (P : Post) : TS := fun E σ H => ∃ F0 H0 F, R c F0 H0 F H σ S ∧
  (∀ σ' F' H' S', R c F0 H0 F' H' σ' S' → Ex F F' → P.nx S' → E.nx σ' H') ∧
  (∀ x F' H' d w, R c F0 H0 F' H' [] ⟨[], w⟩ → Ex F F' → Rep c.K F' x d → P.rt d w → E.rt x H') ∧
  (∀ σ' F' H' S', R c F0 H0 F' H' σ' S' → Ex F F' → P.bk S' → E.bk σ' H') ∧
  (∀ σ' F' H' S', R c F0 H0 F' H' σ' S' → Ex F F' → P.ct S' → E.ct σ' H')
abbrev PSd (X : Cx) (sts : List Stmt) (S : PSt) (P : Post) : Prop := PSs X sts (tS (ccOf X) S P)

section
variable {X : Cx} {st : Stmt} {sts rest : List Stmt} {e a b : Expr} {S S1 S2 : PSt} {P : Post} {v : Vl} {pos : Pos}
theorem pssI {t t' : TS} (h : PSs X sts t) (i : ∀ D σ H, t' D σ H → t D σ H) : PSs X sts t' := ⟨fun pins s σ H D I q => h.run pins s σ H D I (i D σ H q)⟩
/-- what is left to do, from any state that may come -/
theorem psdAll {p : PSt → Prop} (h : ∀ S', p S' → PSd X sts S' P) : PSs X sts (fun E σ H => ∃ S', p S' ∧ tS (ccOf X) S' P E σ H) := ⟨fun pins s σ H D I ⟨S', hp, q⟩ => (h S' hp).run pins s σ H D I q⟩
/-- one statement, by its kit rule, then the rest: K what the statement's reading is asked -/
theorem psd_cons {t : TS} {p : PSt → Prop} (h1 : PS X st t) (h2 : ∀ S', p S' → PSd X rest S' P)
    (h : ∀ (E : Ends) σ H, tS (ccOf X) S { P with nx := p } E σ H → t E σ H) : PSd X (st :: rest) S P :=
  pssI (pss_cons h1 (psdAll h2)) fun E σ H ⟨F0, H0, F, r, k1, k2, k3, k4⟩ => h _ σ H ⟨F0, H0, F, r, fun σ' F' H' S' r' e' hp => ⟨S', hp, F0, H0, F', r', fun σ2 F2 H2 S2 r2 e2 => k1 σ2 F2 H2 S2 r2 (ex_tr e' e2), fun x F2 H2 d w r2 e2 => k2 x F2 H2 d w r2 (ex_tr e' e2), fun σ2 F2 H2 S2 r2 e2 => k3 σ2 F2 H2 S2 r2 (ex_tr e' e2), fun σ2 F2 H2 S2 r2 e2 => k4 σ2 F2 H2 S2 r2 (ex_tr e' e2)⟩, k2, k3, k4⟩
/-- a statement that only leads on to one state -/
theorem psd_step {t : TS} (h1 : PS X st t) (h2 : PSd X rest S1 P)
    (h : ∀ (E : Ends) σ H, (∃ F0 H0 F, R (ccOf X) F0 H0 F H σ S ∧ ∀ σ' F' H', R (ccOf X) F0 H0 F' H' σ' S1 → Ex F F' → E.nx σ' H') → t E σ H) : PSd X (st :: rest) S P :=
  psd_cons (p := fun S' => S' = S1) h1 (fun S' e => by rw [e]; exact h2) fun E σ H ⟨F0, H0, F, r, k1, _⟩ => h E σ H ⟨F0, H0, F, r, fun σ' F' H' r' e' => k1 σ' F' H' S1 r' e' rfl⟩

theorem ds_nil (h : P.nx S) : PSd X [] S P := pssI pss_nil fun E σ H ⟨F0, H0, F, r, k, _⟩ => k σ F H S r (Ex.rfl' F) h
/-- name = e -/
theorem ds_setD (i : Nat) {x : Str} {p' : Pos} {d : D} (hN : X.N.Nodup) (hi : X.N[i]? = some x) (hx : Loc X.env.scope x) (he : PV X e S (.dat d) S1) (h : PSd X rest (S1.put i (some (.dat d))) P)
    (hs : swapsWith e (some (.Name x p')) pos.line X.env = pure false := by rfl) (hf : X.fn x = true ∨ X.env.scope.names.lookup x = some .local := by first | exact .inl rfl | exact .inr rfl | assumption) : PSd X (.Assign [.Name x p'] e pos :: rest) S P :=
  psd_step (ps_set hN hi hx he hs hf) h fun E σ H ⟨F0, H0, F, r, k⟩ => ⟨F0, H0, F, r, fun y F1 H1 r1 g z => k _ F1 H1 (r1.putD z) g.eF⟩
theorem ds_setN (i : Nat) {x : Str} {p' : Pos} {s : Sl} (hN : X.N.Nodup) (hi : X.N[i]? = some x) (hx : Loc X.env.scope x) (he : PV X e S (.new s) S1) (h : PSd X rest (S1.put i (some s)) P)
    (hs : swapsWith e (some (.Name x p')) pos.line X.env = pure false := by rfl) (hf : X.fn x = true ∨ X.env.scope.names.lookup x = some .local := by first | exact .inl rfl | exact .inr rfl | assumption) : PSd X (.Assign [.Name x p'] e pos :: rest) S P :=
  psd_step (ps_set hN hi hx he hs hf) h fun E σ H ⟨F0, H0, F, r, k⟩ => ⟨F0, H0, F, r, fun y F1 H1 r1 g z => by
    obtain ⟨ow, sl, ⟨p, ep, a1, a2, a3, a4⟩, _⟩ := z
    exact k _ F1 H1 (r1.put sl fun _ q eq => by
      rw [ep] at eq; cases eq
      exact ⟨a1, a2, a3, fun j t _ => a4 j t⟩) g.eF⟩
/-- name = the law's state -/
theorem ds_setS (i : Nat) {x : Str} {p' : Pos} (hN : X.N.Nodup) (hi : X.N[i]? = some x) (hx : Loc X.env.scope x) (he : PV X e S .st S1) (h : PSd X rest (S1.put i (some .st)) P)
    (hs : swapsWith e (some (.Name x p')) pos.line X.env = pure false := by rfl) (hf : X.fn x = true ∨ X.env.scope.names.lookup x = some .local := by first | exact .inl rfl | exact .inr rfl | assumption) : PSd X (.Assign [.Name x p'] e pos :: rest) S P :=
  psd_step (ps_set hN hi hx he hs hf) h fun E σ H ⟨F0, H0, F, r, k⟩ => ⟨F0, H0, F, r, fun y F1 H1 r1 g z => k _ F1 H1 (r1.put (s := .st) z fun z => nomatch z) g.eF⟩
/-- name = another name's own object, which that one gives up -/
theorem ds_setM (i j : Nat) {x : Str} {p' : Pos} {s : Sl} (hij : i ≠ j) (hN : X.N.Nodup) (hi : X.N[i]? = some x) (hx : Loc X.env.scope x) (he : PV X e S (.own j) S1) (hj : S1.env[j]? = some (some s)) (how : s.own = true) (h : PSd X rest ((S1.put j none).put i (some s)) P)
    (hs : swapsWith e (some (.Name x p')) pos.line X.env = pure false := by rfl) (hf : X.fn x = true ∨ X.env.scope.names.lookup x = some .local := by first | exact .inl rfl | exact .inr rfl | assumption) : PSd X (.Assign [.Name x p'] e pos :: rest) S P :=
  psd_step (ps_set hN hi hx he hs hf) h fun E σ H ⟨F0, H0, F, r, k⟩ => ⟨F0, H0, F, r, fun y F1 H1 r1 g z => by
    obtain ⟨q, _⟩ := z
    obtain ⟨y', q', sl⟩ := r1.sl j s hj
    rw [q] at q'; cases q'
    obtain ⟨p, u, rfl, _, _⟩ := sl.isRef how
    obtain ⟨a1, a2, a3⟩ := r1.own j s p hj how q
    exact k _ F1 H1 ((r1.drop j).put sl fun _ p' ep => by
      cases ep
      refine ⟨a1, a2, a3, fun l t _ el ol ql => ?_⟩
      rcases get_set el with ⟨_, e', _⟩ | ⟨ne, e'⟩
      · cases e'
      · exact ne (r1.dis j l s t p hj e' how ol q ql)) g.eF⟩
/-- an expression alone -/
theorem ds_expr (he : PV X e S v S1) (h : PSd X rest S1 P) (hs : swapsWith e none pos.line X.env = pure false := by rfl) : PSd X (.Expr e pos :: rest) S P :=
  psd_step (ps_expr he hs) h fun E σ H ⟨F0, H0, F, r, k⟩ => ⟨F0, H0, F, r, fun y F1 H1 r1 g z => k _ F1 H1 r1 g.eF⟩
theorem ds_ret {d : D} (he : PV X e S (.dat d) S1) (h : P.rt d S1.w) : PSd X (.Return (some e) pos :: rest) S P :=
  pssI (pss_cons (ps_ret he) (pss_never (X := X))) fun E σ H ⟨F0, H0, F, r, _, k, _⟩ => ⟨F0, H0, F, r, fun y F1 H1 r1 g z => k y F1 H1 d S1.w r1.bare g.eF z h⟩
/-- if -/
theorem ds_if (Mid : PSt → Prop) {A B : List Stmt} {z : Bool} (hc : PTd X a S z S1) (hA : z = true → PSd X A S1 { P with nx := Mid }) (hB : z = false → PSd X B S1 { P with nx := Mid }) (h : ∀ S', Mid S' → PSd X rest S' P) : PSd X (.If a A B pos :: rest) S P := by
  cases z with
  | true =>
    refine psd_cons (p := Mid) (t := tS (ccOf X) S { P with nx := Mid }) ⟨fun pins s σ H E I q => ?_⟩ h fun E σ H q => q
    obtain ⟨F0, H0, F, r, k1, k2, k3, k4⟩ := q
    refine wpAny_If (thn (hc.run pins s σ H (fun c H1 => c = true ∧ ∃ F1, R (ccOf X) F0 H0 F1 H1 σ S1 ∧ Gr σ S S1 F H F1 H1) I ⟨F0, H0, F, r, fun F1 H1 r1 g => ⟨rfl, F1, r1, g⟩⟩) fun c s1 ⟨H1, I1, ec, F1, r1, g⟩ => ?_)
    subst ec
    exact (hA rfl).run pins s1 σ H1 E I1 ⟨F0, H0, F1, r1, fun σ2 F2 H2 S2 r2 e2 => k1 σ2 F2 H2 S2 r2 (ex_tr g.eF e2), fun x F2 H2 d w r2 e2 => k2 x F2 H2 d w r2 (ex_tr g.eF e2), fun σ2 F2 H2 S2 r2 e2 => k3 σ2 F2 H2 S2 r2 (ex_tr g.eF e2), fun σ2 F2 H2 S2 r2 e2 => k4 σ2 F2 H2 S2 r2 (ex_tr g.eF e2)⟩
  | false =>
    refine psd_cons (p := Mid) (t := tS (ccOf X) S { P with nx := Mid }) ⟨fun pins s σ H E I q => ?_⟩ h fun E σ H q => q
    obtain ⟨F0, H0, F, r, k1, k2, k3, k4⟩ := q
    refine wpAny_If (thn (hc.run pins s σ H (fun c H1 => c = false ∧ ∃ F1, R (ccOf X) F0 H0 F1 H1 σ S1 ∧ Gr σ S S1 F H F1 H1) I ⟨F0, H0, F, r, fun F1 H1 r1 g => ⟨rfl, F1, r1, g⟩⟩) fun c s1 ⟨H1, I1, ec, F1, r1, g⟩ => ?_)
    subst ec
    exact (hB rfl).run pins s1 σ H1 E I1 ⟨F0, H0, F1, r1, fun σ2 F2 H2 S2 r2 e2 => k1 σ2 F2 H2 S2 r2 (ex_tr g.eF e2), fun x F2 H2 d w r2 e2 => k2 x F2 H2 d w r2 (ex_tr g.eF e2), fun σ2 F2 H2 S2 r2 e2 => k3 σ2 F2 H2 S2 r2 (ex_tr g.eF e2), fun σ2 F2 H2 S2 r2 e2 => k4 σ2 F2 H2 S2 r2 (ex_tr g.eF e2)⟩
/-- if without else whose branch leaves -/
theorem ds_when {A : List Stmt} {z : Bool} (hc : PTd X a S z S1) (hA : z = true → PSd X A S1 { P with nx := fun S' => PSd X rest S' P }) (h : z = false → PSd X rest S1 P) : PSd X (.If a A [] pos :: rest) S P :=
  ds_if (fun S' => PSd X rest S' P) hc hA (fun z => ds_nil (h z)) fun S' h => h
theorem ds_if2 {A B : List Stmt} {z : Bool} (hc : PTd X a S z S1) (hA : z = true → PSd X A S1 { P with nx := fun S' => PSd X rest S' P }) (hB : z = false → PSd X B S1 { P with nx := fun S' => PSd X rest S' P }) : PSd X (.If a A B pos :: rest) S P :=
  ds_if (fun S' => PSd X rest S' P) hc hA hB fun S' h => h
theorem ds_break (h : P.bk S) : PSd X (.Break pos :: rest) S P := pssI (pss_cons ps_break (pss_never (X := X))) fun E σ H ⟨F0, H0, F, r, _, _, k, _⟩ => k σ F H S r (Ex.rfl' F) h
theorem ds_cont (h : P.ct S) : PSd X (.Continue pos :: rest) S P := pssI (pss_cons ps_continue (pss_never (X := X))) fun E σ H ⟨F0, H0, F, r, _, _, _, k⟩ => k σ F H S r (Ex.rfl' F) h

/-! ### several targets -/
def PSt.puts (S : PSt) : List Nat → List D → PSt
  | i :: is, d :: ds => (S.put i (some (.dat d))).puts is ds
  | _, _ => S
/-- names at the slots is -/
inductive Tgs (X : Cx) : List Expr → List Nat → Prop
  | nil : Tgs X [] []
  | cons {x : Str} {p : Pos} {es : List Expr} {i : Nat} {is : List Nat} : X.N[i]? = some x → Loc X.env.scope x → (X.fn x = true ∨ X.env.scope.names.lookup x = some .local) → Tgs X es is → Tgs X (.Name x p :: es) (i :: is)
theorem tgs_one (i : Nat) {x : Str} {p : Pos} {es : List Expr} {is : List Nat} (hi : X.N[i]? = some x) (hx : Loc X.env.scope x) (h : Tgs X es is) (hf : X.fn x = true ∨ X.env.scope.names.lookup x = some .local := by first | exact .inl rfl | exact .inr rfl | assumption) : Tgs X (.Name x p :: es) (i :: is) := .cons hi hx hf h
def gPuts (c : Cc) (is : List Nat) (ds : List D) (S : PSt) : TGs := fun vs σ H Q => ∃ F0 H0 F, R c F0 H0 F H σ S ∧ RepL c.K F vs ds ∧ ∀ σ', R c F0 H0 F H σ' (S.puts is ds) → Q σ' H
theorem pgs_puts (hN : X.N.Nodup) : ∀ {es : List Expr} {is : List Nat} {ds : List D} {S : PSt}, Tgs X es is → is.length = ds.length → PGs X es (gPuts (ccOf X) is ds S)
  | _, _, [], S, .nil, _ => ⟨fun pins s σ H vs us Q I r h => pgs_nil.run pins s σ H vs us Q I r (by
    obtain ⟨F0, H0, F, rr, rl, k⟩ := h
    cases rl
    exact ⟨rfl, k σ rr⟩)⟩
  | _, _, d :: ds, S, .cons hi hx hf h, hl => ⟨fun pins s σ H vs us Q I r hh => (pgs_cons (pg_name hN hi hx hf) (pgs_puts hN (S := S.put _ (some (.dat d))) h (by simpa using hl))).run pins s σ H vs us Q I r (by
    obtain ⟨F0, H0, F, rr, rl, k⟩ := hh
    cases rl with
    | cons h1 rl => exact ⟨_, _, rfl, F0, H0, F, rr.putD h1, rl, k⟩)⟩
  | _, _, [], S, .cons hi hx hf h, hl => by simp at hl
  | _, _, _ :: _, S, .nil, hl => by simp at hl
/-- a, b, .. = e -/
theorem ds_unpack {es : List Expr} {k1 : Nat} {p1 : Pos} {is : List Nat} {ds : List D} (hN : X.N.Nodup) (hcm : X.calm = true) (ht : Tgs X es is) (hl : is.length = ds.length) (he : PV X e S (.dat (.tup ds)) S1) (h : PSd X rest (S1.puts is ds) P)
    (hn : (assignEach es X.env).length = is.length := by rfl) (hst : (assignEach es X.env).findIdx? (·.1) = none := by rfl) (hs : swapsWithSole [.Tuple es k1 p1] e pos.line X.env = pure false := by rfl) (hw : swappedStores [.Tuple es k1 p1] e X.env = pure none := by rfl)
    (h1 : (assignEach [.Tuple es k1 p1] X.env).map (·.2) = [assign (.Tuple es k1 p1) X.env] := by rfl) : PSd X (.Assign [.Tuple es k1 p1] e pos :: rest) S P :=
  psd_step (ps_asg he (pg_tup hcm (pgs_puts (S := S1) hN ht hl) hn hst) hs hw h1) h fun E σ H ⟨F0, H0, F, r, k⟩ => ⟨F0, H0, F, r, fun y F1 H1 r1 g z => by
    cases z with
    | tup hq rl => exact ⟨_, _, rfl, Evl.ex_t r1.fh hq.sq, by rw [rl.len, hl], F0, H0, F1, r1, rl, fun σ' r' => k σ' F1 H1 r' g.eF⟩⟩
/-- a, b = e1, e2 -/
theorem ds_par (i j : Nat) {x y : Str} {px py pt : Pos} {kt k2 : Nat} {pt2 : Pos} {d1 d2 : D} (hcm : X.calm = true) (hN : X.N.Nodup) (hi : X.N[i]? = some x) (hj : X.N[j]? = some y) (hij : i ≠ j) (hx : X.env.scope.names.lookup x = some .local) (hy : X.env.scope.names.lookup y = some .local)
    (ha : PVs X [a, b] S [.dat d1, .dat d2] S1) (h : PSd X rest ((S1.put i (some (.dat d1))).put j (some (.dat d2))) P)
    (hw : swappedStores [.Tuple [.Name x px, .Name y py] kt pt] (.Tuple [a, b] k2 pt2) X.env = pure (some [x, y]) := by rfl)
    (hs : swapsWithSole [.Tuple [.Name x px, .Name y py] kt pt] (.Tuple [a, b] k2 pt2) pos.line X.env = pure false := by rfl) : PSd X (.Assign [.Tuple [.Name x px, .Name y py] kt pt] (.Tuple [a, b] k2 pt2) pos :: rest) S P :=
  psd_step (ps_par hcm hN hi hj hij hx hy ha hw hs) h fun E σ H ⟨F0, H0, F, r, k⟩ => ⟨F0, H0, F, r, fun xs F1 H1 r1 g z => by
    cases z with
    | cons z1 z =>
      cases z with
      | cons z2 z =>
        cases z
        exact ⟨_, _, rfl, k _ F1 H1 ((r1.putD z1).putD z2) g.eF⟩⟩
/-- name += e, numbers -/
theorem ds_augI (i : Nat) {x : Str} {p' : Pos} {n m : Int} (hN : X.N.Nodup) (hi : X.N[i]? = some x) (hx : Loc X.env.scope x) (hv : S.env[i]? = some (some (.dat (.int n)))) (he : PV X e S (.dat (.int m)) S1) (h : PSd X rest (S1.put i (some (.dat (.int (n + m))))) P)
    (hf : X.fn x = true ∨ X.env.scope.names.lookup x = some .local := by first | exact .inl rfl | exact .inr rfl | assumption) : PSd X (.AugAssign (.Name x p') .Add e pos :: rest) S P :=
  psd_step (ps_aug hN hi hx he ip_add hf) h fun E σ H ⟨F0, H0, F, r, k⟩ => by
    obtain ⟨y, q, z⟩ := r.sl i _ hv
    refine ⟨y, q, F0, H0, F, r, fun w F1 H1 r1 g z1 => ⟨n, m, rep_int z, rep_int z1, k _ F1 H1 (r1.putD (.int _)) g.eF⟩⟩

/-! ### lists and dicts of one's own, changed -/
theorem ds_app {o : Expr} {apos cpos epos : Pos} {i : Nat} {ds : List D} {d : D} (ho : PV X o S (.own i) S) (he : PV X e S (.dat d) S1) (hi : S1.env[i]? = some (some (.lst ds))) (hl : ds.length < 1000000) (hk : S.env[i]? = some (some (.lst ds)) := by rfl) (h : PSd X rest (S1.put i (some (.lst (ds ++ [d])))) P)
    (hbase : attributeBase o ("append" : Str) X.env (eval o X.env) = eval o X.env := by rfl)
    (hfew : ((backTo cpos (starEach [e] X.env)).all (fun x => !x.1) && (backToKw cpos (keywordEach [] X.env)).all (fun x => x.1.isSome) && decide ([e].length + ([] : List Keyword).length + (if ([] : List Keyword).isEmpty then 0 else 1) < 30)) = true := by rfl)
    (hline : (apos.endLine == cpos.line) = true := by rfl) (hs : starEach [e] X.env = (false, eval e X.env) :: starEach [] X.env := by rfl) (hplain : (backTo cpos (starEach [] X.env)).any (·.1) = false := by rfl) (hsw : swapsWith (.Call (.Attribute o ("append" : Str) apos) [e] [] cpos) none epos.line X.env = pure false := by rfl) :
    PSd X (.Expr (.Call (.Attribute o ("append" : Str) apos) [e] [] cpos) epos :: rest) S P :=
  psd_step (ps_expr (pe_bm PySem.F.plainAttrs_list PySem.F.slot_list_append PySem.F.type_list_append mt_append ho (pvs_one he hs) hbase hfew hline hs hplain) hsw) h fun E σ H ⟨F0, H0, F, r, k⟩ => ⟨F0, H0, F, r, fun x F1 H1 r1 g z => by
    obtain ⟨q, _⟩ := z
    obtain ⟨x', q', p, vs, rfl, hp, rl⟩ := r1.sl i _ hk
    rw [q] at q'; cases q'
    refine ⟨.inl ⟨rfl, _, SqL.of hp⟩, F0, H0, F1, r1, fun ys F2 H2 r2 g2 z2 => ?_⟩
    cases z2 with
    | cons z2 z3 =>
      cases z3
      obtain ⟨x', q', p', vs', ep, hp', rl'⟩ := r2.sl i _ hi
      rw [q] at q'; cases q'
      cases ep
      refine ⟨p, vs', _, rfl, rfl, hp', Nat.lt_of_lt_of_le (by rw [rl'.len]; exact hl) (by decide), ?_⟩
      exact k σ F2 _ (r2.mut hi rfl q ⟨p, _, rfl, upd_same, rl'.snoc z2⟩ rfl) (ex_tr g.eF g2.eF)⟩
theorem ds_putI {o ik : Expr} {tpos : Pos} {i : Nat} {kvs : List (Int × D)} {n : Int} {d : D} (hu : X.A.units + 1 < cLine) (hv : PV X e S (.dat d) S1) (ho : PV X o S1 (.own i) S1) (hik : PV X ik S1 (.dat (.int n)) S1) (hi : S1.env[i]? = some (some (.dicI kvs))) (hl : kvs.length < 1000000)
    (h : PSd X rest (S1.put i (some (.dicI (aput kvs n d)))) P) (hs : swapsWith e (some (.Subscript o ik tpos)) pos.line X.env = pure false := by rfl) : PSd X (.Assign [.Subscript o ik tpos] e pos :: rest) S P :=
  psd_step (ps_dput hu ho hik hv hs) h fun E σ H ⟨F0, H0, F, r, k⟩ => ⟨F0, H0, F, r, fun x F1 H1 r1 g1 z1 => ⟨F0, H0, F1, r1, fun y F2 H2 r2 g2 z2 => ⟨F0, H0, F2, r2, fun w F3 H3 r3 g3 z3 => by
    obtain ⟨q, _⟩ := z2
    obtain ⟨x', q', p, us, rfl, hp, ri⟩ := r3.sl i _ hi
    rw [q] at q'; cases q'
    rw [rep_int z3]
    have rx := Rep.mono g3.eF (Rep.mono g2.eF z1)
    refine ⟨p, _, rfl, DPut.k (k := Sum.inl n) hp (Nat.lt_of_lt_of_le (by rw [ri.len]; exact hl) (by decide)), ?_⟩
    exact k σ F3 _ (r3.mut hi rfl q ⟨p, _, rfl, upd_same, ri.put n rx⟩ rfl) (ex_tr g1.eF (ex_tr g2.eF g3.eF))⟩⟩⟩
theorem ps_putN {o ik : Expr} {tpos : Pos} {i : Nat} {kvs : List (NestedKey × D)} {ds : List D} {d : D} (hu : X.A.units + 9 < cLine) (hv : PV X e S (.dat d) S1) (ho : PV X o S1 (.own i) S1) (hik : PV X ik S1 (.dat (.tup ds)) S2) (hi : S2.env[i]? = some (some (.dicN kvs))) (hkey : (D.tup ds).keyable 8 = true) (hl : kvs.length < 1000000)
    (hs : swapsWith e (some (.Subscript o ik tpos)) pos.line X.env = pure false) : PS X (.Assign [.Subscript o ik tpos] e pos) (fun E σ H => ∃ F0 H0 F, R (ccOf X) F0 H0 F H σ S ∧ ∀ σ' F' H', R (ccOf X) F0 H0 F' H' σ' (S2.put i (some (.dicN (aput kvs (D.tup ds).key d)))) → Ex F F' → E.nx σ' H') := by
  refine ⟨fun pins s σ H E I ⟨F0, H0, F, r, k⟩ => ?_⟩
  refine wpAny_Assign_Subscript (thn (hv.run pins s σ H (fun x H1 => ∃ F1, R (ccOf X) F0 H0 F1 H1 σ S1 ∧ Gr σ S S1 F H F1 H1 ∧ Rep X.K F1 x d) I ⟨F0, H0, F, r, fun x F1 H1 r1 g z => ⟨F1, r1, g, z⟩⟩) fun rv s1 ⟨x, H1, I1, rx, F1, r1, g1, z1⟩ =>
    thn (ho.run pins s1 σ H1 (fun y H2 => ∃ F2, R (ccOf X) F0 H0 F2 H2 σ S1 ∧ Gr σ S1 S1 F1 H1 F2 H2 ∧ VlOk (ccOf X) H0 H1 F2 H2 σ S1 y (.own i)) I1 ⟨F0, H0, F1, r1, fun y F2 H2 r2 g z => ⟨F2, r2, g, z⟩⟩) fun u s2 ⟨y, H2, I2, ry, F2, r2, g2, z2⟩ =>
    thn (hik.run pins s2 σ H2 (fun w H3 => ∃ F3, R (ccOf X) F0 H0 F3 H3 σ S2 ∧ Gr σ S1 S2 F2 H2 F3 H3 ∧ Rep X.K F3 w (.tup ds)) I2 ⟨F0, H0, F2, r2, fun w F3 H3 r3 g z => ⟨F3, r3, g, z⟩⟩) fun iv s3 ⟨w, H3, I3, rw', F3, r3, g3, z3⟩ => ?_) hs
  obtain ⟨q, _⟩ := z2
  obtain ⟨x', q', p, ys, rfl, hp, rn⟩ := r3.sl i _ hi
  rw [q] at q'; cases q'
  cases ry
  obtain ⟨bk, rfl⟩ := keyN_of z3
  cases rw'
  obtain ⟨z, hd, xs, pr, dd⟩ := dicN_of I3 r3.fh hp rn
  have rd := Rep.mono g3.eF (Rep.mono g2.eF z1)
  obtain ⟨ys', pr', rn', ly⟩ := rn.put pr (k := (D.tup ds).key) (a := bk) ⟨_, z3, hkey, rfl⟩ rx rd
  have hlen : ys.length = kvs.length := Paired.length rn
  have hx : xs.length = ys.length := (Paired.length pr).symm
  refine wpAny_setItem_heap (knd := nestedKind X.prog X.w) (hsz := by rw [hx]; exact z) (by show X.A.units + 1 + 8 < cLine; omega) (key_is I3 r3.fh z3 hkey) dd fun h' dd' hsb => ?_
  obtain ⟨o', es, ep, e1, e2, e3, e4, _, e6⟩ := dd'
  have raw' : DicRaw (ccOf X) p ys' h' := ⟨by rw [sizeLine_eq]; omega, hd, _, pr', o', es, ep, e1, e2, e3, e4, e6⟩
  have okk : ObjOk X.prog X.w (upd H3 p (DicO (ccOf X) p ys')) h' p (DicO (ccOf X) p ys') := by
    refine ⟨raw', ⟨o', e1⟩, fun h1 h2 q1 q2 => ?_⟩
    obtain ⟨b1, b2, xs2, b3, o2, es2, ep2, c1, c2, c3, c4, c5⟩ := q1
    exact ⟨b1, b2, xs2, b3, o2, es2, ep2, q2 o2 c1, c2, c3, c4, c5⟩
  exact ⟨σ, _, d_write (t' := _) I3 (by rw [hp]; exact True.intro) hsb ⟨o', e1⟩ okk, k σ F3 _ (r3.mut hi rfl q ⟨p, _, rfl, upd_same, rn'⟩ rfl) (ex_tr g1.eF (ex_tr g2.eF g3.eF))⟩
theorem ds_putN {o ik : Expr} {tpos : Pos} {i : Nat} {kvs : List (NestedKey × D)} {ds : List D} {d : D} (hu : X.A.units + 9 < cLine) (hv : PV X e S (.dat d) S1) (ho : PV X o S1 (.own i) S1) (hik : PV X ik S1 (.dat (.tup ds)) S2) (hi : S2.env[i]? = some (some (.dicN kvs))) (hkey : (D.tup ds).keyable 8 = true) (hl : kvs.length < 1000000)
    (h : PSd X rest (S2.put i (some (.dicN (aput kvs (D.tup ds).key d)))) P) (hs : swapsWith e (some (.Subscript o ik tpos)) pos.line X.env = pure false := by rfl) : PSd X (.Assign [.Subscript o ik tpos] e pos :: rest) S P :=
  psd_step (ps_putN hu hv ho hik hi hkey hl hs) h fun E σ H q => q
end
end PL
/-! The pure layer, F: loops, comprehensions, calls, defs by data. -/
namespace PL
open PySem PySem.Spec PyProof.Rows L2

section
variable {X : Cx} {st : Stmt} {sts rest body : List Stmt} {e a b c iter tg elt : Expr} {es : List Expr} {S S1 S2 : PSt} {P : Post} {v : Vl} {pos : Pos}

/-! ### while -/
/-- Inv m S: holds ahead of the test, m falls with each turn -/
theorem ds_while (Inv : Nat → PSt → Prop) (Mid : PSt → Prop) {m0 : Nat} (hp : PassesOwn (model X.prog X.w) X.A X.env X.xe) (h0 : Inv m0 S)
    (hs : ∀ m S, Inv m S → ∃ z S1, PTd X c S z S1 ∧ (z = true → PSd X body S1 { nx := fun S' => ∃ m', m' < m ∧ Inv m' S', ct := fun S' => ∃ m', m' < m ∧ Inv m' S', bk := Mid, rt := P.rt }) ∧ (z = false → Mid S1))
    (h : ∀ S', Mid S' → PSd X rest S' P) : PSd X (.While c body [] pos :: rest) S P := by
  have hc : PT X c (fun σ H Q => ∃ m S z S1, (Inv m S ∧ PTd X c S z S1 ∧ (z = true → PSd X body S1 { nx := fun S' => ∃ m', m' < m ∧ Inv m' S', ct := fun S' => ∃ m', m' < m ∧ Inv m' S', bk := Mid, rt := P.rt })) ∧ tT (ccOf X) S z S1 σ H Q) :=
    ⟨fun pins s σ H Q I ⟨m, S, z, S1, ⟨_, h1, _⟩, q⟩ => h1.run pins s σ H Q I q⟩
  have hb : PSs X body (fun E σ H => ∃ m S1, PSd X body S1 { nx := fun S' => ∃ m', m' < m ∧ Inv m' S', ct := fun S' => ∃ m', m' < m ∧ Inv m' S', bk := Mid, rt := P.rt } ∧ tS (ccOf X) S1 { nx := fun S' => ∃ m', m' < m ∧ Inv m' S', ct := fun S' => ∃ m', m' < m ∧ Inv m' S', bk := Mid, rt := P.rt } E σ H) :=
    ⟨fun pins s σ H E I ⟨m, S1, h1, q⟩ => h1.run pins s σ H E I q⟩
  refine psd_cons (p := Mid) (ps_while hp hc hb) h fun E σ H ⟨F0, H0, F, r, k1, k2, k3, k4⟩ => ?_
  refine ⟨fun m σ H => ∃ F' S', R (ccOf X) F0 H0 F' H σ S' ∧ Ex F F' ∧ Inv m S', ⟨m0, F, S, r, Ex.rfl' F, h0⟩, ?_⟩
  rintro m σ1 H1 ⟨F1, S1, r1, e1, i1⟩
  obtain ⟨z, S2, hz, ht, hf⟩ := hs m S1 i1
  cases z with
  | true =>
    refine ⟨m, S1, true, S2, ⟨i1, hz, ht⟩, F0, H0, F1, r1, fun F2 H2 r2 g => ?_⟩
    refine iteT ?_
    refine ⟨fun σ H => ∃ F' S' m', R (ccOf X) F0 H0 F' H σ S' ∧ Ex F F' ∧ m' < m ∧ Inv m' S', fun σ' H' ⟨F', S', m', r', e', hm, i'⟩ => ⟨m', hm, F', S', r', e', i'⟩, m, S2, ht rfl, F0, H0, F2, r2, ?_, ?_, ?_, ?_⟩
    · exact fun σ' F' H' S' r' e' ⟨m', hm, i'⟩ => ⟨F', S', m', r', ex_tr e1 (ex_tr g.eF e'), hm, i'⟩
    · exact fun x F' H' d w r' e' => k2 x F' H' d w r' (ex_tr e1 (ex_tr g.eF e'))
    · exact fun σ' F' H' S' r' e' hM => k1 σ' F' H' S' r' (ex_tr e1 (ex_tr g.eF e')) hM
    · exact fun σ' F' H' S' r' e' ⟨m', hm, i'⟩ => ⟨F', S', m', r', ex_tr e1 (ex_tr g.eF e'), hm, i'⟩
  | false =>
    refine ⟨m, S1, false, S2, ⟨i1, hz, ht⟩, F0, H0, F1, r1, fun F2 H2 r2 g => ?_⟩
    refine iteF ?_
    exact k1 σ1 F2 H2 S2 r2 (ex_tr e1 g.eF) (hf rfl)

/-! ### what a loop walks -/
inductive Tg where
  | one (i : Nat) | many (is : List Nat)
/-- J gives the items xs, one by one, wherever G holds of the kept part and the heap; a pair made on the way is only for a target of several names -/
structure ItD (K : PySem.W.Frag) (G : Hp → Hp → Prop) (J : It) (xs : List D) (t : Tg) : Prop where
  go : ∀ k F H, G F H → Ex F H → k < xs.length → J.go k H
  yld : ∀ k F H d x H', G F H → Ex F H → J.yld k H x H' → xs[k]? = some d → (H' = H ∧ Rep K F x d) ∨ ((∃ is, t = .many is) ∧ ∃ p vs ds, H p = none ∧ H' = upd H p (.tup vs) ∧ x = .ref p ∧ d = .tup ds ∧ RepL K F vs ds)
  stop : ∀ F H, G F H → Ex F H → J.stop xs.length H
def tI (c : Cc) (t : Tg) (S : PSt) (xs : List D) (S1 : PSt) : TI := fun σ H Rk => ∃ F0 H0 F, R c F0 H0 F H σ S ∧ ∀ J F' H', R c F0 H0 F' H' σ S1 → Gr σ S S1 F H F' H' → ItD c.K (fun F2 _ => Ex F' F2) J xs t → Rk J H'
abbrev PId (X : Cx) (t : Tg) (tg iter : Expr) (S : PSt) (xs : List D) (S1 : PSt) : Prop := PI X tg iter (tI (ccOf X) t S xs S1)
/-- .. where the heap must go on to hold a list of the slot i -/
def tIo (c : Cc) (t : Tg) (S : PSt) (i : Nat) (xs : List D) (S1 : PSt) : TI := fun σ H Rk => ∃ F0 H0 F, R c F0 H0 F H σ S ∧ ∀ J F' H', R c F0 H0 F' H' σ S1 → Gr σ S S1 F H F' H' → (∃ p, σ[i]? = some (some (.ref p)) ∧ ItD c.K (fun F2 H2 => ∃ vs, H2 p = some (.lst vs) ∧ RepL c.K F2 vs xs) J xs t) → Rk J H'
abbrev PIo (X : Cx) (t : Tg) (tg iter : Expr) (S : PSt) (i : Nat) (xs : List D) (S1 : PSt) : Prop := PI X tg iter (tIo (ccOf X) t S i xs S1)
theorem piI {wi wi' : TI} (h : PI X tg iter wi) (i : ∀ σ H Q, wi' σ H Q → wi σ H Q) : PI X tg iter wi' := ⟨fun pins s σ H Q I q => h.run pins s σ H Q I (i σ H Q q)⟩
theorem itD_list {t : Tg} {K : PySem.W.Frag} {F1 : Hp} {a : Addr} {vs : List V} {xs : List D} (h : F1 a = some (.lst vs)) (r : RepL K F1 vs xs) : ItD K (fun F2 _ => Ex F1 F2) (Itl K a) xs t where
  go := fun k F H g e hk => by
    obtain ⟨x, hx, _⟩ := r.get (List.getElem?_eq_getElem hk)
    exact ⟨vs, x, SqL.of (e _ _ (g _ _ h)), hx⟩
  yld := fun k F H d x H' g e ⟨eH, y⟩ hd => by
    obtain ⟨x', hx, rx⟩ := r.get hd
    have := y vs (SqL.of (e _ _ (g _ _ h)))
    rw [hx] at this; cases this
    exact .inl ⟨eH, rx.mono g⟩
  stop := fun F H g e => ⟨vs, SqL.of (e _ _ (g _ _ h)), by rw [r.len]; exact Nat.le_refl _⟩
theorem itD_own {t : Tg} {K : PySem.W.Frag} {a : Addr} {xs : List D} : ItD K (fun F2 H2 => ∃ vs, H2 a = some (.lst vs) ∧ RepL K F2 vs xs) (Itl K a) xs t where
  go := fun k F H ⟨vs, h, r⟩ e hk => by
    obtain ⟨x, hx, _⟩ := r.get (List.getElem?_eq_getElem hk)
    exact ⟨vs, x, SqL.of h, hx⟩
  yld := fun k F H d x H' ⟨vs, h, r⟩ e ⟨eH, y⟩ hd => by
    obtain ⟨x', hx, rx⟩ := r.get hd
    have := y vs (SqL.of h)
    rw [hx] at this; cases this
    exact .inl ⟨eH, rx⟩
  stop := fun F H ⟨vs, h, r⟩ e => ⟨vs, SqL.of h, by rw [r.len]; exact Nat.le_refl _⟩
theorem itD_tup {t : Tg} {X : Cx} {F1 : Hp} {a : Addr} {vs : List V} {xs : List D} (h : SqT X.K F1 a vs) (r : RepL X.K F1 vs xs) : ItD X.K (fun F2 _ => Ex F1 F2) (Itt X.K a) xs t where
  go := fun k F H g e hk => by
    obtain ⟨x, hx, _⟩ := r.get (List.getElem?_eq_getElem hk)
    exact ⟨vs, x, Evl.ex_t e (Evl.ex_t g h), hx⟩
  yld := fun k F H d x H' g e ⟨eH, y⟩ hd => by
    obtain ⟨x', hx, rx⟩ := r.get hd
    have := y vs (Evl.ex_t e (Evl.ex_t g h))
    rw [hx] at this; cases this
    exact .inl ⟨eH, rx.mono g⟩
  stop := fun F H g e => ⟨vs, Evl.ex_t e (Evl.ex_t g h), by rw [r.len]; exact Nat.le_refl _⟩
theorem itD_rng {t : Tg} {K : PySem.W.Frag} {F1 : Hp} {lo : Int} {n : Nat} : ItD K (fun F2 _ => Ex F1 F2) (Itr lo n) ((List.range n).map fun (i : Nat) => D.int (lo + (i : Int))) t where
  go := fun k F H g e hk => by
    show k < n
    simpa using hk
  yld := fun k F H d x H' g e ⟨eH, ex⟩ hd => by
    rw [List.getElem?_map] at hd
    by_cases hk : k < n
    · rw [List.getElem?_range hk] at hd
      cases hd
      rw [ex]
      exact .inl ⟨eH, .int _⟩
    · rw [List.getElem?_eq_none (by simpa using hk)] at hd
      cases hd
  stop := fun F H g e => by show n ≤ _; simp
/-- for x in a kept list, a kept tuple -/
theorem pid_lst {t : Tg} {xs : List D} (h : PV X iter S (.dat (.lst xs)) S1) : PId X t tg iter S xs S1 := piI (pi_list h) fun σ H Q ⟨F0, H0, F, r, k⟩ => ⟨F0, H0, F, r, fun x F1 H1 r1 g z => by
  cases z with
  | lst h rl => exact ⟨_, rfl, ⟨_, SqL.of (r1.fh _ _ h)⟩, k _ F1 H1 r1 g (itD_list h rl)⟩⟩
theorem pid_tup {t : Tg} {xs : List D} (h : PV X iter S (.dat (.tup xs)) S1) : PId X t tg iter S xs S1 := piI (pi_tup h) fun σ H Q ⟨F0, H0, F, r, k⟩ => ⟨F0, H0, F, r, fun x F1 H1 r1 g z => by
  cases z with
  | tup h rl => exact ⟨_, rfl, ⟨_, Evl.ex_t r1.fh h.sq⟩, k _ F1 H1 r1 g (itD_tup h.sq rl)⟩⟩
theorem pio_lst {t : Tg} {xs : List D} {i : Nat} (h : PV X iter S (.own i) S1) (hi : S1.env[i]? = some (some (.lst xs))) : PIo X t tg iter S i xs S1 := piI (pi_list h) fun σ H Q ⟨F0, H0, F, r, k⟩ => ⟨F0, H0, F, r, fun x F1 H1 r1 g z => by
  obtain ⟨q, _⟩ := z
  obtain ⟨y, q', p, vs, rfl, hp, rl⟩ := r1.sl i _ hi
  rw [q] at q'; cases q'
  exact ⟨p, rfl, ⟨_, SqL.of hp⟩, k _ F1 H1 r1 g ⟨p, q, itD_own⟩⟩⟩
theorem pid_rng1 {t : Tg} {p : Pos} {n : Int} (hg : Gl X "range") (hm : X.mg "range" = none) (ha : PV X a S (.dat (.int n)) S1) (hn : -(2 ^ 62) ≤ n ∧ n < 2 ^ 62) (hs : starEach [a] X.env = [(false, eval a X.env)] := by rfl) :
    PId X t tg (.Call (.Name "range" p) [a] [] pos) S ((List.range n.toNat).map fun (i : Nat) => D.int (i : Int)) S1 := piI (pi_range1 hg hm (pvs_one ha hs) hs) fun σ H Q ⟨F0, H0, F, r, k⟩ => ⟨F0, H0, F, r, fun xs F1 H1 r1 g z => by
  cases z with
  | cons z1 z =>
    cases z
    refine ⟨n, by rw [rep_int z1], hn.1, hn.2, k _ F1 H1 r1 g ?_⟩
    have := itD_rng (t := t) (K := X.K) (F1 := F1) (lo := 0) (n := n.toNat)
    simp only [Int.zero_add] at this
    exact this⟩

/-! ### targets of loops -/
/-- a tuple, known whole or not -/
def RepW (K : PySem.W.Frag) (F : Hp) (v : V) (d : D) : Prop := Rep K F v d ∨ ∃ a vs ds, v = .ref a ∧ d = .tup ds ∧ SqT K F a vs ∧ RepL K F vs ds
def Tg.rep (K : PySem.W.Frag) (F : Hp) (v : V) (d : D) : Tg → Prop
  | .one _ => Rep K F v d
  | .many _ => RepW K F v d
theorem Tg.rep_of {K : PySem.W.Frag} {F : Hp} {v : V} {d : D} {t : Tg} (h : Rep K F v d) : t.rep K F v d := by
  cases t with
  | one i => exact h
  | many is => exact .inl h
theorem RepW.tup {K : PySem.W.Frag} {F : Hp} {v : V} {ds : List D} (h : RepW K F v (.tup ds)) : ∃ a vs, v = .ref a ∧ SqT K F a vs ∧ RepL K F vs ds := by
  rcases h with h | ⟨a, vs, ds', e1, e2, h1, h2⟩
  · cases h with
    | tup hq rl => exact ⟨_, _, rfl, hq.sq, rl⟩
  · cases e2; exact ⟨a, vs, e1, h1, h2⟩
def Tg.bind (S : PSt) : Tg → D → Option PSt
  | .one i, d => some (S.put i (some (.dat d)))
  | .many is, .tup ds => if is.length = ds.length then some (S.puts is ds) else none
  | .many _, _ => none
def gB (c : Cc) (t : Tg) (S : PSt) (d : D) : TG := fun v σ H Q => ∃ F0 H0 F S2, R c F0 H0 F H σ S ∧ t.rep c.K F v d ∧ t.bind S d = some S2 ∧ ∀ σ', R c F0 H0 F H σ' S2 → Q σ' H
/-- the target tg binds as t says -/
def TgOk (X : Cx) (tg : Expr) (t : Tg) : Prop := ∀ S d, PG X tg (gB (ccOf X) t S d)
theorem tg_one (i : Nat) {x : Str} {p : Pos} (hN : X.N.Nodup) (hi : X.N[i]? = some x) (hx : Loc X.env.scope x) (hf : X.fn x = true ∨ X.env.scope.names.lookup x = some .local := by first | exact .inl rfl | exact .inr rfl | assumption) : TgOk X (.Name x p) (.one i) := fun S d =>
  ⟨fun pins s σ H v u Q I r ⟨F0, H0, F, S2, rr, rd, e, k⟩ => (pg_name hN hi hx hf).run pins s σ H v u Q I r (by
    cases e
    exact k _ (rr.putD rd))⟩
theorem tg_many {is : List Nat} {k1 : Nat} {p1 : Pos} (hN : X.N.Nodup) (hcm : X.calm = true) (ht : Tgs X es is) (hn : (assignEach es X.env).length = is.length := by rfl) (hst : (assignEach es X.env).findIdx? (·.1) = none := by rfl) : TgOk X (.Tuple es k1 p1) (.many is) := fun S d => by
  refine ⟨fun pins s σ H v u Q I r ⟨F0, H0, F, S2, rr, rd, e, k⟩ => ?_⟩
  cases d with
  | tup ds =>
    have e' : (if is.length = ds.length then some (S.puts is ds) else none) = some S2 := e
    by_cases hl : is.length = ds.length
    · rw [if_pos hl] at e'
      cases e'
      refine (pg_tup hcm (pgs_puts (S := S) hN ht hl) hn hst).run pins s σ H v u Q I r ?_
      obtain ⟨a', vs', ev, hq, rl⟩ := RepW.tup rd
      exact ⟨a', vs', ev, Evl.ex_t rr.fh hq, by rw [rl.len, hl], F0, H0, F, rr, rl, k⟩
    · rw [if_neg hl] at e'; cases e'
  | _ => cases e

/-! ### for -/
/-- an item comes: the state with it -/
theorem R.item {c : Cc} {F0 H0 F H H' : Hp} {σ : L2.St} {S : PSt} {x : V} {d : D} {t : Tg} (r : R c F0 H0 F H σ S)
    (h : (H' = H ∧ Rep c.K F x d) ∨ ((∃ is, t = .many is) ∧ ∃ p vs ds, H p = none ∧ H' = upd H p (.tup vs) ∧ x = .ref p ∧ d = .tup ds ∧ RepL c.K F vs ds)) : ∃ F', R c F0 H0 F' H' σ S ∧ Ex F F' ∧ Gr σ S S F H F' H' ∧ t.rep c.K F' x d := by
  rcases h with ⟨rfl, rd⟩ | ⟨⟨is, rfl⟩, p, vs, ds, hp, rfl, rfl, rfl, rl⟩
  · exact ⟨F, r, Ex.rfl' F, Gr.rf, Tg.rep_of rd⟩
  · have e2 : Ex F (upd F p (.tup vs)) := ex_new (r.freeF hp)
    exact ⟨_, r.new hp, e2, gr_new (r.freeF hp) hp (r.free0 hp).2, .inr ⟨p, vs, ds, rfl, rfl, SqT.of upd_same, rl.mono e2⟩⟩
theorem ds_for (t : Tg) {xs : List D} (Inv : Nat → PSt → Prop) (Mid : PSt → Prop) (hp : PassesOwn (model X.prog X.w) X.A X.env X.xe) (hcm : X.calm = true) (hi : PId X t tg iter S xs S1) (ht : TgOk X tg t) (h0 : Inv 0 S1)
    (hs : ∀ k d S, xs[k]? = some d → Inv k S → ∃ S2, t.bind S d = some S2 ∧ PSd X body S2 { nx := Inv (k + 1), ct := Inv (k + 1), bk := Mid, rt := P.rt }) (hd : ∀ S, Inv xs.length S → Mid S) (h : ∀ S', Mid S' → PSd X rest S' P)
    (hf : ∀ x, foldedSetIterable iter X.env x = pure x := by intro _; rfl) : PSd X (.For tg iter body [] pos :: rest) S P := by
  have hg : PG X tg (fun v σ H Q => ∃ S d, gB (ccOf X) t S d v σ H Q) := ⟨fun pins s σ H v u Q I r ⟨S, d, q⟩ => (ht S d).run pins s σ H v u Q I r q⟩
  have hb : PSs X body (fun E σ H => ∃ k S2, PSd X body S2 { nx := Inv (k + 1), ct := Inv (k + 1), bk := Mid, rt := P.rt } ∧ tS (ccOf X) S2 { nx := Inv (k + 1), ct := Inv (k + 1), bk := Mid, rt := P.rt } E σ H) :=
    ⟨fun pins s σ H E I ⟨k, S2, h1, q⟩ => h1.run pins s σ H E I q⟩
  refine psd_cons (p := Mid) (ps_for hp hcm hi hg hb hf) h fun E σ H ⟨F0, H0, F, r, k1, k2, k3, k4⟩ => ?_
  refine ⟨F0, H0, F, r, fun J F1 H1 r1 g it => ?_⟩
  refine ⟨fun i m σ H => m = xs.length - i ∧ i ≤ xs.length ∧ ∃ F' S', R (ccOf X) F0 H0 F' H σ S' ∧ Ex F1 F' ∧ Inv i S', ⟨xs.length, rfl, Nat.zero_le _, F1, S1, r1, Ex.rfl' F1, h0⟩, ?_⟩
  rintro i m σ2 H2 ⟨rfl, hi, F2, S2, r2, e2, i2⟩
  by_cases hlt : i < xs.length
  · refine .inr ⟨it.go i F2 H2 e2 r2.fh hlt, fun σ' H' => ∃ F' S', R (ccOf X) F0 H0 F' H' σ' S' ∧ Ex F1 F' ∧ Inv (i + 1) S', fun σ' H' q => ⟨xs.length - (i + 1), by omega, rfl, hlt, q⟩, fun x H' y => ?_⟩
    obtain ⟨F3, r3, e3, _, rd⟩ := r2.item (it.yld i F2 H2 xs[i] x H' e2 r2.fh y (List.getElem?_eq_getElem hlt))
    obtain ⟨S3, eb, hbod⟩ := hs i xs[i] S2 (List.getElem?_eq_getElem hlt) i2
    refine ⟨S2, xs[i], F0, H0, F3, S3, r3, rd, eb, fun σ' r' => ⟨i, S3, hbod, F0, H0, F3, r', ?_, ?_, ?_, ?_⟩⟩
    · exact fun σ4 F4 H4 S4 r4 e4 i4 => ⟨F4, S4, r4, ex_tr e2 (ex_tr e3 e4), i4⟩
    · exact fun x F4 H4 d w r4 e4 => k2 x F4 H4 d w r4 (ex_tr g.eF (ex_tr e2 (ex_tr e3 e4)))
    · exact fun σ4 F4 H4 S4 r4 e4 hM => k1 σ4 F4 H4 S4 r4 (ex_tr g.eF (ex_tr e2 (ex_tr e3 e4))) hM
    · exact fun σ4 F4 H4 S4 r4 e4 i4 => ⟨F4, S4, r4, ex_tr e2 (ex_tr e3 e4), i4⟩
  · have e : i = xs.length := by omega
    subst e
    exact .inl ⟨it.stop F2 H2 e2 r2.fh, k1 σ2 F2 H2 S2 r2 (ex_tr g.eF e2) (hd S2 i2)⟩
end
end PL
/-! The pure layer, G: comprehensions, calls, defs by data. -/
namespace PL
open PySem PySem.Spec PyProof.Rows L2

/-! ### comprehensions -/
def wipeE (env : List (Option Sl)) : List Nat → List (Option Sl)
  | [] => env
  | v :: vs => (wipeE env vs).set v none
theorem wipeE_get {env : List (Option Sl)} {j : Nat} {s : Sl} : ∀ {vs : List Nat}, (wipeE env vs)[j]? = some (some s) → env[j]? = some (some s) ∧ j ∉ vs
  | [], h => ⟨h, by simp⟩
  | v :: vs, h => by
    rcases get_set h with ⟨_, e, _⟩ | ⟨ne, e⟩
    · cases e
    · obtain ⟨h1, h2⟩ := wipeE_get e
      exact ⟨h1, by simp; exact ⟨fun z => ne z.symm, h2⟩⟩
theorem wipeE_length (env : List (Option Sl)) : ∀ vs : List Nat, (wipeE env vs).length = env.length
  | [] => rfl
  | v :: vs => by unfold wipeE; rw [List.length_set, wipeE_length env vs]
theorem wipe_get {σ : L2.St} {j : Nat} : ∀ {vs : List Nat}, j ∉ vs → (wipe σ vs)[j]? = σ[j]?
  | [], _ => rfl
  | v :: vs, h => by
    simp at h
    unfold wipe
    rw [List.getElem?_set_ne (Ne.symm h.1), wipe_get h.2]
theorem R.wipe {c : Cc} {F0 H0 F H : Hp} {σ : L2.St} {S : PSt} (r : R c F0 H0 F H σ S) (vs : List Nat) : R c F0 H0 F H (L2.wipe σ vs) ⟨wipeE S.env vs, S.w⟩ :=
  r.weak (by rw [wipe_length, wipeE_length]; exact r.len) fun i s e => ⟨(wipeE_get e).1, wipe_get (wipeE_get e).2⟩
/-- wiping forgets what a target of the block stored -/
theorem wipe_set (σ : L2.St) (x : Option V) : ∀ {vs : List Nat} {i : Nat}, i ∈ vs → L2.wipe ((L2.wipe σ vs).set i x) vs = L2.wipe σ vs := by
  have key : ∀ (σ τ : L2.St) (vs : List Nat), σ.length = τ.length → (∀ j, j ∉ vs → σ[j]? = τ[j]?) → L2.wipe σ vs = L2.wipe τ vs := by
    intro σ τ vs hl h
    apply List.ext_getElem?
    intro j
    by_cases hj : j ∈ vs
    · have z : ∀ (ρ : L2.St) (us : List Nat), j ∈ us → (L2.wipe ρ us)[j]? = if j < ρ.length then some none else none := by
        intro ρ us
        induction us with
        | nil => intro h; simp at h
        | cons v us ih =>
          intro h
          unfold L2.wipe
          by_cases e : v = j
          · subst e
            by_cases hv : v < ρ.length
            · rw [List.getElem?_set_self (by rw [wipe_length]; exact hv), if_pos hv]
            · rw [List.getElem?_eq_none (by rw [List.length_set, wipe_length]; omega), if_neg hv]
          · rw [List.getElem?_set_ne e]
            exact ih (by simp at h; rcases h with h | h; exact absurd h.symm e; exact h)
      rw [z σ vs hj, z τ vs hj, hl]
    · rw [wipe_get hj, wipe_get hj, h j hj]
  intro vs i hi
  refine key _ _ vs (by rw [List.length_set, wipe_length]) fun j hj => ?_
  rw [List.getElem?_set_ne (show i ≠ j from fun e => hj (by rw [← e]; exact hi)), wipe_get hj]
def Tg.slots : Tg → List Nat
  | .one i => [i]
  | .many is => is
theorem puts_get {is : List Nat} : ∀ {ds : List D} {S : PSt} {j : Nat}, j ∉ is → (S.puts is ds).env[j]? = S.env[j]? := by
  induction is with
  | nil => intro ds S j _; cases ds <;> rfl
  | cons i is ih =>
    intro ds S j h
    cases ds with
    | nil => rfl
    | cons d ds =>
      simp at h
      show ((S.put i (some (.dat d))).puts is ds).env[j]? = _
      rw [ih h.2]
      exact List.getElem?_set_ne (Ne.symm h.1)
theorem puts_own {is : List Nat} : ∀ {ds : List D} {S : PSt} {j : Nat} {s : Sl}, (S.puts is ds).env[j]? = some (some s) → s.own = true → S.env[j]? = some (some s) := by
  induction is with
  | nil => intro ds S j s h _; cases ds <;> exact h
  | cons i is ih =>
    intro ds S j s h o
    cases ds with
    | nil => exact h
    | cons d ds =>
      have h2 := ih (S := S.put i (some (.dat d))) h o
      rcases get_set h2 with ⟨_, e, _⟩ | ⟨_, e⟩
      · cases e; cases o
      · exact e
theorem puts_w {is : List Nat} : ∀ {ds : List D} {S : PSt}, (S.puts is ds).w = S.w := by
  induction is with
  | nil => intro ds S; cases ds <;> rfl
  | cons i is ih => intro ds S; cases ds with
    | nil => rfl
    | cons d ds => exact ih (S := S.put i (some (.dat d)))
theorem bind_get {t : Tg} {S S2 : PSt} {d : D} (h : t.bind S d = some S2) {j : Nat} (hj : j ∉ t.slots) : S2.env[j]? = S.env[j]? := by
  cases t with
  | one i =>
    cases h
    exact List.getElem?_set_ne (fun e => hj (by simp [Tg.slots, e]))
  | many is =>
    cases d with
    | tup ds =>
      have h' : (if is.length = ds.length then some (S.puts is ds) else none) = some S2 := h
      split at h'
      · cases h'; exact puts_get hj
      · cases h'
    | _ => cases h
theorem bind_own {t : Tg} {S S2 : PSt} {d : D} (h : t.bind S d = some S2) {j : Nat} {s : Sl} (e : S2.env[j]? = some (some s)) (o : s.own = true) : S.env[j]? = some (some s) := by
  cases t with
  | one i =>
    cases h
    rcases get_set e with ⟨_, e', _⟩ | ⟨_, e'⟩
    · cases e'; cases o
    · exact e'
  | many is =>
    cases d with
    | tup ds =>
      have h' : (if is.length = ds.length then some (S.puts is ds) else none) = some S2 := h
      split at h'
      · cases h'; exact puts_own e o
      · cases h'
    | _ => cases h
theorem bind_w {t : Tg} {S S2 : PSt} {d : D} (h : t.bind S d = some S2) : S2.w = S.w := by
  cases t with
  | one i => cases h; rfl
  | many is =>
    cases d with
    | tup ds =>
      have h' : (if is.length = ds.length then some (S.puts is ds) else none) = some S2 := h
      split at h'
      · cases h'; exact puts_w
      · cases h'
    | _ => cases h

section
variable {X : Cx} {st : Stmt} {sts rest body : List Stmt} {e a b iter tg elt : Expr} {es ifs : List Expr} {S S1 S2 : PSt} {P : Post} {v : Vl} {pos : Pos}

/-- a target whose stores the wipe of vs forgets -/
def gW (c : Cc) (t : Tg) (vs : List Nat) (S : PSt) (d : D) : TG := fun v σ H Q => ∃ F0 H0 F S2, R c F0 H0 F H σ S ∧ t.rep c.K F v d ∧ t.bind S d = some S2 ∧ ∀ σ', R c F0 H0 F H σ' S2 → (∀ τ : L2.St, σ = L2.wipe τ vs → L2.wipe σ' vs = L2.wipe τ vs) → Q σ' H
def TgW (X : Cx) (tg : Expr) (t : Tg) (vs : List Nat) : Prop := ∀ S d, PG X tg (gW (ccOf X) t vs S d)
theorem tw_one (i : Nat) {x : Str} {p : Pos} {vs : List Nat} (hN : X.N.Nodup) (hi : X.N[i]? = some x) (hx : Loc X.env.scope x) (hv : i ∈ vs) (hf : X.fn x = true ∨ X.env.scope.names.lookup x = some .local := by first | exact .inl rfl | exact .inr rfl | assumption) : TgW X (.Name x p) (.one i) vs := fun S d =>
  ⟨fun pins s σ H v u Q I r ⟨F0, H0, F, S2, rr, rd, e, k⟩ => (pg_name hN hi hx hf).run pins s σ H v u Q I r (by
    cases e
    exact k _ (rr.putD rd) fun τ e => by rw [e]; exact wipe_set τ _ hv)⟩
theorem wipe_idem (τ : L2.St) (vs : List Nat) : L2.wipe (L2.wipe τ vs) vs = L2.wipe τ vs := by
  apply List.ext_getElem?
  intro j
  by_cases hj : j ∈ vs
  · have := wipe_set τ none (vs := vs) hj
    have e1 : (L2.wipe τ vs).set j none = L2.wipe τ vs := by
      apply List.ext_getElem?
      intro l
      by_cases hl : j = l
      · subst hl
        by_cases hlt : j < (L2.wipe τ vs).length
        · rw [List.getElem?_set_self hlt]
          cases q : (L2.wipe τ vs)[j]? with
          | none => rw [List.getElem?_eq_none_iff] at q; omega
          | some z =>
            cases z with
            | none => rfl
            | some y => exact absurd hj (wipe_some q).2
        · rw [List.getElem?_eq_none (by rw [List.length_set]; omega), List.getElem?_eq_none (by omega)]
      · rw [List.getElem?_set_ne hl]
    rw [e1] at this
    rw [this]
  · rw [wipe_get hj]
/-- sets at the slots is -/
def setsV (σ : L2.St) : List Nat → List V → L2.St
  | i :: is, x :: xs => setsV (σ.set i (some x)) is xs
  | _, _ => σ
theorem wipe_sets {vs : List Nat} : ∀ {is : List Nat} {xs : List V} {σ τ : L2.St}, (∀ i ∈ is, i ∈ vs) → L2.wipe σ vs = L2.wipe τ vs → L2.wipe (setsV σ is xs) vs = L2.wipe τ vs
  | [], _, σ, τ, _, h => h
  | _ :: _, [], σ, τ, _, h => h
  | i :: is, x :: xs, σ, τ, hi, h => by
    refine wipe_sets (σ := σ.set i (some x)) (fun j hj => hi j (List.mem_cons_of_mem _ hj)) ?_
    rw [← h]
    apply List.ext_getElem?
    intro j
    have hiv := hi i List.mem_cons_self
    by_cases hj : j ∈ vs
    · have z : ∀ (ρ : L2.St) (us : List Nat), j ∈ us → (L2.wipe ρ us)[j]? = if j < ρ.length then some none else none := by
        intro ρ us
        induction us with
        | nil => intro h; simp at h
        | cons v us ih =>
          intro h
          unfold L2.wipe
          by_cases e : v = j
          · subst e
            by_cases hv : v < ρ.length
            · rw [List.getElem?_set_self (by rw [wipe_length]; exact hv), if_pos hv]
            · rw [List.getElem?_eq_none (by rw [List.length_set, wipe_length]; omega), if_neg hv]
          · rw [List.getElem?_set_ne e]
            exact ih (by simp at h; rcases h with h | h; exact absurd h.symm e; exact h)
      rw [z _ vs hj, z _ vs hj, List.length_set]
    · rw [wipe_get hj, wipe_get hj, List.getElem?_set_ne (show i ≠ j from fun e => hj (by rw [← e]; exact hiv))]
def gPutsW (c : Cc) (is : List Nat) (ds : List D) (S : PSt) : TGs := fun vs σ H Q => ∃ F0 H0 F, R c F0 H0 F H σ S ∧ RepL c.K F vs ds ∧ (R c F0 H0 F H (setsV σ is vs) (S.puts is ds) → Q (setsV σ is vs) H)
theorem pgs_putsW (hN : X.N.Nodup) : ∀ {es : List Expr} {is : List Nat} {ds : List D} {S : PSt}, Tgs X es is → is.length = ds.length → PGs X es (gPutsW (ccOf X) is ds S)
  | _, _, [], S, .nil, _ => ⟨fun pins s σ H vs us Q I r h => pgs_nil.run pins s σ H vs us Q I r (by
    obtain ⟨F0, H0, F, rr, rl, k⟩ := h
    cases rl
    exact ⟨rfl, k rr⟩)⟩
  | _, _, d :: ds, S, .cons hi hx hf h, hl => ⟨fun pins s σ H vs us Q I r hh => (pgs_cons (pg_name hN hi hx hf) (pgs_putsW hN (S := S.put _ (some (.dat d))) h (by simpa using hl))).run pins s σ H vs us Q I r (by
    obtain ⟨F0, H0, F, rr, rl, k⟩ := hh
    cases rl with
    | cons h1 rl => exact ⟨_, _, rfl, F0, H0, F, rr.putD h1, rl, k⟩)⟩
  | _, _, [], S, .cons hi hx hf h, hl => by simp at hl
  | _, _, _ :: _, S, .nil, hl => by simp at hl
theorem tw_many {is vs : List Nat} {k1 : Nat} {p1 : Pos} (hN : X.N.Nodup) (hcm : X.calm = true) (ht : Tgs X es is) (hv : ∀ i ∈ is, i ∈ vs) (hn : (assignEach es X.env).length = is.length := by rfl) (hst : (assignEach es X.env).findIdx? (·.1) = none := by rfl) : TgW X (.Tuple es k1 p1) (.many is) vs := fun S d => by
  refine ⟨fun pins s σ H v u Q I r ⟨F0, H0, F, S2, rr, rd, e, k⟩ => ?_⟩
  cases d with
  | tup ds =>
    have e' : (if is.length = ds.length then some (S.puts is ds) else none) = some S2 := e
    by_cases hl : is.length = ds.length
    · rw [if_pos hl] at e'
      cases e'
      refine (pg_tup hcm (pgs_putsW (S := S) hN ht hl) hn hst).run pins s σ H v u Q I r ?_
      obtain ⟨a', vs', ev, hq, rl⟩ := RepW.tup rd
      exact ⟨a', vs', ev, Evl.ex_t rr.fh hq, by rw [rl.len, hl], F0, H0, F, rr, rl, fun r' => k _ r' fun τ et => wipe_sets hv (by rw [et, wipe_idem])⟩
    · rw [if_neg hl] at e'; cases e'
  | _ => cases e

abbrev PTsd (X : Cx) (ifs : List Expr) (S : PSt) (z : Bool) (S1 : PSt) : Prop := PTs X ifs (tT (ccOf X) S z S1)
theorem tds_nil : PTsd X [] S true S := ⟨fun pins s σ H Q I ⟨F0, H0, F, r, k⟩ => pts_nil.run pins s σ H Q I (k F H r Gr.rf)⟩
theorem tds_one {z : Bool} (h : PTd X e S z S1) : PTsd X [e] S z S1 := pts_one h

/-- the turns of a comprehension: what has come (acc) and the law's state, by the turn -/
structure Turns (X : Cx) (scope : Scope) (tg elt : Expr) (ifs : List Expr) (t : Tg) (vs : List Nat) (env : List (Option Sl)) (xs : List D) (Inv : Nat → List D → Option WS → Prop) : Prop where
  tg : ∀ (s : Shared) (H : Hp) (C : Addr) (cl : List (Str × Addr)) (fp : List Addr), TgW (X.blk s H scope (compEnvC scope cl C X.env) fp) tg t vs
  turn : ∀ k d acc w, xs[k]? = some d → Inv k acc w → acc.length ≤ k → ∃ S2 z, t.bind ⟨wipeE env vs, w⟩ d = some S2 ∧
    (∀ (s : Shared) (H : Hp) (C : Addr) (cl : List (Str × Addr)) (fp : List Addr), PTsd (X.blk s H scope (compEnvC scope cl C X.env) fp) ifs S2 z S2) ∧
    (z = false → Inv (k + 1) acc w) ∧ (z = true → ∃ y w', w'.map (·.sa) = w.map (·.sa) ∧ (∀ (s : Shared) (H : Hp) (C : Addr) (cl : List (Str × Addr)) (fp : List Addr), PV (X.blk s H scope (compEnvC scope cl C X.env) fp) elt S2 (.dat y) ⟨S2.env, w'⟩) ∧ Inv (k + 1) (acc ++ [y]) w')
/-- none of these slots holds an object of its own -/
def noOwn (env : List (Option Sl)) (vs : List Nat) : Bool := vs.all fun i => match env[i]? with
  | some (some s) => !s.own
  | _ => true
theorem noOwn_ok {env : List (Option Sl)} {vs : List Nat} (h : noOwn env vs = true) {i : Nat} {s : Sl} (hi : i ∈ vs) (e : env[i]? = some (some s)) : s.own = false := by
  have h2 := List.all_eq_true.mp h i hi
  rw [e] at h2
  simpa using h2
/-- behind a block's turn: the state outside -/
theorem R.out {c : Cc} {F0 H0 F H F' H' : Hp} {σ σ2 : L2.St} {env env2 : List (Option Sl)} {w w' : Option WS} {vs : List Nat} (r : R c F0 H0 F H σ ⟨env, w⟩) (r2 : R c F0 H0 F' H' σ2 ⟨env2, w'⟩) (eF : Ex F F') (eH : ∀ a o, H a = some o → ¬ InW w a → H' a = some o ∧ ¬ InW w' a)
    (hw : w'.map (·.sa) = w.map (·.sa)) (hn : noOwn env vs = true) (hs : ∀ (i : Nat) s, i ∉ vs → env[i]? = some (some s) → s.own = true → env2[i]? = some (some s)) (hσ : ∀ i : Nat, i ∉ vs → σ2[i]? = σ[i]?) : R c F0 H0 F' H' σ ⟨env, w'⟩ := by
  have nov : ∀ (i : Nat) s, env[i]? = some (some s) → s.own = true → i ∉ vs := fun i s e o hi => by
    rw [noOwn_ok hn hi e] at o; cases o
  refine ⟨r.len, r2.fh, r2.ff, r2.hh, r2.nw, fun i s e => ?_, fun i s p e o q => ?_, r.dis, r2.ws⟩
  · obtain ⟨x, q, k⟩ := r.sl i s e
    refine ⟨x, q, ?_⟩
    cases s with
    | dat d => exact Rep.mono eF k
    | st =>
      obtain ⟨ws, e1, e2⟩ := k
      have e1' : w = some ws := e1
      rw [e1'] at hw
      cases qw : w' with
      | none => rw [qw] at hw; cases hw
      | some ws' =>
        rw [qw] at hw
        have e3 : ws'.sa = ws.sa := Option.some.inj hw
        exact ⟨ws', rfl, by rw [e3]; exact e2⟩
    | lst ds =>
      obtain ⟨p, ys, rfl, h1, h2⟩ := k
      exact ⟨p, ys, rfl, (eH p _ h1 (r.own i _ p e rfl q).2.2).1, h2.mono eF⟩
    | dicI kvs =>
      obtain ⟨p, ys, rfl, h1, h2⟩ := k
      exact ⟨p, ys, rfl, (eH p _ h1 (r.own i _ p e rfl q).2.2).1, h2.mono eF⟩
    | dicN kvs =>
      obtain ⟨p, ys, rfl, h1, h2⟩ := k
      exact ⟨p, ys, rfl, (eH p _ h1 (r.own i _ p e rfl q).2.2).1, h2.mono eF⟩
  · have hi := nov i s e o
    exact r2.own i s p (hs i s hi e o) o (by rw [hσ i hi]; exact q)
/-- THE COMPREHENSION, its reading: J gives xs wherever G holds -/
theorem lc_read {c : Cc} {F0 H0 F1 H1 : Hp} {σ : L2.St} {env : List (Option Sl)} {w0 : Option WS} {G : Hp → Hp → Prop} {J : It} {xs : List D} {t : Tg} {vs : List Nat} {Inv : Nat → List D → Option WS → Prop} {Qd : V → Hp → Prop} {g : TG} {tt : TT} {te : TE} {Dl : Addr}
    (r1 : R c F0 H0 F1 H1 σ ⟨env, w0⟩) (it : ItD c.K G J xs t) (hG : ∀ F H w, R c F0 H0 F H σ ⟨env, w⟩ → Ex F1 F → G F H) (hn : noOwn env vs = true) (hts : ∀ i ∈ t.slots, i ∈ vs) (hD : H1 Dl = none) (hl : xs.length ≤ 1000000) (h0 : Inv 0 [] w0)
    (turn : ∀ k d acc w, xs[k]? = some d → Inv k acc w → acc.length ≤ k → ∃ S2 z, t.bind ⟨wipeE env vs, w⟩ d = some S2 ∧
      (∀ x σ H Q, gW c t vs ⟨wipeE env vs, w⟩ d x σ H Q → g x σ H Q) ∧ (∀ σ H Q, tT c S2 z S2 σ H Q → tt σ H Q) ∧
      (z = false → Inv (k + 1) acc w) ∧ (z = true → ∃ y w', w'.map (·.sa) = w.map (·.sa) ∧ (∀ σ H Q, tV c S2 (.dat y) ⟨S2.env, w'⟩ σ H Q → te σ H Q) ∧ Inv (k + 1) (acc ++ [y]) w'))
    (hd : ∀ F' H' acc wf, R c F0 H0 F' H' σ ⟨env, wf⟩ → Gr σ ⟨env, w0⟩ ⟨env, wf⟩ F1 H1 F' H' → SlOk c F' H' wf (.ref Dl) (.lst acc) → Loose H0 F' σ ⟨env, wf⟩ (.ref Dl) → Inv xs.length acc wf → Qd (.ref Dl) H') :
    ∃ W : Nat → Nat → Hp → Prop, (∃ m, W 0 m (upd H1 Dl (.lst []))) ∧ ∀ i m H, W i m H →
      (J.stop i H ∧ Qd (.ref Dl) H) ∨ (J.go i H ∧ ∃ Nx : Hp → Prop, (∀ H', Nx H' → ∃ m', m' < m ∧ W (i + 1) m' H') ∧ ∀ x H', J.yld i H x H' → g x (L2.wipe σ vs) H' fun σ2 H2 => L2.wipe σ2 vs = L2.wipe σ vs ∧ tt σ2 H2 fun b H3 =>
        if b = true then te σ2 H3 fun y H4 => ∃ acc, H4 Dl = some (.lst acc) ∧ acc.length < sizeLine ∧ Nx (upd H4 Dl (.lst (acc ++ [y]))) else Nx H3) := by
  have lo := loose_new (o := .lst []) r1 hD
  obtain ⟨pD, epD, a1, a2, a3, a4⟩ := lo
  cases epD
  -- the invariant
  let St : Nat → Hp → Prop := fun i H => ∃ F w acc ys, R c F0 H0 F H σ ⟨env, w⟩ ∧ Gr σ ⟨env, w0⟩ ⟨env, w⟩ F1 H1 F H ∧ w.map (·.sa) = w0.map (·.sa) ∧ H Dl = some (.lst ys) ∧ RepL c.K F ys acc ∧ F Dl = none ∧ ¬ InW w Dl ∧ Inv i acc w ∧ acc.length ≤ i
  refine ⟨fun i m H => m = xs.length - i ∧ i ≤ xs.length ∧ St i H, ⟨xs.length, rfl, Nat.zero_le _, F1, w0, [], [], r1.tmp hD, gr_tmp hD, rfl, upd_same, .nil, a1, a3, h0, Nat.le_refl _⟩, ?_⟩
  rintro i m H ⟨rfl, hi, F, w, acc, ys, r, g1, hw, hDl, rl, fD, nD, inv, hacc⟩
  have gG := hG F H w r g1.eF
  by_cases hlt : i < xs.length
  · refine .inr ⟨it.go i F H gG r.fh hlt, St (i + 1), fun H' q => ⟨xs.length - (i + 1), by omega, rfl, hlt, q⟩, fun x H' y => ?_⟩
    have hx := List.getElem?_eq_getElem hlt
    obtain ⟨S2, z, eb, hg, htt, hzf, hzt⟩ := turn i xs[i] acc w hx inv hacc
    obtain ⟨F3, r3, e3, g3, rd⟩ := r.item (it.yld i F H xs[i] x H' gG r.fh y hx)
    have hDl3 : H' Dl = some (.lst ys) := (g3.eH Dl _ hDl nD).1
    have fD3 : F3 Dl = none := by
      cases q : F3 Dl with
      | none => rfl
      | some u =>
        rcases g3.nF Dl fD (by rw [q]; simp) with z | ⟨j, s, e, o, z⟩
        · rw [hDl] at z; cases z
        · exact absurd z (a4 j s e o)
    have ws2 : S2.w = w := bind_w eb
    -- slots of their own in the block
    have ownb : ∀ (j : Nat) s, S2.env[j]? = some (some s) → s.own = true → env[j]? = some (some s) ∧ j ∉ vs := fun j s e o => wipeE_get (bind_own eb e o)
    refine hg x _ H' _ ⟨F0, H0, F3, S2, r3.wipe vs, rd, eb, fun σ2 r4 hw2 => ⟨hw2 σ rfl, htt σ2 H' _ ⟨F0, H0, F3, r4, fun F5 H5 r5 g5 => ?_⟩⟩⟩
    have hσ : ∀ j : Nat, j ∉ vs → σ2[j]? = σ[j]? := fun j hj => by
      have e1 := hw2 σ rfl
      rw [← wipe_get (σ := σ2) hj, e1, wipe_get hj]
    have nDS2 : ¬ InW S2.w Dl := by rw [ws2]; exact nD
    have loS2 : ∀ (j : Nat) s, S2.env[j]? = some (some s) → s.own = true → σ2[j]? ≠ some (some (.ref Dl)) := fun j s e o q => by
      obtain ⟨e1, hj⟩ := ownb j s e o
      rw [hσ j hj] at q
      exact a4 j s e1 o q
    have hs2 : ∀ (j : Nat) s, j ∉ vs → env[j]? = some (some s) → s.own = true → S2.env[j]? = some (some s) := fun j s hj e o => by
      rw [bind_get eb (fun z => hj (hts j z))]
      have z : ∀ us : List Nat, j ∉ us → (wipeE env us)[j]? = env[j]? := by
        intro us
        induction us with
        | nil => intro _; rfl
        | cons v us ih =>
          intro h
          simp at h
          unfold wipeE
          rw [List.getElem?_set_ne (Ne.symm h.1), ih h.2]
      rw [z vs hj]
      exact e
    -- from the block's turn to the state outside
    have outer : ∀ {F6 H6 : Hp} {w' : Option WS}, R c F0 H0 F6 H6 σ2 ⟨S2.env, w'⟩ → Gr σ2 S2 ⟨S2.env, w'⟩ F3 H' F6 H6 → w'.map (·.sa) = w.map (·.sa) → R c F0 H0 F6 H6 σ ⟨env, w'⟩ ∧ Gr σ ⟨env, w0⟩ ⟨env, w'⟩ F1 H1 F6 H6 ∧ H6 Dl = some (.lst ys) ∧ F6 Dl = none ∧ ¬ InW w' Dl := fun {F6 H6 w'} r6 g6 hw' => by
      have gb : Gr σ ⟨env, w⟩ ⟨env, w'⟩ F3 H' F6 H6 := by
        refine ⟨g6.eF, fun a o h n => g6.eH a o h (by rw [ws2]; exact n), fun a n h => ?_, fun a h => g6.sw a (by rw [ws2]; exact h), fun _ _ h _ => h⟩
        rcases g6.nF a n h with z | ⟨j, s, e, o, z⟩
        · exact .inl z
        · obtain ⟨e1, hj⟩ := ownb j s e o
          exact .inr ⟨j, s, e1, o, by rw [← hσ j hj]; exact z⟩
      have rr := R.out r3 r6 gb.eF gb.eH hw' hn hs2 hσ
      have hd6 := g6.eH Dl _ hDl3 nDS2
      refine ⟨rr, (g1.tr r (g3.tr r3 gb)), hd6.1, ?_, hd6.2⟩
      cases q : F6 Dl with
      | none => rfl
      | some u =>
        rcases g6.nF Dl fD3 (by rw [q]; simp) with z | ⟨j, s, e, o, z⟩
        · rw [hDl3] at z; cases z
        · exact absurd z (loS2 j s e o)
    cases z with
    | false =>
      refine iteF ?_
      have hw5 : S2.w.map (·.sa) = w.map (·.sa) := by rw [ws2]
      obtain ⟨q1, q2, q3, q4, q5⟩ := outer (w' := S2.w) r5 g5 hw5
      rw [ws2] at q1 q2 q5
      exact ⟨F5, w, acc, ys, q1, q2, hw, q3, rl.mono (ex_tr e3 g5.eF), q4, q5, hzf rfl, Nat.le_succ_of_le hacc⟩
    | true =>
      refine iteT ?_
      obtain ⟨yv, w', hw', hte, inv'⟩ := hzt rfl
      refine hte σ2 H5 _ ⟨F0, H0, F5, r5, fun v F6 H6 r6 g6 rv => ?_⟩
      have g56 := g5.tr r5 g6
      obtain ⟨q1, q2, q3, q4, q5⟩ := outer r6 g56 hw'
      have lo6 : ∀ (j : Nat) s, env[j]? = some (some s) → s.own = true → σ[j]? ≠ some (some (.ref Dl)) := a4
      refine ⟨ys, q3, Nat.lt_of_le_of_lt (by rw [rl.len]; omega) (by rw [sizeLine_eq]; omega : 1000000 < sizeLine), ?_⟩
      refine ⟨F6, w', acc ++ [yv], ys ++ [v], q1.loose (.inr ⟨q4, a2, q5, lo6⟩), ?_, hw'.trans hw, upd_same, (rl.mono (ex_tr e3 (ex_tr g5.eF g6.eF))).snoc rv, q4, q5, inv', by rw [List.length_append]; simp; exact hacc⟩
      refine ⟨q2.eF, fun a o h n => ?_, q2.nF, q2.sw, q2.so⟩
      rw [upd_ne (ne_of_none h hD)]
      exact q2.eH a o h n
  · have e : i = xs.length := by omega
    subst e
    exact .inl ⟨it.stop F H gG r.fh, hd F H acc w r g1 ⟨Dl, ys, rfl, hDl, rl⟩ ⟨Dl, rfl, fD, a2, nD, a4⟩ inv⟩
end
end PL
/-! The pure layer, H: comprehensions as expressions, calls, defs. -/
namespace PL
open PySem PySem.Spec PyProof.Rows L2
section
variable {X : Cx} {st : Stmt} {sts rest body : List Stmt} {e a b iter tg elt : Expr} {es ifs : List Expr} {S S1 S2 : PSt} {P : Post} {v : Vl} {pos : Pos}

/-! ### comprehensions -/
def lcG (X : Cx) (t : Tg) (vs : List Nat) : TG := fun x σ H Q => ∃ S2 d, gW (ccOf X) t vs S2 d x σ H Q
def lcT (X : Cx) (scope : Scope) (ifs : List Expr) : TT := fun σ H Q => ∃ S2 z, (∀ (s : Shared) (H : Hp) (C : Addr) (cl : List (Str × Addr)) (fp : List Addr), PTsd (X.blk s H scope (compEnvC scope cl C X.env) fp) ifs S2 z S2) ∧ tT (ccOf X) S2 z S2 σ H Q
def lcE (X : Cx) (scope : Scope) (elt : Expr) : TE := fun σ H Q => ∃ S2 y w', (∀ (s : Shared) (H : Hp) (C : Addr) (cl : List (Str × Addr)) (fp : List Addr), PV (X.blk s H scope (compEnvC scope cl C X.env) fp) elt S2 (.dat y) ⟨S2.env, w'⟩) ∧ tV (ccOf X) S2 (.dat y) ⟨S2.env, w'⟩ σ H Q
theorem lc_core_read {scope : Scope} {t : Tg} {vs : List Nat} {xs : List D} {Inv : Nat → List D → Option WS → Prop} {out : List D} {wf : Option WS} {G : Hp → Hp → Prop} {J : It} {F0 H0 F1 H1 F H : Hp} {σ : L2.St} {Q : VK} {Dl : Addr}
    (hT : Turns X scope tg elt ifs t vs S1.env xs Inv) (hn : noOwn S1.env vs = true) (hts : ∀ i ∈ t.slots, i ∈ vs) (hl : xs.length ≤ 1000000) (h0 : Inv 0 [] S1.w) (hd : ∀ acc w, Inv xs.length acc w → acc = out ∧ w = wf)
    (r : R (ccOf X) F0 H0 F H σ S) (r1 : R (ccOf X) F0 H0 F1 H1 σ S1) (g : Gr σ S S1 F H F1 H1) (it : ItD X.K G J xs t) (hG : ∀ F H w, R (ccOf X) F0 H0 F H σ ⟨S1.env, w⟩ → Ex F1 F → G F H) (hD : H1 Dl = none)
    (k : ∀ x F' H', R (ccOf X) F0 H0 F' H' σ ⟨S1.env, wf⟩ → Gr σ S ⟨S1.env, wf⟩ F H F' H' → VlOk (ccOf X) H0 H F' H' σ ⟨S1.env, wf⟩ x (.new (.lst out)) → Q x H') :
    ∃ W : Nat → Nat → Hp → Prop, (∃ m, W 0 m (upd H1 Dl (.lst []))) ∧ ∀ i m H, W i m H →
      (J.stop i H ∧ Q (.ref Dl) H) ∨ (J.go i H ∧ ∃ Nx : Hp → Prop, (∀ H', Nx H' → ∃ m', m' < m ∧ W (i + 1) m' H') ∧ ∀ x H', J.yld i H x H' → lcG X t vs x (L2.wipe σ vs) H' fun σ2 H2 => L2.wipe σ2 vs = L2.wipe σ vs ∧ lcT X scope ifs σ2 H2 fun b H3 =>
        if b = true then lcE X scope elt σ2 H3 fun y H4 => ∃ acc, H4 Dl = some (.lst acc) ∧ acc.length < sizeLine ∧ Nx (upd H4 Dl (.lst (acc ++ [y]))) else Nx H3) := by
  refine lc_read (env := S1.env) (w0 := S1.w) (t := t) (Inv := Inv) r1 it hG hn hts hD hl h0 (fun k d acc w hx inv ha => ?_) fun F' H' acc w' r' g' sl lo inv => ?_
  · obtain ⟨S2, z, eb, hi, hf, ht⟩ := hT.turn k d acc w hx inv ha
    refine ⟨S2, z, eb, fun x σ H Q q => ⟨_, d, q⟩, fun σ H Q q => ⟨S2, z, hi, q⟩, hf, fun hz => ?_⟩
    obtain ⟨y, w', e1, he, inv'⟩ := ht hz
    exact ⟨y, w', e1, fun σ H Q q => ⟨S2, y, w', he, q⟩, inv'⟩
  · obtain ⟨e1, e2⟩ := hd acc w' inv
    subst e1 e2
    exact k _ F' H' r' (g.tr r1 g') ⟨rfl, sl, lo, fun p ep => by cases ep; exact g.back r1 hD⟩
theorem lcG_ok {scope : Scope} {t : Tg} {vs : List Nat} {xs : List D} {Inv : Nat → List D → Option WS → Prop} {env : List (Option Sl)} (hT : Turns X scope tg elt ifs t vs env xs Inv) (s : Shared) (H : Hp) (C : Addr) (cl : List (Str × Addr)) (fp : List Addr) : PG (X.blk s H scope (compEnvC scope cl C X.env) fp) tg (lcG X t vs) :=
  ⟨fun pins s' σ H' v u Q I r ⟨S2, d, q⟩ => (hT.tg s H C cl fp S2 d).run pins s' σ H' v u Q I r q⟩
theorem lcT_ok {scope : Scope} (s : Shared) (H : Hp) (C : Addr) (cl : List (Str × Addr)) (fp : List Addr) : PTs (X.blk s H scope (compEnvC scope cl C X.env) fp) ifs (lcT X scope ifs) :=
  ⟨fun pins s' σ H' Q I ⟨S2, z, h, q⟩ => (h s H C cl fp).run pins s' σ H' Q I q⟩
theorem lcE_ok {scope : Scope} (s : Shared) (H : Hp) (C : Addr) (cl : List (Str × Addr)) (fp : List Addr) : PE (X.blk s H scope (compEnvC scope cl C X.env) fp) elt (lcE X scope elt) :=
  ⟨fun pins s' σ H' Q I ⟨S2, y, w', h, q⟩ => (h s H C cl fp).run pins s' σ H' Q I q⟩
theorem tLc_dat {scope : Scope} {t : Tg} {vs : List Nat} {xs : List D} {Inv : Nat → List D → Option WS → Prop} {out : List D} {wf : Option WS} (hT : Turns X scope tg elt ifs t vs S1.env xs Inv) (hn : noOwn S1.env vs = true) (hts : ∀ i ∈ t.slots, i ∈ vs) (hl : xs.length ≤ 1000000) (h0 : Inv 0 [] S1.w) (hd : ∀ acc w, Inv xs.length acc w → acc = out ∧ w = wf) (σ : L2.St) (H : Hp) (Q : VK)
    (q : tV (ccOf X) S (.new (.lst out)) ⟨S1.env, wf⟩ σ H Q) : tLc (tI (ccOf X) t S xs S1) (lcG X t vs) (lcT X scope ifs) (lcE X scope elt) vs σ H Q := by
  obtain ⟨F0, H0, F, r, k⟩ := q
  exact ⟨F0, H0, F, r, fun J F1 H1 r1 g it Dl hD => lc_core_read hT hn hts hl h0 hd r r1 g it (fun _ _ _ _ e => e) hD k⟩
theorem tLc_own {scope : Scope} {t : Tg} {vs : List Nat} {xs : List D} {i : Nat} {Inv : Nat → List D → Option WS → Prop} {out : List D} {wf : Option WS} (hT : Turns X scope tg elt ifs t vs S1.env xs Inv) (hn : noOwn S1.env vs = true) (hts : ∀ i ∈ t.slots, i ∈ vs) (hl : xs.length ≤ 1000000) (h0 : Inv 0 [] S1.w) (hd : ∀ acc w, Inv xs.length acc w → acc = out ∧ w = wf) (hi : S1.env[i]? = some (some (.lst xs))) (σ : L2.St) (H : Hp) (Q : VK)
    (q : tV (ccOf X) S (.new (.lst out)) ⟨S1.env, wf⟩ σ H Q) : tLc (tIo (ccOf X) t S i xs S1) (lcG X t vs) (lcT X scope ifs) (lcE X scope elt) vs σ H Q := by
  obtain ⟨F0, H0, F, r, k⟩ := q
  refine ⟨F0, H0, F, r, fun J F1 H1 r1 g ⟨p, hp, it⟩ Dl hD => lc_core_read hT hn hts hl h0 hd r r1 g it (fun F2 H2 w r2 _ => ?_) hD k⟩
  obtain ⟨x, q', p', vs', ep, h1, h2⟩ := r2.sl i _ hi
  rw [hp] at q'; cases q'
  cases ep
  exact ⟨vs', h1, h2⟩
/-- [elt for tg in iter if ..] -/
theorem pv_lc {scope : Scope} (own : List (Str × Nat)) (t : Tg) {xs : List D} (Inv : Nat → List D → Option WS → Prop) {out : List D} {wf : Option WS} (hcm : X.calm = true) (hN : X.N.Nodup) (hi : PId X t tg iter S xs S1) (ok : BlkOk X.N X.env.scope scope own) (hT : Turns X scope tg elt ifs t (own.map (·.2)) S1.env xs Inv)
    (hn : noOwn S1.env (own.map (·.2)) = true) (hts : ∀ i ∈ t.slots, i ∈ own.map (·.2)) (hl : xs.length ≤ 1000000) (h0 : Inv 0 [] S1.w) (hd : ∀ acc w, Inv xs.length acc w → acc = out ∧ w = wf) (hs : ∀ x, foldedSetIterable iter X.env x = pure x := by intro _; rfl) :
    PV X (.ListComp elt [⟨tg, iter, ifs, 0⟩] scope pos) S (.new (.lst out)) ⟨S1.env, wf⟩ :=
  peI (pe_lc hcm hN hi ok (lcG_ok hT) lcT_ok lcE_ok hs) fun σ H Q q => tLc_dat hT hn hts hl h0 hd σ H Q q
theorem pv_lcO {scope : Scope} (own : List (Str × Nat)) (t : Tg) {xs : List D} {i : Nat} (Inv : Nat → List D → Option WS → Prop) {out : List D} {wf : Option WS} (hcm : X.calm = true) (hN : X.N.Nodup) (hi : PIo X t tg iter S i xs S1) (hx : S1.env[i]? = some (some (.lst xs))) (ok : BlkOk X.N X.env.scope scope own) (hT : Turns X scope tg elt ifs t (own.map (·.2)) S1.env xs Inv)
    (hn : noOwn S1.env (own.map (·.2)) = true) (hts : ∀ i ∈ t.slots, i ∈ own.map (·.2)) (hl : xs.length ≤ 1000000) (h0 : Inv 0 [] S1.w) (hd : ∀ acc w, Inv xs.length acc w → acc = out ∧ w = wf) (hs : ∀ x, foldedSetIterable iter X.env x = pure x := by intro _; rfl) :
    PV X (.ListComp elt [⟨tg, iter, ifs, 0⟩] scope pos) S (.new (.lst out)) ⟨S1.env, wf⟩ :=
  peI (pe_lc hcm hN hi ok (lcG_ok hT) lcT_ok lcE_ok hs) fun σ H Q q => tLc_own hT hn hts hl h0 hd hx σ H Q q
theorem newPut {F0 H0 F1 H1 Hs : Hp} {σ : L2.St} {x : V} {s : Sl} (i : Nat) (r1 : R (ccOf X) F0 H0 F1 H1 σ S1) (z : VlOk (ccOf X) H0 Hs F1 H1 σ S1 x (.new s)) : R (ccOf X) F0 H0 F1 H1 (σ.set i (some x)) (S1.put i (some s)) := by
  obtain ⟨ow, sl, ⟨p, ep, a1, a2, a3, a4⟩, _⟩ := z
  exact r1.put sl fun _ q eq => by
    rw [ep] at eq; cases eq
    exact ⟨a1, a2, a3, fun j t _ => a4 j t⟩
/-- name = [..], the name a local -/
theorem ds_setLc (i : Nat) {y : Str} {py spos : Pos} {scope : Scope} (own : List (Str × Nat)) (t : Tg) {xs : List D} (Inv : Nat → List D → Option WS → Prop) {out : List D} {wf : Option WS} (hcm : X.calm = true) (hN : X.N.Nodup) (hy : X.N[i]? = some y) (hyl : X.env.scope.names.lookup y = some .local)
    (hsw : swapsWith (.ListComp elt [⟨tg, iter, ifs, 0⟩] scope pos) (some (.Name y py)) spos.line X.env = pure true) (hi : PId X t tg iter S xs S1) (ok : BlkOk X.N X.env.scope scope own) (hT : Turns X scope tg elt ifs t (own.map (·.2)) S1.env xs Inv)
    (hn : noOwn S1.env (own.map (·.2)) = true) (hts : ∀ i ∈ t.slots, i ∈ own.map (·.2)) (hl : xs.length ≤ 1000000) (h0 : Inv 0 [] S1.w) (hd : ∀ acc w, Inv xs.length acc w → acc = out ∧ w = wf) (h : PSd X rest ((⟨S1.env, wf⟩ : PSt).put i (some (.lst out))) P) (hs : ∀ x, foldedSetIterable iter X.env x = pure x := by intro _; rfl) :
    PSd X (.Assign [.Name y py] (.ListComp elt [⟨tg, iter, ifs, 0⟩] scope pos) spos :: rest) S P :=
  psd_step (ps_setLc hcm hN hy hyl hsw hi ok (lcG_ok hT) lcT_ok lcE_ok hs) h fun E σ H ⟨F0, H0, F, r, k⟩ => tLc_dat hT hn hts hl h0 hd σ H _ ⟨F0, H0, F, r, fun x F1 H1 r1 g z => k _ F1 H1 (newPut i r1 z) g.eF⟩
theorem ds_setLcO (i : Nat) {y : Str} {py spos : Pos} {scope : Scope} (own : List (Str × Nat)) (t : Tg) {xs : List D} {j : Nat} (Inv : Nat → List D → Option WS → Prop) {out : List D} {wf : Option WS} (hcm : X.calm = true) (hN : X.N.Nodup) (hy : X.N[i]? = some y) (hyl : X.env.scope.names.lookup y = some .local)
    (hsw : swapsWith (.ListComp elt [⟨tg, iter, ifs, 0⟩] scope pos) (some (.Name y py)) spos.line X.env = pure true) (hi : PIo X t tg iter S j xs S1) (hx : S1.env[j]? = some (some (.lst xs))) (ok : BlkOk X.N X.env.scope scope own) (hT : Turns X scope tg elt ifs t (own.map (·.2)) S1.env xs Inv)
    (hn : noOwn S1.env (own.map (·.2)) = true) (hts : ∀ i ∈ t.slots, i ∈ own.map (·.2)) (hl : xs.length ≤ 1000000) (h0 : Inv 0 [] S1.w) (hd : ∀ acc w, Inv xs.length acc w → acc = out ∧ w = wf) (h : PSd X rest ((⟨S1.env, wf⟩ : PSt).put i (some (.lst out))) P) (hs : ∀ x, foldedSetIterable iter X.env x = pure x := by intro _; rfl) :
    PSd X (.Assign [.Name y py] (.ListComp elt [⟨tg, iter, ifs, 0⟩] scope pos) spos :: rest) S P :=
  psd_step (ps_setLc hcm hN hy hyl hsw hi ok (lcG_ok hT) lcT_ok lcE_ok hs) h fun E σ H ⟨F0, H0, F, r, k⟩ => tLc_own hT hn hts hl h0 hd hx σ H _ ⟨F0, H0, F, r, fun x F1 H1 r1 g z => k _ F1 H1 (newPut i r1 z) g.eF⟩
/-- each item gives one, by a function of the item -/
theorem Turns.map {scope : Scope} {t : Tg} {vs : List Nat} {env : List (Option Sl)} {xs : List D} {w0 : Option WS} (f : D → D) (htg : ∀ (s : Shared) (H : Hp) (C : Addr) (cl : List (Str × Addr)) (fp : List Addr), TgW (X.blk s H scope (compEnvC scope cl C X.env) fp) tg t vs)
    (h : ∀ d, d ∈ xs → ∃ S2, t.bind ⟨wipeE env vs, w0⟩ d = some S2 ∧ ∀ (s : Shared) (H : Hp) (C : Addr) (cl : List (Str × Addr)) (fp : List Addr), PV (X.blk s H scope (compEnvC scope cl C X.env) fp) elt S2 (.dat (f d)) S2) :
    Turns X scope tg elt [] t vs env xs (fun k acc w => w = w0 ∧ acc = (xs.take k).map f) := ⟨htg, fun k d acc w hx ⟨ew, ea⟩ _ => by
  subst ew ea
  obtain ⟨S2, eb, he⟩ := h d (List.mem_of_getElem? hx)
  refine ⟨S2, true, eb, fun _ _ _ _ _ => tds_nil, fun z => absurd z (by decide), fun _ => ⟨f d, S2.w, by rw [bind_w eb], he, by rw [bind_w eb], ?_⟩⟩
  rw [List.take_add_one, hx, List.map_append]
  rfl⟩
/-- .. where the test p holds -/
theorem Turns.filter {scope : Scope} {t : Tg} {vs : List Nat} {env : List (Option Sl)} {xs : List D} {w0 : Option WS} (p : D → Bool) (f : D → D) (htg : ∀ (s : Shared) (H : Hp) (C : Addr) (cl : List (Str × Addr)) (fp : List Addr), TgW (X.blk s H scope (compEnvC scope cl C X.env) fp) tg t vs)
    (h : ∀ d, d ∈ xs → ∃ S2, t.bind ⟨wipeE env vs, w0⟩ d = some S2 ∧ (∀ (s : Shared) (H : Hp) (C : Addr) (cl : List (Str × Addr)) (fp : List Addr), PTsd (X.blk s H scope (compEnvC scope cl C X.env) fp) ifs S2 (p d) S2) ∧ (p d = true → ∀ (s : Shared) (H : Hp) (C : Addr) (cl : List (Str × Addr)) (fp : List Addr), PV (X.blk s H scope (compEnvC scope cl C X.env) fp) elt S2 (.dat (f d)) S2)) :
    Turns X scope tg elt ifs t vs env xs (fun k acc w => w = w0 ∧ acc = ((xs.take k).filter p).map f) := ⟨htg, fun k d acc w hx ⟨ew, ea⟩ _ => by
  subst ew ea
  obtain ⟨S2, eb, hp, he⟩ := h d (List.mem_of_getElem? hx)
  refine ⟨S2, p d, eb, hp, fun hz => ⟨rfl, ?_⟩, fun hz => ⟨f d, S2.w, by rw [bind_w eb], he hz, by rw [bind_w eb], ?_⟩⟩
  · rw [List.take_add_one, hx, List.filter_append]
    simp [hz]
  · rw [List.take_add_one, hx, List.filter_append, List.map_append]
    simp [hz]⟩
theorem map_end {xs : List D} {f : D → D} {w0 : Option WS} (acc : List D) (w : Option WS) (h : w = w0 ∧ acc = (xs.take xs.length).map f) : acc = xs.map f ∧ w = w0 := ⟨by rw [h.2, List.take_length], h.1⟩
theorem filter_end {xs : List D} {p : D → Bool} {f : D → D} {w0 : Option WS} (acc : List D) (w : Option WS) (h : w = w0 ∧ acc = ((xs.take xs.length).filter p).map f) : acc = (xs.filter p).map f ∧ w = w0 := ⟨by rw [h.2, List.take_length], h.1⟩
end
end PL
/-! The pure layer, I: calls and defs by data. -/
namespace PL
open PySem PySem.Spec PyProof.Rows L2

/-! ### what a def promises -/
/-- from n data of which pre holds it gives g of them -/
def spF (c : Cc) (n : Nat) (pre : List D → Prop) (g : List D → D) : Sp := fun vs H Q _ => ∃ F ds, Ex F H ∧ RepL c.K F vs ds ∧ ds.length = n ∧ pre ds ∧ ∀ x F' H', R c F H F' H' [] ⟨[], none⟩ → Rep c.K F' x (g ds) → Q x H'
/-- the law's state, without where it stands -/
structure Ws where
  cells : List Int
  lefts : List Int
  at_ : Int
def WS.p (w : WS) : Ws := ⟨w.cells, w.lefts, w.at_⟩
def WS.up (w : WS) (q : Ws) : WS := { w with cells := q.cells, lefts := q.lefts, at_ := q.at_ }
/-- .. the first argument the law's state, which it changes -/
def spW (c : Cc) (n : Nat) (pre : List D → Ws → Prop) (g : List D → Ws → D × Ws) : Sp := fun vs H Q _ => ∃ F ws vs' ds, vs = .ref ws.sa :: vs' ∧ Ex F H ∧ WOk F H ws ∧ RepL c.K F vs' ds ∧ ds.length + 1 = n ∧ pre ds ws.p ∧
  ∀ x F' H', R c F H F' H' [] ⟨[], some (ws.up (g ds ws.p).2)⟩ → Rep c.K F' x (g ds ws.p).1 → Q x H'
/-- the module's def x keeps the promise -/
def GSp (P : Program) (w : World) (K : PySem.W.Frag) (mg : Str → Option Value) (base : Heap) (k : Nat) (x : Str) (n : Nat) (sp : Sp) : Prop :=
  ∃ f fd ps, FnOk P w K mg base CX0 k f fd ps sp ∧ ps.length = n ∧ mg x = some (.ref f) ∧ PySem.W.keepIn K (.ref f) = true ∧ Binds K fd ps []
abbrev GFn (P : Program) (w : World) (K : PySem.W.Frag) (mg : Str → Option Value) (base : Heap) (k : Nat) (x : Str) (n : Nat) (pre : List D → Prop) (g : List D → D) : Prop := GSp P w K mg base k x n (spF ⟨P, w, K⟩ n pre g)
abbrev GFw (P : Program) (w : World) (K : PySem.W.Frag) (mg : Str → Option Value) (base : Heap) (k : Nat) (x : Str) (n : Nat) (pre : List D → Ws → Prop) (g : List D → Ws → D × Ws) : Prop := GSp P w K mg base k x n (spW ⟨P, w, K⟩ n pre g)
theorem GSp.mono {P : Program} {w : World} {K : PySem.W.Frag} {mg : Str → Option Value} {base : Heap} {j k : Nat} {x : Str} {n : Nat} {sp : Sp} (h : GSp P w K mg base j x n sp) (hk : j ≤ k) : GSp P w K mg base k x n sp := by
  obtain ⟨f, fd, ps, F, r⟩ := h
  exact ⟨f, fd, ps, F.mono hk, r⟩
/-- a call's end, seen by the caller -/
theorem R.call0 {c : Cc} {F0 H0 F H F' H' : Hp} {σ : L2.St} {S : PSt} (r : R c F0 H0 F H σ S) (q : R c F H F' H' [] ⟨[], none⟩) : R c F0 H0 F' H' σ S ∧ Gr σ S S F H F' H' := by
  have nn : ∀ a, ¬ InW none a := fun a ⟨w, e, _⟩ => nomatch e
  have eH : ∀ a u, H a = some u → H' a = some u := fun a u e => q.hh a u (nn a) e
  exact ⟨r.grow (fun a u _ e => eH a u e) q.ff q.fh q.nw, ⟨q.ff, fun a u e n => ⟨eH a u e, n⟩, fun a n h => .inl (q.nw a n h), fun _ h => h, fun _ _ h _ => h⟩⟩
theorem R.callW {c : Cc} {F0 H0 F H F' H' : Hp} {σ : L2.St} {env : List (Option Sl)} {ws : WS} {p : Ws} (r : R c F0 H0 F H σ ⟨env, some ws⟩) (q : R c F H F' H' [] ⟨[], some (ws.up p)⟩) : R c F0 H0 F' H' σ ⟨env, some (ws.up p)⟩ ∧ Gr σ ⟨env, some ws⟩ ⟨env, some (ws.up p)⟩ F H F' H' := by
  have iw : ∀ a, InW (some (ws.up p)) a ↔ InW (some ws) a := fun a => ⟨fun ⟨w, e, h⟩ => by cases e; exact ⟨ws, rfl, h⟩, fun ⟨w, e, h⟩ => by cases e; exact ⟨_, rfl, h⟩⟩
  have eH : ∀ a u, ¬ InW (some ws) a → H a = some u → H' a = some u := fun a u n e => q.hh a u (fun z => n ((iw a).mp z)) e
  have nF : ∀ a u, H a = some u → F a = none → F' a = none := fun a u e n => by
    cases z : F' a with
    | none => rfl
    | some y =>
      have := q.nw a n (by rw [z]; simp)
      rw [e] at this; cases this
  refine ⟨⟨r.len, q.fh, ex_tr r.ff q.ff, fun a u n e => eH a u (fun z => n ((iw a).mpr z)) (r.hh a u (fun z => n ((iw a).mpr z)) e), fun a n h => ?_, fun i s e => ?_, fun i s p' e o z => ?_, r.dis, q.ws⟩, ⟨q.ff, fun a u e n => ⟨eH a u n e, fun z => n ((iw a).mp z)⟩, fun a n h => .inl (q.nw a n h), fun a h => (iw a).mpr h, fun _ _ h _ => h⟩⟩
  · by_cases z : F a = none
    · exact (r.free0 (q.nw a z h)).1
    · exact r.nw a n z
  · obtain ⟨x, y, k⟩ := r.sl i s e
    refine ⟨x, y, ?_⟩
    cases s with
    | dat d => exact Rep.mono q.ff k
    | st =>
      obtain ⟨w', e1, e2⟩ := k
      cases e1
      exact ⟨_, rfl, e2⟩
    | lst ds =>
      obtain ⟨p', ys, rfl, h1, h2⟩ := k
      exact ⟨p', ys, rfl, eH p' _ (r.own i _ p' e rfl y).2.2 h1, h2.mono q.ff⟩
    | dicI kvs =>
      obtain ⟨p', ys, rfl, h1, h2⟩ := k
      exact ⟨p', ys, rfl, eH p' _ (r.own i _ p' e rfl y).2.2 h1, h2.mono q.ff⟩
    | dicN kvs =>
      obtain ⟨p', ys, rfl, h1, h2⟩ := k
      exact ⟨p', ys, rfl, eH p' _ (r.own i _ p' e rfl y).2.2 h1, h2.mono q.ff⟩
  · obtain ⟨h1, h2, h3⟩ := r.own i s p' e o z
    obtain ⟨x, y, k⟩ := r.sl i s e
    rw [z] at y; cases y
    obtain ⟨p'', u, ep, eu, _⟩ := k.isRef o
    cases ep
    exact ⟨nF p' u eu h1, h2, fun w => h3 ((iw p').mp w)⟩

section
variable {X : Cx} {st : Stmt} {sts rest body : List Stmt} {e a b iter tg elt : Expr} {es ifs : List Expr} {S S1 S2 : PSt} {P : Post} {v : Vl} {vs : List Vl} {pos p : Pos} {x : Str} {n k j : Nat}
/-- f(e, ..) -/
theorem pv_call {pre : List D → Prop} {g : List D → D} {ds : List D} (F : GFn X.prog X.w X.K X.mg X.base j x n pre g) (hr : Room k X.A) (hj : j ≤ k) (hg : Gl X x) (ha : PVs X (e :: es) S vs S1) (hd : dats vs = some ds) (hn : ds.length = n) (hp : pre ds)
    (hdb : (x == ("__debug__" : Str)) = false := by decide) (he : starEach (e :: es) X.env = (false, eval e X.env) :: starEach es X.env := by rfl) (hpl : (backTo pos (starEach es X.env)).any (·.1) = false := by rfl) : PV X (.Call (.Name x p) (e :: es) [] pos) S (.dat (g ds)) S1 := by
  obtain ⟨f, fd, ps, G, _, hm, hk, hb⟩ := F
  refine peI (pe_call (E := E0) G (hr.mono hj) hg hm hk hb (.nil : Vals [] []) pass0 ha hdb he hpl) fun σ H Q ⟨F0, H0, F, r, q⟩ => ⟨F0, H0, F, r, fun xs F1 H1 r1 g1 z1 => ?_⟩
  show spF ⟨X.prog, X.w, X.K⟩ n pre g (xs ++ []) H1 Q E0
  rw [List.append_nil]
  refine ⟨F1, ds, r1.fh, dats_rep z1 hd, hn, hp, fun y F2 H2 r2 ry => ?_⟩
  obtain ⟨r3, g3⟩ := r1.call0 r2
  exact q y F2 H2 r3 (g1.tr r1 g3) ry
/-- f(the law's state, e, ..) -/
theorem pv_callW {pre : List D → Ws → Prop} {g : List D → Ws → D × Ws} {ds : List D} {ws : WS} (F : GFw X.prog X.w X.K X.mg X.base j x n pre g) (hr : Room k X.A) (hj : j ≤ k) (hg : Gl X x) (ha : PVs X (e :: es) S (.st :: vs) S1) (hw : S1.w = some ws) (hd : dats vs = some ds) (hn : ds.length + 1 = n) (hp : pre ds ws.p)
    (hdb : (x == ("__debug__" : Str)) = false := by decide) (he : starEach (e :: es) X.env = (false, eval e X.env) :: starEach es X.env := by rfl) (hpl : (backTo pos (starEach es X.env)).any (·.1) = false := by rfl) : PV X (.Call (.Name x p) (e :: es) [] pos) S (.dat (g ds ws.p).1) ⟨S1.env, some (ws.up (g ds ws.p).2)⟩ := by
  obtain ⟨f, fd, ps, G, _, hm, hk, hb⟩ := F
  refine peI (pe_call (E := E0) G (hr.mono hj) hg hm hk hb (.nil : Vals [] []) pass0 ha hdb he hpl) fun σ H Q ⟨F0, H0, F, r, q⟩ => ⟨F0, H0, F, r, fun xs F1 H1 r1 g1 z1 => ?_⟩
  show spW ⟨X.prog, X.w, X.K⟩ n pre g (xs ++ []) H1 Q E0
  rw [List.append_nil]
  cases z1 with
  | @cons y _ ys _ z1 z2 =>
    obtain ⟨w', e1, e2⟩ := z1
    rw [hw] at e1
    cases e1
    subst e2
    refine ⟨F1, ws, ys, ds, rfl, r1.fh, r1.ws ws hw, dats_rep z2 hd, hn, hp, fun y F2 H2 r2 ry => ?_⟩
    obtain ⟨env, w⟩ := S1
    cases (show w = some ws from hw)
    obtain ⟨r3, g3⟩ := r1.callW r2
    exact q y F2 H2 r3 (g1.tr r1 g3) ry
end

/-! ### defs -/
/-- the context of a def's body that lets nothing out -/
abbrev xOf (P : Program) (w : World) (K : PySem.W.Frag) (mg : Str → Option Value) (base : Heap) (N : List Str) (qual : Str) (scope : Scope) (f : Addr) (cdv : Value) (A : Around) (outer : List Env) (s : Shared) (H : Hp) (E : XK) : Cx := (cxOf CX0 P w K mg base N qual scope f cdv A outer s H E).nox
def entry (N : List Str) (ds : List D) : List (Option Sl) := (ds.map fun d => some (.dat d)) ++ List.replicate (N.length - ds.length) none
section
variable {P : Program} {w : World} {K : PySem.W.Frag} {mg : Str → Option Value} {base : Heap} {x qual : Str} {params : Arguments} {body : List Stmt} {scope : Scope} {f : Addr} {fd : FuncData} {N ps : List Str} {k n : Nat}
theorem start_get {N : List Str} {vs : List V} {i : Nat} (h : i < vs.length) : (L2.start N vs)[i]? = (vs[i]?).map some := by
  unfold L2.start
  rw [List.getElem?_append_left (by simpa using h), List.getElem?_map]
theorem entry_r {c : Cc} {F H : Hp} {N : List Str} {vs : List V} {ds : List D} (e : Ex F H) (r : RepL c.K F vs ds) (hl : vs.length ≤ N.length) : R c F H F H (L2.start N vs) ⟨entry N ds, none⟩ := by
  have lv := r.len
  refine ⟨?_, e, Ex.rfl' F, fun _ _ _ h => h, fun a n h => absurd n h, fun i s h => ?_, fun i s p h o => ?_, fun i j s t p h _ o => ?_, fun w h => nomatch h⟩
  · show (L2.start N vs).length = (entry N ds).length
    unfold L2.start entry
    simp [lv]
  all_goals
    have dat : ∀ (i : Nat) s, (entry N ds)[i]? = some (some s) → ∃ d, s = .dat d ∧ ds[i]? = some d := fun i s h => by
      unfold entry at h
      by_cases hi : i < ds.length
      · rw [List.getElem?_append_left (by simpa using hi), List.getElem?_map, List.getElem?_eq_getElem hi] at h
        cases h
        exact ⟨_, rfl, List.getElem?_eq_getElem hi⟩
      · rw [List.getElem?_append_right (by simpa using hi), List.getElem?_replicate] at h
        split at h <;> cases h
  · obtain ⟨d, rfl, hd⟩ := dat i s h
    obtain ⟨x, hx, rx⟩ := r.get hd
    exact ⟨x, by rw [start_get (List.getElem?_eq_some_iff.mp hx).1, hx]; rfl, rx⟩
  · obtain ⟨d, rfl, hd⟩ := dat i s h
    cases o
  · obtain ⟨d, rfl, hd⟩ := dat i s h
    cases o
theorem gfn_of {pre : List D → Prop} {g : List D → D} (F : FunD K x qual params body scope [] [] f fd) (hm : mg x = some (.ref f)) (Sc : FnScope N ps scope) (hn : ps.length = n) (hb : ∀ (kV doc pm : Value) (an : Option Addr) (cdv ct : Value) (us : List Value), us.length = ps.length → bindArgs (PySem.W.fnOf x qual params body scope .none kV doc pm an cdv ct) ⟨us, []⟩ = pure (ps.zip us))
    (hbody : ∀ (cdv : Value) (A : Around) (outer : List Env) (s : Shared) (H : Hp) (E : XK) (ds : List D), Room k (xOf P w K mg base N qual scope f cdv A outer s H E).A → ds.length = n → pre ds →
      PSd (xOf P w K mg base N qual scope f cdv A outer s H E) body ⟨entry N ds, none⟩ { nx := fun S' => S'.w = none ∧ g ds = .non, rt := fun d w' => w' = none ∧ d = g ds }) : GFn P w K mg base (k + 1) x n pre g := by
  refine ⟨f, fd, ps, F.ok Sc (fun vs H Q E h => ?_) (fun cdv A outer s H vs Q E hr h => ?_), hn, hm, F.kp, F.bindsN hb⟩
  · obtain ⟨F, ds, _, r, hl, _⟩ := h
    rw [r.len, hl, hn]
  · obtain ⟨F1, ds, e, r, hl, hp, q⟩ := h
    refine ⟨_, PSs.nox (hbody cdv A outer s H E ds hr hl hp), F1, H, F1, entry_r e r ?_, ?_, ?_, fun _ _ _ _ _ _ h => h.elim, fun _ _ _ _ _ _ h => h.elim⟩
    · have hpl : ps.length ≤ N.length := by have := congrArg List.length Sc.pre; rw [List.length_take] at this; omega
      rw [r.len, hl, ← hn]; exact hpl
    · rintro σ' F' H' S' r' _ ⟨ew, eg⟩
      have rb := r'.bare
      rw [ew] at rb
      exact q _ F' H' rb (by rw [eg]; exact .non)
    · rintro y F' H' d w' r' _ ry ⟨ew, ed⟩
      subst ew ed
      exact q y F' H' r' ry
/-- .. whose first argument is the law's state -/
def entryW (N : List Str) (ds : List D) : List (Option Sl) := some .st :: ((ds.map fun d => some (.dat d)) ++ List.replicate (N.length - (ds.length + 1)) none)
theorem entryW_r {c : Cc} {F H : Hp} {N : List Str} {vs : List V} {ds : List D} {ws : WS} (e : Ex F H) (hw : WOk F H ws) (r : RepL c.K F vs ds) (hl : vs.length + 1 ≤ N.length) : R c F H F H (L2.start N (.ref ws.sa :: vs)) ⟨entryW N ds, some ws⟩ := by
  have lv := r.len
  have dat : ∀ (i : Nat) s, (entryW N ds)[i]? = some (some s) → (i = 0 ∧ s = .st) ∨ ∃ d j, i = j + 1 ∧ s = .dat d ∧ ds[j]? = some d := fun i s h => by
    unfold entryW at h
    cases i with
    | zero => cases h; exact .inl ⟨rfl, rfl⟩
    | succ i =>
      rw [List.getElem?_cons_succ] at h
      by_cases hi : i < ds.length
      · rw [List.getElem?_append_left (by simpa using hi), List.getElem?_map, List.getElem?_eq_getElem hi] at h
        cases h
        exact .inr ⟨_, i, rfl, rfl, List.getElem?_eq_getElem hi⟩
      · rw [List.getElem?_append_right (by simpa using hi), List.getElem?_replicate] at h
        split at h <;> cases h
  refine ⟨?_, e, Ex.rfl' F, fun _ _ _ h => h, fun a n h => absurd n h, fun i s h => ?_, fun i s p h o => ?_, fun i j s t p h _ o => ?_, fun w h => by cases h; exact hw⟩
  · show (L2.start N (.ref ws.sa :: vs)).length = (entryW N ds).length
    unfold L2.start entryW
    simp [lv]
  · rcases dat i s h with ⟨rfl, rfl⟩ | ⟨d, j, rfl, rfl, hd⟩
    · exact ⟨_, rfl, ws, rfl, rfl⟩
    · obtain ⟨x, hx, rx⟩ := r.get hd
      exact ⟨x, by rw [start_get (by have := (List.getElem?_eq_some_iff.mp hx).1; simp; omega), List.getElem?_cons_succ, hx]; rfl, rx⟩
  · rcases dat i s h with ⟨rfl, rfl⟩ | ⟨d, j, rfl, rfl, hd⟩ <;> cases o
  · rcases dat i s h with ⟨rfl, rfl⟩ | ⟨d, j, rfl, rfl, hd⟩ <;> cases o
theorem gfw_of {pre : List D → Ws → Prop} {g : List D → Ws → D × Ws} (F : FunD K x qual params body scope [] [] f fd) (hm : mg x = some (.ref f)) (Sc : FnScope N ps scope) (hn : ps.length = n) (hb : ∀ (kV doc pm : Value) (an : Option Addr) (cdv ct : Value) (us : List Value), us.length = ps.length → bindArgs (PySem.W.fnOf x qual params body scope .none kV doc pm an cdv ct) ⟨us, []⟩ = pure (ps.zip us))
    (hbody : ∀ (cdv : Value) (A : Around) (outer : List Env) (s : Shared) (H : Hp) (E : XK) (ds : List D) (ws : WS), Room k (xOf P w K mg base N qual scope f cdv A outer s H E).A → ds.length + 1 = n → pre ds ws.p →
      PSd (xOf P w K mg base N qual scope f cdv A outer s H E) body ⟨entryW N ds, some ws⟩ { nx := fun S' => False, rt := fun d w' => w' = some (ws.up (g ds ws.p).2) ∧ d = (g ds ws.p).1 }) : GFw P w K mg base (k + 1) x n pre g := by
  refine ⟨f, fd, ps, F.ok Sc (fun vs H Q E h => ?_) (fun cdv A outer s H vs Q E hr h => ?_), hn, hm, F.kp, F.bindsN hb⟩
  · obtain ⟨F, ws, vs', ds, rfl, _, _, r, hl, _⟩ := h
    rw [List.length_cons, r.len, hl, hn]
  · obtain ⟨F1, ws, vs', ds, rfl, e, hw, r, hl, hp, q⟩ := h
    refine ⟨_, PSs.nox (hbody cdv A outer s H E ds ws hr hl hp), F1, H, F1, entryW_r e hw r ?_, fun _ _ _ _ _ _ h => h.elim, ?_, fun _ _ _ _ _ _ h => h.elim, fun _ _ _ _ _ _ h => h.elim⟩
    · have hpl : ps.length ≤ N.length := by have := congrArg List.length Sc.pre; rw [List.length_take] at this; omega
      rw [r.len, hl, ← hn]; exact hpl
    · rintro y F' H' d w' r' _ ry ⟨ew, ed⟩
      subst ew ed
      exact q y F' H' r' ry
end
end PL
/-! The pure layer, J: calls of built-ins by data. -/
namespace PL
open PySem PySem.Spec PyProof.Rows L2

section
variable {X : Cx} {e a b o : Expr} {es : List Expr} {S S1 S2 : PSt} {v u : Vl} {vs : List Vl} {pos p : Pos} {x : Str}
/-- a built-in's call, its reading -/
theorem pv_cb {r : List V → Hp → VK → Prop} (h : PE X e (tCB r (tA (ccOf X) S vs S1)))
    (k : ∀ F0 H0 F H (σ : L2.St) (Hs : Hp) xs (Q : VK), R (ccOf X) F0 H0 F H σ S1 → VlsOk (ccOf X) H0 Hs F H σ S1 xs vs → (∀ y F' H', R (ccOf X) F0 H0 F' H' σ S1 → Gr σ S1 S1 F H F' H' → VlOk (ccOf X) H0 H F' H' σ S1 y v → Q y H') → r xs H Q) : PV X e S v S1 :=
  peI h fun σ H Q ⟨F0, H0, F, rr, q⟩ => ⟨F0, H0, F, rr, fun xs F1 H1 r1 g z => k F0 H0 F1 H1 σ H xs Q r1 z fun y F2 H2 r2 g2 z2 => q y F2 H2 r2 (g.tr r1 g2) (VlOk.from (H' := H2) z2 g r1)⟩
theorem arg1 {c : Cc} {H0 Hs F H : Hp} {σ : L2.St} {S : PSt} {xs : List V} {v : Vl} (h : VlsOk c H0 Hs F H σ S xs [v]) : ∃ x, xs = [x] ∧ VlOk c H0 Hs F H σ S x v := by
  cases h with
  | cons h t => cases t; exact ⟨_, rfl, h⟩
theorem RepL.lenV {K : PySem.W.Frag} {F : Hp} {vs : List V} {ds : List D} (r : RepL K F vs ds) : (vs.length : Int) = (ds.length : Int) := by rw [r.len]

/-! ### len -/
theorem pv_len {s : Sl} {t : Bool} {ds : List D} (hg : Gl X "len") (hm : X.mg "len" = none) (ha : PV X a S v S1) (hc : S1.con v = some s) (hq : s.seq = some (t, ds)) (hs : starEach [a] X.env = (false, eval a X.env) :: starEach [] X.env := by rfl) (hpl : (backTo pos (starEach [] X.env)).any (·.1) = false := by rfl) :
    PV X (.Call (.Name "len" p) [a] [] pos) S (.dat (.int ds.length)) S1 :=
  pv_cb (pe_callB call_len_seq hg hm rfl (pvs_one ha hs) (by decide) (by decide) hs hpl) fun F0 H0 F H σ Hs xs Q r z' k => by
    obtain ⟨y, rfl, z⟩ := arg1 z'
    obtain ⟨q, ws, rfl, h1, h2⟩ := (z.sl r hc).items r.fh hq
    refine ⟨q, ws, rfl, h1.or, ?_⟩
    rw [h2.lenV]
    exact k _ F H r Gr.rf (.int _)
theorem pv_lenI {s : Sl} {kvs : List (Int × D)} (hg : Gl X "len") (hm : X.mg "len" = none) (ha : PV X a S v S1) (hc : S1.con v = some s) (hq : s.dI = some kvs) (hs : starEach [a] X.env = (false, eval a X.env) :: starEach [] X.env := by rfl) (hpl : (backTo pos (starEach [] X.env)).any (·.1) = false := by rfl) :
    PV X (.Call (.Name "len" p) [a] [] pos) S (.dat (.int kvs.length)) S1 :=
  pv_cb (pe_callB call_lenD hg hm rfl (pvs_one ha hs) (by decide) (by decide) hs hpl) fun F0 H0 F H σ Hs xs Q r z' k => by
    obtain ⟨y, rfl, z⟩ := arg1 z'
    obtain ⟨q, ws, rfl, h1, h2⟩ := (z.sl r hc).dI r.fh hq
    refine ⟨q, ws, rfl, h1, ?_⟩
    rw [h2.len]
    exact k _ F H r Gr.rf (.int _)
theorem call_lenN : CallR X (.builtin "len") (fun xs H Q => ∃ p ys F kvs, xs = [V.ref p] ∧ Ex F H ∧ H p = some (DicO (ccOf X) p ys) ∧ RepN X.K F ys kvs ∧ Q (.int kvs.length) H) := by
  intro pins s σ H xs us Q I r h
  obtain ⟨p, ys, F, kvs, rfl, fh, hp, rn, q⟩ := h
  obtain ⟨u, rfl, rx⟩ := vals1 r
  cases rx
  obtain ⟨z, hd, zs, pr, dd⟩ := dicN_of I fh hp rn
  have e1 : zs.length = kvs.length := by rw [← Paired.length pr, Paired.length rn]
  have hk : s.heap.DictKeyed (nestedKind X.prog X.w) p (pairsH zs) := ⟨zs, dd, rfl⟩
  have el : (pairsH zs).length = kvs.length := by rw [← e1]; unfold pairsH; rw [List.length_map]
  have hn := line63
  refine call_len_slot (n := kvs.length) dd.typeIs PySem.F.slot_dict_len (fun Q' hQ => len_keyed hd hk (by rw [el]; exact hQ)) (by omega) (by rw [← e1, ← Paired.length pr]; omega) ⟨.int kvs.length, H, (I.tok _).tok _, ⟨_, rfl⟩, q⟩
theorem pv_lenN {kvs : List (NestedKey × D)} (hg : Gl X "len") (hm : X.mg "len" = none) (ha : PV X a S v S1) (hc : S1.con v = some (.dicN kvs)) (hs : starEach [a] X.env = (false, eval a X.env) :: starEach [] X.env := by rfl) (hpl : (backTo pos (starEach [] X.env)).any (·.1) = false := by rfl) :
    PV X (.Call (.Name "len" p) [a] [] pos) S (.dat (.int kvs.length)) S1 :=
  pv_cb (pe_callB call_lenN hg hm rfl (pvs_one ha hs) (by decide) (by decide) hs hpl) fun F0 H0 F H σ Hs xs Q r z' k => by
    obtain ⟨y, rfl, z⟩ := arg1 z'
    obtain ⟨q, ys, rfl, h1, h2⟩ := z.sl r hc
    exact ⟨q, ys, F, kvs, rfl, r.fh, h1, h2, k _ F H r Gr.rf (.int _)⟩

/-! ### int, list, tuple, sum -/
theorem pv_int1 {i : Int} (hg : Gl X "int") (hm : X.mg "int" = none) (ha : PV X a S (.dat (.int i)) S1) (hs : starEach [a] X.env = (false, eval a X.env) :: starEach [] X.env := by rfl) (hpl : (backTo pos (starEach [] X.env)).any (·.1) = false := by rfl) :
    PV X (.Call (.Name "int" p) [a] [] pos) S (.dat (.int i)) S1 :=
  pv_cb (pe_callTy call_int1 hg hm rfl (pvs_one ha hs) (by decide) (by decide) hs hpl) fun F0 H0 F H σ Hs xs Q r z' k => by
    obtain ⟨y, rfl, z⟩ := arg1 z'
    exact .inl ⟨i, by rw [rep_int z], k _ F H r Gr.rf (.int _)⟩
theorem pv_list {s : Sl} {t : Bool} {ds : List D} (hg : Gl X "list") (hm : X.mg "list" = none) (ha : PV X a S v S1) (hc : S1.con v = some s) (hq : s.seq = some (t, ds)) (hs : starEach [a] X.env = (false, eval a X.env) :: starEach [] X.env := by rfl) (hpl : (backTo pos (starEach [] X.env)).any (·.1) = false := by rfl) :
    PV X (.Call (.Name "list" p) [a] [] pos) S (.new (.lst ds)) S1 :=
  pv_cb (pe_callTy call_list_of hg hm rfl (pvs_one ha hs) (by decide) (by decide) hs hpl) fun F0 H0 F H σ Hs xs Q r z' k => by
    obtain ⟨y, rfl, z⟩ := arg1 z'
    obtain ⟨q, ws, rfl, h1, h2⟩ := (z.sl r hc).items r.fh hq
    refine ⟨q, ws, rfl, h1.or, fun l hl => ?_⟩
    exact k _ F _ (r.tmp hl) (gr_tmp hl) ⟨rfl, ⟨l, ws, rfl, upd_same, h2⟩, loose_new (o := .lst ws) r hl, fun q eq => by cases eq; exact hl⟩
theorem call_tupF : CallR X (.type "tuple") (fun xs H Q => ∃ p ys, xs = [.ref p] ∧ SqL X.K H p ys ∧ ∀ l o, H l = none → o.dict = none → Q (.ref l) (upd H l (.frz o (.tup ys)))) := by
  intro pins s σ H xs us Q I r h
  obtain ⟨p, ys, rfl, hq, q⟩ := h
  obtain ⟨u, rfl, rx⟩ := vals1 r
  cases rx
  obtain ⟨its, r', pl, hz⟩ := I.list hq
  have hlen := r'.length
  have hn := line63
  refine call_tuple_list pl.isList (fun h' kp => ?_) (by simp only [List.size_toArray] <;> omega)
  have I1 : Inv X pins σ H { s with heap := h' } := I.kept (t' := s.toks) kp
  have I2 : Inv X pins σ (upd H h'.objs.size (.frz { cls := .type "tuple", data := .seq its.toArray } (.tup ys))) { s with heap := h'.push { cls := .type "tuple", data := .seq its.toArray } } :=
    I1.laid (t' := s.toks) (fun b o e => Heap.get?_push_of_some _ e) (Nat.le_refl _) ⟨Heap.get?_push_size _ rfl, hz, its, r', IsTup.new _ _⟩
  exact ⟨.ref h'.objs.size, _, I2, rfl, q _ _ (I1.hok.fresh (Nat.le_refl _)) rfl⟩
/-- tuple(a list) -/
theorem pv_tuple {s : Sl} {ds : List D} (hg : Gl X "tuple") (hm : X.mg "tuple" = none) (ha : PV X a S v S1) (hc : S1.con v = some s) (hq : s.seq = some (false, ds)) (hs : starEach [a] X.env = (false, eval a X.env) :: starEach [] X.env := by rfl) (hpl : (backTo pos (starEach [] X.env)).any (·.1) = false := by rfl) :
    PV X (.Call (.Name "tuple" p) [a] [] pos) S (.dat (.tup ds)) S1 :=
  pv_cb (pe_callTy call_tupF hg hm rfl (pvs_one ha hs) (by decide) (by decide) hs hpl) fun F0 H0 F H σ Hs xs Q r z' k => by
    obtain ⟨y, rfl, z⟩ := arg1 z'
    obtain ⟨q, ws, rfl, h1, h2⟩ := (z.sl r hc).items r.fh hq
    refine ⟨q, ws, rfl, h1, fun l o hl ho => ?_⟩
    have e2 : Ex F (upd F l (.frz o (.tup ws))) := ex_new (r.freeF hl)
    exact k _ _ _ (r.new hl) (gr_new (r.freeF hl) hl (r.free0 hl).2) (.tup (.inl ⟨o, upd_same, ho⟩) (h2.mono e2))
theorem pv_sum {s : Sl} {is : List Int} (hcm : X.calm = true) (hg : Gl X "sum") (hm : X.mg "sum" = none) (ha : PV X a S v S1) (hc : S1.con v = some s) (hq : s.seq = some (false, is.map D.int)) (hs : starEach [a] X.env = (false, eval a X.env) :: starEach [] X.env := by rfl) (hpl : (backTo pos (starEach [] X.env)).any (·.1) = false := by rfl) :
    PV X (.Call (.Name "sum" p) [a] [] pos) S (.dat (.int is.sum)) S1 :=
  pv_cb (pe_callB (cr_sum hcm) hg hm rfl (pvs_one ha hs) (by decide) (by decide) hs hpl) fun F0 H0 F H σ Hs xs Q r z' k => by
    obtain ⟨y, rfl, z⟩ := arg1 z'
    obtain ⟨q, ws, rfl, h1, h2⟩ := (z.sl r hc).items r.fh hq
    have e1 := h2.ints
    subst e1
    exact ⟨q, is, rfl, h1, k _ F H r Gr.rf (.int _)⟩

/-! ### isinstance -/
def D.ty : D → String
  | .non => "NoneType"
  | .bl _ => "bool"
  | .int _ => "int"
  | .str _ => "str"
  | .tup _ => "tuple"
  | .lst _ => "list"
  | .dic _ _ => "dict"
  | .dicN _ _ _ => "dict"
  | .scr _ => "list"
def D.isDN : D → Bool
  | .dicN _ _ _ => true
  | .scr _ => true
  | _ => false
theorem rep_ty {K : PySem.W.Frag} {F H : Hp} {x : V} {d : D} (h : Rep K F x d) (e : Ex F H) (hdn : d.isDN = false) : TyX K H x (.type d.ty) := by
  cases h with
  | non => exact .base .non
  | bl b => exact .base (.bl b)
  | int i => exact .base (.int i)
  | str s => exact .base (.str s)
  | tup h _ =>
    rcases h with ⟨o, h, _⟩ | ⟨o, its, n, h1, h2, _⟩
    · exact .fTuple (e _ _ h)
    · exact .kTuple h1 h2
  | lst h _ => exact .base (.lst (e _ _ h))
  | dic h _ _ => exact .base (.dK (e _ _ h))
  | dicN _ _ _ _ _ => cases hdn
  | scr _ => cases hdn
/-- isinstance(a, T) -/
theorem pv_isi {d : D} {T : Str} {n : String} {z : Bool} {p2 : Pos} (hdn : d.isDN = false) (hg : Gl X "isinstance") (hm : X.mg "isinstance" = none) (ha : PV X a S (.dat d) S1) (hgT : Gl X T) (hmT : X.mg T = none) (hv : bootBuiltins T = some (.type n)) (hk : PySem.W.kitOne X.K (.type d.ty) (.type n) = some z) (hn : T ≠ "__name__" := by decide) (hd : (T == ("__debug__" : Str)) = false := by decide)
    (hs : starEach [a, .Name T p2] X.env = (false, eval a X.env) :: starEach [.Name T p2] X.env := by rfl) (hs2 : starEach [.Name T p2] X.env = (false, eval (.Name T p2) X.env) :: starEach [] X.env := by rfl) (hpl : (backTo pos (starEach [.Name T p2] X.env)).any (·.1) = false := by rfl) :
    PV X (.Call (.Name "isinstance" p) [a, .Name T p2] [] pos) S (.dat (.bl z)) S1 :=
  peI (pe_callB call_isi hg hm rfl (pa_cons ha (pa_cons (pe_bltn hgT hmT hv (v := .ty n) rfl hn hd) pa_nil hs2) hs) (by decide) (by decide) hs hpl) fun σ H Q ⟨F0, H0, F, rr, q⟩ => ⟨F0, H0, F, rr, fun x F1 H1 r1 g z1 => by
    exact ⟨x, .ty n, _, _, z, rfl, .ty n, rep_ty z1 r1.fh hdn, hk, q _ F1 H1 r1 g (.bl z)⟩⟩
end
end PL
/-! The pure layer, K: set(a list of numbers), sorted of it. -/
namespace L2
open PySem PySem.Spec PyProof.Rows
section
variable {P : Program} {w : World} {A : Around} {E : Value → Shared → Prop} {s : Shared}
def newSetO (w : World) : Obj := { cls := .type "set", dict := none, data := .set #[] 0 (.fresh 0 0 (!w.params.followText "set-order")) }
theorem setOfInts {l : Addr} {xs : Array Value} (ks : List Int) {Q : Value → Shared → Prop} (hh : A.handled = none) (hl : s.heap.IsList l xs) (hi : IntsAre xs.toList ks) (hb : ks.length + 1 < scanBound)
    (h : ∀ (h' : Heap) (tk c : Nat), SetR w h' s.heap.objs.size (fun j => decide (j ∈ ks)) c → c ≤ ks.length → (∀ b o, s.heap.get? b = some o → h'.get? b = some o) → Q (.ref s.heap.objs.size) { s with heap := h', toks := tk }) :
    wpAny (model P w) A (call (.type "set") [.ref l]) Q E s := by
  have hn : xs.size = ks.length := by rw [← Array.length_toList]; exact IntsAre.length hi
  obtain ⟨c, tl, hmro⟩ := F.called_set.mro
  have m1 := F.called_set.made
  have m2 := F.called_set.sub
  refine wpAny_call (codeAny_of_tree ?_)
  show wpAny _ _ (callAny (.type "set") _) _ _ _
  refine wpAny_pure ⟨Code.quiet_builtin _ (by decide +kernel), codeAny_builtin F.entry_type_call ?_⟩
  rw [Around.under_plain (weight_type_call_type "set" [.ref l] []) rfl]
  have m3 := F.called_set.notType
  have m4 := F.called_set.canCreate
  have m5 := F.typeCall_set_1 (.ref l)
  repeat (any_goals (first | assumption | wp_step))
  refine codeAny_mono (code_set_led1 (.ref l) (E := E) (Q₁ := fun y s1 => y = .ref s.heap.objs.size ∧ s1 = { s with heap := s.heap.push (newSetO w) }) ⟨rfl, rfl⟩) fun r s1 hr => ?_
  cases r with
  | error e => exact hr
  | ok fl =>
    cases fl with
    | ret y =>
      obtain ⟨rfl, rfl⟩ := hr
      have hS : (s.heap.push (newSetO w)).get? s.heap.objs.size = some (newSetO w) := Heap.get?_push_size _ rfl
      have hT : Shared.TypeIs { s with heap := s.heap.push (newSetO w) } (.ref s.heap.objs.size) "set" := ⟨_, hS, rfl⟩
      have i1 := F.called_set.init.lookup
      have i2 := F.called_set.init.bind (.ref s.heap.objs.size)
      repeat (any_goals (first | assumption | wp_step))
      refine codeAny_mono (codeAny_call_builtin (R := wants (fun z s2 => z = .none ∧ ∃ h' tk c, s2 = { s with heap := h', toks := tk } ∧ SetR w h' s.heap.objs.size (fun j => decide (j ∈ ks)) c ∧ c ≤ ks.length ∧ (∀ b o, s.heap.get? b = some o → h'.get? b = some o)) E) F.called_set.init.plain F.entry_set_init (check_set_init_1 hT ?_)) fun r2 s2 hr2 => ?_
      · obtain ⟨⟨oc, od, ot, os⟩, hol, hcl, nl, hdl⟩ := hl
        simp only at hcl hdl
        subst hcl hdl
        have hol2 : (s.heap.push (newSetO w)).get? l = some { cls := .type "list", dict := od, data := .seq xs nl, slots := os } := Heap.get?_push_of_some _ hol
        have n1 := F.sub_list_set
        have n2 := F.sub_list_frozenset
        have n3 : (Value.type "list" == Value.type "dict") = false := by decide
        have hl1 : (s.heap.push (newSetO w)).IsList l xs := ⟨_, hol2, rfl, nl, rfl⟩
        unfold Builtin.«set.__init__» noKeywords Builtin.Frozenset.updateFrom
        generalize hPI : pyIter = PI
        wp_walk
        subst hPI
        refine wpAny_pyIter_list hl1 (wpAny_bind (wpAny_runValue ?_))
        have lt : l < s.heap.objs.size := Heap.lt_size hol
        have hh3 : A.in1.in1.in1.handled = none := by simp [hh]
        have sz : (s.heap.push (newSetO w)).objs.size = s.heap.objs.size + 1 := Heap.size_push ..
        have ne1 : l ≠ (s.heap.push (newSetO w)).objs.size := by rw [sz]; exact Nat.ne_of_lt (Nat.lt_succ_of_lt lt)
        have hSf : s.heap.objs.size ∉ [(s.heap.push (newSetO w)).objs.size, l] := by
          rw [sz]
          intro hm
          rcases List.mem_cons.mp hm with e | hm
          · exact absurd e (Nat.ne_of_lt (Nat.lt_succ_self _))
          · rcases List.mem_cons.mp hm with e | hm
            · exact absurd e.symm (Nat.ne_of_lt lt)
            · exact nomatch hm
        have hval : ∀ (i : Nat) (v : Value), xs[i]? = some v → ∃ k t, ks[i]? = some k ∧ v = .int k t := fun i v hv => by
          have hi2 : i < ks.length := by rw [← hn]; exact (Array.getElem?_eq_some_iff.mp hv).1
          obtain ⟨t, e⟩ := IntsAre.int_at hi i v (by rw [Array.getElem?_toList]; exact hv)
          exact ⟨ks[i], t, List.getElem?_eq_getElem hi2, by rw [e, List.getD_eq_getElem?_getD, List.getElem?_eq_getElem hi2] <;> rfl⟩
        refine set_update_ints ((Walks.list hh3 _ l ne1 xs).toS) s.heap.objs.size hSf ks hn hb hval (xs.size - 0) 0 _ (by omega) (Nat.zero_le _) ⟨⟨_, Heap.get?_push_size _ rfl, rfl, rfl⟩, (hl1.push _)⟩ ⟨0, Nat.le_refl 0, setR_new_at (Heap.get?_push_of_some _ hS)⟩ ?_
        rintro ⟨h', g2, d2, tk2, os2⟩ c2 hm hc2 hS2
        have eg : g2 = s.gens := hm.gens
        have ed : d2 = s.drawn := hm.drawn
        have eo : os2 = s.os := hm.os
        subst eg ed eo
        show wpAny _ _ _ _ _ _
        refine wpAny_pure ?_
        show wpAny _ _ (ret Value.none) _ _ _
        refine wpAny_pure ⟨rfl, h', tk2, c2, rfl, hS2, by rw [← hn]; exact hc2, fun b o e => ?_⟩
        have b0 : b < s.heap.objs.size := Heap.lt_size e
        refine hm.heap b o (fun hm => ?_) (Heap.get?_push_of_some _ (Heap.get?_push_of_some _ e))
        rcases List.mem_cons.mp hm with e | hm
        · exact absurd e (Nat.ne_of_lt b0)
        · rcases List.mem_cons.mp hm with e | hm
          · exact absurd e (by rw [sz]; exact Nat.ne_of_lt (Nat.lt_succ_of_lt b0))
          · exact nomatch hm
      · cases r2 with
        | error e => exact hr2
        | ok fl2 =>
          cases fl2 with
          | ret z =>
            obtain ⟨rfl, h', tk, c2, rfl, hS2, hc2, hk2⟩ := hr2
            repeat (any_goals (first | assumption | wp_step))
            exact h _ _ _ hS2 hc2 hk2
          | _ => exact hr2.elim
    | _ => exact hr.elim
end
end L2
namespace PL
open PySem PySem.Spec PyProof.Rows L2
theorem call_setL {X : Cx} (hc : X.calm = true) : CallR X (.type "set") (fun xs H Q => ∃ (p : Addr) (is : List Int), xs = [V.ref p] ∧ SqL X.K H p (is.map V.int) ∧ is.length + 1 < scanBound ∧ ∀ a c, H a = none → c ≤ is.length → Q (.ref a) (upd H a (SetO X.w a (fun j => decide (j ∈ is)) c))) := by
  intro pins s σ H xs us Q I r h
  obtain ⟨p, is, rfl, hs, hb, q⟩ := h
  obtain ⟨its, rv, hl, _⟩ := I.list hs
  rw [Vals.ref1 r]
  refine setOfInts is (I.ok.hd hc) hl.isList rv.ints hb fun h' tk c new hcn hk => ?_
  exact ⟨.ref _, upd H s.heap.objs.size (SetO X.w s.heap.objs.size (fun j => decide (j ∈ is)) c), I.laid (t' := tk) hk (Nat.le_refl _) (setO_new new), rfl, q _ c (I.hok.fresh (Nat.le_refl _)) hcn⟩

/-- the members of a list, rising -/
def insU (x : Int) : List Int → List Int
  | [] => [x]
  | y :: ys => if x < y then x :: y :: ys else if x = y then y :: ys else y :: insU x ys
def sortU : List Int → List Int
  | [] => []
  | x :: xs => insU x (sortU xs)
theorem mem_insU {x z : Int} : ∀ {ys : List Int}, z ∈ insU x ys ↔ z = x ∨ z ∈ ys
  | [] => by simp [insU]
  | y :: ys => by
    unfold insU
    split
    · simp
    · split
      · rename_i h; subst h; simp
      · rw [List.mem_cons, mem_insU, List.mem_cons]
        constructor
        · rintro (h | h | h) <;> simp [h]
        · rintro (h | h | h) <;> simp [h]
theorem mem_sortU {z : Int} : ∀ {xs : List Int}, z ∈ sortU xs ↔ z ∈ xs
  | [] => by simp [sortU]
  | x :: xs => by unfold sortU; rw [mem_insU, mem_sortU, List.mem_cons]
theorem insU_rises {x : Int} : ∀ {ys : List Int}, ys.Pairwise (· < ·) → (insU x ys).Pairwise (· < ·)
  | [], _ => by simp [insU]
  | y :: ys, h => by
    obtain ⟨h1, h2⟩ := List.pairwise_cons.mp h
    unfold insU
    split
    · rename_i hxy
      refine List.pairwise_cons.mpr ⟨fun z hz => ?_, h⟩
      rcases List.mem_cons.mp hz with rfl | hz
      · exact hxy
      · have := h1 z hz; omega
    · split
      · exact h
      · refine List.pairwise_cons.mpr ⟨fun z hz => ?_, insU_rises h2⟩
        rcases mem_insU.mp hz with rfl | hz
        · omega
        · exact h1 z hz
theorem sortU_rises : ∀ {xs : List Int}, (sortU xs).Pairwise (· < ·)
  | [] => by simp [sortU]
  | x :: xs => by unfold sortU; exact insU_rises sortU_rises
theorem rises_eq : ∀ {xs ys : List Int}, xs.Pairwise (· < ·) → ys.Pairwise (· < ·) → (∀ z, z ∈ xs ↔ z ∈ ys) → xs = ys
  | [], [], _, _, _ => rfl
  | [], y :: ys, _, _, h => by have := (h y).mpr (by simp); simp at this
  | x :: xs, [], _, _, h => by have := (h x).mp (by simp); simp at this
  | x :: xs, y :: ys, hx, hy, h => by
    obtain ⟨hx1, hx2⟩ := List.pairwise_cons.mp hx
    obtain ⟨hy1, hy2⟩ := List.pairwise_cons.mp hy
    have e : x = y := by
      rcases List.mem_cons.mp ((h x).mp (by simp)) with e | hm
      · exact e
      · rcases List.mem_cons.mp ((h y).mpr (by simp)) with e | hm2
        · exact e.symm
        · have a1 := hx1 y hm2
          have a2 := hy1 x hm
          omega
    subst e
    congr 1
    refine rises_eq hx2 hy2 fun z => ⟨fun hz => ?_, fun hz => ?_⟩
    · rcases List.mem_cons.mp ((h z).mp (List.mem_cons_of_mem _ hz)) with e | hm
      · have := hx1 z hz; omega
      · exact hm
    · rcases List.mem_cons.mp ((h z).mpr (List.mem_cons_of_mem _ hz)) with e | hm
      · have := hy1 z hz; omega
      · exact hm
theorem insU_length {x : Int} : ∀ {ys : List Int}, (insU x ys).length ≤ ys.length + 1
  | [] => by simp [insU]
  | y :: ys => by
    unfold insU
    split
    · simp
    · split
      · simp
      · rw [List.length_cons, List.length_cons]; have := insU_length (x := x) (ys := ys); omega
theorem sortU_length : ∀ {xs : List Int}, (sortU xs).length ≤ xs.length
  | [] => by simp [sortU]
  | x :: xs => by unfold sortU; rw [List.length_cons]; have := insU_length (x := x) (ys := sortU xs); have := sortU_length (xs := xs); omega
section
variable {X : Cx} {a : Expr} {S S1 : PSt} {v : Vl} {pos p p2 : Pos} {pos2 : Pos}
/-- sorted(set(a list of numbers)) -/
theorem pv_sortedSet {s : Sl} {is : List Int} (hcm : X.calm = true) (hg : Gl X "sorted") (hm : X.mg "sorted" = none) (hg2 : Gl X "set") (hm2 : X.mg "set" = none) (ha : PV X a S v S1) (hc : S1.con v = some s) (hq : s.seq = some (false, is.map D.int)) (hl : is.length < 64)
    (hs : starEach [a] X.env = (false, eval a X.env) :: starEach [] X.env := by rfl) (hpl : (backTo pos2 (starEach [] X.env)).any (·.1) = false := by rfl)
    (hs2 : starEach [.Call (.Name "set" p2) [a] [] pos2] X.env = (false, eval (.Call (.Name "set" p2) [a] [] pos2) X.env) :: starEach [] X.env := by rfl) (hpl2 : (backTo pos (starEach [] X.env)).any (·.1) = false := by rfl) :
    PV X (.Call (.Name "sorted" p) [.Call (.Name "set" p2) [a] [] pos2] [] pos) S (.new (.lst ((sortU is).map D.int))) S1 :=
  peI (pe_callB (cr_sortedSet hcm) hg hm rfl (pa_cons (pe_callTy (call_setL hcm) hg2 hm2 rfl (pvs_one ha hs) (by decide) (by decide) hs hpl) pa_nil hs2) (by decide) (by decide) hs2 hpl2) fun σ H Q ⟨F0, H0, F, rr, q⟩ => ⟨F0, H0, F, rr, fun xs F1 H1 r1 g z' => by
    obtain ⟨y, rfl, z⟩ := arg1 z'
    obtain ⟨l, ws, rfl, h1, h2⟩ := (z.sl r1 hc).items r1.fh hq
    have e1 := h2.ints
    subst e1
    refine ⟨l, is, rfl, h1, by unfold scanBound; omega, fun a c ha hcl => ?_⟩
    refine ⟨a, _, c, rfl, upd_same, by omega, fun ns p h3 h4 h5 hp => ?_⟩
    have e2 : ns = sortU is := rises_eq h3 sortU_rises fun z => by rw [h4, mem_sortU]; simp
    subst e2
    have hpa : p ≠ a := fun e => by rw [e, upd_same] at hp; cases hp
    have hp1 : H1 p = none := by rw [upd_ne hpa] at hp; exact hp
    have r2 := (r1.tmp (o := SetO X.w a (fun j => decide (j ∈ is)) c) ha)
    have g2 : Gr σ S1 S1 F1 H1 F1 _ := gr_tmp (S := S1) (F := F1) (σ := σ) (o := SetO X.w a (fun j => decide (j ∈ is)) c) ha
    refine q _ F1 _ (r2.tmp hp) ((g.tr r1 g2).tr r2 (gr_tmp hp)) ⟨rfl, ⟨p, _, rfl, upd_same, RepL.of_ints _⟩, loose_new (o := .lst ((sortU is).map V.int)) r2 hp, fun q eq => by cases eq; exact g.back r1 hp1⟩⟩
end
end PL
/-! The pure layer, L: sums of tuples and lists, in, index, list(range), displays of dicts. -/
namespace PL
open PySem PySem.Spec PyProof.Rows L2

section
variable {X : Cx} {e a b o i : Expr} {es : List Expr} {S S1 S2 S3 : PSt} {v u : Vl} {vs : List Vl} {pos p tpos apos cpos : Pos} {x : Str}
/-! ### + -/
def rCatF (K : PySem.W.Frag) : R2 := fun x y H Q => ∃ a b xs ys, x = .ref a ∧ y = .ref b ∧ SqT K H a xs ∧ SqT K H b ys ∧ xs.length + ys.length ≤ sizeLine ∧
  (xs = [] → Q (.ref b) H) ∧ (xs ≠ [] → ys = [] → Q (.ref a) H) ∧ (xs ≠ [] → ys ≠ [] → ∀ p o, H p = none → o.dict = none → Q (.ref p) (upd H p (.frz o (.tup (xs ++ ys)))))
theorem op_catF : OpR X (binaryOp .Add) (rCatF X.K) := by
  intro pins s σ H x y v u Q I rx ry h
  obtain ⟨a, b, xs, ys, rfl, rfl, ha, hb, hz, q0, q1, q2⟩ := h
  cases rx
  cases ry
  obtain ⟨its, r1, p1, _⟩ := I.tuple ha
  obtain ⟨jts, r2, p2, _⟩ := I.tuple hb
  by_cases hx : xs = []
  · subst hx
    cases r1
    exact cat_tup0 p1 p2 ⟨.ref b, H, I, rfl, q0 rfl⟩
  · refine HT.cat_tup p1 p2 (fun z => hx (r1.nil_iff.mp z)) (fun z => ⟨.ref a, H, I, rfl, q1 hx (r2.nil_iff.mp z)⟩) (fun z => ?_) (by rw [← r1.length, ← r2.length]; exact hz)
    refine ⟨.ref s.heap.objs.size, _, I.laid (t' := s.toks) (o := .frz { cls := .type "tuple", data := .seq (its ++ jts).toArray } (.tup (xs ++ ys))) (fun b ob q => Heap.get?_push_of_some _ q) (Nat.le_refl _) ?_, rfl, q2 hx (fun w => z (r2.nil_iff.mpr w)) _ _ (I.hok.fresh (Nat.le_refl _)) rfl⟩
    exact ⟨Heap.get?_push_size _ rfl, by rw [List.length_append]; exact hz, _, r1.append r2, IsTup.new _ _⟩
theorem rep_tup {K : PySem.W.Frag} {F : Hp} {x : V} {ds : List D} (h : Rep K F x (.tup ds)) : ∃ a vs, x = .ref a ∧ TupAt K F a vs ∧ RepL K F vs ds := by
  cases h with
  | tup h r => exact ⟨_, _, rfl, h, r⟩
/-- tuple + tuple -/
theorem pv_catT {ds es : List D} (ha : PV X a S (.dat (.tup ds)) S1) (hb : PV X b S1 (.dat (.tup es)) S2) (hl : ds.length + es.length ≤ 1000000) : PV X (.BinOp a .Add b pos) S (.dat (.tup (ds ++ es))) S2 :=
  peI (pe_op op_catF ha hb) fun σ H Q ⟨F0, H0, F, rr, k⟩ => ⟨F0, H0, F, rr, fun x F1 H1 r1 e1 z1 => ⟨F0, H0, F1, r1, fun y F2 H2 r2 e2 z2 => by
    have z1' := Rep.mono e2.eF z1
    obtain ⟨p1, ws1, rfl, t1, l1⟩ := rep_tup z1'
    obtain ⟨p2, ws2, rfl, t2, l2⟩ := rep_tup z2
    have g := e1.tr r1 e2
    refine ⟨p1, p2, ws1, ws2, rfl, rfl, Evl.ex_t r2.fh t1.sq, Evl.ex_t r2.fh t2.sq, by rw [l1.len, l2.len, sizeLine_eq]; omega, fun h0 => ?_, fun _ h0 => ?_, fun _ _ q o hq ho => ?_⟩
    · subst h0
      cases l1
      exact k _ F2 H2 r2 g z2
    · subst h0
      cases l2
      rw [List.append_nil] at k
      exact k _ F2 H2 r2 g z1'
    · have e3 : Ex F2 (upd F2 q (.frz o (.tup (ws1 ++ ws2)))) := ex_new (r2.freeF hq)
      exact k _ _ _ (r2.new hq) (g.tr r2 (gr_new (r2.freeF hq) hq (r2.free0 hq).2)) (.tup (.inl ⟨o, upd_same, ho⟩) ((l1.app l2).mono e3))⟩⟩
theorem SlOk.lstAt {c : Cc} {F H : Hp} {w : Option WS} {x : V} {s : Sl} {ds : List D} (h : SlOk c F H w x s) (fh : Ex F H) (e : s.seq = some (false, ds)) : ∃ p vs, x = .ref p ∧ H p = some (.lst vs) ∧ RepL c.K F vs ds := by
  cases s with
  | dat d =>
    cases h with
    | lst h r => cases e; exact ⟨_, _, rfl, fh _ _ h, r⟩
    | _ => cases e
  | lst ds' => cases e; exact h
  | dicI _ => cases e
  | dicN _ => cases e
  | st => cases e
/-- list + list -/
theorem pv_catL {s1 s2 : Sl} {ds es : List D} (ha : PV X a S v S1) (hb : PV X b S1 u S2) (hc1 : S2.con v = some s1) (hq1 : s1.seq = some (false, ds)) (hc2 : S2.con u = some s2) (hq2 : s2.seq = some (false, es)) (hl : ds.length + es.length ≤ 1000000) (hk : v.keeps S1 S2 := by first | exact True.intro | exact rfl) :
    PV X (.BinOp a .Add b pos) S (.new (.lst (ds ++ es))) S2 :=
  peI (pe_op op_cat ha hb) fun σ H Q ⟨F0, H0, F, rr, k⟩ => ⟨F0, H0, F, rr, fun x F1 H1 r1 e1 z1 => ⟨F0, H0, F1, r1, fun y F2 H2 r2 e2 z2 => by
    have g := e1.tr r1 e2
    obtain ⟨p1, ws1, rfl, t1, l1⟩ := ((z1.later (F0 := F0) hk e2).sl r2 hc1).lstAt r2.fh hq1
    obtain ⟨p2, ws2, rfl, t2, l2⟩ := (z2.sl r2 hc2).lstAt r2.fh hq2
    refine ⟨p1, p2, ws1, ws2, rfl, rfl, t1, t2, by rw [l1.len, l2.len, sizeLine_eq]; omega, fun l hl => ?_⟩
    exact k _ F2 _ (r2.tmp hl) (g.tr r2 (gr_tmp hl)) ⟨rfl, ⟨l, _, rfl, upd_same, l1.app l2⟩, loose_new (o := .lst (ws1 ++ ws2)) r2 hl, fun q eq => by cases eq; exact g.back r2 hl⟩⟩⟩

/-! ### in -/
theorem RepL.strs {K : PySem.W.Frag} {F : Hp} : ∀ {vs : List V} {ss : List Str}, RepL K F vs (ss.map D.str) → vs = ss.map V.str
  | _, [], r => by cases r; rfl
  | _, i :: is, r => by
    rw [List.map_cons] at r
    cases r with
    | cons h t => cases h; rw [List.map_cons, RepL.strs t]
theorem any_ints (i : Int) : ∀ is : List Int, inV (.int i) (is.map V.int) = decide (i ∈ is)
  | [] => by simp [inV]
  | j :: is => by
    have := any_ints i is
    unfold inV at this ⊢
    rw [List.map_cons, List.any_cons, this]
    by_cases h : j = i
    · subst h; simp [eqV]
    · have h' : ¬ i = j := fun z => h z.symm
      simp [eqV, h, h']
theorem any_strs (i : Str) : ∀ is : List Str, inV (.str i) (is.map V.str) = decide (i ∈ is)
  | [] => by simp [inV]
  | j :: is => by
    have := any_strs i is
    unfold inV at this ⊢
    rw [List.map_cons, List.any_cons, this]
    by_cases h : j = i
    · subst h; simp [eqV]
    · have h' : ¬ i = j := fun z => h z.symm
      simp [eqV, h, h']
theorem flat_ints (is : List Int) : (is.map V.int).all flatV = true := by rw [List.all_map]; exact List.all_eq_true.mpr fun _ _ => rfl
theorem cd_inSeqI {s : Sl} {t : Bool} {k : Int} {is : List Int} (ha : PV X a S (.dat (.int k)) S1) (hb : PV X b S1 v S2) (hc : S2.con v = some s) (hq : s.seq = some (t, is.map D.int)) : PCd X .In a b S (decide (k ∈ is)) S2 :=
  pcI (pc_op op_in_seq ha hb) fun σ H Q ⟨F0, H0, F, rr, q⟩ => ⟨F0, H0, F, rr, fun x F1 H1 r1 e1 z1 => ⟨F0, H0, F1, r1, fun y F2 H2 r2 e2 z2 => by
    obtain ⟨p, ws, rfl, h1, h2⟩ := (z2.sl r2 hc).items r2.fh hq
    have e3 := h2.ints
    subst e3
    rw [rep_int z1]
    refine ⟨p, _, rfl, h1.or, rfl, flat_ints is, ?_⟩
    rw [if_neg Bool.false_ne_true, any_ints]
    exact q _ F2 H2 r2 (e1.tr r1 e2) (.bl _)⟩⟩
theorem cd_notInSeqI {s : Sl} {t : Bool} {k : Int} {is : List Int} (ha : PV X a S (.dat (.int k)) S1) (hb : PV X b S1 v S2) (hc : S2.con v = some s) (hq : s.seq = some (t, is.map D.int)) : PCd X .NotIn a b S (!decide (k ∈ is)) S2 :=
  pcI (pc_op op_notIn_seq ha hb) fun σ H Q ⟨F0, H0, F, rr, q⟩ => ⟨F0, H0, F, rr, fun x F1 H1 r1 e1 z1 => ⟨F0, H0, F1, r1, fun y F2 H2 r2 e2 z2 => by
    obtain ⟨p, ws, rfl, h1, h2⟩ := (z2.sl r2 hc).items r2.fh hq
    have e3 := h2.ints
    subst e3
    rw [rep_int z1]
    refine ⟨p, _, rfl, h1.or, rfl, flat_ints is, ?_⟩
    rw [if_pos rfl, any_ints]
    exact q _ F2 H2 r2 (e1.tr r1 e2) (.bl _)⟩⟩
theorem rep_str {K : PySem.W.Frag} {F : Hp} {x : V} {i : Str} (h : Rep K F x (.str i)) : x = .str i := by cases h; rfl
theorem cd_inSeqS {s : Sl} {t : Bool} {k : Str} {is : List Str} (ha : PV X a S (.dat (.str k)) S1) (hb : PV X b S1 v S2) (hc : S2.con v = some s) (hq : s.seq = some (t, is.map D.str)) : PCd X .In a b S (decide (k ∈ is)) S2 :=
  pcI (pc_op op_in_seq ha hb) fun σ H Q ⟨F0, H0, F, rr, q⟩ => ⟨F0, H0, F, rr, fun x F1 H1 r1 e1 z1 => ⟨F0, H0, F1, r1, fun y F2 H2 r2 e2 z2 => by
    obtain ⟨p, ws, rfl, h1, h2⟩ := (z2.sl r2 hc).items r2.fh hq
    have e3 := h2.strs
    subst e3
    rw [rep_str z1]
    refine ⟨p, _, rfl, h1.or, rfl, flat_strs is, ?_⟩
    rw [if_neg Bool.false_ne_true, any_strs]
    exact q _ F2 H2 r2 (e1.tr r1 e2) (.bl _)⟩⟩

/-! ### t.index(k), list(range(n)) -/
theorem tup_ty {pins : List (Addr × Obj)} {σ : L2.St} {F H : Hp} {s : Shared} {a : Addr} {vs : List V} (I : Inv X pins σ H s) (fh : Ex F H) (h : TupAt X.K F a vs) : s.TypeIs (.ref a) "tuple" ∧ ∀ b, Value.ref a = .ref b → ∃ ob, s.heap.get? b = some ob ∧ ob.dict = none := by
  rcases h with ⟨o, h, d⟩ | ⟨o, its, n, h1, h2, h3, _⟩
  · obtain ⟨h4, _, its, _, o2, h5, h6, _⟩ := (show ObjOk X.prog X.w H s.heap a (.frz o (.tup vs)) from I.hok a _ (fh _ _ h))
    exact ⟨⟨o2, h5, h6⟩, fun b e => by cases e; exact ⟨o, h4, d⟩⟩
  · exact ⟨⟨o, I.kIn a o h1, h2⟩, fun b e => by cases e; exact ⟨o, I.kIn a o h1, h3⟩⟩
theorem pv_index {k : Int} {is : List Int} {j : Nat} (ho : PV X o S (.dat (.tup (is.map D.int))) S1) (he : PV X e S1 (.dat (.int k)) S2) (hj : is[j]? = some k) (hno : ∀ m, m < j → is[m]? ≠ some k)
    (hbase : attributeBase o ("index" : Str) X.env (eval o X.env) = eval o X.env := by rfl)
    (hfew : ((backTo cpos (starEach [e] X.env)).all (fun x => !x.1) && (backToKw cpos (keywordEach [] X.env)).all (fun x => x.1.isSome) && decide ([e].length + ([] : List Keyword).length + (if ([] : List Keyword).isEmpty then 0 else 1) < 30)) = true := by rfl)
    (hline : (apos.endLine == cpos.line) = true := by rfl) (hs : starEach [e] X.env = (false, eval e X.env) :: starEach [] X.env := by rfl) (hplain : (backTo cpos (starEach [] X.env)).any (·.1) = false := by rfl) :
    PV X (.Call (.Attribute o ("index" : Str) apos) [e] [] cpos) S (.dat (.int j)) S2 := by
  refine ⟨fun pins s σ H Q I h => ?_⟩
  obtain ⟨F0, H0, F, rr, q⟩ := h
  refine wpAny_Call_method_late hbase hfew hline rfl (thn (ho.run pins s σ H (fun x H1 => ∃ F1, R (ccOf X) F0 H0 F1 H1 σ S1 ∧ Gr σ S S1 F H F1 H1 ∧ Rep X.K F1 x (.tup (is.map D.int))) I ⟨F0, H0, F, rr, fun x F1 H1 r1 e1 z1 => ⟨F1, r1, e1, z1⟩⟩) fun v s1 ⟨x, H1, I1, rx, F1, r1, g1, z1⟩ => ?_)
  obtain ⟨a, ws, rfl, ta, la⟩ := rep_tup z1
  cases rx
  obtain ⟨h1, h2⟩ := tup_ty I1 r1.fh ta
  refine ⟨"tuple", "tuple.index", PySem.F.plainAttrs_tuple, PySem.F.slot_tuple_index, PySem.F.type_tuple_index, h1, h2, ?_⟩
  have hA := (pvs_one he hs).run cpos pins s1 σ H1 (fun xs H2 => ∃ F2, R (ccOf X) F0 H0 F2 H2 σ S2 ∧ Gr σ S1 S2 F1 H1 F2 H2 ∧ xs = [.int k]) I1 ⟨F0, H0, F1, r1, fun xs F2 H2 r2 g2 z2 => by
    obtain ⟨y, rfl, z3⟩ := arg1 z2
    exact ⟨F2, r2, g2, by rw [rep_int z3]⟩⟩
  rw [hs] at hA ⊢
  refine Calls.callWith_builtin (by show (false || (backTo cpos (starEach [] X.env)).any (·.1)) = false; rw [hplain] <;> rfl) (Calls.evalArgs_plain ?_)
  refine thn hA fun us s2 ⟨xs, H2, I2, r, F2, r2, g2, exs⟩ => ?_
  subst exs
  obtain ⟨u, rfl, tk, rfl⟩ := vals1 r
  obtain ⟨its, ri, ⟨⟨cls, dd, dt, sl⟩, hob, hc, n, hd⟩, _⟩ := I2.tuple (Evl.ex_t r2.fh (Evl.ex_t g2.eF ta.sq))
  simp only at hc hd
  subst hc hd
  have e3 := la.ints
  subst e3
  have hl : its.toArray.size = is.length := by rw [List.size_toArray, ← ri.length, List.length_map]
  have hjj : j < its.toArray.size := by rw [hl]; exact (List.getElem?_eq_some_iff.mp hj).1
  have at' : ∀ (m : Nat) (hm : m < its.toArray.size), ∃ y t', is[m]? = some y ∧ its.toArray[m] = Value.int y t' := fun m hm => by
    have hm2 : m < is.length := by rw [← hl]; exact hm
    obtain ⟨w, hw, t', hw'⟩ := ri.get (i := m) (x := .int is[m]) (by simp [hm2])
    refine ⟨is[m], t', List.getElem?_eq_getElem hm2, ?_⟩
    have e := (List.getElem?_eq_some_iff.mp hw).2
    rw [← hw', ← e]
    simp
  refine call_meets PySem.F.slot_tuple_index ⟨_, hob, rfl⟩ PySem.F.entry_tuple_index (PySem.F.args_tuple_index_2 _ _) (TI.tuple_indexAt a its.toArray n dd sl (.int k tk) (eqU (.int k)) j hjj ?_ ?_)
    ⟨hob, fun w hw => mem_eqAt (x := .int k) ⟨tk, rfl⟩ rfl ri (flat_ints is) w (by simpa using hw), ⟨.int (j : Nat), H2, I2.tok _, ⟨_, rfl⟩, q _ F2 H2 r2 (g1.tr r1 g2) (.int _)⟩⟩
  · obtain ⟨y, t', h1, h2⟩ := at' j hjj
    rw [hj] at h1
    cases h1
    rw [h2]
    show (k == k) = true
    exact beq_self_eq_true k
  · intro m hm hmj
    obtain ⟨y, t', h1, h2⟩ := at' m hm
    rw [h2]
    show (y == k) = false
    have : y ≠ k := fun z => hno m hmj (by rw [h1, z])
    simpa using this
theorem rep_range {K : PySem.W.Frag} {F : Hp} (n : Int) : RepL K F (rgV 0 n) ((List.range n.toNat).map fun (i : Nat) => D.int (i : Int)) := by
  have e : rgV 0 n = ((List.range n.toNat).map fun (i : Nat) => (i : Int)).map V.int := by
    unfold rgV
    rw [List.map_map, Int.sub_zero]
    refine List.map_congr_left fun i _ => ?_
    show V.int (0 + (i : Int)) = V.int (i : Int)
    rw [Int.zero_add]
  have e2 : ((List.range n.toNat).map fun (i : Nat) => D.int (i : Int)) = ((List.range n.toNat).map fun (i : Nat) => (i : Int)).map D.int := by rw [List.map_map]; rfl
  rw [e, e2]
  exact RepL.of_ints _
theorem pv_listRange {n : Int} {p2 pos2 : Pos} (hcm : X.calm = true) (hg : Gl X "list") (hm : X.mg "list" = none) (hg2 : Gl X "range") (hm2 : X.mg "range" = none) (ha : PV X a S (.dat (.int n)) S1) (hn : 0 ≤ n ∧ n ≤ 1000000)
    (na : starEach [a] X.env = (false, eval a X.env) :: starEach [] X.env := by rfl) (na2 : starEach [.Call (.Name "range" p2) [a] [] pos2] X.env = (false, eval (.Call (.Name "range" p2) [a] [] pos2) X.env) :: starEach [] X.env := by rfl) :
    PV X (.Call (.Name "list" p) [.Call (.Name "range" p2) [a] [] pos2] [] pos) S (.new (.lst ((List.range n.toNat).map fun (i : Nat) => D.int (i : Int)))) S1 :=
  peI (pe_listRg hcm hg hm (prg_1 hg2 hm2 ha na) na2) fun σ H Q ⟨F0, H0, F, rr, q⟩ => ⟨F0, H0, F, rr, fun x F1 H1 r1 g z => by
    refine ⟨n, rep_int z, RgOk.of_le (Int.le_refl _) (by omega) (by omega) hn.1, fun l hl => ?_⟩
    exact q _ F1 _ (r1.tmp hl) (g.tr r1 (gr_tmp hl)) ⟨rfl, ⟨l, _, rfl, upd_same, rep_range n⟩, loose_new (o := .lst (rgV 0 n)) r1 hl, fun q eq => by cases eq; exact g.back r1 hl⟩⟩

/-! ### {}, {k: v} -/
theorem pv_dnewI : PV X (.Dict [] [] pos) S (.new (.dicI [])) S := peI pe_dnewK fun σ H Q ⟨F0, H0, F, rr, q⟩ => fun l hl =>
  q _ F _ (rr.tmp hl) (gr_tmp hl) ⟨rfl, ⟨l, [], rfl, upd_same, .nil⟩, loose_new (o := .dK []) rr hl, fun q eq => by cases eq; exact hl⟩
theorem dicO_empty {c : Cc} {H : Hp} (h : Heap) (hb : sysModules < h.objs.size) : ObjOk c.P c.w H (h.push { cls := .type "dict", data := .dict #[] }) h.objs.size (DicO c h.objs.size []) := by
  have raw : DicRaw c h.objs.size [] (h.push { cls := .type "dict", data := .dict #[] }) := ⟨Nat.zero_le _, beq_eq_false_iff_ne.mpr (Ne.symm (Nat.ne_of_lt hb)), [], .nil, _, #[], 0, Heap.get?_push_size _ rfl, ⟨rfl, rfl, rfl⟩, rfl, rfl, List.nodup_nil⟩
  refine ⟨raw, ⟨_, Heap.get?_push_size _ rfl⟩, fun h1 h2 q1 q2 => ?_⟩
  obtain ⟨b1, b2, xs2, b3, o2, es2, ep2, c1, c2, c3, c4, c5⟩ := q1
  exact ⟨b1, b2, xs2, b3, o2, es2, ep2, q2 o2 c1, c2, c3, c4, c5⟩
theorem pv_dnewN : PV X (.Dict [] [] pos) S (.new (.dicN [])) S := ⟨fun pins s σ H Q I ⟨F0, H0, F, rr, q⟩ => by
  have hl : H s.heap.objs.size = none := I.hok.fresh (Nat.le_refl _)
  exact wpAny_Dict_empty ⟨.ref s.heap.objs.size, _, I.laid (a := s.heap.objs.size) (o := DicO (ccOf X) s.heap.objs.size []) (t' := s.toks) (fun _ _ q => Heap.get?_push_of_some _ q) (Nat.le_refl _) (dicO_empty s.heap I.big), rfl,
    q _ F _ (rr.tmp hl) (gr_tmp hl) ⟨rfl, ⟨_, [], rfl, upd_same, .nil⟩, loose_new (o := DicO (ccOf X) s.heap.objs.size []) rr hl, fun q eq => by cases eq; exact hl⟩⟩⟩
/-- a loose object, later -/
theorem loose_later {c : Cc} {F0 H0 F H F' H' : Hp} {σ : L2.St} {S S' : PSt} {p : Addr} {s : Sl} (r : R c F0 H0 F H σ S) (h : VlOk c H0 H F H σ S (.ref p) (.new s)) (g : Gr σ S S' F H F' H') : VlOk c H0 H F' H' σ S' (.ref p) (.new s) := h.later (F0 := F0) (v := .new s) True.intro g
theorem pv_dispI {k : Int} {d : D} (ha : PV X a S (.dat (.int k)) S1) (hb : PV X b S1 (.dat d) S2) : PV X (.Dict [some a] [b] pos) S (.new (.dicI [(k, d)])) S2 :=
  peI (pe_disp (pps_cons ha hb pps_nil) rfl rfl (by simp) (by simp)) fun σ H Q ⟨F0, H0, F, rr, q⟩ => fun l hl => by
    have r0 := rr.tmp (o := .dK []) hl
    have g0 : Gr σ S S F H F _ := gr_tmp (S := S) (F := F) (σ := σ) (o := .dK []) hl
    have lo := loose_new (o := .dK []) rr hl
    have v0 : VlOk (ccOf X) H0 H F (upd H l (.dK [])) σ S (.ref l) (.new (.dicI [])) := ⟨rfl, ⟨l, [], rfl, upd_same, .nil⟩, lo, fun q eq => by cases eq; exact hl⟩
    refine ⟨F0, H0, F, r0, fun x F1 H1 r1 g1 z1 => ⟨F0, H0, F1, r1, fun y F2 H2 r2 g2 z2 => ?_⟩⟩
    have v1 := v0.later (F0 := F0) (v := .new (.dicI [])) True.intro g1
    have v2 := v1.later (F0 := F0) (v := .new (.dicI [])) True.intro g2
    obtain ⟨_, ⟨_, us, e1, h1, h2⟩, ⟨_, e2, a1, a2, a3, a4⟩, _⟩ := v2
    cases e1
    cases e2
    cases h2
    rw [rep_int z1]
    refine ⟨h1, [(Sum.inl k, y)], rfl, by show 1 ≤ 15; decide, ?_⟩
    have em : mergeK [] [((Sum.inl k : Key), y)] = [(Sum.inl k, y)] := rfl
    rw [em]
    have hne : ∀ a o, H a = some o → a ≠ l := fun a o h e => by rw [e, hl] at h; cases h
    have gg := ((g0.tr r0 g1).tr r1 g2)
    refine q _ F2 _ (r2.loose (.inr ⟨a1, a2, a3, a4⟩)) ⟨gg.eF, fun a o h n => ?_, gg.nF, gg.sw, gg.so⟩ ⟨rfl, ⟨l, _, rfl, upd_same, .cons ⟨rfl, z2⟩ .nil⟩, ⟨l, rfl, a1, a2, a3, a4⟩, fun q eq => by cases eq; exact hl⟩
    have := gg.eH a o h n
    exact ⟨by rw [upd_ne (hne a o h)]; exact this.1, this.2⟩
theorem pv_dispN {ds : List D} {d : D} (hu : X.A.units + 9 < cLine) (ha : PV X a S (.dat (.tup ds)) S1) (hb : PV X b S1 (.dat d) S2) (hkey : (D.tup ds).keyable 8 = true) : PV X (.Dict [some a] [b] pos) S (.new (.dicN [((D.tup ds).key, d)])) S2 := ⟨fun pins s σ H Q I ⟨F0, H0, F, rr, q⟩ => by
  have hl : H s.heap.objs.size = none := I.hok.fresh (Nat.le_refl _)
  generalize el : s.heap.objs.size = l at hl
  have r0 := rr.tmp (o := DicO (ccOf X) l []) hl
  have g0 : Gr σ S S F H F _ := gr_tmp (S := S) (F := F) (σ := σ) (o := DicO (ccOf X) l []) hl
  have lo := loose_new (o := DicO (ccOf X) l []) rr hl
  have v0 : VlOk (ccOf X) H0 H F (upd H l (DicO (ccOf X) l [])) σ S (.ref l) (.new (.dicN [])) := ⟨rfl, ⟨l, [], rfl, upd_same, .nil⟩, lo, fun q eq => by cases eq; exact hl⟩
  have I0 : Inv X pins σ (upd H l (DicO (ccOf X) l [])) { s with heap := s.heap.push { cls := .type "dict", data := .dict #[] } } := by
    rw [← el]
    exact I.laid (a := s.heap.objs.size) (o := DicO (ccOf X) s.heap.objs.size []) (t' := s.toks) (fun _ _ q => Heap.get?_push_of_some _ q) (Nat.le_refl _) (dicO_empty s.heap I.big)
  rw [arm_eval_Dict, zip_pairTrees [some a] [b] X.env pos rfl rfl, dictDisplay_pairs _ (by simp [pairTrees]) (by simp [pairTrees])]
  refine wpAny_bind (wpAny_standAt (wpAny_bind (wpAny_subDictH (knd := nestedKind X.prog X.w) (by show X.A.units + 8 < cLine; omega) (by simp [pairTrees]) ?_)))
  refine pairTrees_cons_walk (thn (ha.run pins _ σ _ (fun x H1 => ∃ F1, R (ccOf X) F0 H0 F1 H1 σ S1 ∧ Gr σ S S1 F (upd H l (DicO (ccOf X) l [])) F1 H1 ∧ Rep X.K F1 x (.tup ds)) I0 ⟨F0, H0, F, r0, fun x F1 H1 r1 g1 z1 => ⟨F1, r1, g1, z1⟩⟩) fun u s1 ⟨x, H1, I1, rx, F1, r1, g1, z1⟩ =>
    thn (hb.run pins s1 σ H1 (fun y H2 => ∃ F2, R (ccOf X) F0 H0 F2 H2 σ S2 ∧ Gr σ S1 S2 F1 H1 F2 H2 ∧ Rep X.K F2 y d) I1 ⟨F0, H0, F1, r1, fun y F2 H2 r2 g2 z2 => ⟨F2, r2, g2, z2⟩⟩) fun w2 s2 ⟨y, H2, I2, ry, F2, r2, g2, z2⟩ => pairTrees_nil_walk ?_)
  have v2 := (v0.later (F0 := F0) (v := .new (.dicN [])) True.intro g1).later (F0 := F0) (v := .new (.dicN [])) True.intro g2
  obtain ⟨_, ⟨_, ys0, e1, h1, h2⟩, ⟨_, e2, a1, a2, a3, a4⟩, _⟩ := v2
  cases e1
  cases e2
  cases h2
  have z1' := Rep.mono g2.eF z1
  obtain ⟨bk, rfl⟩ := keyN_of z1'
  cases rx
  obtain ⟨z, hd, xs, pr, dd⟩ := dicN_of I2 r2.fh h1 (.nil : RepN X.K F2 [] [])
  cases pr
  refine ⟨[((D.tup ds).key, bk, w2)], ⟨rfl, rfl, key_is I2 r2.fh z1' hkey, True.intro⟩, by rw [el]; exact dd, fun h' tk dd' hsb => ?_⟩
  rw [el] at dd' hsb ⊢
  have est : storedAllH ([] : List (NestedKey × Addr × Value)) [((D.tup ds).key, bk, w2)] = [((D.tup ds).key, bk, w2)] := rfl
  rw [est] at dd'
  obtain ⟨o', es', ep', c1, c2, c3, c4, _, c6⟩ := dd'
  have raw' : DicRaw (ccOf X) l [((D.tup ds).key, bk, y)] h' := ⟨by rw [sizeLine_eq]; simp, hd, [((D.tup ds).key, bk, w2)], .cons ⟨rfl, rfl, ry⟩ .nil, o', es', ep', c1, c2, c3, c4, c6⟩
  have okk : ObjOk X.prog X.w (upd H2 l (DicO (ccOf X) l [((D.tup ds).key, bk, y)])) h' l (DicO (ccOf X) l [((D.tup ds).key, bk, y)]) := by
    refine ⟨raw', ⟨o', c1⟩, fun h1 h2 q1 q2 => ?_⟩
    obtain ⟨b1, b2, xs2, b3, o2, es2, ep2, k1, k2, k3, k4, k5⟩ := q1
    exact ⟨b1, b2, xs2, b3, o2, es2, ep2, q2 o2 k1, k2, k3, k4, k5⟩
  have hne : ∀ a o, H a = some o → a ≠ l := fun a o h e => by rw [e, hl] at h; cases h
  have gg := ((g0.tr r0 g1).tr r1 g2)
  refine wpAny_pure ⟨.ref l, _, d_write (t' := _) I2 (by rw [h1]; exact True.intro) hsb ⟨o', c1⟩ okk, rfl, q _ F2 _ (r2.loose (.inr ⟨a1, a2, a3, a4⟩)) ⟨gg.eF, fun a o h n => ?_, gg.nF, gg.sw, gg.so⟩ ⟨rfl, ⟨l, _, rfl, upd_same, .cons ⟨rfl, ⟨_, z1', hkey, rfl⟩, z2⟩ .nil⟩, ⟨l, rfl, a1, a2, a3, a4⟩, fun q eq => by cases eq; exact hl⟩⟩
  have := gg.eH a o h n
  exact ⟨by rw [upd_ne (hne a o h)]; exact this.1, this.2⟩⟩
end
end PL
/-! The pure layer, M: enumerate, zip over lists and tuples of any mix. -/
namespace PL
open PySem PySem.Spec PyProof.Rows L2

/-! ### sources: a list (false), a tuple (true) -/
def SeqH (t : Bool) (h : Heap) (a : Addr) (us : Array Value) : Prop := match t with
  | true => h.IsTuple a us
  | false => h.IsList a us
def IterH (t : Bool) (h : Heap) (it a : Addr) (i : Nat) : Prop := match t with
  | true => h.IsTupleIter it a i
  | false => h.IsListIter it a i
def iterO (t : Bool) (a : Addr) : Obj := match t with
  | true => { cls := .type "tuple_iterator", data := .fields #[.ref a, .int 0 0] }
  | false => { cls := .type "list_iterator", data := .fields #[.ref a, .int 0 0] }
theorem SeqH.lt {t : Bool} {h : Heap} {a : Addr} {us : Array Value} (x : SeqH t h a us) : a < h.objs.size := by
  cases t with
  | true => obtain ⟨o, ho, _⟩ := (show h.IsTuple a us from x); exact Heap.lt_size ho
  | false => obtain ⟨o, ho, _⟩ := (show h.IsList a us from x); exact Heap.lt_size ho
theorem IterH.ob {t : Bool} {h : Heap} {it a : Addr} {i : Nat} (x : IterH t h it a i) : ∃ o, h.get? it = some o ∧ ∀ v, o.data ≠ .cell v := by
  cases t with
  | true => obtain ⟨o, ho, _, d⟩ := (show h.IsTupleIter it a i from x); exact ⟨o, ho, fun v q => by rw [d] at q; cases q⟩
  | false => obtain ⟨o, ho, _, d⟩ := (show h.IsListIter it a i from x); exact ⟨o, ho, fun v q => by rw [d] at q; cases q⟩
theorem IterH.at {t : Bool} {h h' : Heap} {it a : Addr} {i : Nat} (x : IterH t h it a i) (k : ∀ o, h.get? it = some o → h'.get? it = some o) : IterH t h' it a i := by
  cases t with
  | true => exact Heap.IsTupleIter.at (show h.IsTupleIter it a i from x) k
  | false => exact Heap.IsListIter.at (show h.IsListIter it a i from x) k
theorem IterH.start {t : Bool} {h : Heap} {it a : Addr} (e : h.get? it = some (iterO t a)) : IterH t h it a 0 := by
  cases t with
  | true => exact ⟨_, e, rfl, rfl⟩
  | false => exact ⟨_, e, rfl, rfl⟩
theorem seq_draws {t : Bool} {prog : Program} {w : World} {A : Around} (hh : A.handled = none) (it a : Addr) (hne : a ≠ it) (us : Array Value) : Draws prog w A it [it, a] us.size (fun i v => us[i]? = some v) (fun i h => IterH t h it a i ∧ SeqH t h a us) := by
  cases t with
  | true => exact Draws.tuple hh it a hne us
  | false => exact Draws.list hh it a hne us
theorem seq_begins (t : Bool) (a : Addr) (us : Array Value) : Begins (.ref a) (iterO t a) fun h => SeqH t h a us := by
  cases t with
  | true => exact begins_tuple a us
  | false => exact begins_list a us
theorem seqB_at {X : Cx} {pins : List (Addr × Obj)} {σ : L2.St} {H : Hp} {s : Shared} {t : Bool} {a : Addr} {xs : List V} (I : Inv X pins σ H s) (h : SqB X.K t H a xs) : ∃ us : List Value, Vals xs us ∧ SeqH t s.heap a us.toArray := by
  cases t with
  | true => obtain ⟨us, r, p, _⟩ := I.tuple h; exact ⟨us, r, p⟩
  | false => obtain ⟨us, r, p, _⟩ := I.list h; exact ⟨us, r, p.isList⟩
theorem seqB_inj {X : Cx} {pins : List (Addr × Obj)} {σ : L2.St} {H : Hp} {s : Shared} {t : Bool} {a : Addr} {xs ys : List V} (I : Inv X pins σ H s) (h : SqB X.K t H a xs) (h' : SqB X.K t H a ys) : xs = ys := by
  cases t with
  | true => exact I.tuple_inj h h'
  | false => exact I.list_inj h h'
/-- a source that is kept -/
def FzB (K : PySem.W.Frag) (t : Bool) (F : Hp) (a : Addr) (vs : List V) : Prop := match t with
  | true => TupAt K F a vs
  | false => F a = some (.lst vs)
theorem FzB.sq {K : PySem.W.Frag} {t : Bool} {F H : Hp} {a : Addr} {vs : List V} (h : FzB K t F a vs) (e : Ex F H) : SqB K t H a vs := by
  cases t with
  | true => exact Evl.ex_t e (TupAt.sq h)
  | false => exact SqL.of (e _ _ h)
def D.sq : Bool → List D → D
  | true, ds => .tup ds
  | false, ds => .lst ds
theorem rep_sq {K : PySem.W.Frag} {F : Hp} {x : V} {t : Bool} {ds : List D} (h : Rep K F x (D.sq t ds)) : ∃ a vs, x = .ref a ∧ FzB K t F a vs ∧ RepL K F vs ds := by
  cases t with
  | true => cases h with
    | tup h r => exact ⟨_, _, rfl, h, r⟩
  | false => cases h with
    | lst h r => exact ⟨_, _, rfl, h, r⟩

/-! ### enumerate -/
section
theorem newEnum {v : Value} {o : Obj} {G : Heap → Prop} (B : Begins v o G) :
    Meets (Builtin.«enumerate.__new__» ⟨[.type "enumerate", v], []⟩) (fun _ Rr s => G s.heap ∧
      Rr (.ok (.ret (.ref (s.heap.push o).objs.size))) { s with heap := (s.heap.push o).push { cls := .type "enumerate", data := .fields #[.none, .bool false, .ref s.heap.objs.size, rawInt 0, .none, .none] } }) :=
  .of_wp fun prog w A Rr s h => by
    obtain ⟨hp, g, d, tk, os⟩ := s; obtain ⟨h1, h⟩ := h
    have hsub := sub_enumerate
    have q1 : ∀ {A' : Around} {E : Value → Shared → Prop} {Q : Value → Shared → Prop}, Q (.ref hp.objs.size) ⟨hp.push o, g, d, tk, os⟩ → wpAny (model prog w) A' (pyIter v) Q E ⟨hp, g, d, tk, os⟩ :=
      fun q => B.iter prog w _ _ ⟨hp, g, d, tk, os⟩ _ h1 q
    wp_walk using q1
    refine wpAny_stack_any fun st => wpAny_pure ?_
    split
    · rename_i c _ _ _ _ _
      cases (c == Value.type "enumerate")
      · wp_walk using q1
        exact ⟨_, rfl, h⟩
      · wp_walk using q1
        exact ⟨_, rfl, h⟩
    · wp_walk using q1
      exact ⟨_, rfl, h⟩
end
section
variable {prog : Program} {w : World} {A : Around} {E : Value → Shared → Prop} {s : Shared}
theorem callEnum {v : Value} {o : Obj} {G : Heap → Prop} {Q : Value → Shared → Prop} (B : Begins v o G) (h1 : G s.heap)
    (h : ∀ h', IsEnum h' (s.heap.objs.size + 1) s.heap.objs.size 0 .none → h'.get? s.heap.objs.size = some o → h'.objs.size = s.heap.objs.size + 2 →
      (∀ b o, s.heap.get? b = some o → h'.get? b = some o) → Q (.ref (s.heap.objs.size + 1)) { s with heap := h' }) :
    wpAny (model prog w) A (call (.type "enumerate") [v]) Q E s := by
  refine callType_new F.called_enumerate (by decide) (F.typeCall_enumerate_1 _) (F.newCall_enumerate_1 _) (fun obj => F.args_object_init_2 obj _) F.entry_enumerate_new (newEnum B) ⟨h1, ?_⟩
  have hz : (s.heap.push o).objs.size = s.heap.objs.size + 1 := Heap.size_push ..
  show _ ∧ _
  rw [hz]
  have he : IsEnum ((s.heap.push o).push { cls := .type "enumerate", data := .fields #[.none, .bool false, .ref s.heap.objs.size, rawInt 0, .none, .none] }) (s.heap.objs.size + 1) s.heap.objs.size 0 .none := by
    have := Heap.get?_push_size (s.heap.push o) (o := { cls := .type "enumerate", data := .fields #[.none, .bool false, .ref s.heap.objs.size, rawInt 0, .none, .none] }) rfl
    rw [hz] at this; exact this
  exact ⟨⟨_, he, rfl⟩, h _ he (Heap.get?_push_of_some _ (Heap.get?_push_size _ B.free)) (by rw [Heap.size_push, hz]) fun b o x => Heap.get?_push_of_some _ (Heap.get?_push_of_some _ x)⟩
end
/-- the source at a, each item in a new pair with its number -/
def ItE (K : PySem.W.Frag) (t : Bool) (a : Addr) : It :=
  ⟨fun i H => ∃ (xs : List V) (x : V), SqB K t H a xs ∧ xs[i]? = some x, fun i H v H' => ∃ T x, v = .ref T ∧ H T = none ∧ H' = upd H T (.tup [.int (i : Nat), x]) ∧ ∀ xs, SqB K t H a xs → xs[i]? = some x, fun i H => ∃ xs : List V, SqB K t H a xs ∧ xs.length = i⟩
theorem turnE {P : Program} {w : World} {K : PySem.W.Frag} {elts : List Expr} {kk : Nat} {tpos : Pos} (t : Bool) (a e it : Addr) (hei : e ≠ it) (hea : e ≠ a) (hai : a ≠ it) :
    Turn P w K (.Tuple elts kk tpos) (ItE K t a) [e, it] e (fun i h => (∃ old, IsEnum h e it ((i : Nat) : Int) old) ∧ IterH t h it a i) where
  mem := by simp
  obj := fun i h st b hb => by
    obtain ⟨⟨old, he⟩, hi⟩ := st
    have e' : b = e ∨ b = it := by simpa using hb
    rcases e' with z | z
    · rw [z]; exact ⟨_, he, fun v q => nomatch q⟩
    · rw [z]; exact hi.ob
  keep := fun i h h' st k => let ⟨⟨old, he⟩, hi⟩ := st; ⟨⟨old, k e (by simp) _ he⟩, hi.at fun o q => k it (by simp) o q⟩
  item := by
    intro X hP hw hK hc i pins s σ H E I hf st hg
    subst hP hw hK
    obtain ⟨⟨old, he⟩, hit⟩ := st
    obtain ⟨xs, x, hq, hx⟩ := hg
    obtain ⟨us, rv, p⟩ := seqB_at I hq
    obtain ⟨u, hu, ru⟩ := rv.get hx
    have hel : e < s.heap.objs.size := Heap.lt_size he
    have hil : it < s.heap.objs.size := by obtain ⟨o, q, _⟩ := hit.ob; exact Heap.lt_size q
    have hh : X.A.in1.handled = none := by have := I.ok.hd hc; simp [this]
    have hlt : i < us.toArray.size := by
      have := (List.getElem?_eq_some_iff.mp hu).1
      simpa using this
    refine wpAny_pyNext_enum_itemD (seq_draws hh it a hai us.toArray) he ⟨hit, p⟩ hlt hei (by simp [hei, hea]) fun y h' tk hy ho hst hT hsz hk => ?_
    have ey : y = u := by rw [show us.toArray[i]? = some u by simpa using hu] at hy; exact (Option.some.inj hy).symm
    subst ey
    refine ⟨_, rfl, wpAny_letOwnedTupleGo_enum (s := { s with heap := h', toks := tk + 1 }) ho fun h2 he' sb => ?_⟩
    have hT2 : h2.get? s.heap.objs.size = some { cls := .type "tuple", data := .seq #[.int i tk, y] } := (sb.2 _ (Nat.ne_of_gt hel)).trans hT
    have new : ObjOk X.prog X.w (upd H s.heap.objs.size (.tup [.int (i : Nat), x])) h2 s.heap.objs.size (.tup [.int (i : Nat), x]) :=
      ⟨by show 2 ≤ sizeLine; decide, [.int i tk, y], .cons ⟨_, rfl⟩ (.cons ru .nil), ⟨_, hT2, rfl, _, rfl⟩⟩
    have I1 : Inv X pins σ (upd H s.heap.objs.size (.tup [.int (i : Nat), x])) { s with heap := h2, toks := tk + 1 } :=
      I.turnedNew (ch := [e, it]) (fun b ob hb q => (sb.2 b (fun z => hb (by simp [z]))).trans (hk b ob (fun z => hb (by simp [z])) (fun z => hb (by simp [z])) q)) hf (Nat.le_refl _) new
    refine ⟨.ref s.heap.objs.size, _, I1, rfl, ⟨_, x, rfl, I.hok.fresh (Nat.le_refl _), rfl, fun ys hy => by rw [seqB_inj I hy hq]; exact hx⟩, ⟨⟨y, ?_⟩, hst.1.at fun o q => (sb.2 it (Ne.symm hei)).trans q⟩, fun b hb => ?_⟩
    · have e1 : ((i + 1 : Nat) : Int) = (i : Int) + 1 := by omega
      rw [e1]; exact he'
    · have hb' : b < s.heap.objs.size := by
        have e' : b = e ∨ b = it := by simpa using hb
        rcases e' with z | z
        · rw [z]; exact hel
        · rw [z]; exact hil
      rw [upd_ne (Nat.ne_of_lt hb')]
      exact (hf b hb).1
  done := by
    intro X hP hw hK hc i pins s σ H E I hf st hg
    subst hP hw hK
    obtain ⟨⟨old, he⟩, hit⟩ := st
    obtain ⟨xs, hq, hx⟩ := hg
    obtain ⟨us, rv, p⟩ := seqB_at I hq
    obtain ⟨f0, f1, f2, f3, f4, f5⟩ := hf it (by simp)
    have hl := rv.length
    have hh : X.A.in1.handled = none := by have := I.ok.hd hc; simp [this]
    have hz : us.toArray.size = i := by simp; omega
    exact wpAny_pyNext_enum_endD (n := us.toArray.size) (seq_draws hh it a hai us.toArray) he ⟨by rw [hz]; exact hit, p⟩ fun h' eb => ⟨rfl, I.turned (t' := s.toks) (fun b o hb q => eb b o hb q) f0 f1 f3 f4 f5⟩
  self := fun A i s Q E st h => let ⟨⟨_, he⟩, _⟩ := st; wpAny_pyIter_enum he h
def enumF : Nat → List D → List D
  | _, [] => []
  | k, d :: ds => .tup [.int k, d] :: enumF (k + 1) ds
theorem enumF_get : ∀ (ds : List D) (k i : Nat), (enumF k ds)[i]? = (ds[i]?).map fun d => .tup [.int ((k + i : Nat) : Int), d]
  | [], _, _ => by simp [enumF]
  | d :: ds, k, 0 => by simp [enumF]
  | d :: ds, k, i + 1 => by
    have := enumF_get ds (k + 1) i
    simp only [enumF, List.getElem?_cons_succ]
    rw [this, show k + 1 + i = k + (i + 1) by omega]
theorem enumF_length : ∀ (ds : List D) (k : Nat), (enumF k ds).length = ds.length
  | [], _ => rfl
  | d :: ds, k => by simp [enumF, enumF_length ds (k + 1)]
section
variable {X : Cx} {a b tg iter : Expr} {es elts : List Expr} {S S1 S2 : PSt} {pos p tpos : Pos} {kk : Nat}
theorem pid_enum {is : List Nat} {t : Bool} {ds : List D} (hg : Gl X "enumerate") (hm : X.mg "enumerate" = none) (ha : PV X a S (.dat (D.sq t ds)) S1) (hs : starEach [a] X.env = [(false, eval a X.env)] := by rfl) : PId X (.many is) (.Tuple elts kk tpos) (.Call (.Name "enumerate" p) [a] [] pos) S (enumF 0 ds) S1 := by
  refine ⟨fun pins s σ H Rr I ⟨F0, H0, F, rr, k⟩ => ?_⟩
  refine Call_ (ld_blt I hg hm boot_enumerate (PyProof.Rows.callWith_type1 (thn ((pvs_one ha hs).run pos pins s σ H (fun xs H1 => ∃ F1 x, R (ccOf X) F0 H0 F1 H1 σ S1 ∧ Gr σ S S1 F H F1 H1 ∧ xs = [x] ∧ Rep X.K F1 x (D.sq t ds)) I ⟨F0, H0, F, rr, fun xs F1 H1 r1 g z => by
    obtain ⟨x, ex, z⟩ := arg1 z
    exact ⟨F1, x, r1, g, ex, z⟩⟩) fun us s1 ⟨vs, H1, I1, rv, F1, x, r1, g, ex, z⟩ => ?_) hs rfl))
  subst ex
  obtain ⟨c, ws, rfl, fz, rl⟩ := rep_sq z
  obtain ⟨u, rfl, ru⟩ := vals1 rv
  cases ru
  have hq := fz.sq r1.fh
  obtain ⟨its, rvs, p'⟩ := seqB_at I1 hq
  have hlt := p'.lt
  refine callEnum (seq_begins t c its.toArray) p' fun h' he hit hsz hk => wpAny_pyIter_enum he ?_
  have I2 : Inv X pins σ H1 { s1 with heap := h' } := I1.kept (t' := s1.toks) hk
  refine ⟨s1.heap.objs.size + 1, [s1.heap.objs.size + 1, s1.heap.objs.size], _, _, H1, rfl, I2, turnE t c (s1.heap.objs.size + 1) s1.heap.objs.size (Nat.succ_ne_self _) (Nat.ne_of_gt (Nat.lt_succ_of_lt hlt)) (Nat.ne_of_lt hlt), ⟨⟨.none, he⟩, IterH.start hit⟩, fun b hb => ?_, k _ F1 H1 r1 g ?_⟩
  · have e' : b = s1.heap.objs.size + 1 ∨ b = s1.heap.objs.size := by simpa using hb
    have hle : s1.heap.objs.size ≤ b := by
      rcases e' with z | z
      · rw [z]; exact Nat.le_add_right _ _
      · rw [z]; exact Nat.le_refl _
    exact I1.fpOk hle (I1.hok.fresh hle)
  · have sq : ∀ {F2 H2 : Hp}, Ex F1 F2 → Ex F2 H2 → SqB X.K t H2 c ws := fun e1 e2 => fz.sq (ex_tr e1 e2)
    refine ⟨fun i F2 H2 e1 e2 hi => ?_, fun i F2 H2 d y H3 e1 e2 hy hd => ?_, fun F2 H2 e1 e2 => ⟨ws, sq e1 e2, by rw [rl.len, enumF_length]⟩⟩
    · rw [enumF_length, ← rl.len] at hi
      exact ⟨ws, ws[i], sq e1 e2, List.getElem?_eq_getElem hi⟩
    · obtain ⟨T, y', ey, hT, eH, f⟩ := hy
      have := f ws (sq e1 e2)
      obtain ⟨d', hd', rd⟩ := rl.get' this
      rw [enumF_get, hd', Nat.zero_add] at hd
      cases hd
      exact .inr ⟨⟨is, rfl⟩, T, _, _, hT, eH, ey, rfl, .cons (.int _) (.cons (rd.mono e1) .nil)⟩
end

/-! ### zip -/
def ItZ (K : PySem.W.Frag) (t u : Bool) (a b : Addr) : It :=
  ⟨fun i H => ∃ (xs ys : List V) (x y : V), SqB K t H a xs ∧ SqB K u H b ys ∧ xs[i]? = some x ∧ ys[i]? = some y,
    fun i H v H' => ∃ T x y, v = .ref T ∧ H T = none ∧ H' = upd H T (.tup [x, y]) ∧ (∀ xs, SqB K t H a xs → xs[i]? = some x) ∧ ∀ ys, SqB K u H b ys → ys[i]? = some y,
    fun i H => ∃ xs ys : List V, SqB K t H a xs ∧ SqB K u H b ys ∧ xs.length = i ∧ ys.length = i⟩
theorem zipSep {z TI TO i1 i2 a b : Addr} (D : ZipApart z TI TO i1 i2 a b) : ZipSep2 z TI TO i1 i2 [i1, a] [i2, b] where
  TIz := D.TIz
  TOz := D.TOz
  TITO := D.TITO
  TIi1 := D.TIi1
  mem1 := by simp
  zf1 := by simp; exact ⟨D.i1z.symm, D.l1z.symm⟩
  Tf1 := by simp; exact ⟨D.TOi1, D.l1TO.symm⟩
  TIi2 := D.TIi2
  mem2 := by simp
  zf2 := by simp; exact ⟨D.i2z.symm, D.l2z.symm⟩
  Tf2 := by simp; exact ⟨D.TOi2, D.l2TO.symm⟩
  sep1_2 := by simp; exact ⟨D.i12, D.l2i1.symm⟩
  sep2_1 := by simp; exact ⟨D.i12.symm, D.l1i2.symm⟩
theorem turnZ {P : Program} {w : World} {K : PySem.W.Frag} {elts : List Expr} {kk : Nat} {tpos : Pos} {a b z TI TO i1 i2 : Addr} (t u : Bool) (D : ZipApart z TI TO i1 i2 a b) :
    Turn P w K (.Tuple elts kk tpos) (ItZ K t u a b) [z, TI, TO, i1, i2] z (fun i h => IsZip h z TI TO .none ∧ IsTupOf2 h TI (.ref i1) (.ref i2) ∧ (∃ x y, IsTupOf2 h TO x y) ∧ IterH t h i1 a i ∧ IterH u h i2 b i) where
  mem := by simp
  obj := fun i h st c hc => by
    obtain ⟨hz, hTI, ⟨x, y, hTO⟩, h1, h2⟩ := st
    have e' : c = z ∨ c = TI ∨ c = TO ∨ c = i1 ∨ c = i2 := by simpa using hc
    rcases e' with q | q | q | q | q
    · rw [q]; exact ⟨_, hz, fun v q => nomatch q⟩
    · rw [q]; exact ⟨_, hTI, fun v q => nomatch q⟩
    · rw [q]; exact ⟨_, hTO, fun v q => nomatch q⟩
    · rw [q]; exact h1.ob
    · rw [q]; exact h2.ob
  keep := fun i h h' st k => by
    obtain ⟨hz, hTI, ⟨x, y, hTO⟩, h1, h2⟩ := st
    exact ⟨k z (by simp) _ hz, k TI (by simp) _ hTI, ⟨x, y, k TO (by simp) _ hTO⟩, h1.at fun o q => k i1 (by simp) o q, h2.at fun o q => k i2 (by simp) o q⟩
  item := by
    intro X hP hw hK hc i pins s σ H E I hf st hg
    subst hP hw hK
    obtain ⟨hz, hTI, ⟨x0, y0, hTO⟩, h1, h2⟩ := st
    obtain ⟨xs, ys, x, y, hqx, hqy, hx, hy⟩ := hg
    obtain ⟨its, rv, p⟩ := seqB_at I hqx
    obtain ⟨jts, rv2, p2⟩ := seqB_at I hqy
    obtain ⟨u1, hu, ru⟩ := rv.get hx
    obtain ⟨u2, hu2, ru2⟩ := rv2.get hy
    have hzl : z < s.heap.objs.size := Heap.lt_size hz
    have hh : X.A.in1.handled = none := by have := I.ok.hd hc; simp [this]
    have l1 : i < its.toArray.size := by have := (List.getElem?_eq_some_iff.mp hu).1; simpa using this
    have l2 : i < jts.toArray.size := by have := (List.getElem?_eq_some_iff.mp hu2).1; simpa using this
    refine wpAny_pyNext_zipD2_item (zipSep D) (seq_draws hh i1 a D.l1i1 its.toArray) (seq_draws hh i2 b D.l2i2 jts.toArray) hz hTI hTO ⟨h1, p⟩ ⟨h2, p2⟩ l1 l2 fun v1 v2 h' tk y1 y2 z' TO' k1 k2 hT hsz hk => ?_
    have e1 : v1 = u1 := by rw [show its.toArray[i]? = some u1 by simpa using hu] at y1; exact (Option.some.inj y1).symm
    have e2 : v2 = u2 := by rw [show jts.toArray[i]? = some u2 by simpa using hu2] at y2; exact (Option.some.inj y2).symm
    subst e1 e2
    refine ⟨_, rfl, wpAny_letOwnedTupleGo_zip (s := { s with heap := h', toks := tk }) z' fun h'' z'' sb => ?_⟩
    have hT2 : h''.get? s.heap.objs.size = some { cls := .type "tuple", data := .seq #[v1, v2] } := (sb.2 _ (Nat.ne_of_gt hzl)).trans hT
    have new : ObjOk X.prog X.w (upd H s.heap.objs.size (.tup [x, y])) h'' s.heap.objs.size (.tup [x, y]) :=
      ⟨by show 2 ≤ sizeLine; decide, [v1, v2], .cons ru (.cons ru2 .nil), ⟨_, hT2, rfl, _, rfl⟩⟩
    have I1 : Inv X pins σ (upd H s.heap.objs.size (.tup [x, y])) { s with heap := h'', toks := tk } :=
      I.turnedNew (t' := tk) (ch := [z, TI, TO, i1, i2]) (fun c o hb q => (sb.2 c (fun q' => hb (by simp [q']))).trans (hk c o (fun q' => hb (by simp [q'])) (fun q' => hb (by simp [q'])) (fun q' => hb (by simp [q'])) (fun q' => hb (by simp [q'])) q)) hf (Nat.le_refl _) new
    refine ⟨.ref s.heap.objs.size, _, I1, rfl, ⟨_, x, y, rfl, I.hok.fresh (Nat.le_refl _), rfl, fun l hl => by rw [seqB_inj I hl hqx]; exact hx, fun l hl => by rw [seqB_inj I hl hqy]; exact hy⟩, ⟨z'', ?_, ⟨v1, v2, ?_⟩, ?_, ?_⟩, fun c hcm => ?_⟩
    · exact (sb.2 _ D.TIz).trans (hk _ _ D.TIz D.TITO D.TIi1 D.TIi2 hTI)
    · exact (sb.2 _ D.TOz).trans TO'
    · exact k1.1.at fun o q => (sb.2 _ D.i1z).trans q
    · exact k2.1.at fun o q => (sb.2 _ D.i2z).trans q
    · have hlt : c < s.heap.objs.size := by
        have e' : c = z ∨ c = TI ∨ c = TO ∨ c = i1 ∨ c = i2 := by simpa using hcm
        rcases e' with q | q | q | q | q
        · rw [q]; exact hzl
        · rw [q]; exact Heap.lt_size hTI
        · rw [q]; exact Heap.lt_size hTO
        · rw [q]; obtain ⟨_, e1, _⟩ := h1.ob; exact Heap.lt_size e1
        · rw [q]; obtain ⟨_, e2, _⟩ := h2.ob; exact Heap.lt_size e2
      rw [upd_ne (Nat.ne_of_lt hlt)]
      exact (hf c hcm).1
  done := by
    intro X hP hw hK hc i pins s σ H E I hf st hg
    subst hP hw hK
    obtain ⟨hz, hTI, ⟨x0, y0, hTO⟩, h1, h2⟩ := st
    obtain ⟨xs, ys, hqx, hqy, e1, e2⟩ := hg
    obtain ⟨its, rv, p⟩ := seqB_at I hqx
    obtain ⟨jts, rv2, p2⟩ := seqB_at I hqy
    have l1 := rv.length
    have l2 := rv2.length
    have hh : X.A.in1.handled = none := by have := I.ok.hd hc; simp [this]
    have z1 : its.toArray.size = i := by simp; omega
    have z2 : jts.toArray.size = i := by simp; omega
    exact wpAny_pyNext_zipD2_end (zipSep D) (seq_draws hh i1 a D.l1i1 its.toArray) (seq_draws hh i2 b D.l2i2 jts.toArray) hz hTI hTO ⟨h1, p⟩ ⟨h2, p2⟩ (Nat.le_of_eq z1.symm) (Nat.le_of_eq z2.symm) (.inl z1.symm) fun h' tk hk => ⟨rfl, I.turnedL (t' := tk) (ch := [z, TI, TO, i1, i2]) (fun c o hb q =>
      hk c o (fun q' => hb (by simp [q'])) (fun q' => hb (by simp [q'])) (fun q' => hb (by simp [q'])) (fun q' => hb (by simp [q'])) q) hf⟩
  self := fun A i s Q E st h => wpAny_pyIter_zip st.1 h
def zipF : List D → List D → List D
  | x :: xs, y :: ys => .tup [x, y] :: zipF xs ys
  | _, _ => []
theorem zipF_get : ∀ (xs ys : List D) (i : Nat) {x y : D}, xs[i]? = some x → ys[i]? = some y → (zipF xs ys)[i]? = some (.tup [x, y])
  | [], _, _, _, _, h, _ => by simp at h
  | _ :: _, [], _, _, _, _, h => by simp at h
  | x :: xs, y :: ys, 0, _, _, h, h' => by simp at h h'; subst h h'; rfl
  | x :: xs, y :: ys, i + 1, _, _, h, h' => by simp only [zipF, List.getElem?_cons_succ]; exact zipF_get xs ys i (by simpa using h) (by simpa using h')
theorem zipF_length : ∀ (xs ys : List D), xs.length = ys.length → (zipF xs ys).length = xs.length
  | [], _, _ => rfl
  | _ :: _, [], h => by simp at h
  | x :: xs, y :: ys, h => by simp [zipF, zipF_length xs ys (by simpa using h)]
section
variable {X : Cx} {a b tg iter : Expr} {es elts : List Expr} {S S1 S2 : PSt} {pos p tpos : Pos} {kk : Nat}
theorem pid_zip {is : List Nat} {t u : Bool} {ds es : List D} (hg : Gl X "zip") (hm : X.mg "zip" = none) (ha : PV X a S (.dat (D.sq t ds)) S1) (hb : PV X b S1 (.dat (D.sq u es)) S2) (hl : ds.length = es.length) (hs : starEach [a, b] X.env = (false, eval a X.env) :: starEach [b] X.env := by rfl) (hs2 : starEach [b] X.env = (false, eval b X.env) :: starEach [] X.env := by rfl)
    (hpl : (backTo pos (starEach [b] X.env)).any (·.1) = false := by rfl) : PId X (.many is) (.Tuple elts kk tpos) (.Call (.Name "zip" p) [a, b] [] pos) S (zipF ds es) S2 := by
  refine ⟨fun pins s σ H Rr I ⟨F0, H0, F, rr, k⟩ => ?_⟩
  refine Call_ (ld_blt I hg hm PyProof.Rows.boot_zip (PyProof.Rows.callWith_type1 (thn ((pvs_cons ha (pvs_one hb hs2) True.intro hs).run pos pins s σ H (fun xs H1 => ∃ F1 x y, R (ccOf X) F0 H0 F1 H1 σ S2 ∧ Gr σ S S2 F H F1 H1 ∧ xs = [x, y] ∧ Rep X.K F1 x (D.sq t ds) ∧ Rep X.K F1 y (D.sq u es)) I ⟨F0, H0, F, rr, fun xs F1 H1 r1 g z => by
    cases z with
    | cons z1 z =>
      obtain ⟨y, ey, z2⟩ := arg1 z
      subst ey
      exact ⟨F1, _, y, r1, g, rfl, z1, z2⟩⟩) fun us s1 ⟨vs, H1, I1, rv, F1, x, y, r1, g, ex, z1, z2⟩ => ?_) hs hpl))
  subst ex
  obtain ⟨c, ws, rfl, fz, rl⟩ := rep_sq z1
  obtain ⟨c2, ws2, rfl, fz2, rl2⟩ := rep_sq z2
  obtain ⟨v1, v2, rfl, rv1, rv2⟩ := vals2 rv
  cases rv1
  cases rv2
  obtain ⟨its, rvs, p1⟩ := seqB_at I1 (fz.sq r1.fh)
  obtain ⟨jts, rvs2, p2⟩ := seqB_at I1 (fz2.sq r1.fh)
  refine zip_begins2 (seq_begins t c its.toArray) (seq_begins u c2 jts.toArray) p1 p2 fun h' hz hTI hTO h1 h2 hsz hk => wpAny_pyIter_zip hz ?_
  have I2 : Inv X pins σ H1 { s1 with heap := h' } := I1.kept (t' := s1.toks) hk
  refine ⟨s1.heap.objs.size + 4, [s1.heap.objs.size + 4, s1.heap.objs.size + 2, s1.heap.objs.size + 3, s1.heap.objs.size, s1.heap.objs.size + 1], _, _, H1, rfl, I2, turnZ t u (PySem.W.ktu_apart s1.heap.objs.size c c2 p1.lt p2.lt), ⟨hz, hTI, ⟨_, _, hTO⟩, IterH.start h1, IterH.start h2⟩, fun b hb => ?_, k _ F1 H1 r1 g ?_⟩
  · have e' : b = s1.heap.objs.size + 4 ∨ b = s1.heap.objs.size + 2 ∨ b = s1.heap.objs.size + 3 ∨ b = s1.heap.objs.size ∨ b = s1.heap.objs.size + 1 := by simpa using hb
    have hle : s1.heap.objs.size ≤ b := by
      rcases e' with z | z | z | z | z
      · rw [z]; exact Nat.le_add_right _ _
      · rw [z]; exact Nat.le_add_right _ _
      · rw [z]; exact Nat.le_add_right _ _
      · rw [z]; exact Nat.le_refl _
      · rw [z]; exact Nat.le_add_right _ _
    exact I1.fpOk hle (I1.hok.fresh hle)
  · have sq : ∀ {F2 H2 : Hp}, Ex F1 F2 → Ex F2 H2 → SqB X.K t H2 c ws ∧ SqB X.K u H2 c2 ws2 := fun e1 e2 => ⟨fz.sq (ex_tr e1 e2), fz2.sq (ex_tr e1 e2)⟩
    refine ⟨fun i F2 H2 e1 e2 hi => ?_, fun i F2 H2 d y H3 e1 e2 hy hd => ?_, fun F2 H2 e1 e2 => ⟨ws, ws2, (sq e1 e2).1, (sq e1 e2).2, by rw [rl.len, zipF_length _ _ hl], by rw [rl2.len, ← hl, zipF_length _ _ hl]⟩⟩
    · rw [zipF_length _ _ hl] at hi
      have hi1 : i < ws.length := by rw [rl.len]; exact hi
      have hi2 : i < ws2.length := by rw [rl2.len, ← hl]; exact hi
      exact ⟨ws, ws2, ws[i], ws2[i], (sq e1 e2).1, (sq e1 e2).2, List.getElem?_eq_getElem hi1, List.getElem?_eq_getElem hi2⟩
    · obtain ⟨T, y1, y2, ey, hT, eH, f1, f2⟩ := hy
      obtain ⟨d1, hd1, rd1⟩ := rl.get' (f1 ws (sq e1 e2).1)
      obtain ⟨d2, hd2, rd2⟩ := rl2.get' (f2 ws2 (sq e1 e2).2)
      rw [zipF_get ds es i hd1 hd2] at hd
      cases hd
      exact .inr ⟨⟨is, rfl⟩, T, _, _, hT, eH, ey, rfl, .cons (rd1.mono e1) (.cons (rd2.mono e1) .nil)⟩
end
end PL
/-! The pure layer, N: promises by an index, short forms. -/
namespace PL
open PySem PySem.Spec PyProof.Rows L2

/-! ### promises by an index -/
/-- from the data arg x, where pre holds of x, it gives g x -/
def spA (c : Cc) {α : Type} (arg : α → List D) (pre : α → Prop) (g : α → D) : Sp := fun vs H Q _ => ∃ F x, Ex F H ∧ RepL c.K F vs (arg x) ∧ pre x ∧ ∀ y F' H', R c F H F' H' [] ⟨[], none⟩ → Rep c.K F' y (g x) → Q y H'
def spB (c : Cc) {α : Type} (arg : α → List D) (pre : α → Ws → Prop) (g : α → Ws → D × Ws) : Sp := fun vs H Q _ => ∃ F ws vs' x, vs = .ref ws.sa :: vs' ∧ Ex F H ∧ WOk F H ws ∧ RepL c.K F vs' (arg x) ∧ pre x ws.p ∧
  ∀ y F' H', R c F H F' H' [] ⟨[], some (ws.up (g x ws.p).2)⟩ → Rep c.K F' y (g x ws.p).1 → Q y H'
abbrev GFa (P : Program) (w : World) (K : PySem.W.Frag) (mg : Str → Option Value) (base : Heap) (k : Nat) (x : Str) (n : Nat) {α : Type} (arg : α → List D) (pre : α → Prop) (g : α → D) : Prop := GSp P w K mg base k x n (spA ⟨P, w, K⟩ arg pre g)
abbrev GFb (P : Program) (w : World) (K : PySem.W.Frag) (mg : Str → Option Value) (base : Heap) (k : Nat) (x : Str) (n : Nat) {α : Type} (arg : α → List D) (pre : α → Ws → Prop) (g : α → Ws → D × Ws) : Prop := GSp P w K mg base k x n (spB ⟨P, w, K⟩ arg pre g)
section
variable {X : Cx} {e : Expr} {es : List Expr} {S S1 : PSt} {vs : List Vl} {pos p : Pos} {x : Str} {n k j : Nat} {α : Type}
theorem pv_callA {arg : α → List D} {pre : α → Prop} {g : α → D} (i : α) (F : GFa X.prog X.w X.K X.mg X.base j x n arg pre g) (hr : Room k X.A) (hj : j ≤ k) (ha : PVs X (e :: es) S vs S1) (hd : dats vs = some (arg i)) (hp : pre i) (hg : Gl X x := by rfl)
    (hdb : (x == ("__debug__" : Str)) = false := by decide) (he : starEach (e :: es) X.env = (false, eval e X.env) :: starEach es X.env := by rfl) (hpl : (backTo pos (starEach es X.env)).any (·.1) = false := by rfl) : PV X (.Call (.Name x p) (e :: es) [] pos) S (.dat (g i)) S1 := by
  obtain ⟨f, fd, ps, G, _, hm, hk, hb⟩ := F
  refine peI (pe_call (E := E0) G (hr.mono hj) hg hm hk hb (.nil : Vals [] []) pass0 ha hdb he hpl) fun σ H Q ⟨F0, H0, F, r, q⟩ => ⟨F0, H0, F, r, fun xs F1 H1 r1 g1 z1 => ?_⟩
  show spA ⟨X.prog, X.w, X.K⟩ arg pre g (xs ++ []) H1 Q E0
  rw [List.append_nil]
  refine ⟨F1, i, r1.fh, dats_rep z1 hd, hp, fun y F2 H2 r2 ry => ?_⟩
  obtain ⟨r3, g3⟩ := r1.call0 r2
  exact q y F2 H2 r3 (g1.tr r1 g3) ry
theorem pv_callB {arg : α → List D} {pre : α → Ws → Prop} {g : α → Ws → D × Ws} {ws : WS} (i : α) (F : GFb X.prog X.w X.K X.mg X.base j x n arg pre g) (hr : Room k X.A) (hj : j ≤ k) (ha : PVs X (e :: es) S (.st :: vs) S1) (hd : dats vs = some (arg i)) (hw : S1.w = some ws) (hp : pre i ws.p) (hg : Gl X x := by rfl)
    (hdb : (x == ("__debug__" : Str)) = false := by decide) (he : starEach (e :: es) X.env = (false, eval e X.env) :: starEach es X.env := by rfl) (hpl : (backTo pos (starEach es X.env)).any (·.1) = false := by rfl) : PV X (.Call (.Name x p) (e :: es) [] pos) S (.dat (g i ws.p).1) ⟨S1.env, some (ws.up (g i ws.p).2)⟩ := by
  obtain ⟨f, fd, ps, G, _, hm, hk, hb⟩ := F
  refine peI (pe_call (E := E0) G (hr.mono hj) hg hm hk hb (.nil : Vals [] []) pass0 ha hdb he hpl) fun σ H Q ⟨F0, H0, F, r, q⟩ => ⟨F0, H0, F, r, fun xs F1 H1 r1 g1 z1 => ?_⟩
  show spB ⟨X.prog, X.w, X.K⟩ arg pre g (xs ++ []) H1 Q E0
  rw [List.append_nil]
  cases z1 with
  | @cons y _ ys _ z1 z2 =>
    obtain ⟨w', e1, e2⟩ := z1
    rw [hw] at e1
    cases e1
    subst e2
    refine ⟨F1, ws, ys, i, rfl, r1.fh, r1.ws ws hw, dats_rep z2 hd, hp, fun y F2 H2 r2 ry => ?_⟩
    obtain ⟨env, w⟩ := S1
    cases (show w = some ws from hw)
    obtain ⟨r3, g3⟩ := r1.callW r2
    exact q y F2 H2 r3 (g1.tr r1 g3) ry
end
section
variable {P : Program} {w : World} {K : PySem.W.Frag} {mg : Str → Option Value} {base : Heap} {x qual : Str} {params : Arguments} {body : List Stmt} {scope : Scope} {f : Addr} {fd : FuncData} {N ps : List Str} {k n : Nat} {α : Type}
/-- the def x stands in the module, with these names: N its slots, ps its parameters -/
structure DefOk (K : PySem.W.Frag) (mg : Str → Option Value) (x qual : Str) (st : Stmt) : Prop where
  ex : ∃ f fd, FunD K x qual (defArgs st) (defBody st) (defScope st) [] [] f fd ∧ mg x = some (.ref f)
theorem gfa_of {st : Stmt} {arg : α → List D} {pre : α → Prop} {g : α → D} (F : DefOk K mg x qual st) (Sc : FnScope N ps (defScope st)) (hn : ∀ i, (arg i).length = ps.length) (hb : ∀ (kV doc pm : Value) (an : Option Addr) (cdv ct : Value) (us : List Value), us.length = ps.length → bindArgs (PySem.W.fnOf x qual (defArgs st) (defBody st) (defScope st) .none kV doc pm an cdv ct) ⟨us, []⟩ = pure (ps.zip us))
    (hbody : ∀ (f : Addr) (cdv : Value) (A : Around) (outer : List Env) (s : Shared) (H : Hp) (E : XK) (i : α), Room k (xOf P w K mg base N qual (defScope st) f cdv A outer s H E).A → pre i →
      PSd (xOf P w K mg base N qual (defScope st) f cdv A outer s H E) (defBody st) ⟨entry N (arg i), none⟩ { nx := fun S' => S'.w = none ∧ g i = .non, rt := fun d w' => w' = none ∧ d = g i }) : GFa P w K mg base (k + 1) x ps.length arg pre g := by
  obtain ⟨f, fd, F, hm⟩ := F.ex
  refine ⟨f, fd, ps, F.ok Sc (fun vs H Q E h => ?_) (fun cdv A outer s H vs Q E hr h => ?_), rfl, hm, F.kp, F.bindsN hb⟩
  · obtain ⟨F, i, _, r, _⟩ := h
    rw [r.len, hn]
  · obtain ⟨F1, i, e, r, hp, q⟩ := h
    refine ⟨_, PSs.nox (hbody f cdv A outer s H E i hr hp), F1, H, F1, entry_r e r ?_, ?_, ?_, fun _ _ _ _ _ _ h => h.elim, fun _ _ _ _ _ _ h => h.elim⟩
    · have hpl : ps.length ≤ N.length := by have := congrArg List.length Sc.pre; rw [List.length_take] at this; omega
      rw [r.len, hn]; exact hpl
    · rintro σ' F' H' S' r' _ ⟨ew, eg⟩
      have rb := r'.bare
      rw [ew] at rb
      exact q _ F' H' rb (by rw [eg]; exact .non)
    · rintro y F' H' d w' r' _ ry ⟨ew, ed⟩
      subst ew ed
      exact q y F' H' r' ry
theorem gfb_of {st : Stmt} {arg : α → List D} {pre : α → Ws → Prop} {g : α → Ws → D × Ws} (F : DefOk K mg x qual st) (Sc : FnScope N ps (defScope st)) (hn : ∀ i, (arg i).length + 1 = ps.length) (hb : ∀ (kV doc pm : Value) (an : Option Addr) (cdv ct : Value) (us : List Value), us.length = ps.length → bindArgs (PySem.W.fnOf x qual (defArgs st) (defBody st) (defScope st) .none kV doc pm an cdv ct) ⟨us, []⟩ = pure (ps.zip us))
    (hbody : ∀ (f : Addr) (cdv : Value) (A : Around) (outer : List Env) (s : Shared) (H : Hp) (E : XK) (i : α) (ws : WS), Room k (xOf P w K mg base N qual (defScope st) f cdv A outer s H E).A → pre i ws.p →
      PSd (xOf P w K mg base N qual (defScope st) f cdv A outer s H E) (defBody st) ⟨entryW N (arg i), some ws⟩ { nx := fun S' => False, rt := fun d w' => w' = some (ws.up (g i ws.p).2) ∧ d = (g i ws.p).1 }) : GFb P w K mg base (k + 1) x ps.length arg pre g := by
  obtain ⟨f, fd, F, hm⟩ := F.ex
  refine ⟨f, fd, ps, F.ok Sc (fun vs H Q E h => ?_) (fun cdv A outer s H vs Q E hr h => ?_), rfl, hm, F.kp, F.bindsN hb⟩
  · obtain ⟨F, ws, vs', i, rfl, _, _, r, _⟩ := h
    rw [List.length_cons, r.len, hn]
  · obtain ⟨F1, ws, vs', i, rfl, e, hw, r, hp, q⟩ := h
    refine ⟨_, PSs.nox (hbody f cdv A outer s H E i ws hr hp), F1, H, F1, entryW_r e hw r ?_, fun _ _ _ _ _ _ h => h.elim, ?_, fun _ _ _ _ _ _ h => h.elim, fun _ _ _ _ _ _ h => h.elim⟩
    · have hpl : ps.length ≤ N.length := by have := congrArg List.length Sc.pre; rw [List.length_take] at this; omega
      rw [r.len, hn]; exact hpl
    · rintro y F' H' d w' r' _ ry ⟨ew, ed⟩
      subst ew ed
      exact q y F' H' r' ry
end

/-! ### names, short -/
section
variable {X : Cx} {S : PSt} {pos : Pos} {x : Str}
theorem dv (i : Nat) {d : D} (hN : X.N[i]? = some x := by rfl) (hv : Vis X.env.scope x := by first | exact Or.inl rfl | exact Or.inr (Or.inl rfl) | exact Or.inr (Or.inr rfl)) (he : S.env[i]? = some (some (.dat d)) := by rfl) (hd : (x == ("__debug__" : Str)) = false := by decide) (hcd : (x == ("__classdict__" : Str)) = false := by decide) :
    PV X (.Name x pos) S (.dat d) S := pv_var i hN hv he hd hcd
theorem ov (i : Nat) {s : Sl} (hN : X.N[i]? = some x := by rfl) (hv : Vis X.env.scope x := by first | exact Or.inl rfl | exact Or.inr (Or.inl rfl) | exact Or.inr (Or.inr rfl)) (he : S.env[i]? = some (some s) := by rfl) (ho : s.own = true := by rfl) (hd : (x == ("__debug__" : Str)) = false := by decide) (hcd : (x == ("__classdict__" : Str)) = false := by decide) :
    PV X (.Name x pos) S (.own i) S := by
  have h := pv_var (S := S) (pos := pos) i hN hv he hd hcd
  cases s <;> first | exact h | cases ho
theorem sv (i : Nat) (hN : X.N[i]? = some x := by rfl) (hv : Vis X.env.scope x := by first | exact Or.inl rfl | exact Or.inr (Or.inl rfl) | exact Or.inr (Or.inr rfl)) (he : S.env[i]? = some (some .st) := by rfl) (hd : (x == ("__debug__" : Str)) = false := by decide) (hcd : (x == ("__classdict__" : Str)) = false := by decide) :
    PV X (.Name x pos) S .st S := pv_var (s := .st) i hN hv he hd hcd
/-- a module's number -/
theorem gi {i : Int} (hm : ∃ t, X.mg x = some (.int i t)) (hg : Gl X x := by rfl) (hd : (x == ("__debug__" : Str)) = false := by decide) : PV X (.Name x pos) S (.dat (.int i)) S := by
  obtain ⟨t, hm⟩ := hm
  exact pv_glob (y := .int i) hg hm ⟨t, rfl⟩ (fun _ => .int i) hd
end
/-- the built-in names that the module leaves alone -/
structure Bl (mg : Str → Option Value) : Prop where
  len : mg "len" = none
  int : mg "int" = none
  bool : mg "bool" = none
  str : mg "str" = none
  list : mg "list" = none
  tuple : mg "tuple" = none
  set : mg "set" = none
  sorted : mg "sorted" = none
  sum : mg "sum" = none
  enum : mg "enumerate" = none
  zip : mg "zip" = none
  range : mg "range" = none
  isi : mg "isinstance" = none
section
variable {X : Cx} {S S1 S2 : PSt} {pos p p2 pos2 : Pos} {a b : Expr} {v : Vl} {k : Nat}
theorem Room.u9 {A : Around} (hr : Room k A) : A.units + 9 < cLine := by have := hr.un; omega
theorem Room.u1 {A : Around} (hr : Room k A) : A.units + 1 < cLine := by have := hr.un; omega
theorem bLen (B : Bl X.mg) {s : Sl} {t : Bool} {ds : List D} (ha : PV X a S v S1) (hc : S1.con v = some s := by rfl) (hq : s.seq = some (t, ds) := by rfl) (hg : Gl X "len" := by rfl) (hs : starEach [a] X.env = (false, eval a X.env) :: starEach [] X.env := by rfl) (hpl : (backTo pos (starEach [] X.env)).any (·.1) = false := by rfl) :
    PV X (.Call (.Name "len" p) [a] [] pos) S (.dat (.int ds.length)) S1 := pv_len hg B.len ha hc hq hs hpl
theorem bInt (B : Bl X.mg) {i : Int} (ha : PV X a S (.dat (.int i)) S1) (hg : Gl X "int" := by rfl) (hs : starEach [a] X.env = (false, eval a X.env) :: starEach [] X.env := by rfl) (hpl : (backTo pos (starEach [] X.env)).any (·.1) = false := by rfl) :
    PV X (.Call (.Name "int" p) [a] [] pos) S (.dat (.int i)) S1 := pv_int1 hg B.int ha hs hpl
theorem bTuple (B : Bl X.mg) {s : Sl} {ds : List D} (ha : PV X a S v S1) (hc : S1.con v = some s := by rfl) (hq : s.seq = some (false, ds) := by rfl) (hg : Gl X "tuple" := by rfl) (hs : starEach [a] X.env = (false, eval a X.env) :: starEach [] X.env := by rfl) (hpl : (backTo pos (starEach [] X.env)).any (·.1) = false := by rfl) :
    PV X (.Call (.Name "tuple" p) [a] [] pos) S (.dat (.tup ds)) S1 := pv_tuple hg B.tuple ha hc hq hs hpl
theorem bSum (B : Bl X.mg) (hcm : X.calm = true) {is : List Int} (ha : PV X a S (.new (.lst (is.map D.int))) S1) (hg : Gl X "sum" := by rfl) (hs : starEach [a] X.env = (false, eval a X.env) :: starEach [] X.env := by rfl) (hpl : (backTo pos (starEach [] X.env)).any (·.1) = false := by rfl) :
    PV X (.Call (.Name "sum" p) [a] [] pos) S (.dat (.int is.sum)) S1 := pv_sum hcm hg B.sum ha rfl rfl hs hpl
theorem bIsi (B : Bl X.mg) {d : D} {T : Str} {n : String} {z : Bool} (hmT : X.mg T = none) (ha : PV X a S (.dat d) S1) (hv : bootBuiltins T = some (.type n)) (hk : PySem.W.kitOne X.K (.type d.ty) (.type n) = some z) (hg : Gl X "isinstance" := by rfl) (hgT : Gl X T := by rfl) (hn : T ≠ "__name__" := by decide) (hd : (T == ("__debug__" : Str)) = false := by decide) (hdn : d.isDN = false := by rfl)
    (hs : starEach [a, .Name T p2] X.env = (false, eval a X.env) :: starEach [.Name T p2] X.env := by rfl) (hs2 : starEach [.Name T p2] X.env = (false, eval (.Name T p2) X.env) :: starEach [] X.env := by rfl) (hpl : (backTo pos (starEach [.Name T p2] X.env)).any (·.1) = false := by rfl) :
    PV X (.Call (.Name "isinstance" p) [a, .Name T p2] [] pos) S (.dat (.bl z)) S1 := pv_isi hdn hg B.isi ha hgT hmT hv hk hn hd hs hs2 hpl
theorem bRange {t : Tg} {tg : Expr} (B : Bl X.mg) {n : Int} (ha : PV X a S (.dat (.int n)) S1) (hn : -(2 ^ 62) ≤ n ∧ n < 2 ^ 62) (hg : Gl X "range" := by rfl) (hs : starEach [a] X.env = [(false, eval a X.env)] := by rfl) :
    PId X t tg (.Call (.Name "range" p) [a] [] pos) S ((List.range n.toNat).map fun (i : Nat) => D.int (i : Int)) S1 := pid_rng1 hg B.range ha hn hs
end
end PL
/-! The pure layer, O: values told by what holds of them. -/
namespace PL
open PySem PySem.Spec PyProof.Rows L2

def tVX (c : Cc) (S : PSt) (post : D → PSt → Prop) : TE := fun σ H Q => ∃ F0 H0 F, R c F0 H0 F H σ S ∧ ∀ d S1 x F' H', post d S1 → R c F0 H0 F' H' σ S1 → Gr σ S S1 F H F' H' → Rep c.K F' x d → Q x H'
def tTX (c : Cc) (S : PSt) (post : Bool → PSt → Prop) : TT := fun σ H Q => ∃ F0 H0 F, R c F0 H0 F H σ S ∧ ∀ z S1 F' H', post z S1 → R c F0 H0 F' H' σ S1 → Gr σ S S1 F H F' H' → Q z H'
def tAX (c : Cc) (S : PSt) (post : List D → PSt → Prop) : TA := fun σ H Q => ∃ F0 H0 F, R c F0 H0 F H σ S ∧ ∀ ds S1 xs F' H', post ds S1 → R c F0 H0 F' H' σ S1 → Gr σ S S1 F H F' H' → RepL c.K F' xs ds → Q xs H'
abbrev PVX (X : Cx) (e : Expr) (S : PSt) (post : D → PSt → Prop) : Prop := PE X e (tVX (ccOf X) S post)
abbrev PTX (X : Cx) (e : Expr) (S : PSt) (post : Bool → PSt → Prop) : Prop := PT X e (tTX (ccOf X) S post)
abbrev PAX (X : Cx) (es : List Expr) (S : PSt) (post : List D → PSt → Prop) : Prop := PA X es (tAX (ccOf X) S post)

section
variable {X : Cx} {e a b : Expr} {es : List Expr} {rest : List Stmt} {S S1 S2 : PSt} {v : Vl} {vs : List Vl} {pos p : Pos} {x : Str} {n k j : Nat} {α : Type}
theorem pvx_of {d : D} {post : D → PSt → Prop} (h : PV X e S (.dat d) S1) (q : post d S1) : PVX X e S post := peI h fun σ H Q ⟨F0, H0, F, r, k⟩ => ⟨F0, H0, F, r, fun y F1 H1 r1 g z => k d S1 y F1 H1 q r1 g z⟩
theorem pvx_mono {p q : D → PSt → Prop} (h : PVX X e S p) (i : ∀ d S1, p d S1 → q d S1) : PVX X e S q := peI h fun σ H Q ⟨F0, H0, F, r, k⟩ => ⟨F0, H0, F, r, fun d S1 y F1 H1 hp r1 g z => k d S1 y F1 H1 (i d S1 hp) r1 g z⟩
theorem pax_nil {post : List D → PSt → Prop} (h : post [] S) : PAX X [] S post := paI pa_nil fun σ H Q ⟨F0, H0, F, r, k⟩ => k [] S [] F H h r Gr.rf .nil
theorem pax_cons {pa : D → PSt → Prop} {post : List D → PSt → Prop} (ha : PVX X e S pa) (hr : ∀ d S1, pa d S1 → PAX X es S1 (fun ds S2 => post (d :: ds) S2)) (hs : starEach (e :: es) X.env = (false, eval e X.env) :: starEach es X.env := by rfl) : PAX X (e :: es) S post := by
  have h2 : PA X es (fun σ H Q => ∃ d S1, pa d S1 ∧ tAX (ccOf X) S1 (fun ds S2 => post (d :: ds) S2) σ H Q) := ⟨fun ps pins s σ H Q I ⟨d, S1, hp, q⟩ => (hr d S1 hp).run ps pins s σ H Q I q⟩
  exact paI (pa_cons ha h2 hs) fun σ H Q ⟨F0, H0, F, r, k⟩ => ⟨F0, H0, F, r, fun d S1 y F1 H1 hp r1 g z => ⟨d, S1, hp, F0, H0, F1, r1, fun ds S2 xs F2 H2 hq r2 g2 z2 => k (d :: ds) S2 (y :: xs) F2 H2 hq r2 (g.tr r1 g2) (.cons (z.mono g2.eF) z2)⟩⟩
theorem pax_of {ds : List D} {post : List D → PSt → Prop} (h : PVs X es S vs S1) (hd : dats vs = some ds) (q : post ds S1) : PAX X es S post := paI h fun σ H Q ⟨F0, H0, F, r, k⟩ => ⟨F0, H0, F, r, fun xs F1 H1 r1 g z => k ds S1 xs F1 H1 q r1 g (dats_rep z hd)⟩

/-! ### promises -/
def spR (c : Cc) {α : Type} (arg : α → List D) (pre : α → Prop) (post : α → D → Prop) : Sp := fun vs H Q _ => ∃ F x, Ex F H ∧ RepL c.K F vs (arg x) ∧ pre x ∧ ∀ y F' H' d, post x d → R c F H F' H' [] ⟨[], none⟩ → Rep c.K F' y d → Q y H'
def spS (c : Cc) {α : Type} (arg : α → List D) (pre : α → Ws → Prop) (post : α → Ws → D → Ws → Prop) : Sp := fun vs H Q _ => ∃ F ws vs' x, vs = .ref ws.sa :: vs' ∧ Ex F H ∧ WOk F H ws ∧ RepL c.K F vs' (arg x) ∧ pre x ws.p ∧
  ∀ y F' H' d p, post x ws.p d p → R c F H F' H' [] ⟨[], some (ws.up p)⟩ → Rep c.K F' y d → Q y H'
abbrev GFr (P : Program) (w : World) (K : PySem.W.Frag) (mg : Str → Option Value) (base : Heap) (k : Nat) (x : Str) (n : Nat) {α : Type} (arg : α → List D) (pre : α → Prop) (post : α → D → Prop) : Prop := GSp P w K mg base k x n (spR ⟨P, w, K⟩ arg pre post)
abbrev GFs (P : Program) (w : World) (K : PySem.W.Frag) (mg : Str → Option Value) (base : Heap) (k : Nat) (x : Str) (n : Nat) {α : Type} (arg : α → List D) (pre : α → Ws → Prop) (post : α → Ws → D → Ws → Prop) : Prop := GSp P w K mg base k x n (spS ⟨P, w, K⟩ arg pre post)
theorem pvx_call {arg : α → List D} {pre : α → Prop} {post : α → D → Prop} {Pq : D → PSt → Prop} (F : GFr X.prog X.w X.K X.mg X.base j x n arg pre post) (hr : Room k X.A) (hj : j ≤ k) (ha : PAX X (e :: es) S (fun ds S1 => ∃ i, ds = arg i ∧ pre i ∧ ∀ d, post i d → Pq d S1)) (hg : Gl X x := by rfl)
    (hdb : (x == ("__debug__" : Str)) = false := by decide) (he : starEach (e :: es) X.env = (false, eval e X.env) :: starEach es X.env := by rfl) (hpl : (backTo pos (starEach es X.env)).any (·.1) = false := by rfl) : PVX X (.Call (.Name x p) (e :: es) [] pos) S Pq := by
  obtain ⟨f, fd, ps, G, _, hm, hk, hb⟩ := F
  refine peI (pe_call (E := E0) G (hr.mono hj) hg hm hk hb (.nil : Vals [] []) pass0 ha hdb he hpl) fun σ H Q ⟨F0, H0, F, r, q⟩ => ⟨F0, H0, F, r, fun ds S1 xs F1 H1 hp r1 g1 z1 => ?_⟩
  show spR ⟨X.prog, X.w, X.K⟩ arg pre post (xs ++ []) H1 Q E0
  rw [List.append_nil]
  obtain ⟨i, rfl, hpre, hpost⟩ := hp
  refine ⟨F1, i, r1.fh, z1, hpre, fun y F2 H2 d hd r2 ry => ?_⟩
  obtain ⟨r3, g3⟩ := r1.call0 r2
  exact q d S1 y F2 H2 (hpost d hd) r3 (g1.tr r1 g3) ry
/-- .. of the state -/
theorem pvx_callS {arg : α → List D} {pre : α → Ws → Prop} {post : α → Ws → D → Ws → Prop} {Pq : D → PSt → Prop} {ws : WS} (i : α) (F : GFs X.prog X.w X.K X.mg X.base j x n arg pre post) (hr : Room k X.A) (hj : j ≤ k) (ha : PVs X (e :: es) S (.st :: vs) S1) (hd : dats vs = some (arg i)) (hw : S1.w = some ws) (hp : pre i ws.p)
    (hq : ∀ d p, post i ws.p d p → Pq d ⟨S1.env, some (ws.up p)⟩) (hg : Gl X x := by rfl)
    (hdb : (x == ("__debug__" : Str)) = false := by decide) (he : starEach (e :: es) X.env = (false, eval e X.env) :: starEach es X.env := by rfl) (hpl : (backTo pos (starEach es X.env)).any (·.1) = false := by rfl) : PVX X (.Call (.Name x p) (e :: es) [] pos) S Pq := by
  obtain ⟨f, fd, ps, G, _, hm, hk, hb⟩ := F
  refine peI (pe_call (E := E0) G (hr.mono hj) hg hm hk hb (.nil : Vals [] []) pass0 ha hdb he hpl) fun σ H Q ⟨F0, H0, F, r, q⟩ => ⟨F0, H0, F, r, fun xs F1 H1 r1 g1 z1 => ?_⟩
  show spS ⟨X.prog, X.w, X.K⟩ arg pre post (xs ++ []) H1 Q E0
  rw [List.append_nil]
  cases z1 with
  | @cons y _ ys _ z1 z2 =>
    obtain ⟨w', e1, e2⟩ := z1
    rw [hw] at e1
    cases e1
    subst e2
    refine ⟨F1, ws, ys, i, rfl, r1.fh, r1.ws ws hw, dats_rep z2 hd, hp, fun y F2 H2 d p hdp r2 ry => ?_⟩
    obtain ⟨env, w⟩ := S1
    cases (show w = some ws from hw)
    obtain ⟨r3, g3⟩ := r1.callW r2
    exact q d _ y F2 H2 (hq d p hdp) r3 (g1.tr r1 g3) ry

/-! ### operators -/
theorem pvx_op {op : Operator} {r : R2} {pa : D → PSt → Prop} {post : D → PSt → Prop} (ho : OpR X (binaryOp op) r) (ha : PVX X a S pa)
    (hb : ∀ d1 S1, pa d1 S1 → PVX X b S1 (fun d2 S2 => ∃ d, post d S2 ∧ ∀ (x y : V) F H Q, Rep X.K F x d1 → Rep X.K F y d2 → (∀ z, Rep X.K F z d → Q z H) → r x y H Q)) : PVX X (.BinOp a op b pos) S post := by
  have h2 : PE X b (fun σ H Q => ∃ d1 S1, pa d1 S1 ∧ tVX (ccOf X) S1 (fun d2 S2 => ∃ d, post d S2 ∧ ∀ (x y : V) F H Q, Rep X.K F x d1 → Rep X.K F y d2 → (∀ z, Rep X.K F z d → Q z H) → r x y H Q) σ H Q) := ⟨fun pins s σ H Q I ⟨d, S1, hp, q⟩ => (hb d S1 hp).run pins s σ H Q I q⟩
  exact peI (pe_op ho ha h2) fun σ H Q ⟨F0, H0, F, rr, k⟩ => ⟨F0, H0, F, rr, fun d1 S1 x F1 H1 hp r1 g1 z1 => ⟨d1, S1, hp, F0, H0, F1, r1, fun d2 S2 y F2 H2 ⟨d, hd, hx⟩ r2 g2 z2 =>
    hx x y F2 H2 Q (z1.mono g2.eF) z2 fun z hz => k d S2 z F2 H2 hd r2 (g1.tr r1 g2) hz⟩⟩
theorem pvx_add {pa post : D → PSt → Prop} (ha : PVX X a S pa) (hb : ∀ d1 S1, pa d1 S1 → PVX X b S1 (fun d2 S2 => ∃ i j, d1 = .int i ∧ d2 = .int j ∧ post (.int (i + j)) S2)) : PVX X (.BinOp a .Add b pos) S post :=
  pvx_op op_add ha fun d1 S1 hp => pvx_mono (hb d1 S1 hp) fun d2 S2 ⟨i, j, e1, e2, q⟩ => ⟨_, q, fun x y F H Q h1 h2 k => ⟨i, j, rep_int (e1 ▸ h1), rep_int (e2 ▸ h2), k _ (.int _)⟩⟩
theorem pvx_sub {pa post : D → PSt → Prop} (ha : PVX X a S pa) (hb : ∀ d1 S1, pa d1 S1 → PVX X b S1 (fun d2 S2 => ∃ i j, d1 = .int i ∧ d2 = .int j ∧ post (.int (i - j)) S2)) : PVX X (.BinOp a .Sub b pos) S post :=
  pvx_op op_sub ha fun d1 S1 hp => pvx_mono (hb d1 S1 hp) fun d2 S2 ⟨i, j, e1, e2, q⟩ => ⟨_, q, fun x y F H Q h1 h2 k => ⟨i, j, rep_int (e1 ▸ h1), rep_int (e2 ▸ h2), k _ (.int _)⟩⟩
/-- (e, ..) -/
theorem pvx_tup {x1 : Nat} {post : D → PSt → Prop} (h : PAX X es S (fun ds S1 => ds.length ≤ 1000 ∧ post (.tup ds) S1)) : PVX X (.Tuple es x1 pos) S post := peI (pe_tupF h) fun σ H Q ⟨F0, H0, F, r, k⟩ => ⟨F0, H0, F, r, fun ds S1 xs F1 H1 ⟨hl, hp⟩ r1 e1 rp => by
  refine ⟨Nat.le_trans (by rw [rp.len]; exact hl) (by decide), fun p o hp2 hn => ?_⟩
  have e2 : Ex F1 (upd F1 p (.frz o (.tup xs))) := ex_new (r1.freeF hp2)
  exact k _ S1 _ _ _ hp (r1.new hp2) (e1.tr r1 (gr_new (r1.freeF hp2) hp2 (r1.free0 hp2).2)) (.tup (.inl ⟨o, upd_same, hn⟩) (rp.mono e2))⟩
/-- xs[e], a new list -/
theorem pvx_ix {t : Bool} {ds : List D} {pb post : D → PSt → Prop} {w1 : Option WS} (ha : PV X a S (.new (.lst ds)) S1) (hb : PVX X b S1 (fun d2 S2 => ∃ i d, d2 = .int i ∧ atI ds i = some d ∧ post d S2)) (hs : PlainIx b := by exact fun _ _ => rfl) :
    PVX X (.Subscript a b pos) S post :=
  peI (pe_ix ix_list ha hb hs) fun σ H Q ⟨F0, H0, F, rr, k⟩ => ⟨F0, H0, F, rr, fun x F1 H1 r1 g1 z1 => ⟨F0, H0, F1, r1, fun d2 S2 y F2 H2 ⟨i, d, ei, hi, hp⟩ r2 g2 z2 => by
    subst ei
    obtain ⟨p, vs, rfl, h1, h2⟩ := ((z1.later (F0 := F0) (v := .new (.lst ds)) True.intro g2).sl r2 (s := .lst ds) rfl).items r2.fh rfl
    obtain ⟨z, h3, h4⟩ := atI_rep h2 hi
    exact ⟨p, vs, i, z, rfl, rep_int z2, h1, h3, k d S2 z F2 H2 hp r2 (g1.tr r1 g2) h4⟩⟩⟩

/-! ### tests -/
theorem ptx_of {z : Bool} {post : Bool → PSt → Prop} (h : PTd X e S z S1) (q : post z S1) : PTX X e S post := ptI h fun σ H Q ⟨F0, H0, F, r, k⟩ => ⟨F0, H0, F, r, fun F1 H1 r1 g => k z S1 F1 H1 q r1 g⟩
/-- a comparison with a number -/
theorem ptx_cmp {op : CmpOp} {f : Int → Int → Bool} {pa : D → PSt → Prop} {post : Bool → PSt → Prop} {c : Int}
    (ho : ∀ {S S1 S2 : PSt} {i : Int}, PV X a S (.dat (.int i)) S1 → PV X b S1 (.dat (.int c)) S2 → PCd X op a b S (f i c) S2) (r : R2) (hop : OpR X (compareOp op) r) (hrr : ∀ (i : Int) H (Q : VK), Q (.bl (f i c)) H → r (.int i) (.int c) H Q)
    (ha : PVX X a S pa) (hb : ∀ S1, PV X b S1 (.dat (.int c)) S1) (hq : ∀ d S1, pa d S1 → ∃ i, d = .int i ∧ post (f i c) S1) (h1 : behindInMarks op b = false := by first | exact nobehind _ (by decide) (by decide) | rfl) : PTX X (.Compare a [op] [b] pos) S post := by
  have h2 : PE X b (fun σ H Q => ∃ S1, tV (ccOf X) S1 (.dat (.int c)) S1 σ H Q) := ⟨fun pins s σ H Q I ⟨S1, q⟩ => (hb S1).run pins s σ H Q I q⟩
  exact ptI (pt_cmp (pc_op hop ha h2) h1) fun σ H Q ⟨F0, H0, F, rr, k⟩ => ⟨F0, H0, F, rr, fun d S1 x F1 H1 hp r1 g1 z1 => ⟨S1, F0, H0, F1, r1, fun y F2 H2 r2 g2 z2 => by
    obtain ⟨i, rfl, hpost⟩ := hq d S1 hp
    rw [rep_int z1, rep_int z2]
    exact hrr i H2 _ ⟨f i c, rfl, k _ S1 F2 H2 hpost r2 (g1.tr r1 g2)⟩⟩⟩
theorem ptx_eq {pa : D → PSt → Prop} {post : Bool → PSt → Prop} {c : Int} (ha : PVX X a S pa) (hb : ∀ S1, PV X b S1 (.dat (.int c)) S1) (hq : ∀ d S1, pa d S1 → ∃ i, d = .int i ∧ post (decide (i = c)) S1) : PTX X (.Compare a [.Eq] [b] pos) S post :=
  ptx_cmp (f := fun i j => decide (i = j)) (fun h1 h2 => cd_eqI h1 h2) _ op_eq (fun i H Q q => ⟨rfl, by rw [dec_int]; exact q⟩) ha hb hq
theorem ptx_gt {pa : D → PSt → Prop} {post : Bool → PSt → Prop} {c : Int} (ha : PVX X a S pa) (hb : ∀ S1, PV X b S1 (.dat (.int c)) S1) (hq : ∀ d S1, pa d S1 → ∃ i, d = .int i ∧ post (decide (c < i)) S1) : PTX X (.Compare a [.Gt] [b] pos) S post :=
  ptx_cmp (f := fun i j => decide (j < i)) (fun h1 h2 => cd_gt h1 h2) _ op_gt (fun i H Q q => ⟨i, c, rfl, rfl, q⟩) ha hb hq
/-- a or b, b a test of its own -/
theorem ptx_or {z : Bool} {post : Bool → PSt → Prop} (ha : PTd X a S z S1) (h1 : z = true → post true S1) (hb : z = false → PTX X b S1 post) : PTX X (.BoolOp .Or [a, b] pos) S post := by
  cases z with
  | true => exact ptx_of (PWd.t (td_or (es := []) (y := true) ha fun h => nomatch h)) (h1 rfl)
  | false =>
    have h2 : PW X (.BoolOp .Or [b] pos) (tTX (ccOf X) S1 post) := pw_or1 (hb rfl)
    refine PW.pt (pwI (pw_or ha h2) fun σ H Q ⟨F0, H0, F, rr, k⟩ => ⟨F0, H0, F, rr, fun F1 H1 r1 e1 => ?_⟩)
    exact ⟨F0, H0, F1, r1, fun z S2 F2 H2 hp r2 e2 => k z S2 F2 H2 hp r2 (e1.tr r1 e2)⟩
/-- a if t else b -/
theorem pvx_if {t : Expr} {pt : Bool → PSt → Prop} {post : D → PSt → Prop} (ht : PTX X t S pt) (ha : ∀ S1, pt true S1 → PVX X a S1 post) (hb : ∀ S1, pt false S1 → PVX X b S1 post) : PVX X (.IfExp t a b pos) S post := by
  refine ⟨fun pins s σ H Q I h => ?_⟩
  obtain ⟨F0, H0, F, rr, k⟩ := h
  refine wpAny_IfExp (thn (ht.run pins s σ H (fun c H1 => ∃ S1 F1, pt c S1 ∧ R (ccOf X) F0 H0 F1 H1 σ S1 ∧ Gr σ S S1 F H F1 H1) I ⟨F0, H0, F, rr, fun z S1 F1 H1 hz r1 e1 => ⟨S1, F1, hz, r1, e1⟩⟩) fun c s1 ⟨H1, I1, S1, F1, hz, r1, e1⟩ => ?_)
  cases c with
  | true => exact (ha S1 hz).run pins s1 σ H1 Q I1 ⟨F0, H0, F1, r1, fun d S2 x F2 H2 hp r2 e2 z2 => k d S2 x F2 H2 hp r2 (e1.tr r1 e2) z2⟩
  | false => exact (hb S1 hz).run pins s1 σ H1 Q I1 ⟨F0, H0, F1, r1, fun d S2 x F2 H2 hp r2 e2 z2 => k d S2 x F2 H2 hp r2 (e1.tr r1 e2) z2⟩

/-! ### statements -/
variable {P : Post}
/-- one statement that leads on to one of several states -/
theorem psd_stepX {st : Stmt} {t : TS} {p : PSt → Prop} (h1 : PS X st t) (h2 : ∀ S', p S' → PSd X rest S' P)
    (h : ∀ (E : Ends) σ H, (∃ F0 H0 F, R (ccOf X) F0 H0 F H σ S ∧ ∀ σ' F' H' S', p S' → R (ccOf X) F0 H0 F' H' σ' S' → Ex F F' → E.nx σ' H') → t E σ H) : PSd X (st :: rest) S P :=
  psd_cons (p := p) h1 h2 fun E σ H ⟨F0, H0, F, r, k1, _⟩ => h E σ H ⟨F0, H0, F, r, fun σ' F' H' S' hp r' e' => k1 σ' F' H' S' r' e' hp⟩
theorem dsx_set (i : Nat) {y : Str} {p' : Pos} {post : D → PSt → Prop} (hN : X.N.Nodup) (hi : X.N[i]? = some y) (hx : Loc X.env.scope y) (he : PVX X e S post) (h : ∀ d S1, post d S1 → PSd X rest (S1.put i (some (.dat d))) P)
    (hs : swapsWith e (some (.Name y p')) pos.line X.env = pure false := by rfl) (hf : X.fn y = true ∨ X.env.scope.names.lookup y = some .local := by first | exact .inl rfl | exact .inr rfl | assumption) : PSd X (.Assign [.Name y p'] e pos :: rest) S P :=
  psd_stepX (p := fun S' => ∃ d S1, post d S1 ∧ S' = S1.put i (some (.dat d))) (ps_set hN hi hx he hs hf) (fun S' ⟨d, S1, hp, e⟩ => by rw [e]; exact h d S1 hp) fun E σ H ⟨F0, H0, F, r, k⟩ => ⟨F0, H0, F, r, fun d S1 x F1 H1 hp r1 g z => k _ F1 H1 _ ⟨d, S1, hp, rfl⟩ (r1.putD z) g.eF⟩
theorem dsx_ret {post : D → PSt → Prop} (he : PVX X e S post) (h : ∀ d S1, post d S1 → P.rt d S1.w) : PSd X (.Return (some e) pos :: rest) S P :=
  pssI (pss_cons (ps_ret he) (pss_never (X := X))) fun E σ H ⟨F0, H0, F, r, _, k, _⟩ => ⟨F0, H0, F, r, fun d S1 y F1 H1 hp r1 g z => k y F1 H1 d S1.w r1.bare g.eF z (h d S1 hp)⟩
theorem dsx_unpack {es : List Expr} {k1 : Nat} {p1 : Pos} {is : List Nat} {post : D → PSt → Prop} (hN : X.N.Nodup) (hcm : X.calm = true) (ht : Tgs X es is) (he : PVX X e S post) (h : ∀ d S1, post d S1 → ∃ ds, d = .tup ds ∧ is.length = ds.length ∧ PSd X rest (S1.puts is ds) P)
    (hn : (assignEach es X.env).length = is.length := by rfl) (hst : (assignEach es X.env).findIdx? (·.1) = none := by rfl) (hs : swapsWithSole [.Tuple es k1 p1] e pos.line X.env = pure false := by rfl) (hw : swappedStores [.Tuple es k1 p1] e X.env = pure none := by rfl)
    (h1 : (assignEach [.Tuple es k1 p1] X.env).map (·.2) = [assign (.Tuple es k1 p1) X.env] := by rfl) : PSd X (.Assign [.Tuple es k1 p1] e pos :: rest) S P := by
  have hg : PGs X es (fun vs σ H Q => ∃ ds S1, is.length = ds.length ∧ gPuts (ccOf X) is ds S1 vs σ H Q) := ⟨fun pins s σ H vs us Q I r ⟨ds, S1, hl, q⟩ => (pgs_puts (S := S1) hN ht hl).run pins s σ H vs us Q I r q⟩
  refine psd_stepX (p := fun S' => PSd X rest S' P) (ps_asg he (pg_tup hcm hg hn hst) hs hw h1) (fun S' h => h) fun E σ H ⟨F0, H0, F, r, k⟩ => ⟨F0, H0, F, r, fun d S1 y F1 H1 hp r1 g z => ?_⟩
  obtain ⟨ds, rfl, hl, hr⟩ := h d S1 hp
  cases z with
  | tup hq rl => exact ⟨_, _, rfl, Evl.ex_t r1.fh hq.sq, by rw [rl.len, hl], ds, S1, hl, F0, H0, F1, r1, rl, fun σ' r' => k σ' F1 H1 _ hr r' g.eF⟩
/-- a, b = e1, e2 -/
theorem dsx_par (i j : Nat) {x y : Str} {px py pt : Pos} {kt k2 : Nat} {pt2 : Pos} (hcm : X.calm = true) (hN : X.N.Nodup) (hi : X.N[i]? = some x) (hj : X.N[j]? = some y) (hij : i ≠ j) (hx : X.env.scope.names.lookup x = some .local) (hy : X.env.scope.names.lookup y = some .local)
    (ha : PAX X [a, b] S (fun ds S1 => ∃ d1 d2, ds = [d1, d2] ∧ PSd X rest ((S1.put i (some (.dat d1))).put j (some (.dat d2))) P))
    (hw : swappedStores [.Tuple [.Name x px, .Name y py] kt pt] (.Tuple [a, b] k2 pt2) X.env = pure (some [x, y]) := by rfl)
    (hs : swapsWithSole [.Tuple [.Name x px, .Name y py] kt pt] (.Tuple [a, b] k2 pt2) pos.line X.env = pure false := by rfl) : PSd X (.Assign [.Tuple [.Name x px, .Name y py] kt pt] (.Tuple [a, b] k2 pt2) pos :: rest) S P :=
  psd_stepX (p := fun S' => PSd X rest S' P) (ps_par hcm hN hi hj hij hx hy ha hw hs) (fun S' h => h) fun E σ H ⟨F0, H0, F, r, k⟩ => ⟨F0, H0, F, r, fun ds S1 xs F1 H1 ⟨d1, d2, e, hr⟩ r1 g z => by
    subst e
    cases z with
    | cons z1 z =>
      cases z with
      | cons z2 z =>
        cases z
        exact ⟨_, _, rfl, k _ F1 H1 _ hr ((r1.putD z1).putD z2) g.eF⟩⟩
/-- if -/
theorem dsx_if {A B : List Stmt} {pt : Bool → PSt → Prop} (hc : PTX X a S pt) (hA : ∀ S1, pt true S1 → PSd X A S1 { P with nx := fun S' => PSd X rest S' P }) (hB : ∀ S1, pt false S1 → PSd X B S1 { P with nx := fun S' => PSd X rest S' P }) : PSd X (.If a A B pos :: rest) S P := by
  refine psd_cons (p := fun S' => PSd X rest S' P) (t := tS (ccOf X) S { P with nx := fun S' => PSd X rest S' P }) ⟨fun pins s σ H E I q => ?_⟩ (fun S' h => h) fun E σ H q => q
  obtain ⟨F0, H0, F, r, k1, k2, k3, k4⟩ := q
  refine wpAny_If (thn (hc.run pins s σ H (fun c H1 => ∃ S1 F1, pt c S1 ∧ R (ccOf X) F0 H0 F1 H1 σ S1 ∧ Gr σ S S1 F H F1 H1) I ⟨F0, H0, F, r, fun z S1 F1 H1 hz r1 g => ⟨S1, F1, hz, r1, g⟩⟩) fun c s1 ⟨H1, I1, S1, F1, hz, r1, g⟩ => ?_)
  cases c with
  | true => exact (hA S1 hz).run pins s1 σ H1 E I1 ⟨F0, H0, F1, r1, fun σ2 F2 H2 S2 r2 e2 => k1 σ2 F2 H2 S2 r2 (ex_tr g.eF e2), fun x F2 H2 d w r2 e2 => k2 x F2 H2 d w r2 (ex_tr g.eF e2), fun σ2 F2 H2 S2 r2 e2 => k3 σ2 F2 H2 S2 r2 (ex_tr g.eF e2), fun σ2 F2 H2 S2 r2 e2 => k4 σ2 F2 H2 S2 r2 (ex_tr g.eF e2)⟩
  | false => exact (hB S1 hz).run pins s1 σ H1 E I1 ⟨F0, H0, F1, r1, fun σ2 F2 H2 S2 r2 e2 => k1 σ2 F2 H2 S2 r2 (ex_tr g.eF e2), fun x F2 H2 d w r2 e2 => k2 x F2 H2 d w r2 (ex_tr g.eF e2), fun σ2 F2 H2 S2 r2 e2 => k3 σ2 F2 H2 S2 r2 (ex_tr g.eF e2), fun σ2 F2 H2 S2 r2 e2 => k4 σ2 F2 H2 S2 r2 (ex_tr g.eF e2)⟩
end

/-! ### defs -/
section
variable {P : Program} {w : World} {K : PySem.W.Frag} {mg : Str → Option Value} {base : Heap} {x qual : Str} {N ps : List Str} {k n : Nat} {α : Type}
theorem gfr_of {st : Stmt} {arg : α → List D} {pre : α → Prop} {post : α → D → Prop} (F : DefOk K mg x qual st) (Sc : FnScope N ps (defScope st)) (hn : ∀ i, (arg i).length = ps.length) (hb : ∀ (kV doc pm : Value) (an : Option Addr) (cdv ct : Value) (us : List Value), us.length = ps.length → bindArgs (PySem.W.fnOf x qual (defArgs st) (defBody st) (defScope st) .none kV doc pm an cdv ct) ⟨us, []⟩ = pure (ps.zip us))
    (hbody : ∀ (f : Addr) (cdv : Value) (A : Around) (outer : List Env) (s : Shared) (H : Hp) (E : XK) (i : α), Room k (xOf P w K mg base N qual (defScope st) f cdv A outer s H E).A → pre i →
      PSd (xOf P w K mg base N qual (defScope st) f cdv A outer s H E) (defBody st) ⟨entry N (arg i), none⟩ { nx := fun S' => S'.w = none ∧ post i .non, rt := fun d w' => w' = none ∧ post i d }) : GFr P w K mg base (k + 1) x ps.length arg pre post := by
  obtain ⟨f, fd, F, hm⟩ := F.ex
  refine ⟨f, fd, ps, F.ok Sc (fun vs H Q E h => ?_) (fun cdv A outer s H vs Q E hr h => ?_), rfl, hm, F.kp, F.bindsN hb⟩
  · obtain ⟨F, i, _, r, _⟩ := h
    rw [r.len, hn]
  · obtain ⟨F1, i, e, r, hp, q⟩ := h
    refine ⟨_, PSs.nox (hbody f cdv A outer s H E i hr hp), F1, H, F1, entry_r e r ?_, ?_, ?_, fun _ _ _ _ _ _ h => h.elim, fun _ _ _ _ _ _ h => h.elim⟩
    · have hpl : ps.length ≤ N.length := by have := congrArg List.length Sc.pre; rw [List.length_take] at this; omega
      rw [r.len, hn]; exact hpl
    · rintro σ' F' H' S' r' _ ⟨ew, eg⟩
      have rb := r'.bare
      rw [ew] at rb
      exact q _ F' H' _ eg rb .non
    · rintro y F' H' d w' r' _ ry ⟨ew, ed⟩
      subst ew
      exact q y F' H' d ed r' ry
theorem gfs_of {st : Stmt} {arg : α → List D} {pre : α → Ws → Prop} {post : α → Ws → D → Ws → Prop} (F : DefOk K mg x qual st) (Sc : FnScope N ps (defScope st)) (hn : ∀ i, (arg i).length + 1 = ps.length) (hb : ∀ (kV doc pm : Value) (an : Option Addr) (cdv ct : Value) (us : List Value), us.length = ps.length → bindArgs (PySem.W.fnOf x qual (defArgs st) (defBody st) (defScope st) .none kV doc pm an cdv ct) ⟨us, []⟩ = pure (ps.zip us))
    (hbody : ∀ (f : Addr) (cdv : Value) (A : Around) (outer : List Env) (s : Shared) (H : Hp) (E : XK) (i : α) (ws : WS), Room k (xOf P w K mg base N qual (defScope st) f cdv A outer s H E).A → pre i ws.p →
      PSd (xOf P w K mg base N qual (defScope st) f cdv A outer s H E) (defBody st) ⟨entryW N (arg i), some ws⟩ { nx := fun S' => False, rt := fun d w' => ∃ p, w' = some (ws.up p) ∧ post i ws.p d p }) : GFs P w K mg base (k + 1) x ps.length arg pre post := by
  obtain ⟨f, fd, F, hm⟩ := F.ex
  refine ⟨f, fd, ps, F.ok Sc (fun vs H Q E h => ?_) (fun cdv A outer s H vs Q E hr h => ?_), rfl, hm, F.kp, F.bindsN hb⟩
  · obtain ⟨F, ws, vs', i, rfl, _, _, r, _⟩ := h
    rw [List.length_cons, r.len, hn]
  · obtain ⟨F1, ws, vs', i, rfl, e, hw, r, hp, q⟩ := h
    refine ⟨_, PSs.nox (hbody f cdv A outer s H E i ws hr hp), F1, H, F1, entryW_r e hw r ?_, fun _ _ _ _ _ _ h => h.elim, ?_, fun _ _ _ _ _ _ h => h.elim, fun _ _ _ _ _ _ h => h.elim⟩
    · have hpl : ps.length ≤ N.length := by have := congrArg List.length Sc.pre; rw [List.length_take] at this; omega
      rw [r.len, hn]; exact hpl
    · rintro y F' H' d w' r' _ ry ⟨p, ew, ed⟩
      subst ew
      exact q y F' H' d p ed r' ry
end
end PL
/-! The pure layer, P: comprehensions and loops over a list of anything that stands for data. -/
namespace PL
open PySem PySem.Spec PyProof.Rows L2
section
variable {X : Cx} {rest body : List Stmt} {iter tg elt : Expr} {ifs : List Expr} {S S1 : PSt} {P : Post} {pos : Pos} {α : Type}
/-- what is asked of a block's expression: in every such block -/
abbrev InBlk (X : Cx) (scope : Scope) (q : Cx → Prop) : Prop := ∀ (s : Shared) (H : Hp) (C : Addr) (cl : List (Str × Addr)) (fp : List Addr), q (X.blk s H scope (compEnvC scope cl C X.env) fp)
theorem turnsL {L : List α} {emb f : α → D} {scope : Scope} {t : Tg} {vs : List Nat} {env : List (Option Sl)} {w0 : Option WS} (htg : InBlk X scope fun Y => TgW Y tg t vs)
    (h : ∀ a, a ∈ L → ∃ S2, t.bind ⟨wipeE env vs, w0⟩ (emb a) = some S2 ∧ InBlk X scope fun Y => PV Y elt S2 (.dat (f a)) S2) : Turns X scope tg elt [] t vs env (L.map emb) (fun k acc w => w = w0 ∧ acc = (L.take k).map f) := ⟨htg, fun k d acc w hx ⟨ew, ea⟩ _ => by
  subst ew ea
  rw [List.getElem?_map] at hx
  cases hL : L[k]? with
  | none => rw [hL] at hx; cases hx
  | some a =>
    rw [hL] at hx
    cases hx
    obtain ⟨S2, eb, he⟩ := h a (List.mem_of_getElem? hL)
    refine ⟨S2, true, eb, fun _ _ _ _ _ => tds_nil, fun z => absurd z (by decide), fun _ => ⟨f a, S2.w, by rw [bind_w eb], he, by rw [bind_w eb], ?_⟩⟩
    rw [List.take_add_one, hL, List.map_append]
    rfl⟩
theorem turnsF {L : List α} {emb f : α → D} {p : α → Bool} {scope : Scope} {t : Tg} {vs : List Nat} {env : List (Option Sl)} {w0 : Option WS} (htg : InBlk X scope fun Y => TgW Y tg t vs)
    (h : ∀ a, a ∈ L → ∃ S2, t.bind ⟨wipeE env vs, w0⟩ (emb a) = some S2 ∧ (InBlk X scope fun Y => PTsd Y ifs S2 (p a) S2) ∧ (p a = true → InBlk X scope fun Y => PV Y elt S2 (.dat (f a)) S2)) : Turns X scope tg elt ifs t vs env (L.map emb) (fun k acc w => w = w0 ∧ acc = ((L.take k).filter p).map f) := ⟨htg, fun k d acc w hx ⟨ew, ea⟩ _ => by
  subst ew ea
  rw [List.getElem?_map] at hx
  cases hL : L[k]? with
  | none => rw [hL] at hx; cases hx
  | some a =>
    rw [hL] at hx
    cases hx
    obtain ⟨S2, eb, hp, he⟩ := h a (List.mem_of_getElem? hL)
    refine ⟨S2, p a, eb, hp, fun hz => ⟨rfl, ?_⟩, fun hz => ⟨f a, S2.w, by rw [bind_w eb], he hz, by rw [bind_w eb], ?_⟩⟩
    · rw [List.take_add_one, hL, List.filter_append]
      simp [hz]
    · rw [List.take_add_one, hL, List.filter_append, List.map_append]
      simp [hz]⟩
theorem endL {L : List α} {emb f : α → D} {w0 : Option WS} (acc : List D) (w : Option WS) (h : w = w0 ∧ acc = (L.take (L.map emb).length).map f) : acc = L.map f ∧ w = w0 := ⟨by rw [h.2, List.length_map, List.take_length], h.1⟩
theorem endF {L : List α} {emb f : α → D} {p : α → Bool} {w0 : Option WS} (acc : List D) (w : Option WS) (h : w = w0 ∧ acc = ((L.take (L.map emb).length).filter p).map f) : acc = (L.filter p).map f ∧ w = w0 := ⟨by rw [h.2, List.length_map, List.take_length], h.1⟩
/-- [elt for tg in iter] -/
theorem pv_mapL {L : List α} {emb f : α → D} {scope : Scope} (own : List (Str × Nat)) (t : Tg) (hcm : X.calm = true) (hN : X.N.Nodup) (hi : PId X t tg iter S (L.map emb) S1) (ok : blkC X.N X.env.scope scope own = true) (htg : InBlk X scope fun Y => TgW Y tg t (own.map (·.2)))
    (h : ∀ a, a ∈ L → ∃ S2, t.bind ⟨wipeE S1.env (own.map (·.2)), S1.w⟩ (emb a) = some S2 ∧ InBlk X scope fun Y => PV Y elt S2 (.dat (f a)) S2) (hl : L.length ≤ 1000000) (hn : noOwn S1.env (own.map (·.2)) = true := by rfl) (hts : ∀ i ∈ t.slots, i ∈ own.map (·.2) := by decide)
    (hs : ∀ x, foldedSetIterable iter X.env x = pure x := by intro _; rfl) : PV X (.ListComp elt [⟨tg, iter, [], 0⟩] scope pos) S (.new (.lst (L.map f))) S1 :=
  pv_lc own t _ hcm hN hi (blkOk_by ok) (turnsL (f := f) htg h) hn hts (by rw [List.length_map]; exact hl) ⟨rfl, rfl⟩ endL hs
theorem pv_mapO {L : List α} {emb f : α → D} {scope : Scope} {i : Nat} (own : List (Str × Nat)) (t : Tg) (hcm : X.calm = true) (hN : X.N.Nodup) (hi : PIo X t tg iter S i (L.map emb) S1) (hx : S1.env[i]? = some (some (.lst (L.map emb)))) (ok : blkC X.N X.env.scope scope own = true) (htg : InBlk X scope fun Y => TgW Y tg t (own.map (·.2)))
    (h : ∀ a, a ∈ L → ∃ S2, t.bind ⟨wipeE S1.env (own.map (·.2)), S1.w⟩ (emb a) = some S2 ∧ InBlk X scope fun Y => PV Y elt S2 (.dat (f a)) S2) (hl : L.length ≤ 1000000) (hn : noOwn S1.env (own.map (·.2)) = true := by rfl) (hts : ∀ i ∈ t.slots, i ∈ own.map (·.2) := by decide)
    (hs : ∀ x, foldedSetIterable iter X.env x = pure x := by intro _; rfl) : PV X (.ListComp elt [⟨tg, iter, [], 0⟩] scope pos) S (.new (.lst (L.map f))) S1 :=
  pv_lcO own t _ hcm hN hi hx (blkOk_by ok) (turnsL (f := f) htg h) hn hts (by rw [List.length_map]; exact hl) ⟨rfl, rfl⟩ endL hs
theorem pv_fltL {L : List α} {emb f : α → D} {scope : Scope} (q : α → Bool) (own : List (Str × Nat)) (t : Tg) (hcm : X.calm = true) (hN : X.N.Nodup) (hi : PId X t tg iter S (L.map emb) S1) (ok : blkC X.N X.env.scope scope own = true) (htg : InBlk X scope fun Y => TgW Y tg t (own.map (·.2)))
    (h : ∀ a, a ∈ L → ∃ S2, t.bind ⟨wipeE S1.env (own.map (·.2)), S1.w⟩ (emb a) = some S2 ∧ (InBlk X scope fun Y => PTsd Y ifs S2 (q a) S2) ∧ (q a = true → InBlk X scope fun Y => PV Y elt S2 (.dat (f a)) S2)) (hl : L.length ≤ 1000000) (hn : noOwn S1.env (own.map (·.2)) = true := by rfl) (hts : ∀ i ∈ t.slots, i ∈ own.map (·.2) := by decide)
    (hs : ∀ x, foldedSetIterable iter X.env x = pure x := by intro _; rfl) : PV X (.ListComp elt [⟨tg, iter, ifs, 0⟩] scope pos) S (.new (.lst ((L.filter q).map f))) S1 :=
  pv_lc own t _ hcm hN hi (blkOk_by ok) (turnsF (f := f) htg h) hn hts (by rw [List.length_map]; exact hl) ⟨rfl, rfl⟩ endF hs
/-- name = [elt for tg in iter] -/
theorem sL (i : Nat) {y : Str} {py spos : Pos} {L : List α} {emb f : α → D} {scope : Scope} (own : List (Str × Nat)) (t : Tg) (hcm : X.calm = true) (hN : X.N.Nodup) (hi : PId X t tg iter S (L.map emb) S1) (ok : blkC X.N X.env.scope scope own = true) (htg : InBlk X scope fun Y => TgW Y tg t (own.map (·.2)))
    (h : ∀ a, a ∈ L → ∃ S2, t.bind ⟨wipeE S1.env (own.map (·.2)), S1.w⟩ (emb a) = some S2 ∧ InBlk X scope fun Y => PV Y elt S2 (.dat (f a)) S2) (hl : L.length ≤ 1000000) (hR : PSd X rest (S1.put i (some (.lst (L.map f)))) P) (hn : noOwn S1.env (own.map (·.2)) = true := by rfl) (hts : ∀ i ∈ t.slots, i ∈ own.map (·.2) := by decide)
    (hy : X.N[i]? = some y := by rfl) (hyl : X.env.scope.names.lookup y = some .local := by rfl) (hsw : swapsWith (.ListComp elt [⟨tg, iter, [], 0⟩] scope pos) (some (.Name y py)) spos.line X.env = pure true := by rfl) (hs : ∀ x, foldedSetIterable iter X.env x = pure x := by intro _; rfl) :
    PSd X (.Assign [.Name y py] (.ListComp elt [⟨tg, iter, [], 0⟩] scope pos) spos :: rest) S P :=
  ds_setLc i own t _ hcm hN hy hyl hsw hi (blkOk_by ok) (turnsL (f := f) htg h) hn hts (by rw [List.length_map]; exact hl) ⟨rfl, rfl⟩ endL (by obtain ⟨env, w⟩ := S1; exact hR) hs
theorem sLO (i : Nat) {y : Str} {py spos : Pos} {L : List α} {emb f : α → D} {scope : Scope} {j : Nat} (own : List (Str × Nat)) (t : Tg) (hcm : X.calm = true) (hN : X.N.Nodup) (hi : PIo X t tg iter S j (L.map emb) S1) (hx : S1.env[j]? = some (some (.lst (L.map emb)))) (ok : blkC X.N X.env.scope scope own = true) (htg : InBlk X scope fun Y => TgW Y tg t (own.map (·.2)))
    (h : ∀ a, a ∈ L → ∃ S2, t.bind ⟨wipeE S1.env (own.map (·.2)), S1.w⟩ (emb a) = some S2 ∧ InBlk X scope fun Y => PV Y elt S2 (.dat (f a)) S2) (hl : L.length ≤ 1000000) (hR : PSd X rest (S1.put i (some (.lst (L.map f)))) P) (hn : noOwn S1.env (own.map (·.2)) = true := by rfl) (hts : ∀ i ∈ t.slots, i ∈ own.map (·.2) := by decide)
    (hy : X.N[i]? = some y := by rfl) (hyl : X.env.scope.names.lookup y = some .local := by rfl) (hsw : swapsWith (.ListComp elt [⟨tg, iter, [], 0⟩] scope pos) (some (.Name y py)) spos.line X.env = pure true := by rfl) (hs : ∀ x, foldedSetIterable iter X.env x = pure x := by intro _; rfl) :
    PSd X (.Assign [.Name y py] (.ListComp elt [⟨tg, iter, [], 0⟩] scope pos) spos :: rest) S P :=
  ds_setLcO i own t _ hcm hN hy hyl hsw hi hx (blkOk_by ok) (turnsL (f := f) htg h) hn hts (by rw [List.length_map]; exact hl) ⟨rfl, rfl⟩ endL (by obtain ⟨env, w⟩ := S1; exact hR) hs
/-- a target of a block that is one name, several names -/
theorem tb1 {scope : Scope} (i : Nat) {x : Str} {p : Pos} {vs : List Nat} (hN : X.N.Nodup) (hi : X.N[i]? = some x := by rfl) (hx : InBlk X scope fun Y => Loc Y.env.scope x := by first | exact fun _ _ _ _ _ => Or.inl rfl | exact fun _ _ _ _ _ => Or.inr rfl) (hv : i ∈ vs := by decide)
    (hf : InBlk X scope fun Y => Y.fn x = true ∨ Y.env.scope.names.lookup x = some .local := by first | exact fun _ _ _ _ _ => Or.inr rfl | exact fun _ _ _ _ _ => Or.inl rfl) : InBlk X scope fun Y => TgW Y (.Name x p) (.one i) vs := fun s H C cl fp => tw_one i hN hi (hx s H C cl fp) hv (hf s H C cl fp)
/-- two names -/
theorem tb2 {scope : Scope} (i j : Nat) {x y : Str} {p q p1 : Pos} {k1 : Nat} {vs : List Nat} (hN : X.N.Nodup) (hcm : X.calm = true) (hi : X.N[i]? = some x := by rfl) (hj : X.N[j]? = some y := by rfl)
    (hx : InBlk X scope fun Y => (Loc Y.env.scope x ∧ (Y.fn x = true ∨ Y.env.scope.names.lookup x = some .local)) ∧ Loc Y.env.scope y ∧ (Y.fn y = true ∨ Y.env.scope.names.lookup y = some .local) := by
      intro _ _ _ _ _
      refine ⟨?_, ?_⟩ <;> first | exact ⟨Or.inl rfl, Or.inr rfl⟩ | exact ⟨Or.inr rfl, Or.inl rfl⟩)
    (hv : ∀ l ∈ [i, j], l ∈ vs := by decide) : InBlk X scope fun Y => TgW Y (.Tuple [.Name x p, .Name y q] k1 p1) (.many [i, j]) vs := fun s H C cl fp =>
  have h := hx s H C cl fp
  tw_many hN hcm (tgs_one i hi h.1.1 (tgs_one j hj h.2.1 .nil h.2.2) h.1.2) hv
/-- a target of the body -/
theorem tl1 (i : Nat) {x : Str} {p : Pos} (hN : X.N.Nodup) (hi : X.N[i]? = some x := by rfl) (hx : Loc X.env.scope x := by first | exact Or.inl rfl | exact Or.inr rfl) (hf : X.fn x = true ∨ X.env.scope.names.lookup x = some .local := by first | exact .inl rfl | exact .inr rfl) : TgOk X (.Name x p) (.one i) := tg_one i hN hi hx hf
theorem tl2 (i j : Nat) {x y : Str} {p q p1 : Pos} {k1 : Nat} (hN : X.N.Nodup) (hcm : X.calm = true) (hi : X.N[i]? = some x := by rfl) (hj : X.N[j]? = some y := by rfl) (hx : Loc X.env.scope x := by first | exact Or.inl rfl | exact Or.inr rfl) (hy : Loc X.env.scope y := by first | exact Or.inl rfl | exact Or.inr rfl)
    (hf : X.fn x = true ∨ X.env.scope.names.lookup x = some .local := by first | exact .inl rfl | exact .inr rfl) (hg : X.fn y = true ∨ X.env.scope.names.lookup y = some .local := by first | exact .inl rfl | exact .inr rfl) : TgOk X (.Tuple [.Name x p, .Name y q] k1 p1) (.many [i, j]) :=
  tg_many hN hcm (tgs_one i hi hx (tgs_one j hj hy .nil hg) hf)
theorem ds_forL {L : List α} {emb : α → D} (t : Tg) (Inv : Nat → PSt → Prop) (Mid : PSt → Prop) (hp : PassesOwn (model X.prog X.w) X.A X.env X.xe) (hcm : X.calm = true) (hi : PId X t tg iter S (L.map emb) S1) (ht : TgOk X tg t) (h0 : Inv 0 S1)
    (hs : ∀ k a S, L[k]? = some a → Inv k S → ∃ S2, t.bind S (emb a) = some S2 ∧ PSd X body S2 { nx := Inv (k + 1), ct := Inv (k + 1), bk := Mid, rt := P.rt }) (hd : ∀ S, Inv L.length S → Mid S) (h : ∀ S', Mid S' → PSd X rest S' P)
    (hf : ∀ x, foldedSetIterable iter X.env x = pure x := by intro _; rfl) : PSd X (.For tg iter body [] pos :: rest) S P :=
  ds_for t Inv Mid hp hcm hi ht h0 (fun k d S hx hv => by
    rw [List.getElem?_map] at hx
    cases hL : L[k]? with
    | none => rw [hL] at hx; cases hx
    | some a =>
      rw [hL] at hx
      cases hx
      exact hs k a S hL hv) (fun S hv => hd S (by rw [List.length_map] at hv; exact hv)) h hf
end
/-! ### statements, short -/
section
variable {X : Cx} {rest : List Stmt} {e o ik : Expr} {S S1 S2 : PSt} {P : Post} {pos p' : Pos} {y : Str}
theorem sD (i : Nat) {d : D} (hN : X.N.Nodup) (he : PV X e S (.dat d) S1) (h : PSd X rest (S1.put i (some (.dat d))) P) (hi : X.N[i]? = some y := by rfl) (hx : Loc X.env.scope y := by first | exact Or.inl rfl | exact Or.inr rfl)
    (hs : swapsWith e (some (.Name y p')) pos.line X.env = pure false := by rfl) (hf : X.fn y = true ∨ X.env.scope.names.lookup y = some .local := by first | exact .inl rfl | exact .inr rfl) : PSd X (.Assign [.Name y p'] e pos :: rest) S P := ds_setD i hN hi hx he h hs hf
theorem sN (i : Nat) {s : Sl} (hN : X.N.Nodup) (he : PV X e S (.new s) S1) (h : PSd X rest (S1.put i (some s)) P) (hi : X.N[i]? = some y := by rfl) (hx : Loc X.env.scope y := by first | exact Or.inl rfl | exact Or.inr rfl)
    (hs : swapsWith e (some (.Name y p')) pos.line X.env = pure false := by rfl) (hf : X.fn y = true ∨ X.env.scope.names.lookup y = some .local := by first | exact .inl rfl | exact .inr rfl) : PSd X (.Assign [.Name y p'] e pos :: rest) S P := ds_setN i hN hi hx he h hs hf
theorem sM (i j : Nat) {s : Sl} (hij : i ≠ j) (hN : X.N.Nodup) (he : PV X e S (.own j) S1) (hj : S1.env[j]? = some (some s)) (how : s.own = true) (h : PSd X rest ((S1.put j none).put i (some s)) P) (hi : X.N[i]? = some y := by rfl) (hx : Loc X.env.scope y := by first | exact Or.inl rfl | exact Or.inr rfl)
    (hs : swapsWith e (some (.Name y p')) pos.line X.env = pure false := by rfl) (hf : X.fn y = true ∨ X.env.scope.names.lookup y = some .local := by first | exact .inl rfl | exact .inr rfl) : PSd X (.Assign [.Name y p'] e pos :: rest) S P := ds_setM i j hij hN hi hx he hj how h hs hf
theorem sX (i : Nat) {post : D → PSt → Prop} (hN : X.N.Nodup) (he : PVX X e S post) (h : ∀ d S1, post d S1 → PSd X rest (S1.put i (some (.dat d))) P) (hi : X.N[i]? = some y := by rfl) (hx : Loc X.env.scope y := by first | exact Or.inl rfl | exact Or.inr rfl)
    (hs : swapsWith e (some (.Name y p')) pos.line X.env = pure false := by rfl) (hf : X.fn y = true ∨ X.env.scope.names.lookup y = some .local := by first | exact .inl rfl | exact .inr rfl) : PSd X (.Assign [.Name y p'] e pos :: rest) S P := dsx_set i hN hi hx he h hs hf
theorem sA (i : Nat) {n m : Int} (hN : X.N.Nodup) (hv : S.env[i]? = some (some (.dat (.int n)))) (he : PV X e S (.dat (.int m)) S1) (h : PSd X rest (S1.put i (some (.dat (.int (n + m))))) P) (hi : X.N[i]? = some y := by rfl) (hx : Loc X.env.scope y := by first | exact Or.inl rfl | exact Or.inr rfl)
    (hf : X.fn y = true ∨ X.env.scope.names.lookup y = some .local := by first | exact .inl rfl | exact .inr rfl) : PSd X (.AugAssign (.Name y p') .Add e pos :: rest) S P := ds_augI i hN hi hx hv he h hf
end
section
variable {X : Cx} {rest : List Stmt} {e : Expr} {es tgs : List Expr} {S S1 : PSt} {vs : List Vl} {P : Post} {pos p p' pos2 p1 : Pos} {x y : Str} {n j k k1 : Nat} {is : List Nat} {α : Type} {arg : α → List D} {pre : α → Prop} {post : α → D → Prop}
theorem pv_callE {g : α → D} {d : D} (a : α) (F : GFa X.prog X.w X.K X.mg X.base j x n arg pre g) (hr : Room k X.A) (hj : j ≤ k) (ha : PVs X (e :: es) S vs S1) (hd : dats vs = some (arg a)) (hp : pre a) (hgd : g a = d := by rfl) (hg : Gl X x := by rfl)
    (hdb : (x == ("__debug__" : Str)) = false := by decide) (he : starEach (e :: es) X.env = (false, eval e X.env) :: starEach es X.env := by rfl) (hpl : (backTo pos (starEach es X.env)).any (·.1) = false := by rfl) : PV X (.Call (.Name x p) (e :: es) [] pos) S (.dat d) S1 := by
  rw [← hgd]
  exact pv_callA a F hr hj ha hd hp hg hdb he hpl
/-- name = f(..), .. = f(..), return f(..) by what f promises -/
theorem sC (i : Nat) (a : α) (hN : X.N.Nodup) (F : GFr X.prog X.w X.K X.mg X.base j x n arg pre post) (hr : Room k X.A) (hj : j ≤ k) (ha : PVs X (e :: es) S vs S1) (hd : dats vs = some (arg a)) (hp : pre a) (h : ∀ d, post a d → PSd X rest (S1.put i (some (.dat d))) P) (hi : X.N[i]? = some y := by rfl) (hx : Loc X.env.scope y := by first | exact Or.inl rfl | exact Or.inr rfl)
    (hg : Gl X x := by rfl) (hdb : (x == ("__debug__" : Str)) = false := by decide) (he : starEach (e :: es) X.env = (false, eval e X.env) :: starEach es X.env := by rfl) (hpl : (backTo pos2 (starEach es X.env)).any (·.1) = false := by rfl)
    (hs : swapsWith (.Call (.Name x p) (e :: es) [] pos2) (some (.Name y p')) pos.line X.env = pure false := by rfl) (hf : X.fn y = true ∨ X.env.scope.names.lookup y = some .local := by first | exact .inl rfl | exact .inr rfl) : PSd X (.Assign [.Name y p'] (.Call (.Name x p) (e :: es) [] pos2) pos :: rest) S P :=
  dsx_set i (post := fun d S2 => post a d ∧ S2 = S1) hN hi hx (pvx_call F hr hj (pax_of ha hd ⟨a, rfl, hp, fun d q => ⟨q, rfl⟩⟩) hg hdb he hpl) (fun d S2 ⟨q, e2⟩ => by rw [e2]; exact h d q) hs hf
theorem rC (a : α) (F : GFr X.prog X.w X.K X.mg X.base j x n arg pre post) (hr : Room k X.A) (hj : j ≤ k) (ha : PVs X (e :: es) S vs S1) (hd : dats vs = some (arg a)) (hp : pre a) (h : ∀ d, post a d → P.rt d S1.w)
    (hg : Gl X x := by rfl) (hdb : (x == ("__debug__" : Str)) = false := by decide) (he : starEach (e :: es) X.env = (false, eval e X.env) :: starEach es X.env := by rfl) (hpl : (backTo pos2 (starEach es X.env)).any (·.1) = false := by rfl) : PSd X (.Return (some (.Call (.Name x p) (e :: es) [] pos2)) pos :: rest) S P :=
  dsx_ret (post := fun d S2 => post a d ∧ S2 = S1) (pvx_call F hr hj (pax_of ha hd ⟨a, rfl, hp, fun d q => ⟨q, rfl⟩⟩) hg hdb he hpl) fun d S2 ⟨q, e2⟩ => by rw [e2]; exact h d q
theorem uC (a : α) (hN : X.N.Nodup) (hcm : X.calm = true) (ht : Tgs X tgs is) (F : GFr X.prog X.w X.K X.mg X.base j x n arg pre post) (hr : Room k X.A) (hj : j ≤ k) (ha : PVs X (e :: es) S vs S1) (hd : dats vs = some (arg a)) (hp : pre a) (h : ∀ d, post a d → ∃ ds, d = .tup ds ∧ is.length = ds.length ∧ PSd X rest (S1.puts is ds) P)
    (hg : Gl X x := by rfl) (hdb : (x == ("__debug__" : Str)) = false := by decide) (he : starEach (e :: es) X.env = (false, eval e X.env) :: starEach es X.env := by rfl) (hpl : (backTo pos2 (starEach es X.env)).any (·.1) = false := by rfl)
    (hn : (assignEach tgs X.env).length = is.length := by rfl) (hst : (assignEach tgs X.env).findIdx? (·.1) = none := by rfl) (hs : swapsWithSole [.Tuple tgs k1 p1] (.Call (.Name x p) (e :: es) [] pos2) pos.line X.env = pure false := by rfl) (hw : swappedStores [.Tuple tgs k1 p1] (.Call (.Name x p) (e :: es) [] pos2) X.env = pure none := by rfl)
    (h1 : (assignEach [.Tuple tgs k1 p1] X.env).map (·.2) = [assign (.Tuple tgs k1 p1) X.env] := by rfl) : PSd X (.Assign [.Tuple tgs k1 p1] (.Call (.Name x p) (e :: es) [] pos2) pos :: rest) S P :=
  dsx_unpack (post := fun d S2 => post a d ∧ S2 = S1) hN hcm ht (pvx_call F hr hj (pax_of ha hd ⟨a, rfl, hp, fun d q => ⟨q, rfl⟩⟩) hg hdb he hpl) (fun d S2 ⟨q, e2⟩ => by rw [e2]; exact h d q) hn hst hs hw h1
end
section
variable {X : Cx} {rest A : List Stmt} {a : Expr} {S S1 : PSt} {P : Post} {pos : Pos} {z : Bool}
/-- if whose test is known -/
theorem iNo (hc : PTd X a S z S1) (h : PSd X rest S1 P) (hz : z = false := by first | rfl | decide | simp) : PSd X (.If a A [] pos :: rest) S P := ds_when hc (fun e => by rw [hz] at e; exact nomatch e) fun _ => h
theorem iYes (hc : PTd X a S z S1) (h : PSd X A S1 { P with nx := fun S' => PSd X rest S' P }) (hz : z = true := by first | rfl | decide | simp) : PSd X (.If a A [] pos :: rest) S P := ds_when hc (fun _ => h) fun e => by rw [hz] at e; exact nomatch e
theorem PTz {e : Expr} {y : Bool} (h : PTd X e S z S1) (hz : z = y := by first | rfl | decide | simp) : PTd X e S y S1 := by rw [← hz]; exact h
theorem PVz {e : Expr} {y : Bool} (h : PV X e S (.dat (.bl z)) S1) (hz : z = y := by first | rfl | decide | simp) : PV X e S (.dat (.bl y)) S1 := by rw [← hz]; exact h
end
/-- return e, no state moved -/
theorem rD {X : Cx} {rest : List Stmt} {e : Expr} {S : PSt} {P : Post} {pos : Pos} {d : D} (he : PV X e S (.dat d) S) (h : P.rt d S.w) : PSd X (.Return (some e) pos :: rest) S P := ds_ret he h
/-- a if t else b, no state moved -/
theorem vif {X : Cx} {t a b : Expr} {S : PSt} {v : Vl} {z : Bool} {pos : Pos} (ht : PTd X t S z S) (ha : z = true → PV X a S v S) (hb : z = false → PV X b S v S) : PV X (.IfExp t a b pos) S v S := vd_if ht ha hb
/-! ### sources, short -/
section
variable {X : Cx} {a b tg : Expr} {elts : List Expr} {S S1 S2 : PSt} {pos p tpos : Pos} {kk : Nat} {α β : Type}
theorem bRangeN {t : Tg} (B : Bl X.mg) {n : Nat} (ha : PV X a S (.dat (.int (n : Int))) S1) (hn : n ≤ 1000000) (hg : Gl X "range" := by rfl) (hs : starEach [a] X.env = [(false, eval a X.env)] := by rfl) :
    PId X t tg (.Call (.Name "range" p) [a] [] pos) S ((List.range n).map fun (i : Nat) => D.int (i : Int)) S1 := by
  have h := bRange (t := t) (tg := tg) (p := p) (pos := pos) B ha ⟨by omega, by omega⟩ hg hs
  rw [Int.toNat_natCast] at h
  exact h
theorem enumF_map {emb : α → D} : ∀ (L : List α) (k : Nat), enumF k (L.map emb) = (L.zipIdx k).map fun q => .tup [.int (q.2 : Nat), emb q.1]
  | [], _ => rfl
  | x :: xs, k => by
    rw [List.map_cons, List.zipIdx_cons, List.map_cons, enumF, enumF_map xs (k + 1)]
theorem bEnum {is : List Nat} {t : Bool} {L : List α} {emb : α → D} (B : Bl X.mg) (ha : PV X a S (.dat (D.sq t (L.map emb))) S1) (hg : Gl X "enumerate" := by rfl) (hs : starEach [a] X.env = [(false, eval a X.env)] := by rfl) :
    PId X (.many is) (.Tuple elts kk tpos) (.Call (.Name "enumerate" p) [a] [] pos) S ((L.zipIdx).map fun q => .tup [.int (q.2 : Nat), emb q.1]) S1 := by
  have h := pid_enum (is := is) (elts := elts) (kk := kk) (tpos := tpos) (p := p) (pos := pos) hg B.enum ha hs
  rw [enumF_map] at h
  exact h
theorem zipF_map {e1 : α → D} {e2 : β → D} : ∀ (L : List α) (M : List β), zipF (L.map e1) (M.map e2) = (L.zip M).map fun q => .tup [e1 q.1, e2 q.2]
  | [], _ => by simp [zipF]
  | _ :: _, [] => by simp [zipF]
  | x :: xs, y :: ys => by
    simp only [List.map_cons, zipF, List.zip_cons_cons]
    rw [zipF_map xs ys]
theorem bZip {is : List Nat} {t u : Bool} {L : List α} {M : List β} {e1 : α → D} {e2 : β → D} (B : Bl X.mg) (ha : PV X a S (.dat (D.sq t (L.map e1))) S1) (hb : PV X b S1 (.dat (D.sq u (M.map e2))) S2) (hl : L.length = M.length) (hg : Gl X "zip" := by rfl) (hs : starEach [a, b] X.env = (false, eval a X.env) :: starEach [b] X.env := by rfl) (hs2 : starEach [b] X.env = (false, eval b X.env) :: starEach [] X.env := by rfl)
    (hpl : (backTo pos (starEach [b] X.env)).any (·.1) = false := by rfl) : PId X (.many is) (.Tuple elts kk tpos) (.Call (.Name "zip" p) [a, b] [] pos) S ((L.zip M).map fun q => .tup [e1 q.1, e2 q.2]) S2 := by
  have h := pid_zip (is := is) (elts := elts) (kk := kk) (tpos := tpos) (p := p) (pos := pos) hg B.zip ha hb (by rw [List.length_map, List.length_map]; exact hl) hs hs2 hpl
  rw [zipF_map] at h
  exact h
theorem bSumL (B : Bl X.mg) (hcm : X.calm = true) {L : List α} {g : α → Int} (ha : PV X a S (.new (.lst (L.map fun x => D.int (g x)))) S1) (hg : Gl X "sum" := by rfl) (hs : starEach [a] X.env = (false, eval a X.env) :: starEach [] X.env := by rfl) (hpl : (backTo pos (starEach [] X.env)).any (·.1) = false := by rfl) :
    PV X (.Call (.Name "sum" p) [a] [] pos) S (.dat (.int (L.map g).sum)) S1 := by
  refine bSum B hcm (is := L.map g) ?_ hg hs hpl
  rw [List.map_map]
  exact ha
end
end PL
/-! The pure layer, R: a dict with tuple keys as data. -/
namespace PL
open PySem PySem.Spec PyProof.Rows L2
section
variable {c : Cc} {F H : Hp}
theorem repN_vals : ∀ {ys : List (NestedKey × Addr × V)} {kvs : List (NestedKey × D)}, RepN c.K F ys kvs → RepL c.K F (ys.map (·.2.2)) (kvs.map (·.2))
  | _, _, .nil => .nil
  | _, _, .cons z r => .cons z.2.2 (repN_vals r)
theorem repN_keys : ∀ {ys : List (NestedKey × Addr × V)} {kvs : List (NestedKey × D)}, RepN c.K F ys kvs → ∃ kds, RepL c.K F (ys.map fun y => .ref y.2.1) kds ∧ D.keyables 8 kds = true ∧ ys.map (·.1) = D.keys kds ∧ kvs.map (·.1) = D.keys kds
  | _, _, .nil => ⟨[], .nil, rfl, rfl, rfl⟩
  | _, _, .cons z r => by
    obtain ⟨kds, h1, h2, h3, h4⟩ := repN_keys r
    obtain ⟨d, rd, kd, ek⟩ := z.2.1
    refine ⟨d :: kds, .cons rd h1, ?_, ?_, ?_⟩
    · show (D.keyable 8 d && D.keyables 8 kds) = true
      rw [kd, h2]; rfl
    · rw [List.map_cons, h3]
      show _ = d.key :: D.keys kds
      rw [ek]
    · rw [List.map_cons, h4]
      show _ = d.key :: D.keys kds
      rw [ek, ← z.1]
theorem repN_back : ∀ {ys : List (NestedKey × Addr × V)} {kds ds : List D}, RepL c.K F (ys.map fun y => .ref y.2.1) kds → D.keyables 8 kds = true → ys.map (·.1) = D.keys kds → RepL c.K F (ys.map (·.2.2)) ds → RepN c.K F ys ((D.keys kds).zip ds)
  | [], _, _, h1, _, _, h4 => by
    cases h1
    exact .nil
  | y :: ys, _, _, h1, h2, h3, h4 => by
    rw [List.map_cons] at h1 h3 h4
    cases h1 with
    | @cons _ d _ kds rd h1 =>
      cases h4 with
      | @cons _ e _ ds re h4 =>
        have h2' : (D.keyable 8 d && D.keyables 8 kds) = true := h2
        rw [Bool.and_eq_true] at h2'
        have h3' : y.1 :: ys.map (·.1) = d.key :: D.keys kds := h3
        injection h3' with e1 e2
        refine .cons ⟨e1, ⟨d, rd, h2'.1, e1.symm⟩, re⟩ (repN_back h1 h2'.2 e2 h4)
end
section
variable {X : Cx} {e o i : Expr} {S S1 S2 : PSt} {v : Vl} {pos : Pos}
/-- a slot's own dict with tuple keys is kept from now on -/
theorem PV.frzON {i : Nat} {kvs : List (NestedKey × D)} (h : PV X e S (.own i) S1) (he : S1.env[i]? = some (some (.dicN kvs)) := by rfl) : PV X e S (.dat (.dicN (fun ys p => DicRaw (ccOf X) p ys) (kvs.map (·.1)) (kvs.map (·.2)))) (S1.put i (some (.dat (.dicN (fun ys p => DicRaw (ccOf X) p ys) (kvs.map (·.1)) (kvs.map (·.2)))))) := peI h fun σ H Q ⟨F0, H0, F, r, k⟩ => ⟨F0, H0, F, r, fun x F' H' r' g z => by
  obtain ⟨q, _⟩ := z
  obtain ⟨y, q', p, ys, rfl, h1, h2⟩ := r'.sl i _ he
  rw [q] at q'; cases q'
  have z := r'.own i _ p he rfl q
  have e2 : Ex F' (upd F' p (DicO (ccOf X) p ys)) := ex_new z.1
  have h3 := h2.mono e2
  obtain ⟨kds, k1, k2, k3, k4⟩ := repN_keys (c := ccOf X) h3
  have rp : Rep X.K (upd F' p (DicO (ccOf X) p ys)) (.ref p) (.dicN (fun ys p => DicRaw (ccOf X) p ys) (kvs.map (·.1)) (kvs.map (·.2))) := by
    rw [k4]
    exact .dicN upd_same k1 k2 k3 (repN_vals (c := ccOf X) h3)
  obtain ⟨r2, _⟩ := r'.keep he rfl q h1 rp
  exact k _ _ _ r2 (g.tr r' (gr_own he rfl q z.1)) rp⟩
/-- d[k] -/
theorem vd_getND {ks : List NestedKey} {vs : List D} {ds : List D} {d : D} (hu : X.A.units + 9 < cLine) (ha : PV X o S (.dat (.dicN (fun ys p => DicRaw (ccOf X) p ys) ks vs)) S1) (hb : PV X i S1 (.dat (.tup ds)) S2) (hkey : (D.tup ds).keyable 8 = true) (hg : aget (ks.zip vs) (D.tup ds).key = some d) (hs : NoSl i := by exact fun _ _ => rfl) :
    PV X (.Subscript o i pos) S (.dat d) S2 := by
  refine ⟨fun pins s σ H Q I h => ?_⟩
  obtain ⟨F0, H0, F, rr, q⟩ := h
  refine subD_of PySem.F.slot_dict_getitem.lookup hs (thn (ha.run pins s σ H (fun x H1 => ∃ F1, R (ccOf X) F0 H0 F1 H1 σ S1 ∧ Gr σ S S1 F H F1 H1 ∧ Rep X.K F1 x (.dicN (fun ys p => DicRaw (ccOf X) p ys) ks vs)) I ⟨F0, H0, F, rr, fun x F1 H1 r1 e1 z1 => ⟨F1, r1, e1, z1⟩⟩) fun u s1 ⟨x, H1, I1, rx, F1, r1, e1, z1⟩ =>
    thn (hb.run pins s1 σ H1 (fun y H2 => ∃ F2, R (ccOf X) F0 H0 F2 H2 σ S2 ∧ Gr σ S1 S2 F1 H1 F2 H2 ∧ Rep X.K F2 y (.tup ds)) I1 ⟨F0, H0, F1, r1, fun y F2 H2 r2 e2 z2 => ⟨F2, r2, e2, z2⟩⟩) fun iv s2 ⟨y, H2, I2, ry, F2, r2, e2, z2⟩ => ?_)
  have z1' := Rep.mono e2.eF z1
  generalize hks : ks = ks' at z1' hg
  cases z1' with
  | @dicN p f ys kds ds' hp k1 k2 k3 k4 =>
    have rn := repN_back (c := ccOf X) k1 k2 k3 k4
    cases rx
    obtain ⟨b, rfl⟩ := keyN_of z2
    cases ry
    obtain ⟨z, hd, xs, pr, dd⟩ := dicN_of I2 r2.fh (r2.fh _ _ hp) rn
    refine ⟨dd.typeIs, ?_⟩
    rcases rn.val pr (D.tup ds).key with ⟨_, n⟩ | ⟨a', u, w, d', h1, h2, h3, h4⟩
    · rw [hg] at n; cases n
    · rw [hg] at h2; cases h2
      exact wpAny_getItem_heap (knd := nestedKind X.prog X.w) (by show X.A.units + 1 + 8 < cLine; omega) (key_is I2 r2.fh z2 hkey) dd h1 ⟨w, H2, I2.tok _, h3, q w F2 H2 r2 (e1.tr r1 e2) h4⟩
end
end PL
/-! The pure layer, S: the law's script and its state. -/
namespace PL
open PySem PySem.Spec PyProof.Rows L2
section
variable {X : Cx} {e a b o : Expr} {S S1 S2 : PSt} {pos p : Pos} {is : List Int}
theorem rep_scr {K : PySem.W.Frag} {F : Hp} {x : V} (h : Rep K F x (.scr is)) : ∃ l, x = .ref l ∧ SqL K F l (is.map V.int) := by
  cases h with
  | scr h => exact ⟨_, rfl, h⟩
/-- list(the script) -/
theorem pv_listS (B : Bl X.mg) (ha : PV X a S (.dat (.scr is)) S1) (hg : Gl X "list" := by rfl) (hs : starEach [a] X.env = (false, eval a X.env) :: starEach [] X.env := by rfl) (hpl : (backTo pos (starEach [] X.env)).any (·.1) = false := by rfl) :
    PV X (.Call (.Name "list" p) [a] [] pos) S (.new (.lst (is.map D.int))) S1 :=
  pv_cb (pe_callTy call_list_of hg B.list rfl (pvs_one ha hs) (by decide) (by decide) hs hpl) fun F0 H0 F H σ Hs xs Q r z' k => by
    obtain ⟨y, rfl, z⟩ := arg1 z'
    obtain ⟨q, rfl, h1⟩ := rep_scr z
    refine ⟨q, is.map V.int, rfl, .inl (Evl.ex_l r.fh h1), fun l hl => ?_⟩
    exact k _ F _ (r.tmp hl) (gr_tmp hl) ⟨rfl, ⟨l, _, rfl, upd_same, RepL.of_ints is⟩, loose_new (o := .lst (is.map V.int)) r hl, fun q eq => by cases eq; exact hl⟩
theorem dp_ints {K : PySem.W.Frag} {H : Hp} : ∀ is : List Int, DpAll K H (is.map V.int) (is.map PyData.int)
  | [] => .nil
  | i :: is => .cons (.int i) (dp_ints is)
theorem eqv_nil (is : List Int) : PyData.eqv (.list (is.map PyData.int)) (.list []) = decide (is = []) := by
  cases is with
  | nil => rfl
  | cons i is => rfl
/-- the script != [] -/
theorem cd_neS0 (hu : X.A.units + 64 < cLine) (ha : PV X a S (.dat (.scr is)) S1) (hb : PV X b S1 (.new (.lst [])) S2) : PCd X .NotEq a b S (!decide (is = [])) S2 :=
  pcI (pc_op (op_neD hu) ha hb) fun σ H Q ⟨F0, H0, F, rr, k⟩ => ⟨F0, H0, F, rr, fun x F1 H1 r1 e1 z1 => ⟨F0, H0, F1, r1, fun y F2 H2 r2 e2 z2 => by
    obtain ⟨l, rfl, hl⟩ := rep_scr (Rep.mono e2.eF z1)
    obtain ⟨_, ⟨l2, vs, rfl, h1, h2⟩, _⟩ := z2
    cases h2
    refine ⟨.list (is.map PyData.int), .list [], .lst (Evl.ex_l r2.fh hl) (dp_ints is), .lst (SqL.of h1) .nil, PySem.W.shaped_ints is, rfl, ?_⟩
    rw [eqv_nil]
    exact k _ F2 H2 r2 (e1.tr r1 e2) (.bl _)⟩⟩
end
/-- the law's state comes up -/
theorem R.state {c : Cc} {F0 H0 F H : Hp} {ws : WS} (r : R c F0 H0 F H [] ⟨[], none⟩) (k : WOk F H ws) : R c F0 H0 F H [] ⟨[], some ws⟩ :=
  ⟨rfl, r.fh, r.ff, fun a o _ h => r.hh a o (fun ⟨w, e, _⟩ => nomatch e) h, r.nw, fun i s e => by simp at e, fun i s p e => by simp at e, fun i j s t p e => by simp at e, fun w e => by cases e; exact k⟩
theorem pps_read {c : Cc} {S S1 : PSt} {v : Vl} (S0 : PSt) : True := trivial
section
variable {X : Cx} {eb : Expr} {S S1 S2 : PSt} {pos q1 q2 q3 q4 q5 : Pos} {j1 j2 j3 j4 : Nat} {nm : Str}
/-- {'cells': a list of one's own, 'lefts': a new list, 'at': 0}: the state -/
theorem pe_state {i : Nat} {ds es : List Int} (ha : PV X (.Name nm q1) S (.own i) S) (hi : S.env[i]? = some (some (.lst (ds.map D.int)))) (hb : PV X eb S (.new (.lst (es.map D.int))) S) :
    PE X (.Dict [some (.Constant (.str "cells") j1 q2), some (.Constant (.str "lefts") j2 q3), some (.Constant (.str "at") j3 q4)] [.Name nm q1, eb, .Constant (.int 0) j4 q5] pos)
      (fun σ H Q => ∃ F0 H0 F, R (ccOf X) F0 H0 F H σ S ∧ S.w = none ∧ ∀ ws F' H', R (ccOf X) F0 H0 F' H' [] ⟨[], some ws⟩ → Ex F F' → ws.cells = ds → ws.lefts = es → ws.at_ = 0 → Q (.ref ws.sa) H') :=
  peI (pe_disp (pps_cons pe_str ha (pps_cons pe_str hb (pps_cons pe_str pe_int pps_nil))) rfl rfl (by simp) (by simp)) fun σ H Q ⟨F0, H0, F, rr, hw, q⟩ => fun l hl => by
    have r0 := rr.tmp (o := .dK []) hl
    have g0 : Gr σ S S F H F _ := gr_tmp (S := S) (F := F) (σ := σ) (o := .dK []) hl
    have lo := loose_new (o := .dK []) rr hl
    have v0 : VlOk (ccOf X) H0 H F (upd H l (.dK [])) σ S (.ref l) (.new (.dicI [])) := ⟨rfl, ⟨l, [], rfl, upd_same, .nil⟩, lo, fun q eq => by cases eq; exact hl⟩
    refine ⟨F0, H0, F, r0, fun x F1 H1 r1 g1 z1 => ⟨F0, H0, F1, r1, fun y F2 H2 r2 g2 z2 => ?_⟩⟩
    have v1 := v0.later (F0 := F0) (v := .new (.dicI [])) True.intro g1
    have v2 := v1.later (F0 := F0) (v := .new (.dicI [])) True.intro g2
    obtain ⟨_, ⟨_, us, e1, h1, h2⟩, ⟨_, e2, a1, a2, a3, a4⟩, _⟩ := v2
    cases e1
    cases e2
    cases h2
    obtain ⟨sx, _⟩ := z1
    obtain ⟨x', sx', pc, vs, rfl, hc, rc⟩ := r2.sl i _ hi
    rw [sx] at sx'
    cases sx'
    have ec := rc.ints
    subst ec
    obtain ⟨c1, c2, c3⟩ := r2.own i _ pc hi rfl sx
    obtain ⟨_, ⟨pl, vs2, rfl, hlf, rl⟩, ⟨_, e3, b1, b2, b3, b4⟩, _⟩ := z2
    cases e3
    have el := rl.ints
    subst el
    refine ⟨h1, [(Sum.inr ("cells" : Str), .ref pc), (Sum.inr ("lefts" : Str), .ref pl), (Sum.inr ("at" : Str), .int 0)], rfl, by show 3 ≤ 15; decide, ?_⟩
    have em : mergeK [] [((Sum.inr ("cells" : Str) : Key), V.ref pc), (Sum.inr ("lefts" : Str), V.ref pl), (Sum.inr ("at" : Str), V.int 0)] = [(Sum.inr ("cells" : Str), .ref pc), (Sum.inr ("lefts" : Str), .ref pl), (Sum.inr ("at" : Str), .int 0)] := by
      unfold mergeK
      simp only [List.foldl, putK]
      rfl
    rw [em]
    have hpc : pc ≠ l := fun e => by rw [e, h1] at hc; cases hc
    have hplne : pl ≠ l := fun e => by rw [e, h1] at hlf; cases hlf
    have r3 := r2.loose (o := .dK [(Sum.inr ("cells" : Str), .ref pc), (Sum.inr ("lefts" : Str), .ref pl), (Sum.inr ("at" : Str), .int 0)]) (.inr ⟨a1, a2, a3, a4⟩)
    have r4 := r3.bare
    rw [hw] at r4
    refine q ⟨l, pc, pl, ds, es, 0⟩ F2 _ (r4.state ⟨upd_same, by rw [upd_ne hpc]; exact hc, by rw [upd_ne hplne]; exact hlf, fun e => ?_, a1, c1, b1⟩) (ex_tr g0.eF (ex_tr g1.eF g2.eF)) rfl rfl rfl
    have e' : pl = pc := e.symm
    rw [e'] at b4
    exact b4 i _ hi rfl sx
end

/-! ### the state read, changed -/
section
variable {X : Cx} {o ix e : Expr} {rest : List Stmt} {P : Post} {S S1 S2 : PSt} {pos p q1 q2 tpos : Pos} {j1 : Nat} {ws : WS}
/-- state['at'] -/
theorem st_at (hu : X.A.units + 1 < cLine) (ho : PV X o S .st S) (hw : S.w = some ws) (hs : NoSl (.Constant (.str "at") j1 q1) := by exact fun _ _ => rfl) : PV X (.Subscript o (.Constant (.str "at") j1 q1) pos) S (.dat (.int ws.at_)) S :=
  peI (pe_dget hu ho (pv_str (S := S)) hs) fun σ H Q ⟨F0, H0, F, rr, q⟩ => ⟨F0, H0, F, rr, fun x F1 H1 r1 e1 z1 => ⟨F0, H0, F1, r1, fun y F2 H2 r2 e2 z2 => by
    obtain ⟨ws', e3, rfl⟩ := z1
    rw [hw] at e3
    cases e3
    have k := r2.ws ws hw
    rw [rep_str z2]
    exact ⟨ws.sa, .int ws.at_, rfl, .inl ⟨_, Sum.inr "at", .inl k.s, rfl, rfl⟩, q _ F2 H2 r2 (e1.tr r1 e2) (.int _)⟩⟩⟩
def tStC (c : Cc) (S : PSt) (ws : WS) : TE := fun σ H Q => ∃ F0 H0 F, R c F0 H0 F H σ S ∧ ∀ F' H', R c F0 H0 F' H' σ S → Gr σ S S F H F' H' → Q (.ref ws.ca) H'
def tStL (c : Cc) (S : PSt) (ws : WS) : TE := fun σ H Q => ∃ F0 H0 F, R c F0 H0 F H σ S ∧ ∀ F' H', R c F0 H0 F' H' σ S → Gr σ S S F H F' H' → Q (.ref ws.la) H'
theorem st_cells (hu : X.A.units + 1 < cLine) (ho : PV X o S .st S) (hw : S.w = some ws) (hs : NoSl (.Constant (.str "cells") j1 q1) := by exact fun _ _ => rfl) : PE X (.Subscript o (.Constant (.str "cells") j1 q1) pos) (tStC (ccOf X) S ws) :=
  peI (pe_dget hu ho (pv_str (S := S)) hs) fun σ H Q ⟨F0, H0, F, rr, q⟩ => ⟨F0, H0, F, rr, fun x F1 H1 r1 e1 z1 => ⟨F0, H0, F1, r1, fun y F2 H2 r2 e2 z2 => by
    obtain ⟨ws', e3, rfl⟩ := z1
    rw [hw] at e3
    cases e3
    have k := r2.ws ws hw
    rw [rep_str z2]
    exact ⟨ws.sa, .ref ws.ca, rfl, .inl ⟨_, Sum.inr "cells", .inl k.s, rfl, rfl⟩, q F2 H2 r2 (e1.tr r1 e2)⟩⟩⟩
theorem st_lefts (hu : X.A.units + 1 < cLine) (ho : PV X o S .st S) (hw : S.w = some ws) (hs : NoSl (.Constant (.str "lefts") j1 q1) := by exact fun _ _ => rfl) : PE X (.Subscript o (.Constant (.str "lefts") j1 q1) pos) (tStL (ccOf X) S ws) :=
  peI (pe_dget hu ho (pv_str (S := S)) hs) fun σ H Q ⟨F0, H0, F, rr, q⟩ => ⟨F0, H0, F, rr, fun x F1 H1 r1 e1 z1 => ⟨F0, H0, F1, r1, fun y F2 H2 r2 e2 z2 => by
    obtain ⟨ws', e3, rfl⟩ := z1
    rw [hw] at e3
    cases e3
    have k := r2.ws ws hw
    rw [rep_str z2]
    exact ⟨ws.sa, .ref ws.la, rfl, .inl ⟨_, Sum.inr "lefts", .inl k.s, rfl, rfl⟩, q F2 H2 r2 (e1.tr r1 e2)⟩⟩⟩
/-- len(state['cells']) -/
theorem st_len (B : Bl X.mg) (hw : S.w = some ws) (ha : PE X e (tStC (ccOf X) S ws)) (hg : Gl X "len" := by rfl) (hs : starEach [e] X.env = (false, eval e X.env) :: starEach [] X.env := by rfl) (hpl : (backTo pos (starEach [] X.env)).any (·.1) = false := by rfl) : PV X (.Call (.Name "len" p) [e] [] pos) S (.dat (.int ws.cells.length)) S :=
  peI (pe_callB call_len_seq hg B.len rfl (pa_cons ha pa_nil hs) (by decide) (by decide) hs hpl) fun σ H Q ⟨F0, H0, F, rr, q⟩ => ⟨F0, H0, F, rr, fun F1 H1 r1 g1 => by
    have k := r1.ws ws hw
    refine ⟨ws.ca, _, rfl, .inl (SqL.of k.c), ?_⟩
    rw [List.length_map]
    exact q _ F1 H1 r1 g1 (.int _)⟩
/-- state['cells'][i], state['lefts'][i] -/
theorem st_cell {n : Int} {x : Int} (hw : S.w = some ws) (ha : PE X e (tStC (ccOf X) S ws)) (hb : PV X ix S (.dat (.int n)) S) (hx : atI ws.cells n = some x) (hs : PlainIx ix := by exact fun _ _ => rfl) : PV X (.Subscript e ix pos) S (.dat (.int x)) S :=
  peI (pe_ix ix_list ha hb hs) fun σ H Q ⟨F0, H0, F, rr, q⟩ => ⟨F0, H0, F, rr, fun F1 H1 r1 g1 => ⟨F0, H0, F1, r1, fun y F2 H2 r2 g2 z2 => by
    have k := r2.ws ws hw
    refine ⟨ws.ca, _, n, .int x, rfl, rep_int z2, SqL.of k.c, ?_, q _ F2 H2 r2 (g1.tr r1 g2) (.int _)⟩
    unfold atI at hx ⊢
    rw [List.length_map]
    cases e : ixN ws.cells.length n with
    | none => rw [e] at hx; cases hx
    | some j =>
      rw [e] at hx
      have hx' : ws.cells[j]? = some x := hx
      show (ws.cells.map V.int)[j]? = some (.int x)
      rw [List.getElem?_map, hx']
      rfl⟩⟩
theorem st_left {n : Int} {x : Int} (hw : S.w = some ws) (ha : PE X e (tStL (ccOf X) S ws)) (hb : PV X ix S (.dat (.int n)) S) (hx : atI ws.lefts n = some x) (hs : PlainIx ix := by exact fun _ _ => rfl) : PV X (.Subscript e ix pos) S (.dat (.int x)) S :=
  peI (pe_ix ix_list ha hb hs) fun σ H Q ⟨F0, H0, F, rr, q⟩ => ⟨F0, H0, F, rr, fun F1 H1 r1 g1 => ⟨F0, H0, F1, r1, fun y F2 H2 r2 g2 z2 => by
    have k := r2.ws ws hw
    refine ⟨ws.la, _, n, .int x, rfl, rep_int z2, SqL.of k.l, ?_, q _ F2 H2 r2 (g1.tr r1 g2) (.int _)⟩
    unfold atI at hx ⊢
    rw [List.length_map]
    cases e : ixN ws.lefts.length n with
    | none => rw [e] at hx; cases hx
    | some j =>
      rw [e] at hx
      have hx' : ws.lefts[j]? = some x := hx
      show (ws.lefts.map V.int)[j]? = some (.int x)
      rw [List.getElem?_map, hx']
      rfl⟩⟩
/-- an object of the state is changed -/
theorem R.stMut {c : Cc} {F0 H0 F H : Hp} {σ : L2.St} {env : List (Option Sl)} {ws : WS} {a : Addr} {u : HO} {q : Ws} (r : R c F0 H0 F H σ ⟨env, some ws⟩) (ha : a = ws.sa ∨ a = ws.ca ∨ a = ws.la) (k : WOk F (upd H a u) (ws.up q)) : R c F0 H0 F (upd H a u) σ ⟨env, some (ws.up q)⟩ := by
  have iw : InW (some ws) a := ⟨ws, rfl, ha⟩
  have hF := r.inW_F iw
  have ne : ∀ b v, F b = some v → b ≠ a := fun b v e z => by rw [z, hF] at e; cases e
  refine ⟨r.len, fun b v e => by rw [upd_ne (ne b v e)]; exact r.fh b v e, r.ff, fun b v n e => ?_, r.nw, fun i s e => ?_, fun i s p e o z => ?_, r.dis, fun w e => by cases e; exact k⟩
  · have n' : ¬ InW (some ws) b := fun ⟨w, e1, h⟩ => n ⟨_, rfl, by cases e1; exact h⟩
    rw [upd_ne (fun z : b = a => n' (by rw [z]; exact iw))]
    exact r.hh b v n' e
  · obtain ⟨x, z, sl⟩ := r.sl i s e
    refine ⟨x, z, ?_⟩
    have nb : ∀ p, s.own = true → x = .ref p → p ≠ a := fun p o ex e2 => by
      subst ex
      exact (r.own i s p e o z).2.2 (e2 ▸ iw)
    cases s with
    | dat d => exact sl
    | st =>
      obtain ⟨w', e1, e2⟩ := sl
      cases e1
      exact ⟨_, rfl, e2⟩
    | lst ds => obtain ⟨p, ys, rfl, h1, h2⟩ := sl; exact ⟨p, ys, rfl, by rw [upd_ne (nb p rfl rfl)]; exact h1, h2⟩
    | dicI ds => obtain ⟨p, ys, rfl, h1, h2⟩ := sl; exact ⟨p, ys, rfl, by rw [upd_ne (nb p rfl rfl)]; exact h1, h2⟩
    | dicN ds => obtain ⟨p, ys, rfl, h1, h2⟩ := sl; exact ⟨p, ys, rfl, by rw [upd_ne (nb p rfl rfl)]; exact h1, h2⟩
  · obtain ⟨a1, a2, a3⟩ := r.own i s p e o z
    exact ⟨a1, a2, fun ⟨w, e1, h⟩ => a3 ⟨ws, rfl, by cases e1; exact h⟩⟩
/-- state['at'] = e -/
theorem ds_stAt {n : Int} {env : List (Option Sl)} (hu : X.A.units + 1 < cLine) (he : PV X e ⟨env, some ws⟩ (.dat (.int n)) ⟨env, some ws⟩) (ho : PV X o ⟨env, some ws⟩ .st ⟨env, some ws⟩) (h : PSd X rest ⟨env, some (ws.up ⟨ws.cells, ws.lefts, n⟩)⟩ P)
    (hs : swapsWith e (some (.Subscript o (.Constant (.str "at") j1 q1) tpos)) pos.line X.env = pure false := by rfl) : PSd X (.Assign [.Subscript o (.Constant (.str "at") j1 q1) tpos] e pos :: rest) ⟨env, some ws⟩ P :=
  psd_step (ps_dput hu ho (pv_str (S := ⟨env, some ws⟩)) he hs) h fun E σ H ⟨F0, H0, F, r, k⟩ => ⟨F0, H0, F, r, fun x F1 H1 r1 g1 z1 => ⟨F0, H0, F1, r1, fun y F2 H2 r2 g2 z2 => ⟨F0, H0, F2, r2, fun w F3 H3 r3 g3 z3 => by
    obtain ⟨ws', e3, rfl⟩ := z2
    cases e3
    have kk := r3.ws ws rfl
    rw [rep_str z3]
    have ex : x = .int n := rep_int z1
    subst ex
    refine ⟨ws.sa, _, rfl, DPut.k (k := Sum.inr "at") kk.s (by rw [sizeLine_eq]; simp), ?_⟩
    have ep : putK [((Sum.inr ("cells" : Str) : Key), V.ref ws.ca), (Sum.inr ("lefts" : Str), V.ref ws.la), (Sum.inr ("at" : Str), V.int ws.at_)] (Sum.inr "at") (V.int n) = [(Sum.inr ("cells" : Str), .ref ws.ca), (Sum.inr ("lefts" : Str), .ref ws.la), (Sum.inr ("at" : Str), .int n)] := by
      simp only [putK]
      rfl
    rw [ep]
    have hca : ws.ca ≠ ws.sa := fun e => by have := kk.c; rw [e, kk.s] at this; cases this
    have hla : ws.la ≠ ws.sa := fun e => by have := kk.l; rw [e, kk.s] at this; cases this
    exact k σ F3 _ (r3.stMut (.inl rfl) ⟨upd_same, by show upd H3 ws.sa _ ws.ca = _; rw [upd_ne hca]; exact kk.c, by show upd H3 ws.sa _ ws.la = _; rw [upd_ne hla]; exact kk.l, kk.ne, kk.fs, kk.fc, kk.fl⟩) (ex_tr g1.eF (ex_tr g2.eF g3.eF))⟩⟩⟩
/-- state['lefts'][i] = e -/
theorem ds_stLeft {n x : Int} {j : Nat} {env : List (Option Sl)} {oe : Expr} (he : PV X e ⟨env, some ws⟩ (.dat (.int x)) ⟨env, some ws⟩) (ho : PE X oe (tStL (ccOf X) ⟨env, some ws⟩ ws)) (hi : PV X ix ⟨env, some ws⟩ (.dat (.int n)) ⟨env, some ws⟩) (hn : ixN ws.lefts.length n = some j) (h : PSd X rest ⟨env, some (ws.up ⟨ws.cells, ws.lefts.set j x, ws.at_⟩)⟩ P)
    (hs : swapsWith e (some (.Subscript oe ix tpos)) pos.line X.env = pure false := by rfl) : PSd X (.Assign [.Subscript oe ix tpos] e pos :: rest) ⟨env, some ws⟩ P := by
  refine psd_step (t := fun E σ H => ∃ F0 H0 F, R (ccOf X) F0 H0 F H σ ⟨env, some ws⟩ ∧ ∀ σ' F' H', R (ccOf X) F0 H0 F' H' σ' ⟨env, some (ws.up ⟨ws.cells, ws.lefts.set j x, ws.at_⟩)⟩ → Ex F F' → E.nx σ' H') ⟨fun pins s σ H E I ⟨F0, H0, F, r, k⟩ => ?_⟩ h fun E σ H q => q
  refine wpAny_Assign_Subscript (thn (he.run pins s σ H (fun y H1 => ∃ F1, R (ccOf X) F0 H0 F1 H1 σ ⟨env, some ws⟩ ∧ Gr σ ⟨env, some ws⟩ ⟨env, some ws⟩ F H F1 H1 ∧ y = .int x) I ⟨F0, H0, F, r, fun y F1 H1 r1 g z => ⟨F1, r1, g, rep_int z⟩⟩) fun rv s1 ⟨y, H1, I1, rx, F1, r1, g1, ey⟩ =>
    thn (ho.run pins s1 σ H1 (fun y H2 => ∃ F2, R (ccOf X) F0 H0 F2 H2 σ ⟨env, some ws⟩ ∧ Gr σ ⟨env, some ws⟩ ⟨env, some ws⟩ F1 H1 F2 H2 ∧ y = .ref ws.la) I1 ⟨F0, H0, F1, r1, fun F2 H2 r2 g => ⟨F2, r2, g, rfl⟩⟩) fun u s2 ⟨y2, H2, I2, ry, F2, r2, g2, ey2⟩ =>
    thn (hi.run pins s2 σ H2 (fun w H3 => ∃ F3, R (ccOf X) F0 H0 F3 H3 σ ⟨env, some ws⟩ ∧ Gr σ ⟨env, some ws⟩ ⟨env, some ws⟩ F2 H2 F3 H3 ∧ w = .int n) I2 ⟨F0, H0, F2, r2, fun w F3 H3 r3 g z => ⟨F3, r3, g, rep_int z⟩⟩) fun iv s3 ⟨w, H3, I3, rw', F3, r3, g3, ew⟩ => ?_) hs
  subst ey ey2 ew
  have kk := r3.ws ws rfl
  refine thn (set_list pins s3 σ H3 _ _ _ u iv rv (fun H4 => H4 = upd H3 ws.la (.lst ((ws.lefts.map V.int).set j (.int x)))) I3 ry rw' rx ⟨ws.la, _, n, j, rfl, rfl, kk.l, by rw [List.length_map]; exact hn, rfl⟩) fun _ s4 ⟨H4, I4, eH⟩ => ?_
  subst eH
  have hsl : ws.sa ≠ ws.la := fun e => by have := kk.l; rw [← e, kk.s] at this; cases this
  refine ⟨σ, _, I4, k σ F3 _ (r3.stMut (.inr (.inr rfl)) ⟨by show upd H3 ws.la _ ws.sa = _; rw [upd_ne hsl]; exact kk.s, by show upd H3 ws.la _ ws.ca = _; rw [upd_ne kk.ne]; exact kk.c, ?_, kk.ne, kk.fs, kk.fc, kk.fl⟩) (ex_tr g1.eF (ex_tr g2.eF g3.eF))⟩
  show upd H3 ws.la _ ws.la = some (.lst ((ws.lefts.set j x).map V.int))
  rw [upd_same, List.map_set]
end
end PL
namespace H75
open PySem PySem.Spec PyProof.Rows L2
def top (i : Nat) : Stmt := PySem.Challenge.pw_wholesay_k75_whole_machines_and_carries.main.body.getD i (.Pass ⟨0, 0, 0, 0⟩)
def sDigitsOf : Stmt := top 8
def sColumnsFor : Stmt := top 9
def sReachedOf : Stmt := top 10
def sKindsOf : Stmt := top 11
def sLeastOf : Stmt := top 12
def sSpread : Stmt := top 13
def sOpposite : Stmt := top 14
def sPairsOf : Stmt := top 15
def sEndBy : Stmt := top 16
def sPaired : Stmt := top 17
def sIsFrom : Stmt := top 27
def sNeedMany : Stmt := top 28
def sArePairs : Stmt := top 29
def sIsTerm : Stmt := top 30
def sHasForm : Stmt := top 35
def sInner : Stmt := top 36
def sPlaceOf : Stmt := top 37
def sWalked : Stmt := top 38
def sNeedFormula : Stmt := top 39
def sListed : Stmt := top 40
def sFreeIn : Stmt := top 41
def sNeedWide : Stmt := top 42
def sColumnSums : Stmt := top 46
def sNextCarry : Stmt := top 47
def sFirstCarry : Stmt := top 48
def sCarriesOf : Stmt := top 49
def sAtomMachine : Stmt := top 50
def sOver : Stmt := top 51
def sBuiltRow : Stmt := top 52
def sBuilt : Stmt := top 54
def sMachineOver : Stmt := top 55
def sMachineOf : Stmt := top 56
def sLMixed : Stmt := top 58
def sLBegin : Stmt := top 59
def sLDraw : Stmt := top 60
def sLTerm : Stmt := top 61
def sLPlain : Stmt := top 62
def sLAtoms : Stmt := top 63
def sLWidth : Stmt := top 64
def sLAtom : Stmt := top 65
def sLStart : Stmt := top 66
def sLMore : Stmt := top 67
def sLLeft : Stmt := top 68
def sLRests : Stmt := top 69
def sLTrueThere : Stmt := top 70
def sLBy : Stmt := top 71
def sLAgrees : Stmt := top 72
def sLaw : Stmt := top 73
def dDigitsOf : He.DefD := ⟨("digits_of", none), "digits_of", "digits_of", defArgs sDigitsOf, defBody sDigitsOf, defScope sDigitsOf, [], []⟩
def dColumnsFor : He.DefD := ⟨("columns_for", none), "columns_for", "columns_for", defArgs sColumnsFor, defBody sColumnsFor, defScope sColumnsFor, [], []⟩
def dReachedOf : He.DefD := ⟨("reached_of", none), "reached_of", "reached_of", defArgs sReachedOf, defBody sReachedOf, defScope sReachedOf, [], []⟩
def dKindsOf : He.DefD := ⟨("kinds_of", none), "kinds_of", "kinds_of", defArgs sKindsOf, defBody sKindsOf, defScope sKindsOf, [], []⟩
def dLeastOf : He.DefD := ⟨("least_of", none), "least_of", "least_of", defArgs sLeastOf, defBody sLeastOf, defScope sLeastOf, [], []⟩
def dSpread : He.DefD := ⟨("spread", none), "spread", "spread", defArgs sSpread, defBody sSpread, defScope sSpread, [], []⟩
def dOpposite : He.DefD := ⟨("opposite", none), "opposite", "opposite", defArgs sOpposite, defBody sOpposite, defScope sOpposite, [], []⟩
def dPairsOf : He.DefD := ⟨("pairs_of", none), "pairs_of", "pairs_of", defArgs sPairsOf, defBody sPairsOf, defScope sPairsOf, [], []⟩
def dEndBy : He.DefD := ⟨("end_by", none), "end_by", "end_by", defArgs sEndBy, defBody sEndBy, defScope sEndBy, [], []⟩
def dPaired : He.DefD := ⟨("paired", none), "paired", "paired", defArgs sPaired, defBody sPaired, defScope sPaired, [], []⟩
def dIsFrom : He.DefD := ⟨("is_from", none), "is_from", "is_from", defArgs sIsFrom, defBody sIsFrom, defScope sIsFrom, [], []⟩
def dNeedMany : He.DefD := ⟨("need_many", none), "need_many", "need_many", defArgs sNeedMany, defBody sNeedMany, defScope sNeedMany, [], []⟩
def dArePairs : He.DefD := ⟨("are_pairs", none), "are_pairs", "are_pairs", defArgs sArePairs, defBody sArePairs, defScope sArePairs, [], []⟩
def dIsTerm : He.DefD := ⟨("is_term", none), "is_term", "is_term", defArgs sIsTerm, defBody sIsTerm, defScope sIsTerm, [], []⟩
def dHasForm : He.DefD := ⟨("has_form", none), "has_form", "has_form", defArgs sHasForm, defBody sHasForm, defScope sHasForm, [], []⟩
def dInner : He.DefD := ⟨("inner", none), "inner", "inner", defArgs sInner, defBody sInner, defScope sInner, [], []⟩
def dPlaceOf : He.DefD := ⟨("place_of", none), "place_of", "place_of", defArgs sPlaceOf, defBody sPlaceOf, defScope sPlaceOf, [], []⟩
def dWalked : He.DefD := ⟨("walked", none), "walked", "walked", defArgs sWalked, defBody sWalked, defScope sWalked, [], []⟩
def dNeedFormula : He.DefD := ⟨("need_formula", none), "need_formula", "need_formula", defArgs sNeedFormula, defBody sNeedFormula, defScope sNeedFormula, [], []⟩
def dListed : He.DefD := ⟨("listed", none), "listed", "listed", defArgs sListed, defBody sListed, defScope sListed, [], []⟩
def dFreeIn : He.DefD := ⟨("free_in", none), "free_in", "free_in", defArgs sFreeIn, defBody sFreeIn, defScope sFreeIn, [], []⟩
def dNeedWide : He.DefD := ⟨("need_wide", none), "need_wide", "need_wide", defArgs sNeedWide, defBody sNeedWide, defScope sNeedWide, [], []⟩
def dColumnSums : He.DefD := ⟨("column_sums", none), "column_sums", "column_sums", defArgs sColumnSums, defBody sColumnSums, defScope sColumnSums, [], []⟩
def dNextCarry : He.DefD := ⟨("next_carry", none), "next_carry", "next_carry", defArgs sNextCarry, defBody sNextCarry, defScope sNextCarry, [], []⟩
def dFirstCarry : He.DefD := ⟨("first_carry", none), "first_carry", "first_carry", defArgs sFirstCarry, defBody sFirstCarry, defScope sFirstCarry, [], []⟩
def dCarriesOf : He.DefD := ⟨("carries_of", none), "carries_of", "carries_of", defArgs sCarriesOf, defBody sCarriesOf, defScope sCarriesOf, [], []⟩
def dAtomMachine : He.DefD := ⟨("atom_machine", none), "atom_machine", "atom_machine", defArgs sAtomMachine, defBody sAtomMachine, defScope sAtomMachine, [], []⟩
def dOver : He.DefD := ⟨("over", none), "over", "over", defArgs sOver, defBody sOver, defScope sOver, [], []⟩
def dBuiltRow : He.DefD := ⟨("built_row", none), "built_row", "built_row", defArgs sBuiltRow, defBody sBuiltRow, defScope sBuiltRow, [], []⟩
def dBuilt : He.DefD := ⟨("built", none), "built", "built", defArgs sBuilt, defBody sBuilt, defScope sBuilt, [], []⟩
def dMachineOver : He.DefD := ⟨("machine_over", none), "machine_over", "machine_over", defArgs sMachineOver, defBody sMachineOver, defScope sMachineOver, [], []⟩
def dMachineOf : He.DefD := ⟨("machine_of", none), "machine_of", "machine_of", defArgs sMachineOf, defBody sMachineOf, defScope sMachineOf, [], []⟩
def dLMixed : He.DefD := ⟨("_law_mixed", none), "_law_mixed", "_law_mixed", defArgs sLMixed, defBody sLMixed, defScope sLMixed, [], []⟩
def dLBegin : He.DefD := ⟨("_law_begin", none), "_law_begin", "_law_begin", defArgs sLBegin, defBody sLBegin, defScope sLBegin, [], []⟩
def dLDraw : He.DefD := ⟨("_law_draw", none), "_law_draw", "_law_draw", defArgs sLDraw, defBody sLDraw, defScope sLDraw, [], []⟩
def dLTerm : He.DefD := ⟨("_law_term", none), "_law_term", "_law_term", defArgs sLTerm, defBody sLTerm, defScope sLTerm, [], []⟩
def dLPlain : He.DefD := ⟨("_law_plain", none), "_law_plain", "_law_plain", defArgs sLPlain, defBody sLPlain, defScope sLPlain, [], []⟩
def dLAtoms : He.DefD := ⟨("_law_atoms", none), "_law_atoms", "_law_atoms", defArgs sLAtoms, defBody sLAtoms, defScope sLAtoms, [], []⟩
def dLWidth : He.DefD := ⟨("_law_width", none), "_law_width", "_law_width", defArgs sLWidth, defBody sLWidth, defScope sLWidth, [], []⟩
def dLAtom : He.DefD := ⟨("_law_atom", none), "_law_atom", "_law_atom", defArgs sLAtom, defBody sLAtom, defScope sLAtom, [], []⟩
def dLStart : He.DefD := ⟨("_law_start", none), "_law_start", "_law_start", defArgs sLStart, defBody sLStart, defScope sLStart, [], []⟩
def dLMore : He.DefD := ⟨("_law_more", none), "_law_more", "_law_more", defArgs sLMore, defBody sLMore, defScope sLMore, [], []⟩
def dLLeft : He.DefD := ⟨("_law_left", none), "_law_left", "_law_left", defArgs sLLeft, defBody sLLeft, defScope sLLeft, [], []⟩
def dLRests : He.DefD := ⟨("_law_rests", none), "_law_rests", "_law_rests", defArgs sLRests, defBody sLRests, defScope sLRests, [], []⟩
def dLTrueThere : He.DefD := ⟨("_law_true_there", none), "_law_true_there", "_law_true_there", defArgs sLTrueThere, defBody sLTrueThere, defScope sLTrueThere, [], []⟩
def dLBy : He.DefD := ⟨("_law_by", none), "_law_by", "_law_by", defArgs sLBy, defBody sLBy, defScope sLBy, [], []⟩
def dLAgrees : He.DefD := ⟨("_law_agrees", none), "_law_agrees", "_law_agrees", defArgs sLAgrees, defBody sLAgrees, defScope sLAgrees, [], []⟩
def dLaw : He.DefD := ⟨("law", none), "law", "law", defArgs sLaw, defBody sLaw, defScope sLaw, [], []⟩
def fn : List He.DefD := [dDigitsOf, dColumnsFor, dReachedOf, dKindsOf, dLeastOf, dSpread, dOpposite, dPairsOf, dEndBy, dPaired, dIsFrom, dNeedMany, dArePairs, dIsTerm, dHasForm, dInner, dPlaceOf, dWalked, dNeedFormula, dListed, dFreeIn, dNeedWide, dColumnSums, dNextCarry, dFirstCarry, dCarriesOf, dAtomMachine, dOver, dBuiltRow, dBuilt, dMachineOver, dMachineOf, dLMixed, dLBegin, dLDraw, dLTerm, dLPlain, dLAtoms, dLWidth, dLAtom, dLStart, dLMore, dLLeft, dLRests, dLTrueThere, dLBy, dLAgrees, dLaw]
def fa : List He.Fa := [.glo "digits_of", .glo "columns_for", .glo "reached_of", .glo "kinds_of", .glo "least_of", .glo "spread", .glo "opposite", .glo "pairs_of", .glo "end_by", .glo "paired", .glo "is_from", .glo "need_many", .glo "are_pairs", .glo "is_term", .glo "has_form", .glo "inner", .glo "place_of", .glo "walked", .glo "need_formula", .glo "listed", .glo "free_in", .glo "need_wide", .glo "column_sums", .glo "next_carry", .glo "first_carry", .glo "carries_of", .glo "atom_machine", .glo "over", .glo "built_row", .glo "built", .glo "machine_over", .glo "machine_of", .glo "_law_mixed", .glo "_law_begin", .glo "_law_draw", .glo "_law_term", .glo "_law_plain", .glo "_law_atoms", .glo "_law_width", .glo "_law_atom", .glo "_law_start", .glo "_law_more", .glo "_law_left", .glo "_law_rests", .glo "_law_true_there", .glo "_law_by", .glo "_law_agrees", .glo "law", .free "len", .free "int", .free "bool", .free "str", .free "list", .free "tuple", .free "set", .free "sorted", .free "sum", .free "enumerate", .free "zip", .free "range", .free "isinstance", .int "WIDEST" 4, .int "NAMES" 10, .int "GREATEST" 1000000000, .int "MOST_PARTS" 2000, .int "MOST_DEEP" 20, .int "MOST_MODULUS" 1000000, .int "MOST_REACHED" 300, .int "MOST_NAMES" 6, .glo "POWERS"]
def ex (K : PySem.W.Frag) : Bool := (match K.lookup (He.ga K "POWERS") with
  | some ⟨.type c, none, .seq its _, _⟩ => decide (c = "tuple") && (decide (its.size ≤ sizeLine) && He.relAll ([1, 2, 4, 8, 16, 32, 64].map V.int) its.toList)
  | _ => false)
/-! ### the Hook: the facts, and what ex tells -/
abbrev Al : Type := He.AlD × Bool
def obsP (n : Nat) (g : Addr → Option Obj) : Al := (He.obsD fa fn (He.frG g (He.asD g n)), ex (He.frG g (He.asD g n)))
structure Says (K : PySem.W.Frag) : Prop where
  d : He.SaysD fa fn K
  x : ex K = true
def hookP (n : Nat) : PySem.W.Hook where
  α := Al
  obs := fun s => obsP n s.heap.get?
  val := fun _ => (He.valD fn, true)
  says := fun _ h => ∃ K : PySem.W.Frag, K.In h ∧ Says K
  of := fun _ _ e => ⟨_, He.frG_in, congrArg (fun z : Al => z.1) e, congrArg (fun z : Al => z.2) e⟩
  keeps := fun _ _ _ ⟨K, hK, c⟩ k => ⟨K, PySem.W.Frag.In.keeps hK k, c⟩
theorem obsP_eq {n : Nat} {g : Addr → Option Obj} {s : Shared} (h : ∀ a, g a = s.heap.get? a) : obsP n g = (hookP n).obs s := by
  have e : g = s.heap.get? := funext h
  rw [e] <;> rfl
abbrev R : PySem.W.OpenRow := PySem.W.OpenLaw.row PySem.Challenge.rw_wholesay_k75_whole_machines_and_carries
abbrev hk : PySem.W.Hook := hookP 2
def ob (s : PySem.W.SharedT) : Al := obsP 2 (HandSHeadRun.getT s)
theorem ob_eq (s : PySem.W.SharedT) : ob s = hk.obs s.abs := obsP_eq (HandSHeadRun.getT_eq s)
def lo0 : List Str := ["SayError", "BadWidth", "BadName", "BadFormula", "TooGreat", "POWERS", "digits_of", "columns_for", "reached_of", "kinds_of", "least_of", "spread", "opposite", "pairs_of", "end_by", "paired", "led_set", "sets_of", "open_states", "wider_column", "left_out", "WIDEST", "NAMES", "GREATEST", "is_from", "need_many", "are_pairs", "is_term", "MOST_PARTS", "MOST_DEEP"]
def lo1 : List Str := ["MOST_MODULUS", "has_form", "inner", "place_of", "walked", "need_formula", "listed", "free_in", "need_wide", "MOST_REACHED", "MOST_NAMES", "column_sums", "next_carry", "first_carry", "carries_of", "atom_machine", "over", "built_row", "built_some", "built", "machine_over", "machine_of", "_law_mixed", "_law_begin", "_law_draw", "_law_term", "_law_plain", "_law_atoms", "_law_width", "_law_atom"]
def lo2 : List Str := ["_law_start", "_law_more", "_law_left", "_law_rests", "_law_true_there", "_law_by", "_law_agrees"]
def loose : List Str := lo0 ++ lo1 ++ lo2
def lawAt : Nat := 73
theorem run (w : World) : HandSHeadRun.RunEq R (PySem.W.view R.prog [73]) hk ob 3000 loose w := by
  intro os
  kernel_rfl
end H75
namespace K75
open PySem PySem.Spec PyProof.Rows L2 PL

def powers : List Int := [1, 2, 4, 8, 16, 32, 64]
structure Cst (K : PySem.W.Frag) (mg : Str → Option Value) : Prop where
  b : Bl mg
  widest : ∃ t, mg "WIDEST" = some (.int 4 t)
  names : ∃ t, mg "NAMES" = some (.int 10 t)
  greatest : ∃ t, mg "GREATEST" = some (.int 1000000000 t)
  parts : ∃ t, mg "MOST_PARTS" = some (.int 2000 t)
  deep : ∃ t, mg "MOST_DEEP" = some (.int 20 t)
  modulus : ∃ t, mg "MOST_MODULUS" = some (.int 1000000 t)
  reached : ∃ t, mg "MOST_REACHED" = some (.int 300 t)
  mnames : ∃ t, mg "MOST_NAMES" = some (.int 6 t)
  pow : ∃ a, mg "POWERS" = some (.ref a) ∧ ∀ F, TupAt K F a (powers.map V.int)
theorem gpow {X : Cx} (C : Cst X.K X.mg) {S : PSt} {pos : Pos} (hg : Gl X "POWERS" := by rfl) : PV X (.Name "POWERS" pos) S (.dat (.tup (powers.map D.int))) S := by
  obtain ⟨a, hm, ht⟩ := C.pow
  exact pv_glob (y := .ref a) hg hm rfl (fun F => .tup (ht F) (RepL.of_ints _)) (by decide)
theorem atI_nat {α : Type} {xs : List α} {n : Nat} {x : α} (h : xs[n]? = some x) : atI xs (n : Int) = some x := by
  have hl := (List.getElem?_eq_some_iff.mp h).1
  unfold atI ixN
  rw [if_pos (by omega), if_pos (by omega)]
  show xs[(n : Int).toNat]? = some x
  rw [Int.toNat_natCast, h]
def encN (ns : List Nat) : List D := ns.map fun (n : Nat) => D.int (n : Int)
def bit (c p : Nat) : Nat := c / 2 ^ p % 2
section
variable {P : Program} {w : World} {K : PySem.W.Frag} {mg : Str → Option Value} {base : Heap}
theorem pow_at {p : Nat} (h : p < 7) : atI (powers.map D.int) (p : Int) = some (.int ((2 ^ p : Nat) : Int)) := by
  refine atI_nat ?_
  have : p = 0 ∨ p = 1 ∨ p = 2 ∨ p = 3 ∨ p = 4 ∨ p = 5 ∨ p = 6 := by omega
  rcases this with rfl | rfl | rfl | rfl | rfl | rfl | rfl <;> rfl
theorem pow_lt {p : Nat} (h : p < 7) : 0 < ((2 ^ p : Nat) : Int) ∧ ((2 ^ p : Nat) : Int) < 1073741824 := by
  have : p = 0 ∨ p = 1 ∨ p = 2 ∨ p = 3 ∨ p = 4 ∨ p = 5 ∨ p = 6 := by omega
  rcases this with rfl | rfl | rfl | rfl | rfl | rfl | rfl <;> decide
theorem ok_digits_of (C : Cst K mg) (F : DefOk K mg "digits_of" "digits_of" H75.sDigitsOf) : GFa P w K mg base 1 "digits_of" 2 (fun i : Nat × Nat => [.int (i.1 : Nat), .int (i.2 : Nat)]) (fun i => i.2 ≤ 7) (fun i => .tup (encN ((List.range i.2).map fun p => bit i.1 p))) := by
  refine gfa_of (ps := ["column", "many"]) (N := ["column", "many", "place"]) F ⟨rfl, rfl, rfl, by decide +kernel, rfl, by decide +kernel, by decide +kernel⟩ (fun _ => rfl) (fun _ _ _ _ _ _ us hl => match us, hl with | [_, _], _ => rfl) fun f cdv A outer s H E i hr hi => ?_
  obtain ⟨c, m⟩ := i
  have hN : (["column", "many", "place"] : List Str).Nodup := by decide +kernel
  have hm : m ≤ 7 := hi
  refine ds_ret (bTuple C.b (PV.frz (pv_mapL (f := fun p => .int ((bit c p : Nat) : Int)) [("place", 2)] (.one 2) rfl hN (bRange C.b (dv 1) ⟨by omega, by omega⟩) rfl (tb1 2 hN) (fun p hp => ⟨_, rfl, fun s H C2 cl fp => ?_⟩) ?_))) ⟨rfl, ?_⟩
  · have hp7 : p < 7 := by have := List.mem_range.mp hp; omega
    have e : ((bit c p : Nat) : Int) = (c : Int) / ((2 ^ p : Nat) : Int) % 2 := by unfold bit; omega
    rw [e]
    exact pv_mod (pv_fdiv (dv 0) (pv_ix (gpow C) (dv 2) True.intro rfl rfl (pow_at hp7)) (pow_lt hp7)) pv_int
  · simp; omega
  · unfold encN
    rw [List.map_map]
    rfl
def colf : List Nat → Nat → Nat
  | [], _ => 0
  | p :: ps, c => bit c p + 2 * colf ps c
theorem colf_sum (c : Nat) : ∀ (ps : List Nat) (k : Nat), ((ps.zipIdx k).map fun q => ((bit c q.1 * 2 ^ q.2 : Nat) : Int)).sum = ((colf ps c * 2 ^ k : Nat) : Int)
  | [], k => by simp [colf]
  | p :: ps, k => by
    rw [List.zipIdx_cons, List.map_cons, List.sum_cons, colf_sum c ps (k + 1), colf]
    rw [← Int.natCast_add]
    congr 1
    rw [Nat.add_mul, Nat.pow_succ]
    congr 1
    rw [Nat.mul_comm 2, Nat.mul_assoc, Nat.mul_comm 2, Nat.mul_comm (2 ^ k)]
theorem map_snoc_range {α : Type} (f : Nat → α) (k : Nat) : (List.range (k + 1)).map f = (List.range k).map f ++ [f k] := by rw [List.range_succ, List.map_append]; rfl
theorem range_at {n k a : Nat} (h : (List.range n)[k]? = some a) : a = k ∧ k < n := by
  have hl := (List.getElem?_eq_some_iff.mp h).1
  rw [List.length_range] at hl
  rw [List.getElem?_range hl] at h
  exact ⟨(Option.some.inj h).symm, hl⟩
theorem encN_at {ns : List Nat} {i n : Nat} (h : ns[i]? = some n) : atI (encN ns) (i : Int) = some (.int (n : Int)) := atI_nat (by unfold encN; rw [List.getElem?_map, h]; rfl)
theorem encN_length (ns : List Nat) : (encN ns).length = ns.length := by unfold encN; rw [List.length_map]
theorem ok_columns_for (C : Cst K mg) (F : DefOk K mg "columns_for" "columns_for" H75.sColumnsFor)
    (Gd : GFa P w K mg base 1 "digits_of" 2 (fun i : Nat × Nat => [.int (i.1 : Nat), .int (i.2 : Nat)]) (fun i => i.2 ≤ 7) (fun i => .tup (encN ((List.range i.2).map fun p => bit i.1 p)))) :
    GFa P w K mg base 2 "columns_for" 2 (fun i : Nat × Bool × List Nat => [.int (i.1 : Nat), D.sq i.2.1 (encN i.2.2)]) (fun i => i.1 ≤ 6 ∧ (∀ p ∈ i.2.2, p < i.1) ∧ i.2.2.length ≤ 7) (fun i => .lst (encN ((List.range (2 ^ i.1)).map (colf i.2.2)))) := by
  refine gfa_of (ps := ["many", "places"]) (N := ["many", "places", "found", "column", "digits", "index", "place"]) F ⟨rfl, rfl, rfl, by decide +kernel, rfl, by decide +kernel, by decide +kernel⟩ (fun _ => rfl) (fun _ _ _ _ _ _ us hl => match us, hl with | [_, _], _ => rfl) fun f cdv A outer s H E i hr hi => ?_
  obtain ⟨m, t, ps⟩ := i
  obtain ⟨hm, hps, hpl⟩ := (show m ≤ 6 ∧ (∀ p ∈ ps, p < m) ∧ ps.length ≤ 7 from hi)
  have hN : (["many", "places", "found", "column", "digits", "index", "place"] : List Str).Nodup := by decide +kernel
  have h64 : 2 ^ m ≤ 64 := Nat.le_trans (Nat.pow_le_pow_right (by omega) hm) (by decide)
  refine sN 2 hN (pv_lst (ds := []) pvs_nil rfl) ?_
  refine ds_forL (L := List.range (2 ^ m)) (emb := fun i => D.int (i : Nat)) (.one 3) (fun k S => ∃ c d, S = ⟨[some (.dat (.int (m : Nat))), some (.dat (D.sq t (encN ps))), some (.lst (encN ((List.range k).map (colf ps)))), c, d, none, none], none⟩)
    (fun S => ∃ c d, S = ⟨[some (.dat (.int (m : Nat))), some (.dat (D.sq t (encN ps))), some (.lst (encN ((List.range (2 ^ m)).map (colf ps)))), c, d, none, none], none⟩) PassesOwn.never rfl (bRangeN C.b (pv_ix (gpow C) (dv 0) True.intro rfl rfl (pow_at (by omega))) (by omega)) (tl1 3 hN) ⟨none, none, rfl⟩ ?_ ?_ ?_
  · rintro k a S hk ⟨c, d, rfl⟩
    obtain ⟨rfl, hk2⟩ := range_at hk
    refine ⟨_, rfl, ?_⟩
    refine sD 4 hN (pv_callA (a, m) Gd hr (by omega) (pvs_cons (dv 3) (pvs_one (dv 0))) rfl (by show m ≤ 7; omega)) ?_
    refine ds_app (i := 2) (ov 2) (bSumL C.b rfl (L := ps.zipIdx) (g := fun q => ((bit a q.1 * 2 ^ q.2 : Nat) : Int)) (pv_mapL (f := fun q => .int ((bit a q.1 * 2 ^ q.2 : Nat) : Int)) [("index", 5), ("place", 6)] (.many [5, 6]) rfl hN (bEnum C.b (emb := fun (n : Nat) => D.int (n : Int)) (dv 1)) rfl (tb2 5 6 hN rfl) (fun q hq => ⟨_, rfl, fun s H C2 cl fp => ?_⟩) ?_)) rfl ?_ rfl (ds_nil ?_)
    · have hq2 := List.mem_zipIdx_iff_getElem?.mp hq
      have h1 := List.mem_of_getElem? hq2
      have h2 := (List.getElem?_eq_some_iff.mp hq2).1
      show PV _ _ _ (.dat (.int ((bit a q.1 * 2 ^ q.2 : Nat) : Int))) _
      rw [Int.natCast_mul]
      refine pv_mul (pv_ix (dv 4) (dv 6) True.intro rfl rfl (encN_at ?_)) (pv_ix (gpow C) (dv 5) True.intro rfl rfl (pow_at (by omega))) ?_
      · show ((List.range m).map fun p => bit a p)[q.1]? = some (bit a q.1)
        rw [List.getElem?_map, List.getElem?_range (hps _ h1)]
        rfl
      · right
        have := pow_lt (p := q.2) (by omega)
        constructor <;> omega
    · rw [List.length_zipIdx]; omega
    · unfold encN
      rw [List.length_map, List.length_map, List.length_range]
      omega
    · have e : encN ((List.range (a + 1)).map (colf ps)) = encN ((List.range a).map (colf ps)) ++ [D.int ((ps.zipIdx).map fun q => ((bit a q.1 * 2 ^ q.2 : Nat) : Int)).sum] := by
        rw [map_snoc_range, colf_sum a ps 0, Nat.pow_zero, Nat.mul_one]
        unfold encN
        rw [List.map_append]
        rfl
      rw [e]
      exact ⟨_, _, rfl⟩
  · rintro S ⟨c, d, h⟩
    rw [List.length_range] at h
    exact ⟨c, d, h⟩
  · rintro S ⟨c, d, rfl⟩
    exact ds_ret (PV.frzO (ov 2)) ⟨rfl, rfl⟩
end
end K75
/-! Plain lemmas: tables, lists without repetition. -/
namespace PL
section
variable {κ β : Type} [DecidableEq κ]
theorem any_isSome : ∀ (l : List (κ × β)) (k : κ), (l.any fun p => decide (p.1 = k)) = (aget l k).isSome
  | [], _ => rfl
  | p :: l, k => by
    rw [List.any_cons, aget_cons, any_isSome l k]
    by_cases h : p.1 = k
    · simp [h]
    · simp [h]
theorem aget_append : ∀ (l m : List (κ × β)) (k : κ), aget (l ++ m) k = (aget l k).or (aget m k)
  | [], m, k => by simp [aget_nil]
  | p :: l, m, k => by
    rw [List.cons_append, aget_cons, aget_cons, aget_append l m k]
    by_cases h : p.1 = k
    · simp [h]
    · simp [h]
theorem aget_map_put : ∀ (l : List (κ × β)) (k k' : κ) (v : β), aget (l.map fun p => if p.1 = k then (p.1, v) else p) k' = if k = k' then (aget l k').map (fun _ => v) else aget l k'
  | [], k, k', v => by simp [aget_nil]
  | p :: l, k, k', v => by
    rw [List.map_cons, aget_cons, aget_cons, aget_map_put l k k' v]
    by_cases h : p.1 = k
    · rw [if_pos h]
      by_cases h2 : p.1 = k'
      · have : k = k' := h.symm.trans h2
        simp [h2, this]
      · have : k ≠ k' := fun e => h2 (h.trans e)
        simp [h2, this]
    · rw [if_neg h]
      by_cases h2 : p.1 = k'
      · have : k ≠ k' := fun e => h (h2.trans e.symm)
        simp [h2, this]
      · by_cases h3 : k = k' <;> simp [h2, h3]
theorem aget_aput (l : List (κ × β)) (k k' : κ) (v : β) : aget (aput l k v) k' = if k = k' then some v else aget l k' := by
  unfold aput
  by_cases h : (l.any fun p => decide (p.1 = k)) = true
  · rw [if_pos h, aget_map_put]
    by_cases e : k = k'
    · subst e
      rw [any_isSome] at h
      obtain ⟨w, hw⟩ := Option.isSome_iff_exists.mp h
      simp [hw]
    · simp [e]
  · rw [if_neg h, aget_append, aget_cons, aget_nil]
    by_cases e : k = k'
    · subst e
      rw [any_isSome] at h
      cases q : aget l k with
      | none => simp
      | some w => rw [q] at h; exact absurd rfl h
    · simp [e]
theorem aput_length (l : List (κ × β)) (k : κ) (v : β) : (aput l k v).length ≤ l.length + 1 := by
  unfold aput
  split
  · rw [List.length_map]; omega
  · simp
theorem aput_new {l : List (κ × β)} {k : κ} {v : β} (h : aget l k = none) : aput l k v = l ++ [(k, v)] := by
  unfold aput
  rw [if_neg (by rw [any_isSome, h]; simp)]
end
section
variable {α : Type} [DecidableEq α]
theorem nodup_le : ∀ {L M : List α}, L.Nodup → (∀ x ∈ L, x ∈ M) → L.length ≤ M.length
  | [], _, _, _ => Nat.zero_le _
  | x :: L, M, hn, h => by
    obtain ⟨h1, h2⟩ := List.nodup_cons.mp hn
    have hx : x ∈ M := h x (by simp)
    have := nodup_le (L := L) (M := M.erase x) h2 fun y hy => by
      have hyx : y ≠ x := fun e => h1 (e ▸ hy)
      exact (List.mem_erase_of_ne hyx).mpr (h y (List.mem_cons_of_mem _ hy))
    rw [List.length_erase_of_mem hx] at this
    have : 0 < M.length := List.length_pos_of_mem hx
    rw [List.length_cons]; omega
end
theorem nodup_lt {L : List Nat} {n : Nat} (h : L.Nodup) (hl : ∀ x ∈ L, x < n) : L.length ≤ n := by
  have := nodup_le h (M := List.range n) fun x hx => List.mem_range.mpr (hl x hx)
  rw [List.length_range] at this
  exact this
theorem cover_le {l : List Nat} {n : Nat} (h : ∀ k, k < n → k ∈ l) : n ≤ l.length := by
  have := nodup_le (L := List.range n) (M := l) List.nodup_range fun x hx => h x (List.mem_range.mp hx)
  rw [List.length_range] at this
  exact this
/-- as many places as values: no value twice -/
theorem cover_nodup : ∀ {l : List Nat} {n : Nat}, (∀ k, k < n → k ∈ l) → l.length ≤ n → l.Nodup
  | [], _, _, _ => List.nodup_nil
  | x :: l, n, h, hl => by
    have hx : x ∉ l := fun hx => by
      have := cover_le (l := l) (n := n) fun k hk => by
        rcases List.mem_cons.mp (h k hk) with e | e
        · rw [e]; exact hx
        · exact e
      rw [List.length_cons] at hl; omega
    refine List.nodup_cons.mpr ⟨hx, ?_⟩
    rw [List.length_cons] at hl
    -- renumber: drop the value x
    have hxn : x < n := by
      apply Nat.lt_of_not_le
      intro hge
      have := cover_le (l := l) (n := n) fun k hk => by
        rcases List.mem_cons.mp (h k hk) with e | e
        · omega
        · exact e
      omega
    have key := cover_nodup (l := l.map fun y => if y < x then y else y - 1) (n := n - 1) (fun k hk => by
      by_cases hkx : k < x
      · have : k ∈ l := by
          rcases List.mem_cons.mp (h k (by omega)) with e | e
          · omega
          · exact e
        exact List.mem_map.mpr ⟨k, this, by simp [hkx]⟩
      · have : k + 1 ∈ l := by
          rcases List.mem_cons.mp (h (k + 1) (by omega)) with e | e
          · omega
          · exact e
        exact List.mem_map.mpr ⟨k + 1, this, by
          have : ¬ (k + 1 < x) := by omega
          simp [this]⟩) (by rw [List.length_map]; omega)
    exact (List.pairwise_map.mp key).imp fun {a b} hab e => hab (by rw [e])
termination_by l => l.length
decreasing_by simp
theorem nodup_snoc {α : Type} {L : List α} {x : α} (h : L.Nodup) (hx : x ∉ L) : (L ++ [x]).Nodup := by
  refine List.nodup_append.mpr ⟨h, by simp, fun a ha b hb => ?_⟩
  rw [List.mem_singleton] at hb
  subst hb
  exact fun e => hx (e ▸ ha)
end PL
namespace PL
open PySem
/-! ### tables of places -/
section
variable {κ α : Type} [DecidableEq κ]
/-- each key with its place -/
def idxT (f : α → κ) (ks : List α) : List (κ × D) := (ks.zipIdx).map fun q => (f q.1, D.int (q.2 : Nat))
theorem idxT_length (f : α → κ) (ks : List α) : (idxT f ks).length = ks.length := by unfold idxT; rw [List.length_map, List.length_zipIdx]
theorem aget_idx {f : α → κ} (hf : ∀ a b, f a = f b → a = b) : ∀ (ks : List α) (n i : Nat) (a : α), ks.Nodup → ks[i]? = some a → aget ((ks.zipIdx n).map fun q => (f q.1, D.int (q.2 : Nat))) (f a) = some (D.int ((n + i : Nat) : Int))
  | [], _, _, _, _, h => by simp at h
  | x :: ks, n, 0, a, hn, h => by
    simp at h
    subst h
    rw [List.zipIdx_cons, List.map_cons, aget_cons, if_pos rfl]
    rfl
  | x :: ks, n, i + 1, a, hn, h => by
    rw [List.getElem?_cons_succ] at h
    obtain ⟨h1, h2⟩ := List.nodup_cons.mp hn
    rw [List.zipIdx_cons, List.map_cons, aget_cons, if_neg (fun e => h1 (by rw [hf x a e]; exact List.mem_of_getElem? h)), aget_idx hf ks (n + 1) i a h2 h]
    congr 3
    omega
theorem aget_idx_none {f : α → κ} (hf : ∀ a b, f a = f b → a = b) : ∀ (ks : List α) (n : Nat) (a : α), a ∉ ks → aget ((ks.zipIdx n).map fun q => (f q.1, D.int (q.2 : Nat))) (f a) = none
  | [], _, _, _ => rfl
  | x :: ks, n, a, h => by
    rw [List.zipIdx_cons, List.map_cons, aget_cons, if_neg (fun e => h (by rw [hf x a e]; simp)), aget_idx_none hf ks (n + 1) a (fun z => h (List.mem_cons_of_mem _ z))]
theorem idxT_at {f : α → κ} (hf : ∀ a b, f a = f b → a = b) {ks : List α} {i : Nat} {a : α} (hn : ks.Nodup) (h : ks[i]? = some a) : aget (idxT f ks) (f a) = some (D.int (i : Nat)) := by
  have := aget_idx hf ks 0 i a hn h
  rw [Nat.zero_add] at this
  exact this
theorem idxT_none {f : α → κ} (hf : ∀ a b, f a = f b → a = b) {ks : List α} {a : α} (h : a ∉ ks) : aget (idxT f ks) (f a) = none := aget_idx_none hf ks 0 a h
theorem idxT_some {f : α → κ} (hf : ∀ a b, f a = f b → a = b) {ks : List α} {a : α} (hn : ks.Nodup) : (aget (idxT f ks) (f a)).isSome = true ↔ a ∈ ks := by
  constructor
  · intro h
    apply Classical.byContradiction
    intro hne
    rw [idxT_none hf hne] at h
    exact nomatch h
  · intro h
    obtain ⟨i, hi, e⟩ := List.getElem_of_mem h
    rw [idxT_at hf hn (by rw [List.getElem?_eq_getElem hi, e])]
    rfl
theorem idxT_snoc {f : α → κ} (hf : ∀ a b, f a = f b → a = b) {ks : List α} {a : α} (h : a ∉ ks) : aput (idxT f ks) (f a) (D.int (ks.length : Nat)) = idxT f (ks ++ [a]) := by
  rw [aput_new (idxT_none hf h)]
  unfold idxT
  rw [List.zipIdx_append, List.map_append, Nat.zero_add]
  rfl
/-- each key, seen -/
def seenT (f : α → κ) (ks : List α) : List (κ × D) := ks.map fun a => (f a, D.bl true)
theorem seenT_length (f : α → κ) (ks : List α) : (seenT f ks).length = ks.length := by unfold seenT; rw [List.length_map]
theorem seenT_some {f : α → κ} (hf : ∀ a b, f a = f b → a = b) : ∀ {ks : List α} {a : α}, (aget (seenT f ks) (f a)).isSome = true ↔ a ∈ ks
  | [], a => by simp [seenT, aget_nil]
  | x :: ks, a => by
    unfold seenT
    rw [List.map_cons, aget_cons]
    by_cases e : f x = f a
    · rw [if_pos e, hf _ _ e]; simp
    · have : ¬ a = x := fun z => e (by rw [z])
      rw [if_neg e, List.mem_cons]
      have ih := seenT_some hf (ks := ks) (a := a)
      unfold seenT at ih
      rw [ih]
      simp [this]
theorem seenT_snoc {f : α → κ} (hf : ∀ a b, f a = f b → a = b) {ks : List α} {a : α} (h : a ∉ ks) : aput (seenT f ks) (f a) (D.bl true) = seenT f (ks ++ [a]) := by
  have : aget (seenT f ks) (f a) = none := by
    cases q : aget (seenT f ks) (f a) with
    | none => rfl
    | some v => exact absurd ((seenT_some hf).mp (by rw [q]; rfl)) h
  rw [aput_new this]
  unfold seenT
  rw [List.map_append]
  rfl
/-- a function's table -/
def funT (f : α → κ) (g : α → D) (ks : List α) : List (κ × D) := ks.map fun a => (f a, g a)
theorem funT_length (f : α → κ) (g : α → D) (ks : List α) : (funT f g ks).length = ks.length := by unfold funT; rw [List.length_map]
theorem funT_at {f : α → κ} {g : α → D} (hf : ∀ a b, f a = f b → a = b) : ∀ {ks : List α} {a : α}, a ∈ ks → aget (funT f g ks) (f a) = some (g a)
  | [], a, h => by simp at h
  | x :: ks, a, h => by
    unfold funT
    rw [List.map_cons, aget_cons]
    by_cases e : f x = f a
    · rw [if_pos e, hf _ _ e]
    · rw [if_neg e]
      rcases List.mem_cons.mp h with z | z
      · exact absurd (by rw [z]) e
      · exact funT_at hf z
theorem funT_none {f : α → κ} {g : α → D} (hf : ∀ a b, f a = f b → a = b) : ∀ {ks : List α} {a : α}, a ∉ ks → aget (funT f g ks) (f a) = none
  | [], a, h => rfl
  | x :: ks, a, h => by
    unfold funT
    rw [List.map_cons, aget_cons, if_neg (fun e => h (by rw [hf _ _ e]; simp))]
    exact funT_none hf fun z => h (List.mem_cons_of_mem _ z)
theorem funT_snoc {f : α → κ} {g : α → D} (hf : ∀ a b, f a = f b → a = b) {ks : List α} {a : α} (h : a ∉ ks) : aput (funT f g ks) (f a) (g a) = funT f g (ks ++ [a]) := by
  rw [aput_new (funT_none hf h)]
  unfold funT
  rw [List.map_append]
  rfl
end
/-! ### keys -/
theorem keys_length : ∀ ds : List D, (D.keys ds).length = ds.length
  | [] => rfl
  | d :: ds => by simp [D.keys, keys_length ds]
theorem nat_int_inj : ∀ a b : Nat, (a : Int) = (b : Int) → a = b := fun a b h => by omega
end PL
namespace K75
open PySem PySem.Spec PyProof.Rows L2 PL

def encRows (rows : List (List Nat)) : D := .tup (rows.map fun r => .tup (encN r))
theorem rows_at {rows : List (List Nat)} {s : Nat} {r : List Nat} (h : rows[s]? = some r) : atI (rows.map fun r => D.tup (encN r)) (s : Int) = some (.tup (encN r)) := atI_nat (by rw [List.getElem?_map, h]; rfl)
/-- rows of a machine: n of them, with goals below n -/
structure RowsOk (rows : List (List Nat)) : Prop where
  pos : 0 < rows.length
  big : rows.length ≤ 1000
  goal : ∀ r ∈ rows, ∀ g ∈ r, g < rows.length
  wide : ∀ r ∈ rows, r.length ≤ 1000
structure Reached (rows : List (List Nat)) (L : List Nat) : Prop where
  nd : L.Nodup
  hd : L[0]? = some 0
  lt : ∀ s ∈ L, s < rows.length
  cl : ∀ s ∈ L, ∀ r, rows[s]? = some r → ∀ g ∈ r, g ∈ L
structure RInv (rows : List (List Nat)) (L : List Nat) (sn : List (Int × D)) (at_ : Nat) : Prop where
  nd : L.Nodup
  hd : L[0]? = some 0
  lt : ∀ s ∈ L, s < rows.length
  seen : ∀ g : Nat, (aget sn (g : Int)).isSome = decide (g ∈ L)
  sz : sn.length ≤ L.length
  cl : ∀ (j : Nat) (s : Nat), j < at_ → L[j]? = some s → ∀ r, rows[s]? = some r → ∀ g ∈ r, g ∈ L
theorem RInv.add {rows : List (List Nat)} {L : List Nat} {sn : List (Int × D)} {at_ g : Nat} {v : D} (h : RInv rows L sn at_) (hat : at_ ≤ L.length) (hg : g ∉ L) (hl : g < rows.length) : RInv rows (L ++ [g]) (aput sn (g : Int) v) at_ where
  nd := nodup_snoc h.nd hg
  hd := by
    rw [List.getElem?_append_left (by have := (List.getElem?_eq_some_iff.mp h.hd).1; exact this)]
    exact h.hd
  lt := fun s hs => by
    rcases List.mem_append.mp hs with hs | hs
    · exact h.lt s hs
    · rw [List.mem_singleton.mp hs]; exact hl
  seen := fun x => by
    rw [aget_aput]
    by_cases e : g = x
    · subst e; simp
    · have e1 : ¬ ((g : Int) = (x : Int)) := fun z => e (by omega)
      have e2 : ¬ x = g := fun z => e z.symm
      rw [if_neg e1, h.seen x]
      simp [e2]
  sz := by have := aput_length sn (g : Int) v; rw [List.length_append]; simp; have := h.sz; omega
  cl := fun j s hj hs r hr x hx => by
    rw [List.getElem?_append_left (by omega)] at hs
    exact List.mem_append_left _ (h.cl j s hj hs r hr x hx)
section
variable {P : Program} {w : World} {K : PySem.W.Frag} {mg : Str → Option Value} {base : Heap}
theorem ok_reached_of (C : Cst K mg) (F : DefOk K mg "reached_of" "reached_of" H75.sReachedOf) : GFr P w K mg base 1 "reached_of" 1 (fun rows : List (List Nat) => [encRows rows]) RowsOk (fun rows d => ∃ L, d = .lst (encN L) ∧ Reached rows L) := by
  refine gfr_of (ps := ["steps"]) (N := ["steps", "found", "seen", "at", "goal"]) F ⟨rfl, rfl, rfl, by decide +kernel, rfl, by decide +kernel, by decide +kernel⟩ (fun _ => rfl) (fun _ _ _ _ _ _ us hl => match us, hl with | [_], _ => rfl) fun f cdv A outer s H E rows hr ok => ?_
  have hN : (["steps", "found", "seen", "at", "goal"] : List Str).Nodup := by decide +kernel
  refine sN 1 hN (pv_lst (pvs_one pv_int) rfl) (sN 2 hN (pv_dispI pv_int pv_bl) (sD 3 hN pv_int ?_))
  let St := fun (L : List Nat) (sn : List (Int × D)) (a : Nat) (c : Option Sl) => (⟨[some (.dat (encRows rows)), some (.lst (encN L)), some (.dicI sn), some (.dat (.int (a : Nat))), c], none⟩ : PSt)
  have hlen : ∀ {L : List Nat} {sn : List (Int × D)} {a : Nat}, RInv rows L sn a → L.length ≤ rows.length := fun h => nodup_lt h.nd h.lt
  refine ds_while (fun m S => ∃ L sn a c, S = St L sn a c ∧ RInv rows L sn a ∧ a ≤ L.length ∧ m = rows.length - a) (fun S => ∃ L sn c, S = St L sn L.length c ∧ RInv rows L sn L.length) (m0 := rows.length) PassesOwn.never ?_ ?_ ?_
  · refine ⟨[0], [(0, .bl true)], 0, none, rfl, ⟨by simp, rfl, fun s hs => by rw [List.mem_singleton.mp hs]; exact ok.pos, fun g => ?_, by simp, fun j s hj => absurd hj (by omega)⟩, by simp, by omega⟩
    rw [aget_cons, aget_nil]
    by_cases e : g = 0
    · subst e; simp
    · have : ¬ ((0 : Int) = (g : Int)) := by omega
      simp [e, this]
  · rintro m S ⟨L, sn, a, c, rfl, inv, ha, rfl⟩
    refine ⟨_, _, tCd (cd_lt (dv 3) (bLen C.b (ov 1))), fun hz => ?_, fun hz => ?_⟩
    · have hz2 : a < L.length := by
        have := of_decide_eq_true hz
        rw [encN_length] at this; omega
      obtain ⟨x, hx⟩ : ∃ x, L[a]? = some x := ⟨_, List.getElem?_eq_getElem hz2⟩
      have hxn : x < rows.length := inv.lt x (List.mem_of_getElem? hx)
      obtain ⟨r, hrow⟩ : ∃ r, rows[x]? = some r := ⟨_, List.getElem?_eq_getElem hxn⟩
      have hrm := List.mem_of_getElem? hrow
      refine ds_forL (L := r) (emb := fun (n : Nat) => D.int (n : Int)) (.one 4) (fun k S => ∃ L2 sn2 c2, S = St L2 sn2 a c2 ∧ RInv rows L2 sn2 a ∧ a < L2.length ∧ L2[a]? = some x ∧ ∀ g ∈ r.take k, g ∈ L2)
        (fun S => ∃ L2 sn2 c2, S = St L2 sn2 a c2 ∧ RInv rows L2 sn2 a ∧ a < L2.length ∧ L2[a]? = some x ∧ ∀ g ∈ r, g ∈ L2) PassesOwn.never rfl (pid_tup (pv_ix (dv 0) (pv_ix (ov 1) (dv 3) rfl rfl rfl (encN_at hx)) True.intro rfl rfl (rows_at hrow))) (tl1 4 hN) ⟨L, sn, c, rfl, inv, hz2, hx, fun g hg => by simp at hg⟩ ?_ ?_ ?_
      · rintro k g S hk ⟨L2, sn2, c2, rfl, inv2, ha2, hx2, hpre⟩
        have hg : g ∈ r := List.mem_of_getElem? hk
        have htk : r.take (k + 1) = r.take k ++ [g] := by rw [List.take_add_one, hk]; rfl
        refine ⟨_, rfl, ds_when (tCd (cd_notInI (PL.Room.u1 hr) (dv 4) (ov 2) rfl rfl)) (fun hz => ?_) (fun hz => ds_nil ⟨L2, sn2, _, rfl, inv2, ha2, hx2, fun y hy => ?_⟩)⟩
        · have hgn : g ∉ L2 := by
            have := inv2.seen g
            rw [Bool.not_eq_true'] at hz
            rw [hz] at this
            exact of_decide_eq_false this.symm
          have hl2 := hlen inv2
          have hb := ok.big
          have hsz := inv2.sz
          refine ds_putI (PL.Room.u1 hr) pv_bl (ov 2) (dv 4) rfl (by omega) (ds_app (i := 1) (ov 1) (dv 4) rfl (by rw [encN_length]; omega) rfl (ds_nil (ds_nil ⟨L2 ++ [g], aput sn2 (g : Int) (.bl true), some (.dat (.int (g : Nat))), ?_, inv2.add (by omega) hgn (ok.goal r hrm g hg), by rw [List.length_append]; omega, by rw [List.getElem?_append_left ha2]; exact hx2, fun y hy => ?_⟩)))
          · have e : encN (L2 ++ [g]) = encN L2 ++ [D.int (g : Nat)] := by unfold encN; rw [List.map_append]; rfl
            show _ = St (L2 ++ [g]) _ a _
            simp only [St]
            rw [e]
            rfl
          · rw [htk] at hy
            rcases List.mem_append.mp hy with hy | hy
            · exact List.mem_append_left _ (hpre y hy)
            · exact List.mem_append_right _ hy
        · rw [htk] at hy
          rcases List.mem_append.mp hy with hy | hy
          · exact hpre y hy
          · rw [List.mem_singleton.mp hy]
            have := inv2.seen g
            rw [Bool.not_eq_false'] at hz
            rw [hz] at this
            exact of_decide_eq_true this.symm
      · rintro S ⟨L2, sn2, c2, rfl, inv2, ha2, hx2, hpre⟩
        exact ⟨L2, sn2, c2, rfl, inv2, ha2, hx2, fun g hg => hpre g (by rw [List.take_length]; exact hg)⟩
      · rintro S ⟨L2, sn2, c2, rfl, inv2, ha2, hx2, hpre⟩
        have hl2 := hlen inv2
        refine sA 3 hN rfl pv_int (ds_nil ⟨rows.length - (a + 1), by omega, L2, sn2, a + 1, c2, rfl, ⟨inv2.nd, inv2.hd, inv2.lt, inv2.seen, inv2.sz, fun j s hj hs r2 hr2 => ?_⟩, by omega, rfl⟩)
        by_cases e : j = a
        · subst e
          rw [hx2] at hs
          cases hs
          rw [hrow] at hr2
          cases hr2
          exact hpre
        · exact inv2.cl j s (by omega) hs r2 hr2
    · have hz2 : a = L.length := by
        have := of_decide_eq_false hz
        rw [encN_length] at this; omega
      subst hz2
      exact ⟨L, sn, c, rfl, inv⟩
  · rintro S ⟨L, sn, c, rfl, inv⟩
    refine ds_ret (PV.frzO (ov 1)) ⟨rfl, L, rfl, inv.nd, inv.hd, inv.lt, fun s hs r hr2 => ?_⟩
    obtain ⟨j, hj, e⟩ := List.getElem_of_mem hs
    exact inv.cl j s hj (by rw [List.getElem?_eq_getElem hj, e]) r hr2
end
end K75
namespace K75
open PySem PySem.Spec PyProof.Rows L2 PL

def nk (k : List Nat) : NestedKey := (D.tup (encN k)).key
theorem keys_encN : ∀ a b : List Nat, D.keys (encN a) = D.keys (encN b) → a = b
  | [], [], _ => rfl
  | [], _ :: _, h => by simp [encN, D.keys] at h
  | _ :: _, [], h => by simp [encN, D.keys] at h
  | x :: a, y :: b, h => by
    have h' : D.key (.int (x : Nat)) :: D.keys (encN a) = D.key (.int (y : Nat)) :: D.keys (encN b) := h
    injection h' with h1 h2
    simp only [D.key] at h1
    injection h1 with h1
    rw [nat_int_inj x y h1, keys_encN a b h2]
theorem nk_inj : ∀ a b : List Nat, nk a = nk b → a = b := fun a b h => keys_encN a b (by
  have h' : NestedKey.tup (D.keys (encN a)) = NestedKey.tup (D.keys (encN b)) := h
  injection h')
theorem keyables_encN : ∀ (n : Nat) (a : List Nat), D.keyables n (encN a) = true
  | _, [] => rfl
  | n, x :: a => by
    show (D.keyable n (.int (x : Nat)) && D.keyables n (encN a)) = true
    rw [keyables_encN n a]
    simp [D.keyable]
theorem keyable_encN (a : List Nat) : (D.tup (encN a)).keyable 8 = true := keyables_encN 7 a

/-- ends by states, as data -/
def encB (es : List Bool) : D := .tup (es.map D.bl)
theorem encB_at {es : List Bool} {s : Nat} {b : Bool} (h : es[s]? = some b) : atI (es.map D.bl) (s : Int) = some (.bl b) := atI_nat (by rw [List.getElem?_map, h]; rfl)
def natI (n : Nat) : Int := n
def tabI (κ : Nat → Nat) (L : List Nat) : List (Int × D) := funT natI (fun s => D.int (κ s : Nat)) L
def keyOf (rows : List (List Nat)) (κ : Nat → Nat) (s : Nat) : List Nat := κ s :: (rows.getD s []).map κ
/-- states of a kind are alike -/
structure Alike (rows : List (List Nat)) (es : List Bool) (L : List Nat) (κ : Nat → Nat) : Prop where
  ends : ∀ s t, s ∈ L → t ∈ L → κ s = κ t → es[s]? = es[t]?
  goal : ∀ s t, s ∈ L → t ∈ L → κ s = κ t → (rows.getD s []).map κ = (rows.getD t []).map κ
/-- the kinds met so far: ks, ν their numbers -/
structure KInv (rows : List (List Nat)) (κ : Nat → Nat) (M : List Nat) (ks : List (List Nat)) (ν : Nat → Nat) : Prop where
  nd : ks.Nodup
  at_ : ∀ s ∈ M, ks[ν s]? = some (keyOf rows κ s)
  from_ : ∀ k ∈ ks, ∃ s ∈ M, keyOf rows κ s = k
theorem KInv.old {rows : List (List Nat)} {κ : Nat → Nat} {M : List Nat} {ks : List (List Nat)} {ν : Nat → Nat} {s i : Nat} (h : KInv rows κ M ks ν) (hs : s ∉ M) (hi : ks[i]? = some (keyOf rows κ s)) : KInv rows κ (M ++ [s]) ks (fun x => if x = s then i else ν x) where
  nd := h.nd
  at_ := fun x hx => by
    by_cases e : x = s
    · subst e; rw [if_pos rfl]; exact hi
    · rw [if_neg e]
      rcases List.mem_append.mp hx with hx | hx
      · exact h.at_ x hx
      · exact absurd (List.mem_singleton.mp hx) e
  from_ := fun k hk => by
    obtain ⟨x, hx, e⟩ := h.from_ k hk
    exact ⟨x, List.mem_append_left _ hx, e⟩
theorem KInv.new {rows : List (List Nat)} {κ : Nat → Nat} {M : List Nat} {ks : List (List Nat)} {ν : Nat → Nat} {s : Nat} (h : KInv rows κ M ks ν) (hs : s ∉ M) (hi : keyOf rows κ s ∉ ks) : KInv rows κ (M ++ [s]) (ks ++ [keyOf rows κ s]) (fun x => if x = s then ks.length else ν x) where
  nd := nodup_snoc h.nd hi
  at_ := fun x hx => by
    by_cases e : x = s
    · subst e; rw [if_pos rfl]; simp
    · rw [if_neg e]
      rcases List.mem_append.mp hx with hx | hx
      · have := h.at_ x hx
        rw [List.getElem?_append_left (List.getElem?_eq_some_iff.mp this).1]
        exact this
      · exact absurd (List.mem_singleton.mp hx) e
  from_ := fun k hk => by
    rcases List.mem_append.mp hk with hk | hk
    · obtain ⟨x, hx, e⟩ := h.from_ k hk
      exact ⟨x, List.mem_append_left _ hx, e⟩
    · exact ⟨s, by simp, (List.mem_singleton.mp hk).symm⟩
theorem tabI_upd {ν : Nat → Nat} {s i : Nat} {M : List Nat} (hs : s ∉ M) : aput (tabI ν M) (s : Int) (D.int (i : Nat)) = tabI (fun x => if x = s then i else ν x) (M ++ [s]) := by
  have e : tabI ν M = tabI (fun x => if x = s then i else ν x) M := by
    unfold tabI funT
    refine List.map_congr_left fun x hx => ?_
    have : x ≠ s := fun e => hs (e ▸ hx)
    simp [this]
  rw [e]
  have := funT_snoc (f := natI) (g := fun x => D.int ((if x = s then i else ν x : Nat) : Int)) nat_int_inj hs
  simp only [if_pos] at this
  exact this
theorem tabI_at {ν : Nat → Nat} {s : Nat} {M : List Nat} (hs : s ∈ M) : aget (tabI ν M) (s : Int) = some (D.int (ν s : Nat)) := funT_at (f := natI) (g := fun s => D.int (ν s : Nat)) nat_int_inj hs
/-- the kinds so far take the values below many -/
structure Many (L : List Nat) (κ : Nat → Nat) (many : Nat) : Prop where
  lt : ∀ s ∈ L, κ s < many
  all : ∀ k, k < many → ∃ s ∈ L, κ s = k
theorem KInv.heads {rows : List (List Nat)} {κ : Nat → Nat} {L : List Nat} {ks : List (List Nat)} {ν : Nat → Nat} {many : Nat} (h : KInv rows κ L ks ν) (m : Many L κ many) : ∀ k, k < many → k ∈ ks.map fun x => x.headD 0 := fun k hk => by
  obtain ⟨s, hs, e⟩ := m.all k hk
  exact List.mem_map.mpr ⟨keyOf rows κ s, List.mem_of_getElem? (h.at_ s hs), by unfold keyOf; simpa using e⟩
theorem KInv.stable {rows : List (List Nat)} {κ : Nat → Nat} {L : List Nat} {ks : List (List Nat)} {ν : Nat → Nat} {many : Nat} (h : KInv rows κ L ks ν) (m : Many L κ many) (hl : ks.length = many) {s t : Nat} (hs : s ∈ L) (ht : t ∈ L) (e : κ s = κ t) : (rows.getD s []).map κ = (rows.getD t []).map κ := by
  have nd := cover_nodup (h.heads m) (by rw [List.length_map]; omega)
  have a1 := h.at_ s hs
  have a2 := h.at_ t ht
  have b1 : (ks.map fun x => x.headD 0)[ν s]? = some (κ s) := by rw [List.getElem?_map, a1]; rfl
  have b2 : (ks.map fun x => x.headD 0)[ν t]? = some (κ s) := by rw [List.getElem?_map, a2, e]; rfl
  have e2 : ν s = ν t := (List.getElem?_inj (List.getElem?_eq_some_iff.mp b1).1 nd).mp (b1.trans b2.symm)
  rw [e2, a2] at a1
  have := Option.some.inj a1
  unfold keyOf at this
  injection this with _ h2
  exact h2.symm
theorem KInv.many {rows : List (List Nat)} {κ : Nat → Nat} {L : List Nat} {ks : List (List Nat)} {ν : Nat → Nat} (h : KInv rows κ L ks ν) : Many L ν ks.length where
  lt := fun s hs => (List.getElem?_eq_some_iff.mp (h.at_ s hs)).1
  all := fun k hk => by
    obtain ⟨s, hs, e⟩ := h.from_ ks[k] (List.getElem_mem hk)
    refine ⟨s, hs, (List.getElem?_inj (List.getElem?_eq_some_iff.mp (h.at_ s hs)).1 h.nd).mp ?_⟩
    rw [h.at_ s hs, e, List.getElem?_eq_getElem hk]
theorem KInv.finer {rows : List (List Nat)} {κ : Nat → Nat} {L : List Nat} {ks : List (List Nat)} {ν : Nat → Nat} (h : KInv rows κ L ks ν) {s t : Nat} (hs : s ∈ L) (ht : t ∈ L) (e : ν s = ν t) : κ s = κ t := by
  have a1 := h.at_ s hs
  rw [e, h.at_ t ht] at a1
  have := Option.some.inj a1
  unfold keyOf at this
  injection this with h1 _
  exact h1.symm
section
variable {P : Program} {w : World} {K : PySem.W.Frag} {mg : Str → Option Value} {base : Heap}
theorem ok_kinds_of (C : Cst K mg) (F : DefOk K mg "kinds_of" "kinds_of" H75.sKindsOf) : GFr P w K mg base 1 "kinds_of" 3 (fun i : List (List Nat) × List Bool × List Nat => [encRows i.1, encB i.2.1, .lst (encN i.2.2)])
    (fun i => RowsOk i.1 ∧ i.2.1.length = i.1.length ∧ Reached i.1 i.2.2) (fun i d => ∃ κ, d = .dic ((tabI κ i.2.2).map (·.1)) ((tabI κ i.2.2).map (·.2)) ∧ Alike i.1 i.2.1 i.2.2 κ) := by
  refine gfr_of (ps := ["steps", "ends", "states"]) (N := ["steps", "ends", "states", "kinds", "state", "many", "numbers", "fresh", "key", "goal"]) F ⟨rfl, rfl, rfl, by decide +kernel, rfl, by decide +kernel, by decide +kernel⟩ (fun _ => rfl) (fun _ _ _ _ _ _ us hl => match us, hl with | [_, _, _], _ => rfl) fun f cdv A outer s H E i hr hi => ?_
  obtain ⟨rows, es, L⟩ := i
  obtain ⟨ok, hes, re⟩ := (show RowsOk rows ∧ es.length = rows.length ∧ Reached rows L from hi)
  have hN : (["steps", "ends", "states", "kinds", "state", "many", "numbers", "fresh", "key", "goal"] : List Str).Nodup := by decide +kernel
  have hL : L.length ≤ rows.length := nodup_lt re.nd re.lt
  have hbig := ok.big
  have hL0 : 0 < L.length := (List.getElem?_eq_some_iff.mp re.hd).1
  have take_new : ∀ {k x : Nat}, L[k]? = some x → x ∉ L.take k ∧ L.take (k + 1) = L.take k ++ [x] := fun {k x} hk => by
    refine ⟨fun hm => ?_, by rw [List.take_add_one, hk]; rfl⟩
    obtain ⟨j, hj, e⟩ := List.getElem_of_mem hm
    rw [List.length_take] at hj
    have : L[j]? = some x := by rw [← e, List.getElem_take, List.getElem?_eq_getElem]
    have := (List.getElem?_inj (List.getElem?_eq_some_iff.mp this).1 re.nd).mp (this.trans hk.symm)
    omega
  let κ0 : Nat → Nat := fun s => if es[s]? = some true then 1 else 0
  refine sN 3 hN pv_dnewI ?_
  refine ds_forL (L := L) (emb := fun (n : Nat) => D.int (n : Int)) (.one 4) (fun k S => ∃ c, S = ⟨[some (.dat (encRows rows)), some (.dat (encB es)), some (.dat (.lst (encN L))), some (.dicI (tabI κ0 (L.take k))), c, none, none, none, none, none], none⟩)
    (fun S => ∃ c, S = ⟨[some (.dat (encRows rows)), some (.dat (encB es)), some (.dat (.lst (encN L))), some (.dicI (tabI κ0 L)), c, none, none, none, none, none], none⟩) PassesOwn.never rfl (pid_lst (dv 2)) (tl1 4 hN) ⟨none, rfl⟩ ?_ ?_ ?_
  · rintro k x S hk ⟨c, rfl⟩
    obtain ⟨hx, htk⟩ := take_new hk
    have hxl : x < es.length := by rw [hes]; exact re.lt x (List.mem_of_getElem? hk)
    obtain ⟨b, hb⟩ : ∃ b, es[x]? = some b := ⟨_, List.getElem?_eq_getElem hxl⟩
    refine ⟨_, rfl, ds_putI (d := D.int (κ0 x : Nat)) (i := 3) (PL.Room.u1 hr) (vif (PV.t (pv_ix (dv 1) (dv 4) True.intro rfl rfl (encB_at hb))) (fun z => ?_) (fun z => ?_)) (ov 3) (dv 4) rfl ?_ (ds_nil ⟨some (.dat (.int (x : Nat))), ?_⟩)⟩
    · have : κ0 x = 1 := by simp only [κ0]; rw [hb, z]; rfl
      rw [this]; exact pv_int
    · have : κ0 x = 0 := by simp only [κ0]; rw [hb, z]; rfl
      rw [this]; exact pv_int
    · unfold tabI; rw [funT_length, List.length_take]; omega
    · have e : tabI κ0 (L.take (k + 1)) = aput (tabI κ0 (L.take k)) (x : Int) (D.int (κ0 x : Nat)) := by
        rw [htk]; exact (funT_snoc (f := natI) (g := fun s => D.int (κ0 s : Nat)) nat_int_inj hx).symm
      rw [e]
      rfl
  · rintro S ⟨c, h⟩
    rw [List.take_length] at h
    exact ⟨c, h⟩
  · rintro S ⟨c, rfl⟩
    refine sD 5 hN pv_int ?_
    refine ds_while (fun m S => ∃ κ many c4 c6 c8, S = ⟨[some (.dat (encRows rows)), some (.dat (encB es)), some (.dat (.lst (encN L))), some (.dicI (tabI κ L)), c4, some (.dat (.int (many : Nat))), c6, none, c8, none], none⟩ ∧ (∀ s t, s ∈ L → t ∈ L → κ s = κ t → es[s]? = es[t]?) ∧ (many = 0 ∨ Many L κ many) ∧ many ≤ L.length ∧ m = L.length - many)
      (fun S => False) (m0 := L.length) PassesOwn.never ⟨κ0, 0, c, none, none, rfl, ?_, .inl rfl, by omega, by omega⟩ ?_ (fun S h => h.elim)
    · intro s t hs ht e
      obtain ⟨b, hb⟩ : ∃ b, es[s]? = some b := ⟨_, List.getElem?_eq_getElem (by rw [hes]; exact re.lt s hs)⟩
      obtain ⟨b', hb'⟩ : ∃ b, es[t]? = some b := ⟨_, List.getElem?_eq_getElem (by rw [hes]; exact re.lt t ht)⟩
      simp only [κ0] at e
      rw [hb, hb'] at e ⊢
      cases b <;> cases b' <;> simp at e ⊢
    · rintro m S ⟨κ, many, c4, c6, c8, rfl, hends, hmany, hml, rfl⟩
      refine ⟨true, _, PV.t pv_bl, fun _ => ?_, fun h => nomatch h⟩
      refine sN 6 hN pv_dnewN (sN 7 hN pv_dnewI ?_)
      refine ds_forL (L := L) (emb := fun (n : Nat) => D.int (n : Int)) (.one 4) (fun k S => ∃ c8 c4 ks ν, S = ⟨[some (.dat (encRows rows)), some (.dat (encB es)), some (.dat (.lst (encN L))), some (.dicI (tabI κ L)), c4, some (.dat (.int (many : Nat))), some (.dicN (idxT nk ks)), some (.dicI (tabI ν (L.take k))), c8, none], none⟩ ∧ KInv rows κ (L.take k) ks ν)
        (fun S => ∃ c8 c4 ks ν, S = ⟨[some (.dat (encRows rows)), some (.dat (encB es)), some (.dat (.lst (encN L))), some (.dicI (tabI κ L)), c4, some (.dat (.int (many : Nat))), some (.dicN (idxT nk ks)), some (.dicI (tabI ν L)), c8, none], none⟩ ∧ KInv rows κ L ks ν) PassesOwn.never rfl (pid_lst (dv 2)) (tl1 4 hN) ⟨c8, c4, [], fun _ => 0, rfl, by simp, by simp, by simp⟩ ?_ ?_ ?_
      · rintro k x S hk ⟨c8, c4, ks, ν, rfl, inv⟩
        obtain ⟨hx, htk⟩ := take_new hk
        have hxm := List.mem_of_getElem? hk
        have hxl : x < rows.length := re.lt x hxm
        obtain ⟨r, hrow⟩ : ∃ r, rows[x]? = some r := ⟨_, List.getElem?_eq_getElem hxl⟩
        have hrd : rows.getD x [] = r := by rw [List.getD_eq_getElem?_getD, hrow]; rfl
        have hrm := List.mem_of_getElem? hrow
        have hwide := ok.wide r hrm
        have ekey : D.tup ([D.int (κ x : Nat)] ++ r.map fun g => D.int (κ g : Nat)) = D.tup (encN (keyOf rows κ x)) := by
          unfold keyOf encN
          rw [hrd, List.map_cons, List.map_map]
          rfl
        have hks : ks.length ≤ L.length := by
          have h1 := nodup_le inv.nd (M := (L.take k).map (keyOf rows κ)) fun y hy => by
            obtain ⟨s, hs, e⟩ := inv.from_ y hy
            exact List.mem_map.mpr ⟨s, hs, e⟩
          rw [List.length_map, List.length_take] at h1
          omega
        refine ⟨_, rfl, sD 8 hN (d := D.tup (encN (keyOf rows κ x))) (by
          rw [← ekey]
          refine pv_catT (pv_tup (pvs_one (vd_getI (PL.Room.u1 hr) (ov 3) (dv 4) rfl rfl rfl (tabI_at hxm))) rfl (by simp)) (bTuple C.b (pv_mapL (f := fun g => .int (κ g : Nat)) (emb := fun (n : Nat) => D.int (n : Int)) [("goal", 9)] (.one 9) rfl hN (pid_tup (pv_ix (dv 0) (dv 4) True.intro rfl rfl (rows_at hrow))) rfl (tb1 9 hN) (fun g hg => ⟨_, rfl, fun s H C2 cl fp => vd_getI (PL.Room.u1 hr) (ov 3) (dv 9) rfl rfl rfl (tabI_at (re.cl x hxm r hrow g hg))⟩) (by omega))) ?_
          rw [List.length_map, List.length_singleton]; omega) ?_⟩
        refine ds_if (fun S => ∃ c4 ks2 i, S = ⟨[some (.dat (encRows rows)), some (.dat (encB es)), some (.dat (.lst (encN L))), some (.dicI (tabI κ L)), c4, some (.dat (.int (many : Nat))), some (.dicN (idxT nk ks2)), some (.dicI (tabI ν (L.take k))), some (.dat (D.tup (encN (keyOf rows κ x)))), none], none⟩ ∧ c4 = some (.dat (.int (x : Nat))) ∧ ks2.Nodup ∧ ks2[i]? = some (keyOf rows κ x) ∧ KInv rows κ (L.take (k + 1)) ks2 (fun y => if y = x then i else ν y)) (tCd (cd_notInN (PL.Room.u9 hr) (dv 8) (ov 6) rfl (keyable_encN _))) (fun hz => ?_) (fun hz => ds_nil ?_) ?_
        · rw [Bool.not_eq_true'] at hz
          have hnew : keyOf rows κ x ∉ ks := fun hm => by
            have := (idxT_some nk_inj inv.nd).mpr hm
            have hz' : (aget (idxT nk ks) (nk (keyOf rows κ x))).isSome = false := hz
            rw [this] at hz'; exact nomatch hz'
          have inv2 := inv.new hx hnew
          rw [← htk] at inv2
          refine ds_putN (i := 6) (PL.Room.u9 hr) (pv_lenN rfl C.b.len (ov 6) rfl) (ov 6) (dv 8) rfl (keyable_encN _) (by rw [idxT_length]; omega) (ds_nil ⟨_, ks ++ [keyOf rows κ x], ks.length, ?_, rfl, nodup_snoc inv.nd hnew, by simp, inv2⟩)
          rw [idxT_length]
          have e := idxT_snoc nk_inj hnew
          rw [← e]
          rfl
        · rw [Bool.not_eq_false'] at hz
          have hmem : keyOf rows κ x ∈ ks := (idxT_some nk_inj inv.nd).mp hz
          obtain ⟨i, hi, e⟩ := List.getElem_of_mem hmem
          have hi2 : ks[i]? = some (keyOf rows κ x) := by rw [List.getElem?_eq_getElem hi, e]
          have inv2 := inv.old hx hi2
          rw [← htk] at inv2
          exact ⟨_, ks, i, rfl, rfl, inv.nd, hi2, inv2⟩
        · rintro S ⟨c4, ks2, i, rfl, rfl, nd2, hi2, inv2⟩
          refine ds_putI (d := D.int (i : Nat)) (i := 7) (PL.Room.u1 hr) (vd_getN (PL.Room.u9 hr) (ov 6) (dv 8) rfl rfl (keyable_encN _) (idxT_at nk_inj nd2 hi2)) (ov 7) (dv 4) rfl (by unfold tabI; rw [funT_length, List.length_take]; omega) (ds_nil ⟨some (.dat (D.tup (encN (keyOf rows κ x)))), some (.dat (.int (x : Nat))), ks2, _, ?_, inv2⟩)
          rw [htk, ← tabI_upd hx]
          rfl
      · rintro S ⟨c8, c4, ks, ν, h, inv⟩
        rw [List.take_length] at h inv
        exact ⟨c8, c4, ks, ν, h, inv⟩
      · rintro S ⟨c8, c4, ks, ν, rfl, inv⟩
        have hks : ks.length ≤ L.length := by
          have h1 := nodup_le inv.nd (M := L.map (keyOf rows κ)) fun y hy => by
            obtain ⟨s, hs, e⟩ := inv.from_ y hy
            exact List.mem_map.mpr ⟨s, hs, e⟩
          rw [List.length_map] at h1
          exact h1
        have hk0 : 0 < ks.length := by
          have := inv.many.lt 0 (List.mem_of_getElem? re.hd)
          omega
        refine ds_when (tCd (cd_eqI (pv_lenN rfl C.b.len (ov 6) rfl) (dv 5))) (fun hz => ds_ret (PV.frzOI (ov 3)) ⟨rfl, κ, rfl, hends, fun s t hs ht e => ?_⟩) fun hz => ?_
        · have hlen : ks.length = many := by
            have := of_decide_eq_true hz
            rw [idxT_length] at this; omega
          rcases hmany with h0 | hm
          · omega
          · exact inv.stable hm hlen hs ht e
        · have hlen : ks.length ≠ many := fun e => by
            have := of_decide_eq_false hz
            rw [idxT_length] at this; omega
          have hgt : many < ks.length := by
            rcases hmany with h0 | hm
            · omega
            · have := cover_le (inv.heads hm)
              rw [List.length_map] at this; omega
          refine sM 3 7 (by decide) hN (ov 7) rfl rfl (sD 5 hN (pv_lenN rfl C.b.len (ov 6) rfl) (ds_nil ⟨L.length - ks.length, by omega, ν, ks.length, c4, some (.dicN (idxT nk ks)), c8, ?_, fun s t hs ht e => hends s t hs ht (inv.finer hs ht e), .inr inv.many, hks, rfl⟩))
          rw [idxT_length]
          rfl
end
end K75
namespace K75
open PySem PySem.Spec PyProof.Rows L2 PL

def encM (w : Nat) (rows : List (List Nat)) (es : List Bool) : D := .tup [.int (w : Nat), encRows rows, encB es]
structure MOk (w : Nat) (rows : List (List Nat)) (es : List Bool) : Prop where
  ok : RowsOk rows
  es : es.length = rows.length
  cols : ∀ r ∈ rows, r.length = 2 ^ w
  w6 : w ≤ 6
/-- what φ maps of the first machine is the second -/
structure Sim (rows : List (List Nat)) (es : List Bool) (rows' : List (List Nat)) (es' : List Bool) (T : Nat → Prop) (φ : Nat → Nat) : Prop where
  t0 : T 0
  z : φ 0 = 0
  row : ∀ s, T s → ∃ r, rows[s]? = some r ∧ rows'[φ s]? = some (r.map φ) ∧ ∀ g ∈ r, T g
  ends : ∀ s, T s → ∃ b, es[s]? = some b ∧ es'[φ s]? = some b
structure LInv (rows : List (List Nat)) (κ rep : Nat → Nat) (L ks line : List Nat) (rws : List (List Nat)) : Prop where
  nd : line.Nodup
  hd : line[0]? = some (κ 0)
  sub : ∀ k ∈ line, k ∈ ks
  le : rws.length ≤ line.length
  row : ∀ (j k : Nat), j < rws.length → line[j]? = some k → ∃ (r row : List Nat), rows[rep k]? = some r ∧ rws[j]? = some row ∧ row.length = r.length ∧ ∀ (i g : Nat), r[i]? = some g → ∃ n : Nat, row[i]? = some n ∧ line[n]? = some (κ g)
theorem LInv.grow {rows : List (List Nat)} {κ rep : Nat → Nat} {L ks line : List Nat} {rws : List (List Nat)} {k : Nat} (h : LInv rows κ rep L ks line rws) (hk : k ∉ line) (hks : k ∈ ks) : LInv rows κ rep L ks (line ++ [k]) rws where
  nd := nodup_snoc h.nd hk
  hd := by rw [List.getElem?_append_left (List.getElem?_eq_some_iff.mp h.hd).1]; exact h.hd
  sub := fun x hx => by
    rcases List.mem_append.mp hx with hx | hx
    · exact h.sub x hx
    · rw [List.mem_singleton.mp hx]; exact hks
  le := by have := h.le; rw [List.length_append]; omega
  row := fun j x hj hx => by
    have hle := h.le
    rw [List.getElem?_append_left (by omega)] at hx
    obtain ⟨r, row, a, b, c, d⟩ := h.row j x hj hx
    refine ⟨r, row, a, b, c, fun i g hg => ?_⟩
    obtain ⟨n, e1, e2⟩ := d i g hg
    exact ⟨n, e1, by rw [List.getElem?_append_left (List.getElem?_eq_some_iff.mp e2).1]; exact e2⟩
theorem idxOf_at {l : List Nat} {n x : Nat} (hn : l.Nodup) (h : l[n]? = some x) : l.idxOf x = n := by
  have hm := List.mem_of_getElem? h
  have h1 : l[l.idxOf x]? = some x := by
    rw [List.getElem?_eq_getElem (List.idxOf_lt_length_of_mem hm), List.getElem_idxOf]
  exact (List.getElem?_inj (List.getElem?_eq_some_iff.mp h1).1 hn).mp (h1.trans h.symm)
section
variable {P : Program} {w : World} {K : PySem.W.Frag} {mg : Str → Option Value} {base : Heap}
abbrev LeastPost (i : Nat × List (List Nat) × List Bool) (d : D) : Prop := ∃ rows' es' T φ, d = encM i.1 rows' es' ∧ MOk i.1 rows' es' ∧ rows'.length ≤ i.2.1.length ∧ Sim i.2.1 i.2.2 rows' es' T φ
theorem least_end {W : Nat} {rows : List (List Nat)} {es : List Bool} {L ks line : List Nat} {κ rep : Nat → Nat} {rws : List (List Nat)} (mo : MOk W rows es) (re : Reached rows L) (al : Alike rows es L κ) (hrep : ∀ k ∈ ks, rep k ∈ L ∧ κ (rep k) = k) (inv : LInv rows κ rep L ks line rws) (hlen : rws.length = line.length) :
    MOk W rws (line.map fun k => es.getD (rep k) false) ∧ rws.length ≤ rows.length ∧ Sim rows es rws (line.map fun k => es.getD (rep k) false) (fun s => s ∈ L ∧ κ s ∈ line) (fun s => line.idxOf (κ s)) := by
  have hd := inv.hd
  have hl0 : 0 < line.length := (List.getElem?_eq_some_iff.mp hd).1
  have hll : line.length ≤ L.length := by
    have := nodup_le inv.nd (M := L.map κ) fun k hk => by
      obtain ⟨h1, h2⟩ := hrep k (inv.sub k hk)
      exact List.mem_map.mpr ⟨rep k, h1, h2⟩
    rw [List.length_map] at this; exact this
  have hLn : L.length ≤ rows.length := nodup_lt re.nd re.lt
  have row_of : ∀ row ∈ rws, ∃ r ∈ rows, row.length = r.length ∧ ∀ (i g : Nat), r[i]? = some g → ∃ n : Nat, row[i]? = some n ∧ line[n]? = some (κ g) := fun row hrow => by
    obtain ⟨j, hj, e⟩ := List.getElem_of_mem hrow
    obtain ⟨r, row', a, b, c, d⟩ := inv.row j line[j] hj (List.getElem?_eq_getElem (by omega))
    rw [List.getElem?_eq_getElem hj, e] at b
    cases b
    exact ⟨r, List.mem_of_getElem? a, c, d⟩
  refine ⟨⟨⟨by omega, by have := mo.ok.big; omega, fun row hrow g hg => ?_, fun row hrow => ?_⟩, by rw [List.length_map, hlen], fun row hrow => ?_, mo.w6⟩, by omega, ⟨⟨List.mem_of_getElem? re.hd, List.mem_of_getElem? hd⟩, idxOf_at inv.nd hd, fun s ⟨hs, hk⟩ => ?_, fun s ⟨hs, hk⟩ => ?_⟩⟩
  · obtain ⟨r, hr, hl, h⟩ := row_of row hrow
    obtain ⟨i, hi, e⟩ := List.getElem_of_mem hg
    obtain ⟨n, h1, h2⟩ := h i r[i] (List.getElem?_eq_getElem (by omega))
    rw [List.getElem?_eq_getElem hi, e] at h1
    cases h1
    rw [hlen]
    exact (List.getElem?_eq_some_iff.mp h2).1
  · obtain ⟨r, hr, hl, _⟩ := row_of row hrow
    rw [hl]; exact mo.ok.wide r hr
  · obtain ⟨r, hr, hl, _⟩ := row_of row hrow
    rw [hl]; exact mo.cols r hr
  · obtain ⟨j, hj, e⟩ := List.getElem_of_mem hk
    have hjk : line[j]? = some (κ s) := by rw [List.getElem?_eq_getElem hj, e]
    obtain ⟨r, row, a, b, c, d⟩ := inv.row j (κ s) (by omega) hjk
    obtain ⟨h1, h2⟩ := hrep (κ s) (inv.sub _ hk)
    obtain ⟨rs, hrs⟩ : ∃ r, rows[s]? = some r := ⟨_, List.getElem?_eq_getElem (re.lt s hs)⟩
    have eg := al.goal (rep (κ s)) s h1 hs h2
    rw [List.getD_eq_getElem?_getD, List.getD_eq_getElem?_getD, a, hrs] at eg
    simp only [Option.getD_some] at eg
    have key : ∀ (i g : Nat), rs[i]? = some g → ∃ n : Nat, row[i]? = some n ∧ line[n]? = some (κ g) := fun i g hg => by
      have e1 : (r.map κ)[i]? = some (κ g) := by rw [eg, List.getElem?_map, hg]; rfl
      rw [List.getElem?_map] at e1
      cases q : r[i]? with
      | none => rw [q] at e1; cases e1
      | some g' =>
        rw [q] at e1
        have e2 : κ g' = κ g := Option.some.inj e1
        obtain ⟨n, h3, h4⟩ := d i g' q
        exact ⟨n, h3, by rw [h4, e2]⟩
    have hrl : row.length = rs.length := by
      have := congrArg List.length eg
      rw [List.length_map, List.length_map] at this
      omega
    refine ⟨rs, hrs, ?_, fun g hg => ?_⟩
    · show rws[line.idxOf (κ s)]? = _
      rw [idxOf_at inv.nd hjk, b]
      congr 1
      apply List.ext_getElem?
      intro i
      rw [List.getElem?_map]
      by_cases hi : i < rs.length
      · obtain ⟨n, h3, h4⟩ := key i rs[i] (List.getElem?_eq_getElem hi)
        rw [h3, List.getElem?_eq_getElem hi]
        show some n = some (line.idxOf (κ rs[i]))
        rw [idxOf_at inv.nd h4]
      · rw [List.getElem?_eq_none (by omega), List.getElem?_eq_none (by omega)]
        rfl
    · obtain ⟨i, hi, e⟩ := List.getElem_of_mem hg
      obtain ⟨n, h3, h4⟩ := key i g (by rw [List.getElem?_eq_getElem hi, e])
      exact ⟨re.cl s hs rs hrs g hg, List.mem_of_getElem? h4⟩
  · obtain ⟨j, hj, e⟩ := List.getElem_of_mem hk
    have hjk : line[j]? = some (κ s) := by rw [List.getElem?_eq_getElem hj, e]
    obtain ⟨h1, h2⟩ := hrep (κ s) (inv.sub _ hk)
    have ee := al.ends (rep (κ s)) s h1 hs h2
    obtain ⟨b, hb⟩ : ∃ b, es[s]? = some b := ⟨_, List.getElem?_eq_getElem (by rw [mo.es]; exact re.lt s hs)⟩
    refine ⟨b, hb, ?_⟩
    show (line.map fun k => es.getD (rep k) false)[line.idxOf (κ s)]? = some b
    rw [idxOf_at inv.nd hjk, List.getElem?_map, hjk]
    show some (es.getD (rep (κ s)) false) = some b
    rw [List.getD_eq_getElem?_getD, ee, hb]
    rfl
theorem zip_fs {α β : Type} : ∀ l : List (α × β), (l.map (·.1)).zip (l.map (·.2)) = l
  | [] => rfl
  | p :: l => by simp [zip_fs l]
theorem tabI_some {ν : Nat → Nat} {s : Nat} {M : List Nat} : (aget (tabI ν M) (s : Int)).isSome = true ↔ s ∈ M := by
  constructor
  · intro h
    apply Classical.byContradiction
    intro hne
    have := funT_none (f := natI) (g := fun s => D.int (ν s : Nat)) nat_int_inj hne
    have h' : (aget (funT natI (fun s => D.int (ν s : Nat)) M) (natI s)).isSome = true := h
    rw [this] at h'
    exact nomatch h'
  · intro h
    rw [tabI_at h]; rfl
theorem encN_snoc (L : List Nat) (g : Nat) : encN (L ++ [g]) = encN L ++ [D.int (g : Nat)] := by unfold encN; rw [List.map_append]; rfl
theorem ok_least_of (C : Cst K mg) (F : DefOk K mg "least_of" "least_of" H75.sLeastOf)
    (G1 : GFr P w K mg base 1 "reached_of" 1 (fun rows : List (List Nat) => [encRows rows]) RowsOk (fun rows d => ∃ L, d = .lst (encN L) ∧ Reached rows L))
    (G2 : GFr P w K mg base 1 "kinds_of" 3 (fun i : List (List Nat) × List Bool × List Nat => [encRows i.1, encB i.2.1, .lst (encN i.2.2)])
      (fun i => RowsOk i.1 ∧ i.2.1.length = i.1.length ∧ Reached i.1 i.2.2) (fun i d => ∃ κ, d = .dic ((tabI κ i.2.2).map (·.1)) ((tabI κ i.2.2).map (·.2)) ∧ Alike i.1 i.2.1 i.2.2 κ)) :
    GFr P w K mg base 2 "least_of" 1 (fun i : Nat × List (List Nat) × List Bool => [encM i.1 i.2.1 i.2.2]) (fun i => MOk i.1 i.2.1 i.2.2) LeastPost := by
  refine gfr_of (ps := ["machine"]) (N := ["machine", "width", "steps", "ends", "states", "kinds", "firsts", "state", "line", "numbers", "rows", "row", "goal", "kind"]) F ⟨rfl, rfl, rfl, by decide +kernel, rfl, by decide +kernel, by decide +kernel⟩ (fun _ => rfl) (fun _ _ _ _ _ _ us hl => match us, hl with | [_], _ => rfl) fun f cdv A outer s H E i hr hi => ?_
  obtain ⟨W, rows, es⟩ := i
  have mo : MOk W rows es := hi
  have hN : (["machine", "width", "steps", "ends", "states", "kinds", "firsts", "state", "line", "numbers", "rows", "row", "goal", "kind"] : List Str).Nodup := by decide +kernel
  have ok := mo.ok
  have hbig := ok.big
  have hu := PL.Room.u1 hr
  refine ds_unpack (is := [1, 2, 3]) hN rfl (tgs_one 1 rfl (.inl rfl) (tgs_one 2 rfl (.inl rfl) (tgs_one 3 rfl (.inr rfl) .nil (.inl rfl)))) rfl (dv 0) ?_
  refine sC 4 rows hN G1 hr (by omega) (pvs_one (dv 2)) rfl ok ?_
  rintro d ⟨L, rfl, re⟩
  refine sC 5 (rows, es, L) hN G2 hr (by omega) (pvs_cons (dv 2) (pvs_cons (dv 3) (pvs_one (dv 4)))) rfl ⟨ok, mo.es, re⟩ ?_
  rintro d ⟨κ, rfl, al⟩
  have kget : ∀ {s : Nat}, s ∈ L → aget (((tabI κ L).map (·.1)).zip ((tabI κ L).map (·.2))) (s : Int) = some (D.int (κ s : Nat)) := fun hs => by rw [zip_fs]; exact tabI_at hs
  have hLn : L.length ≤ rows.length := nodup_lt re.nd re.lt
  have h0L := List.mem_of_getElem? re.hd
  let kd : D := .dic ((tabI κ L).map (·.1)) ((tabI κ L).map (·.2))
  refine sN 6 hN pv_dnewI ?_
  let S0 := fun (ks : List Nat) (rep : Nat → Nat) (c : Option Sl) => (⟨[some (.dat (encM W rows es)), some (.dat (.int (W : Nat))), some (.dat (encRows rows)), some (.dat (encB es)), some (.dat (.lst (encN L))), some (.dat kd), some (.dicI (tabI rep ks)), c, none, none, none, none, none, none], none⟩ : PSt)
  refine ds_forL (L := L) (emb := fun (n : Nat) => D.int (n : Int)) (.one 7) (fun k S => ∃ ks rep c, S = S0 ks rep c ∧ ks.Nodup ∧ (∀ x ∈ ks, rep x ∈ L ∧ κ (rep x) = x) ∧ ∀ s ∈ L.take k, κ s ∈ ks)
    (fun S => ∃ ks rep c, S = S0 ks rep c ∧ ks.Nodup ∧ (∀ x ∈ ks, rep x ∈ L ∧ κ (rep x) = x) ∧ ∀ s ∈ L, κ s ∈ ks) PassesOwn.never rfl (pid_lst (dv 4)) (tl1 7 hN) ⟨[], fun _ => 0, none, rfl, by simp, by simp, by simp⟩ ?_ ?_ ?_
  · rintro k x S hk ⟨ks, rep, c, rfl, nd, hrep, hpre⟩
    have hxm := List.mem_of_getElem? hk
    have htk : L.take (k + 1) = L.take k ++ [x] := by rw [List.take_add_one, hk]; rfl
    have hksl : ks.length ≤ L.length := by
      have := nodup_le nd (M := L.map κ) fun y hy => List.mem_map.mpr ⟨rep y, (hrep y hy).1, (hrep y hy).2⟩
      rw [List.length_map] at this; exact this
    refine ⟨_, rfl, ds_when (tCd (cd_notInI hu (vd_getI hu (dv 5) (dv 7) True.intro rfl rfl (kget hxm)) (ov 6) rfl rfl)) (fun hz => ?_) (fun hz => ds_nil ⟨ks, rep, _, rfl, nd, hrep, fun s hs => ?_⟩)⟩
    · have hnew : κ x ∉ ks := fun hm => by rw [tabI_some.mpr hm] at hz; exact nomatch hz
      refine ds_putI (i := 6) hu (dv 7) (ov 6) (vd_getI hu (dv 5) (dv 7) True.intro rfl rfl (kget hxm)) rfl (by unfold tabI; rw [funT_length]; omega) (ds_nil (ds_nil ⟨ks ++ [κ x], fun y => if y = κ x then x else rep y, some (.dat (.int (x : Nat))), ?_, nodup_snoc nd hnew, fun y hy => ?_, fun s hs => ?_⟩))
      · simp only [S0]
        rw [← tabI_upd hnew]
        rfl
      · by_cases e : y = κ x
        · simp only [e, if_pos]; exact ⟨hxm, trivial⟩
        · simp only [e, if_false]
          rcases List.mem_append.mp hy with hy | hy
          · exact hrep y hy
          · exact absurd (List.mem_singleton.mp hy) e
      · rw [htk] at hs
        rcases List.mem_append.mp hs with hs | hs
        · exact List.mem_append_left _ (hpre s hs)
        · rw [List.mem_singleton.mp hs]; simp
    · rw [htk] at hs
      rcases List.mem_append.mp hs with hs | hs
      · exact hpre s hs
      · rw [List.mem_singleton.mp hs]
        rw [Bool.not_eq_false'] at hz
        exact tabI_some.mp hz
  · rintro S ⟨ks, rep, c, rfl, nd, hrep, hpre⟩
    exact ⟨ks, rep, c, rfl, nd, hrep, fun s hs => hpre s (by rw [List.take_length]; exact hs)⟩
  · rintro S ⟨ks, rep, c7, rfl, ndk, hrep, hks⟩
    refine sN 8 hN (pv_lst (pvs_one (vd_getI (k := ((0 : Nat) : Int)) hu (dv 5) pv_int True.intro rfl rfl (kget h0L))) rfl (by simp)) (sN 9 hN (pv_dispI (vd_getI (k := ((0 : Nat) : Int)) hu (dv 5) pv_int True.intro rfl rfl (kget h0L)) pv_int) (sN 10 hN (pv_lst pvs_nil rfl) ?_))
    let S2 := fun (line : List Nat) (rws : List (List Nat)) (c11 c12 : Option Sl) (c13 : Option D) => (⟨[some (.dat (encM W rows es)), some (.dat (.int (W : Nat))), some (.dat (encRows rows)), some (.dat (encB es)), some (.dat (.lst (encN L))), some (.dat kd), some (.dicI (tabI rep ks)), c7, some (.lst (encN line)), some (.dicI (idxT natI line)), some (.lst (rws.map fun r => .tup (encN r))), c11, c12, c13.map Sl.dat], none⟩ : PSt)
    have lineL : ∀ {line : List Nat}, line.Nodup → (∀ k ∈ line, k ∈ ks) → line.length ≤ L.length := fun hnd hsub => by
      have := nodup_le hnd (M := L.map κ) fun y hy => List.mem_map.mpr ⟨rep y, (hrep y (hsub y hy)).1, (hrep y (hsub y hy)).2⟩
      rw [List.length_map] at this; exact this
    refine ds_while (fun m S => ∃ line rws c11 c12 c13, S = S2 line rws c11 c12 c13 ∧ LInv rows κ rep L ks line rws ∧ m = L.length - rws.length) (fun S => ∃ line rws c11 c12 c13, S = S2 line rws c11 c12 c13 ∧ LInv rows κ rep L ks line rws ∧ rws.length = line.length) (m0 := L.length) PassesOwn.never
      ⟨[κ 0], [], none, none, none, rfl, ⟨by simp, rfl, fun k hk => by rw [List.mem_singleton.mp hk]; exact hks 0 h0L, by simp, fun j k hj => absurd hj (by simp)⟩, by simp⟩ ?_ ?_
    · rintro m S ⟨line, rws, c11, c12, c13, rfl, inv, rfl⟩
      have hle := inv.le
      refine ⟨_, _, tCd (cd_lt (bLen C.b (ov 10)) (bLen C.b (ov 8))), fun hz => ?_, fun hz => ?_⟩
      · have hlt : rws.length < line.length := by
          have := of_decide_eq_true hz
          rw [encN_length, List.length_map] at this; omega
        have hll := lineL inv.nd inv.sub
        obtain ⟨k, hk⟩ : ∃ k, line[rws.length]? = some k := ⟨_, List.getElem?_eq_getElem hlt⟩
        have hkk := inv.sub k (List.mem_of_getElem? hk)
        obtain ⟨hrL, hrk⟩ := hrep k hkk
        obtain ⟨r, hrow⟩ : ∃ r, rows[rep k]? = some r := ⟨_, List.getElem?_eq_getElem (re.lt _ hrL)⟩
        have hrm := List.mem_of_getElem? hrow
        have hwide := ok.wide r hrm
        refine sN 11 hN (pv_lst pvs_nil rfl) ?_
        refine ds_forL (L := r) (emb := fun (n : Nat) => D.int (n : Int)) (.one 12) (fun j S => ∃ line2 row c12 c13, S = S2 line2 rws (some (.lst (encN row))) c12 c13 ∧ LInv rows κ rep L ks line2 rws ∧ rws.length < line2.length ∧ line2[rws.length]? = some k ∧ row.length = j ∧ ∀ (i g : Nat), (r.take j)[i]? = some g → ∃ n : Nat, row[i]? = some n ∧ line2[n]? = some (κ g))
          (fun S => ∃ line2 row c12 c13, S = S2 line2 rws (some (.lst (encN row))) c12 c13 ∧ LInv rows κ rep L ks line2 rws ∧ rws.length < line2.length ∧ line2[rws.length]? = some k ∧ row.length = r.length ∧ ∀ (i g : Nat), r[i]? = some g → ∃ n : Nat, row[i]? = some n ∧ line2[n]? = some (κ g)) PassesOwn.never rfl
          (pid_tup (pv_ix (dv 2) (vd_getI hu (ov 6) (pv_ix (ov 8) (bLen C.b (ov 10)) rfl rfl rfl (by rw [List.length_map]; exact encN_at hk)) rfl rfl rfl (tabI_at hkk)) True.intro rfl rfl (rows_at hrow))) (tl1 12 hN) ⟨line, [], c12, c13, rfl, inv, hlt, hk, rfl, fun i g hg => by simp at hg⟩ ?_ ?_ ?_
        · rintro j g S hj ⟨line2, row, c12, c13, rfl, inv2, hlt2, hk2, hrl, hpre⟩
          have hg : g ∈ r := List.mem_of_getElem? hj
          have hgL := re.cl _ hrL r hrow g hg
          have htk : r.take (j + 1) = r.take j ++ [g] := by rw [List.take_add_one, hj]; rfl
          have hjr := (List.getElem?_eq_some_iff.mp hj).1
          have step : ∀ {line3 : List Nat} {n : Nat}, (∀ (i x : Nat), line2[i]? = some x → line3[i]? = some x) → line3[n]? = some (κ g) → ∀ (i y : Nat), (r.take (j + 1))[i]? = some y → ∃ n' : Nat, (row ++ [n])[i]? = some n' ∧ line3[n']? = some (κ y) := fun {line3 n} hext hn i y hy => by
            rw [htk] at hy
            by_cases hi : i < (r.take j).length
            · rw [List.getElem?_append_left hi] at hy
              obtain ⟨n', h1, h2⟩ := hpre i y hy
              exact ⟨n', by rw [List.getElem?_append_left (List.getElem?_eq_some_iff.mp h1).1]; exact h1, hext _ _ h2⟩
            · rw [List.getElem?_append_right (by omega)] at hy
              have hi2 : i = j := by
                have := (List.getElem?_eq_some_iff.mp hy).1
                rw [List.length_take] at this hi
                simp at this; omega
              subst hi2
              have : y = g := by
                rw [List.length_take, show i - min i r.length = 0 by omega] at hy
                simpa using hy.symm
              subst this
              exact ⟨n, by rw [List.getElem?_append_right (by omega)]; simp [hrl], hn⟩
          refine ⟨_, rfl, sD 13 hN (vd_getI hu (dv 5) (dv 12) True.intro rfl rfl (kget hgL)) ?_⟩
          refine ds_if (fun S => ∃ (line3 : List Nat) (n : Nat), S = S2 line3 rws (some (.lst (encN row))) (some (.dat (.int (g : Nat)))) (some (.int (κ g : Nat))) ∧ LInv rows κ rep L ks line3 rws ∧ rws.length < line3.length ∧ line3[rws.length]? = some k ∧ (∀ (i x : Nat), line2[i]? = some x → line3[i]? = some x) ∧ line3[n]? = some (κ g)) (tCd (cd_notInI hu (dv 13) (ov 9) rfl rfl)) (fun hz => ?_) (fun hz => ds_nil ?_) ?_
          · have hnew : κ g ∉ line2 := fun hm => by
              have := (idxT_some (f := natI) nat_int_inj inv2.nd).mpr hm
              have hz' : (!(aget (idxT natI line2) (natI (κ g))).isSome) = true := hz
              rw [this] at hz'; exact nomatch hz'
            have hl2 := lineL inv2.nd inv2.sub
            refine ds_putI (i := 9) hu (bLen C.b (ov 8)) (ov 9) (dv 13) rfl (by rw [idxT_length]; omega) (ds_app (i := 8) (ov 8) (dv 13) rfl (by rw [encN_length]; omega) rfl (ds_nil ⟨line2 ++ [κ g], line2.length, ?_, inv2.grow hnew (hks g hgL), by rw [List.length_append]; omega, by rw [List.getElem?_append_left hlt2]; exact hk2, fun i x hx => by rw [List.getElem?_append_left (List.getElem?_eq_some_iff.mp hx).1]; exact hx, by simp⟩))
            simp only [S2]
            rw [encN_snoc, encN_length, ← idxT_snoc (f := natI) nat_int_inj hnew]
            rfl
          · rw [Bool.not_eq_false'] at hz
            have hmem : κ g ∈ line2 := (idxT_some (f := natI) nat_int_inj inv2.nd).mp hz
            obtain ⟨n, hn, e⟩ := List.getElem_of_mem hmem
            exact ⟨line2, n, rfl, inv2, hlt2, hk2, fun _ _ h => h, by rw [List.getElem?_eq_getElem hn, e]⟩
          · rintro S ⟨line3, n, rfl, inv3, hlt3, hk3, hext, hn⟩
            refine ds_app (i := 11) (ov 11) (vd_getI (d := .int (n : Nat)) hu (ov 9) (dv 13) rfl rfl rfl (idxT_at (f := natI) nat_int_inj inv3.nd hn)) rfl (by rw [encN_length]; omega) rfl (ds_nil ⟨line3, row ++ [n], some (.dat (.int (g : Nat))), some (.int (κ g : Nat)), ?_, inv3, hlt3, hk3, by rw [List.length_append, hrl]; rfl, step hext hn⟩)
            simp only [S2]
            rw [encN_snoc]
            rfl
        · rintro S ⟨line2, row, c12, c13, rfl, inv2, hlt2, hk2, hrl, hpre⟩
          rw [List.take_length] at hpre
          exact ⟨line2, row, c12, c13, rfl, inv2, hlt2, hk2, hrl, hpre⟩
        · rintro S ⟨line2, row, c12, c13, rfl, inv2, hlt2, hk2, hrl, hpre⟩
          have hll2 := lineL inv2.nd inv2.sub
          refine ds_app (i := 10) (ov 10) (bTuple C.b (ov 11)) rfl (by rw [List.length_map]; omega) rfl (ds_nil ⟨L.length - (rws.length + 1), by omega, line2, rws ++ [row], some (.lst (encN row)), c12, c13, ?_, ⟨inv2.nd, inv2.hd, inv2.sub, by rw [List.length_append]; simp; omega, fun j x hj hx => ?_⟩, by rw [List.length_append]; rfl⟩)
          · simp only [S2]
            rw [List.map_append]
            rfl
          · by_cases e : j = rws.length
            · subst e
              rw [hk2] at hx
              cases hx
              exact ⟨r, row, hrow, by simp, hrl, hpre⟩
            · rw [List.length_append] at hj
              simp at hj
              obtain ⟨r', row', a, b, c, d⟩ := inv2.row j x (by omega) hx
              exact ⟨r', row', a, by rw [List.getElem?_append_left (by omega)]; exact b, c, d⟩
      · refine ⟨line, rws, c11, c12, c13, rfl, inv, ?_⟩
        have := of_decide_eq_false hz
        rw [encN_length, List.length_map] at this; omega
    · rintro S ⟨line, rws, c11, c12, c13, rfl, inv, hlen⟩
      obtain ⟨mo', hle', sim⟩ := least_end mo re al hrep inv hlen
      have hll := lineL inv.nd inv.sub
      refine ds_ret (S1 := S2 line rws c11 c12 c13) (d := encM W rws (line.map fun k => es.getD (rep k) false)) ?_ ⟨rfl, rws, _, _, _, rfl, mo', hle', sim⟩
      have e : encB (line.map fun k => es.getD (rep k) false) = .tup (line.map fun k => .bl (es.getD (rep k) false)) := by unfold encB; rw [List.map_map]; rfl
      unfold encM
      rw [e]
      refine pv_tup (pvs_cons (dv 1) (pvs_cons (bTuple C.b (ov 10)) (pvs_one (bTuple C.b (pv_mapO (i := 8) (f := fun k => .bl (es.getD (rep k) false)) (emb := fun (n : Nat) => D.int (n : Int)) [("kind", 13)] (.one 13) rfl hN (pio_lst (ov 8) rfl) rfl rfl (tb1 13 hN) (fun k hk => ⟨_, rfl, fun s H C2 cl fp => ?_⟩) (by omega) (by cases c13 <;> rfl)))))) rfl
      obtain ⟨h1, h2⟩ := hrep k (inv.sub k hk)
      have hlt := re.lt _ h1
      refine pv_ix (dv 3) (vd_getI hu (ov 6) (dv 13) rfl rfl rfl (tabI_at (inv.sub k hk))) True.intro rfl rfl (encB_at ?_)
      rw [List.getD_eq_getElem?_getD, List.getElem?_eq_getElem (by rw [mo.es]; exact hlt)]
      rfl
end
end K75
namespace K75
open PySem PySem.Spec PyProof.Rows L2 PL

theorem encN_map {α : Type} (l : List α) (g : α → Nat) : encN (l.map g) = l.map fun x => D.int (g x : Nat) := by unfold encN; rw [List.map_map]; rfl
theorem encRows_map {α : Type} (l : List α) (g : α → List Nat) : encRows (l.map g) = .tup (l.map fun x => .tup (encN (g x))) := by unfold encRows; rw [List.map_map]; rfl
theorem encB_map {α : Type} (l : List α) (g : α → Bool) : encB (l.map g) = .tup (l.map fun x => .bl (g x)) := by unfold encB; rw [List.map_map]; rfl
theorem colf_lt : ∀ (ps : List Nat) (c : Nat), colf ps c < 2 ^ ps.length
  | [], c => by simp [colf]
  | p :: ps, c => by
    have := colf_lt ps c
    have h2 : bit c p < 2 := Nat.mod_lt _ (by decide)
    rw [List.length_cons, Nat.pow_succ, colf]
    omega
/-- the rows of a machine over more names -/
def widen (m : Nat) (ps : List Nat) (rows : List (List Nat)) : List (List Nat) := rows.map fun r => ((List.range (2 ^ m)).map (colf ps)).map fun c => r.getD c 0
theorem widen_ok {W m : Nat} {ps : List Nat} {rows : List (List Nat)} {es : List Bool} (mo : MOk W rows es) (hm : m ≤ 6) (hl : ps.length = W) : MOk m (widen m ps rows) es := by
  have h64 : 2 ^ m ≤ 64 := Nat.le_trans (Nat.pow_le_pow_right (by omega) hm) (by decide)
  have hrow : ∀ r ∈ widen m ps rows, ∃ r0 ∈ rows, r = ((List.range (2 ^ m)).map (colf ps)).map fun c => r0.getD c 0 := fun r hr => by
    obtain ⟨r0, h0, e⟩ := List.mem_map.mp hr
    exact ⟨r0, h0, e.symm⟩
  have hlen : (widen m ps rows).length = rows.length := List.length_map _
  refine ⟨⟨by rw [hlen]; exact mo.ok.pos, by rw [hlen]; exact mo.ok.big, fun r hr g hg => ?_, fun r hr => ?_⟩, by rw [hlen]; exact mo.es, fun r hr => ?_, hm⟩
  · obtain ⟨r0, h0, rfl⟩ := hrow r hr
    obtain ⟨c, hc, rfl⟩ := List.mem_map.mp hg
    obtain ⟨c0, _, rfl⟩ := List.mem_map.mp hc
    rw [hlen]
    refine mo.ok.goal r0 h0 _ ?_
    have : colf ps c0 < r0.length := by rw [mo.cols r0 h0, ← hl]; exact colf_lt ps c0
    rw [List.getD_eq_getElem?_getD, List.getElem?_eq_getElem this]
    exact List.getElem_mem this
  · obtain ⟨r0, h0, rfl⟩ := hrow r hr
    simp; omega
  · obtain ⟨r0, h0, rfl⟩ := hrow r hr
    simp
section
variable {P : Program} {w : World} {K : PySem.W.Frag} {mg : Str → Option Value} {base : Heap}
structure MA where
  w : Nat
  rows : List (List Nat)
  es : List Bool
abbrev MA.enc (M : MA) : D := encM M.w M.rows M.es
abbrev MA.ok (M : MA) : Prop := MOk M.w M.rows M.es
abbrev SpreadPost (i : MA × Nat × Bool × List Nat) (d : D) : Prop := ∃ rows' es' T φ, d = encM i.2.1 rows' es' ∧ MOk i.2.1 rows' es' ∧ rows'.length ≤ i.1.rows.length ∧ Sim (widen i.2.1 i.2.2.2 i.1.rows) i.1.es rows' es' T φ
abbrev SpreadPre (i : MA × Nat × Bool × List Nat) : Prop := i.1.ok ∧ i.2.1 ≤ 6 ∧ i.2.2.2.length = i.1.w ∧ ∀ p ∈ i.2.2.2, p < i.2.1
abbrev GColumns (P : Program) (w : World) (K : PySem.W.Frag) (mg : Str → Option Value) (base : Heap) : Prop := GFa P w K mg base 2 "columns_for" 2 (fun i : Nat × Bool × List Nat => [.int (i.1 : Nat), D.sq i.2.1 (encN i.2.2)]) (fun i => i.1 ≤ 6 ∧ (∀ p ∈ i.2.2, p < i.1) ∧ i.2.2.length ≤ 7) (fun i => .lst (encN ((List.range (2 ^ i.1)).map (colf i.2.2))))
abbrev GLeast (P : Program) (w : World) (K : PySem.W.Frag) (mg : Str → Option Value) (base : Heap) : Prop := GFr P w K mg base 2 "least_of" 1 (fun i : Nat × List (List Nat) × List Bool => [encM i.1 i.2.1 i.2.2]) (fun i => MOk i.1 i.2.1 i.2.2) LeastPost
abbrev GSpread (P : Program) (w : World) (K : PySem.W.Frag) (mg : Str → Option Value) (base : Heap) : Prop := GFr P w K mg base 3 "spread" 3 (fun i : MA × Nat × Bool × List Nat => [i.1.enc, .int (i.2.1 : Nat), D.sq i.2.2.1 (encN i.2.2.2)]) SpreadPre SpreadPost
theorem ok_spread (C : Cst K mg) (F : DefOk K mg "spread" "spread" H75.sSpread) (G1 : GColumns P w K mg base) (G2 : GLeast P w K mg base) : GSpread P w K mg base := by
  refine gfr_of (ps := ["machine", "many", "places"]) (N := ["machine", "many", "places", "columns", "rows", "row", "column"]) F ⟨rfl, rfl, rfl, by decide +kernel, rfl, by decide +kernel, by decide +kernel⟩ (fun _ => rfl) (fun _ _ _ _ _ _ us hl => match us, hl with | [_, _, _], _ => rfl) fun f cdv A outer s H E i hr hi => ?_
  obtain ⟨⟨W, rows, es⟩, m, t, ps⟩ := i
  obtain ⟨mo, hm, hpl, hps⟩ := (show MOk W rows es ∧ m ≤ 6 ∧ ps.length = W ∧ ∀ p ∈ ps, p < m from hi)
  have hN : (["machine", "many", "places", "columns", "rows", "row", "column"] : List Str).Nodup := by decide +kernel
  have hw6 := mo.w6
  have h64 : 2 ^ m ≤ 64 := Nat.le_trans (Nat.pow_le_pow_right (by omega) hm) (by decide)
  have hbig := mo.ok.big
  refine sD 3 hN (pv_callA (m, t, ps) G1 hr (by omega) (pvs_cons (dv 1) (pvs_one (dv 2))) rfl ⟨hm, hps, by show ps.length ≤ 7; omega⟩) ?_
  refine sL 4 (L := rows) (emb := fun r => .tup (encN r)) (f := fun r => .tup (((List.range (2 ^ m)).map (colf ps)).map fun c => D.int (r.getD c 0 : Nat))) [("row", 5)] (.one 5) rfl hN (pid_tup (pv_ix (dv 0) pv_int True.intro rfl rfl rfl)) rfl (tb1 5 hN) (fun r hrm => ⟨_, rfl, fun s H C2 cl fp => ?_⟩) (by omega) ?_
  · refine bTuple C.b (PV.frz (pv_mapL (L := (List.range (2 ^ m)).map (colf ps)) (emb := fun (n : Nat) => D.int (n : Int)) (f := fun c => D.int (r.getD c 0 : Nat)) [("column", 6)] (.one 6) rfl hN (pid_lst (dv 3)) rfl (tb1 6 hN) (fun c hc => ⟨_, rfl, fun s H C2 cl fp => ?_⟩) (by simp; omega)))
    obtain ⟨c0, _, rfl⟩ := List.mem_map.mp hc
    have : colf ps c0 < r.length := by rw [mo.cols r hrm, ← hpl]; exact colf_lt ps c0
    refine pv_ix (dv 5) (dv 6) True.intro rfl rfl (encN_at ?_)
    rw [List.getD_eq_getElem?_getD, List.getElem?_eq_getElem this]
    rfl
  · have e : encRows (widen m ps rows) = .tup (rows.map fun r => .tup (((List.range (2 ^ m)).map (colf ps)).map fun c => D.int (r.getD c 0 : Nat))) := by
      unfold widen
      rw [encRows_map]
      congr 1
      exact List.map_congr_left fun r _ => by rw [encN_map]
    refine rC (m, widen m ps rows, es) G2 hr (by omega) (pvs_one (pv_tup (pvs_cons (dv 1) (pvs_cons (bTuple C.b (ov 4)) (pvs_one (pv_ix (d := encB es) (dv 0) pv_int True.intro rfl rfl rfl)))) rfl)) ?_ (widen_ok mo hm hpl) fun d hd => ⟨rfl, ?_⟩
    · show some [D.tup [_, _, _]] = some [encM m (widen m ps rows) es]
      unfold encM
      rw [e]
    · obtain ⟨rows', es', T, φ, h1, h2, h3, h4⟩ := hd
      exact ⟨rows', es', T, φ, h1, h2, by have : (widen m ps rows).length = rows.length := List.length_map _; rw [← this]; exact h3, h4⟩
theorem ok_opposite (C : Cst K mg) (F : DefOk K mg "opposite" "opposite" H75.sOpposite) : GFa P w K mg base 1 "opposite" 1 (fun i : MA => [i.enc]) (fun i => i.es.length ≤ 1000) (fun i => encM i.w i.rows (i.es.map fun b => !b)) := by
  refine gfa_of (ps := ["machine"]) (N := ["machine", "end"]) F ⟨rfl, rfl, rfl, by decide +kernel, rfl, by decide +kernel, by decide +kernel⟩ (fun _ => rfl) (fun _ _ _ _ _ _ us hl => match us, hl with | [_], _ => rfl) fun f cdv A outer s H E i hr hi => ?_
  obtain ⟨W, rows, es⟩ := i
  have hes : es.length ≤ 1000 := hi
  have hN : (["machine", "end"] : List Str).Nodup := by decide +kernel
  refine ds_ret (S1 := ⟨entry ["machine", "end"] [encM W rows es], none⟩) (d := encM W rows (es.map fun b => !b)) ?_ ⟨rfl, rfl⟩
  unfold encM
  rw [encB_map]
  exact pv_tup (pvs_cons (pv_ix (dv 0) pv_int True.intro rfl rfl rfl) (pvs_cons (pv_ix (dv 0) pv_int True.intro rfl rfl rfl) (pvs_one (bTuple C.b (pv_mapL (L := es) (emb := D.bl) (f := fun b => .bl (!b)) [("end", 1)] (.one 1) rfl hN (pid_tup (pv_ix (dv 0) pv_int True.intro rfl rfl rfl)) rfl (tb1 1 hN) (fun b hb => ⟨_, rfl, fun s H C2 cl fp => vd_not (dv 1)⟩) (by omega)))))) rfl
end
end K75
namespace K75
open PySem PySem.Spec PyProof.Rows L2 PL

/-! ### machines on words -/
def stp (rows : List (List Nat)) (s c : Nat) : Nat := (rows.getD s []).getD c 0
def run (rows : List (List Nat)) (W : List Nat) : Nat := W.foldl (stp rows) 0
/-- a word of columns below n -/
def Wd (n : Nat) (W : List Nat) : Prop := ∀ c ∈ W, c < n
theorem Wd.snoc {n c : Nat} {W : List Nat} (h : Wd n W) (hc : c < n) : Wd n (W ++ [c]) := fun x hx => by
  rcases List.mem_append.mp hx with hx | hx
  · exact h x hx
  · rw [List.mem_singleton.mp hx]; exact hc
theorem run_snoc (rows : List (List Nat)) (W : List Nat) (c : Nat) : run rows (W ++ [c]) = stp rows (run rows W) c := by unfold run; rw [List.foldl_append]; rfl
theorem stp_lt {W : Nat} {rows : List (List Nat)} {es : List Bool} (mo : MOk W rows es) {s c : Nat} (hs : s < rows.length) (hc : c < 2 ^ W) : stp rows s c < rows.length := by
  unfold stp
  rw [List.getD_eq_getElem?_getD, List.getD_eq_getElem?_getD, List.getElem?_eq_getElem hs]
  have hr := List.getElem_mem hs
  have : c < rows[s].length := by rw [mo.cols _ hr]; exact hc
  show ((some rows[s]).getD [])[c]?.getD 0 < _
  rw [Option.getD_some, List.getElem?_eq_getElem this]
  exact mo.ok.goal _ hr _ (List.getElem_mem this)
theorem run_lt {W : Nat} {rows : List (List Nat)} {es : List Bool} (mo : MOk W rows es) : ∀ {V : List Nat}, Wd (2 ^ W) V → run rows V < rows.length := by
  have key : ∀ (V : List Nat) (s : Nat), Wd (2 ^ W) V → s < rows.length → V.foldl (stp rows) s < rows.length := by
    intro V
    induction V with
    | nil => intro s _ h; exact h
    | cons c V ih => intro s hV h; exact ih _ (fun x hx => hV x (List.mem_cons_of_mem _ hx)) (stp_lt mo h (hV c (by simp)))
  exact fun {V} hV => key V 0 hV mo.ok.pos
/-- every pair that two machines reach by one word -/
def ReachP (n : Nat) (r1 r2 : List (List Nat)) (p : Nat × Nat) : Prop := ∃ W, Wd n W ∧ p = (run r1 W, run r2 W)
def np (p : Nat × Nat) : NestedKey := nk [p.1, p.2]
theorem np_inj : ∀ a b : Nat × Nat, np a = np b → a = b := fun a b h => by
  have := nk_inj _ _ h
  simp at this
  exact Prod.ext this.1 this.2
def encP (l : List (Nat × Nat)) : List D := l.map fun p => D.tup [.int (p.1 : Nat), .int (p.2 : Nat)]
structure PInv (n : Nat) (r1 r2 : List (List Nat)) (line : List (Nat × Nat)) (rws : List (List Nat)) : Prop where
  nd : line.Nodup
  hd : line[0]? = some (0, 0)
  rch : ∀ p ∈ line, ReachP n r1 r2 p
  le : rws.length ≤ line.length
  row : ∀ (j : Nat) (p : Nat × Nat), j < rws.length → line[j]? = some p → ∃ row : List Nat, rws[j]? = some row ∧ row.length = n ∧ ∀ c, c < n → ∃ m : Nat, row[c]? = some m ∧ line[m]? = some (stp r1 p.1 c, stp r2 p.2 c)
theorem PInv.grow {n : Nat} {r1 r2 : List (List Nat)} {line : List (Nat × Nat)} {rws : List (List Nat)} {p : Nat × Nat} (h : PInv n r1 r2 line rws) (hp : p ∉ line) (hr : ReachP n r1 r2 p) : PInv n r1 r2 (line ++ [p]) rws where
  nd := nodup_snoc h.nd hp
  hd := by rw [List.getElem?_append_left (List.getElem?_eq_some_iff.mp h.hd).1]; exact h.hd
  rch := fun x hx => by
    rcases List.mem_append.mp hx with hx | hx
    · exact h.rch x hx
    · rw [List.mem_singleton.mp hx]; exact hr
  le := by have := h.le; rw [List.length_append]; omega
  row := fun j x hj hx => by
    have hle := h.le
    rw [List.getElem?_append_left (by omega)] at hx
    obtain ⟨row, b, c, d⟩ := h.row j x hj hx
    refine ⟨row, b, c, fun i hi => ?_⟩
    obtain ⟨m, e1, e2⟩ := d i hi
    exact ⟨m, e1, by rw [List.getElem?_append_left (List.getElem?_eq_some_iff.mp e2).1]; exact e2⟩
structure Paired2 (n : Nat) (r1 r2 : List (List Nat)) (line : List (Nat × Nat)) (rws : List (List Nat)) : Prop where
  inv : PInv n r1 r2 line rws
  len : rws.length = line.length
  most : line.length ≤ 300
/-- no more than 300 pairs are reached -/
def Few (n : Nat) (r1 r2 : List (List Nat)) : Prop := ∀ ps : List (Nat × Nat), ps.Nodup → (∀ p ∈ ps, ReachP n r1 r2 p) → ps.length ≤ 300
section
variable {P : Program} {w : World} {K : PySem.W.Frag} {mg : Str → Option Value} {base : Heap}
abbrev PairPre (i : MA × MA) : Prop := i.1.ok ∧ i.2.ok ∧ i.2.w = i.1.w ∧ Few (2 ^ i.1.w) i.1.rows i.2.rows
abbrev GPairs (P : Program) (w : World) (K : PySem.W.Frag) (mg : Str → Option Value) (base : Heap) : Prop := GFr P w K mg base 1 "pairs_of" 3 (fun i : MA × MA => [i.1.enc, i.2.enc, .int 300]) PairPre (fun i d => ∃ line rws, d = .tup [.lst (encP line), encRows rws] ∧ Paired2 (2 ^ i.1.w) i.1.rows i.2.rows line rws)
theorem ok_pairs_of (C : Cst K mg) (F : DefOk K mg "pairs_of" "pairs_of" H75.sPairsOf) : GPairs P w K mg base := by
  refine gfr_of (ps := ["first", "second", "most"]) (N := ["first", "second", "most", "line", "numbers", "rows", "one", "other", "row", "column", "goal", "pair"]) F ⟨rfl, rfl, rfl, by decide +kernel, rfl, by decide +kernel, by decide +kernel⟩ (fun _ => rfl) (fun _ _ _ _ _ _ us hl => match us, hl with | [_, _, _], _ => rfl) fun f cdv A outer s H E i hr hi => ?_
  obtain ⟨⟨W, r1, e1⟩, ⟨W', r2, e2⟩⟩ := i
  obtain ⟨m1, m2, ew, few⟩ := (show MOk W r1 e1 ∧ MOk W' r2 e2 ∧ W' = W ∧ Few (2 ^ W) r1 r2 from hi)
  subst ew
  have hN : (["first", "second", "most", "line", "numbers", "rows", "one", "other", "row", "column", "goal", "pair"] : List Str).Nodup := by decide +kernel
  have hu := PL.Room.u1 hr
  have hu9 := PL.Room.u9 hr
  have h64 : 2 ^ W' ≤ 64 := Nat.le_trans (Nat.pow_le_pow_right (by omega) m1.w6) (by decide)
  refine sN 3 hN (pv_lst (pvs_one (pv_tup (pvs_cons pv_int (pvs_one pv_int)) rfl)) rfl) (sN 4 hN (pv_dispN hu9 (pv_tup (pvs_cons pv_int (pvs_one pv_int)) rfl) pv_int (keyable_encN [0, 0])) (sN 5 hN (pv_lst pvs_nil rfl) ?_))
  let St := fun (line : List (Nat × Nat)) (rws : List (List Nat)) (c6 c7 c8 c9 c10 c11 : Option Sl) => (⟨[some (.dat (encM W' r1 e1)), some (.dat (encM W' r2 e2)), some (.dat (.int 300)), some (.lst (encP line)), some (.dicN (idxT np line)), some (.lst (rws.map fun r => .tup (encN r))), c6, c7, c8, c9, c10, c11], none⟩ : PSt)
  have n300 : ∀ {line : List (Nat × Nat)} {rws : List (List Nat)}, PInv (2 ^ W') r1 r2 line rws → line.length ≤ 300 := fun h => few _ h.nd h.rch
  refine ds_while (fun m S => ∃ line rws c6 c7 c8 c9 c10 c11, S = St line rws c6 c7 c8 c9 c10 c11 ∧ PInv (2 ^ W') r1 r2 line rws ∧ m = 300 - rws.length) (fun S => ∃ line rws c6 c7 c8 c9 c10 c11, S = St line rws c6 c7 c8 c9 c10 c11 ∧ PInv (2 ^ W') r1 r2 line rws ∧ rws.length = line.length) (m0 := 300) PassesOwn.never
    ⟨[(0, 0)], [], none, none, none, none, none, none, rfl, ⟨by simp, rfl, fun p hp => ⟨[], fun c hc => by simp at hc, by rw [List.mem_singleton.mp hp]; rfl⟩, by simp, fun j p hj => absurd hj (by simp)⟩, by simp⟩ ?_ ?_
  · rintro m S ⟨line, rws, c6, c7, c8, c9, c10, c11, rfl, inv, rfl⟩
    have hle := inv.le
    have hll := n300 inv
    have encP_len : ∀ l : List (Nat × Nat), (encP l).length = l.length := fun l => by unfold encP; rw [List.length_map]
    refine ⟨_, _, tCd (cd_lt (bLen C.b (ov 5)) (bLen C.b (ov 3))), fun hz => ?_, fun hz => ?_⟩
    · have hlt : rws.length < line.length := by
        have := of_decide_eq_true hz
        rw [encP_len, List.length_map] at this; omega
      obtain ⟨p, hp⟩ : ∃ p, line[rws.length]? = some p := ⟨_, List.getElem?_eq_getElem hlt⟩
      obtain ⟨a, b⟩ := p
      obtain ⟨Wd0, hWd, hab⟩ := inv.rch _ (List.mem_of_getElem? hp)
      have ha : a < r1.length ∧ b < r2.length := by
        have e1 := congrArg Prod.fst hab
        have e2 := congrArg Prod.snd hab
        simp only at e1 e2
        rw [e1, e2]
        exact ⟨run_lt m1 hWd, run_lt m2 hWd⟩
      obtain ⟨row1, hrow1⟩ : ∃ r, r1[a]? = some r := ⟨_, List.getElem?_eq_getElem ha.1⟩
      obtain ⟨row2, hrow2⟩ : ∃ r, r2[b]? = some r := ⟨_, List.getElem?_eq_getElem ha.2⟩
      have l1 := m1.cols row1 (List.mem_of_getElem? hrow1)
      have l2 := m2.cols row2 (List.mem_of_getElem? hrow2)
      have st1 : ∀ {c g : Nat}, row1[c]? = some g → stp r1 a c = g := fun {c g} h => by unfold stp; rw [List.getD_eq_getElem?_getD, List.getD_eq_getElem?_getD, hrow1]; simp [h]
      have st2 : ∀ {c g : Nat}, row2[c]? = some g → stp r2 b c = g := fun {c g} h => by unfold stp; rw [List.getD_eq_getElem?_getD, List.getD_eq_getElem?_getD, hrow2]; simp [h]
      refine ds_unpack (is := [6, 7]) (ds := [.int (a : Nat), .int (b : Nat)]) hN rfl (tgs_one 6 rfl (.inl rfl) (tgs_one 7 rfl (.inl rfl) .nil)) rfl (pv_ix (ov 3) (bLen C.b (ov 5)) rfl rfl rfl (by rw [List.length_map]; exact atI_nat (by unfold encP; rw [List.getElem?_map, hp]; rfl))) ?_
      refine sN 8 hN (pv_lst pvs_nil rfl) ?_
      refine ds_forL (L := row1.zipIdx) (emb := fun q => .tup [.int (q.2 : Nat), .int (q.1 : Nat)]) (.many [9, 10]) (fun j S => ∃ line2 row c9 c10 c11, S = St line2 rws (some (.dat (.int (a : Nat)))) (some (.dat (.int (b : Nat)))) (some (.lst (encN row))) c9 c10 c11 ∧ PInv (2 ^ W') r1 r2 line2 rws ∧ rws.length < line2.length ∧ line2[rws.length]? = some (a, b) ∧ row.length = j ∧ ∀ c, c < j → ∃ m : Nat, row[c]? = some m ∧ line2[m]? = some (stp r1 a c, stp r2 b c))
        (fun S => ∃ line2 row c9 c10 c11, S = St line2 rws (some (.dat (.int (a : Nat)))) (some (.dat (.int (b : Nat)))) (some (.lst (encN row))) c9 c10 c11 ∧ PInv (2 ^ W') r1 r2 line2 rws ∧ rws.length < line2.length ∧ line2[rws.length]? = some (a, b) ∧ row.length = 2 ^ W' ∧ ∀ c, c < 2 ^ W' → ∃ m : Nat, row[c]? = some m ∧ line2[m]? = some (stp r1 a c, stp r2 b c)) PassesOwn.never rfl
        (bEnum (t := true) (emb := fun (n : Nat) => D.int (n : Int)) C.b (pv_ix (d := .tup (encN row1)) (pv_ix (d := encRows r1) (dv 0) pv_int True.intro rfl rfl rfl) (dv 6) True.intro rfl rfl (rows_at hrow1))) (tl2 9 10 hN rfl) ⟨line, [], c9, c10, c11, rfl, inv, hlt, hp, rfl, fun c hc => absurd hc (by omega)⟩ ?_ ?_ ?_
      · rintro j q S hj ⟨line2, row, c9, c10, c11, rfl, inv2, hlt2, hp2, hrl, hpre⟩
        obtain ⟨g, c⟩ := q
        have hq : row1[c]? = some g := List.mem_zipIdx_iff_getElem?.mp (List.mem_of_getElem? hj)
        have hcj : c = j := by
          rw [List.getElem?_zipIdx] at hj
          cases h : row1[j]? with
          | none => rw [h] at hj; cases hj
          | some y => rw [h] at hj; simp at hj; omega
        subst hcj
        have hc : c < 2 ^ W' := by have := (List.getElem?_eq_some_iff.mp hq).1; omega
        obtain ⟨g2, hg2⟩ : ∃ g, row2[c]? = some g := ⟨_, List.getElem?_eq_getElem (by omega)⟩
        have hrch : ReachP (2 ^ W') r1 r2 (g, g2) := ⟨Wd0 ++ [c], hWd.snoc hc, by
          have e1 := congrArg Prod.fst hab
          have e2 := congrArg Prod.snd hab
          simp only at e1 e2
          rw [run_snoc, run_snoc, ← e1, ← e2, st1 hq, st2 hg2]⟩
        have h2l := n300 inv2
        have step : ∀ {line3 : List (Nat × Nat)} {n : Nat}, (∀ (i : Nat) (x : Nat × Nat), line2[i]? = some x → line3[i]? = some x) → line3[n]? = some (g, g2) → ∀ y, y < c + 1 → ∃ m : Nat, (row ++ [n])[y]? = some m ∧ line3[m]? = some (stp r1 a y, stp r2 b y) := fun {line3 n} hext hn y hy => by
          by_cases e : y = c
          · subst e
            exact ⟨n, by rw [List.getElem?_append_right (by omega)]; simp [hrl], by rw [st1 hq, st2 hg2]; exact hn⟩
          · obtain ⟨m, h1, h2⟩ := hpre y (by omega)
            exact ⟨m, by rw [List.getElem?_append_left (List.getElem?_eq_some_iff.mp h1).1]; exact h1, hext _ _ h2⟩
        refine ⟨_, rfl, sD 11 hN (pv_tup (pvs_cons (dv 10) (pvs_one (pv_ix (d := .int (g2 : Nat)) (pv_ix (d := .tup (encN row2)) (pv_ix (d := encRows r2) (dv 1) pv_int True.intro rfl rfl rfl) (dv 7) True.intro rfl rfl (rows_at hrow2)) (dv 9) True.intro rfl rfl (encN_at hg2)))) rfl) ?_⟩
        refine ds_if (fun S => ∃ (line3 : List (Nat × Nat)) (n : Nat), S = St line3 rws (some (.dat (.int (a : Nat)))) (some (.dat (.int (b : Nat)))) (some (.lst (encN row))) (some (.dat (.int (c : Nat)))) (some (.dat (.int (g : Nat)))) (some (.dat (.tup [.int (g : Nat), .int (g2 : Nat)]))) ∧ PInv (2 ^ W') r1 r2 line3 rws ∧ rws.length < line3.length ∧ line3[rws.length]? = some (a, b) ∧ (∀ (i : Nat) (x : Nat × Nat), line2[i]? = some x → line3[i]? = some x) ∧ line3[n]? = some (g, g2)) (tCd (cd_notInN hu9 (dv 11) (ov 4) rfl (keyable_encN [g, g2]))) (fun hz => ?_) (fun hz => ds_nil ?_) ?_
        · have hnew : (g, g2) ∉ line2 := fun hm => by
            have := (idxT_some np_inj inv2.nd).mpr hm
            have hz' : (!(aget (idxT np line2) (np (g, g2))).isSome) = true := hz
            rw [this] at hz'; exact nomatch hz'
          have inv3 := inv2.grow hnew hrch
          have h3l := n300 inv3
          rw [List.length_append] at h3l
          simp at h3l
          refine ds_when (tCd (cd_eqI (bLen C.b (ov 3)) (dv 2))) (fun hz2 => ?_) fun _ => ?_
          · exfalso
            have := of_decide_eq_true hz2
            rw [encP_len] at this; omega
          · refine ds_putN (i := 4) hu9 (bLen C.b (ov 3)) (ov 4) (dv 11) rfl (keyable_encN [g, g2]) (by rw [idxT_length]; omega) (ds_app (i := 3) (ov 3) (dv 11) rfl (by rw [encP_len]; omega) rfl (ds_nil ⟨line2 ++ [(g, g2)], line2.length, ?_, inv3, by rw [List.length_append]; omega, by rw [List.getElem?_append_left hlt2]; exact hp2, fun i x hx => by rw [List.getElem?_append_left (List.getElem?_eq_some_iff.mp hx).1]; exact hx, by simp⟩))
            simp only [St]
            have ee : encP (line2 ++ [(g, g2)]) = encP line2 ++ [D.tup [.int (g : Nat), .int (g2 : Nat)]] := by unfold encP; rw [List.map_append]; rfl
            rw [ee, encP_len, ← idxT_snoc np_inj hnew]
            rfl
        · rw [Bool.not_eq_false'] at hz
          have hmem : (g, g2) ∈ line2 := (idxT_some np_inj inv2.nd).mp hz
          obtain ⟨n, hn, e⟩ := List.getElem_of_mem hmem
          exact ⟨line2, n, rfl, inv2, hlt2, hp2, fun _ _ h => h, by rw [List.getElem?_eq_getElem hn, e]⟩
        · rintro S ⟨line3, n, rfl, inv3, hlt3, hp3, hext, hn⟩
          refine ds_app (i := 8) (ov 8) (vd_getN (d := .int (n : Nat)) hu9 (ov 4) (dv 11) rfl rfl (keyable_encN [g, g2]) (idxT_at np_inj inv3.nd hn)) rfl (by rw [encN_length]; omega) rfl (ds_nil ⟨line3, row ++ [n], some (.dat (.int (c : Nat))), some (.dat (.int (g : Nat))), some (.dat (.tup [.int (g : Nat), .int (g2 : Nat)])), ?_, inv3, hlt3, hp3, by rw [List.length_append, hrl]; rfl, step hext hn⟩)
          simp only [St]
          rw [encN_snoc]
          rfl
      · rintro S ⟨line2, row, c9, c10, c11, rfl, inv2, hlt2, hp2, hrl, hpre⟩
        rw [List.length_zipIdx] at hrl hpre
        exact ⟨line2, row, c9, c10, c11, rfl, inv2, hlt2, hp2, by omega, fun c hc => hpre c (by omega)⟩
      · rintro S ⟨line2, row, c9, c10, c11, rfl, inv2, hlt2, hp2, hrl, hpre⟩
        have h2l := n300 inv2
        refine ds_app (i := 5) (ov 5) (bTuple C.b (ov 8)) rfl (by rw [List.length_map]; omega) rfl (ds_nil ⟨300 - (rws.length + 1), by omega, line2, rws ++ [row], some (.dat (.int (a : Nat))), some (.dat (.int (b : Nat))), some (.lst (encN row)), c9, c10, c11, ?_, ⟨inv2.nd, inv2.hd, inv2.rch, by rw [List.length_append]; simp; omega, fun j x hj hx => ?_⟩, by rw [List.length_append]; rfl⟩)
        · simp only [St]
          rw [List.map_append]
          rfl
        · by_cases e : j = rws.length
          · subst e
            rw [hp2] at hx
            cases hx
            exact ⟨row, by simp, hrl, hpre⟩
          · rw [List.length_append] at hj
            simp at hj
            obtain ⟨row', b', c', d'⟩ := inv2.row j x (by omega) hx
            exact ⟨row', by rw [List.getElem?_append_left (by omega)]; exact b', c', d'⟩
    · refine ⟨line, rws, c6, c7, c8, c9, c10, c11, rfl, inv, ?_⟩
      have := of_decide_eq_false hz
      rw [encP_len, List.length_map] at this; omega
  · rintro S ⟨line, rws, c6, c7, c8, c9, c10, c11, rfl, inv, hlen⟩
    exact ds_ret (pv_tup (pvs_cons (PV.frzO (ov 3)) (pvs_one (bTuple C.b (ov 5)))) rfl) ⟨rfl, line, rws, rfl, inv, hlen, n300 inv⟩
def endBy (w : Str) (a b : Bool) : Bool := if w = "and" then a && b else if w = "or" then a || b else if w = "less" then a && !b else !decide (a = b)
abbrev GEndBy (P : Program) (w : World) (K : PySem.W.Frag) (mg : Str → Option Value) (base : Heap) : Prop := GFa P w K mg base 1 "end_by" 3 (fun i : Str × Bool × Bool => [.str i.1, .bl i.2.1, .bl i.2.2]) (fun _ => True) (fun i => .bl (endBy i.1 i.2.1 i.2.2))
theorem ok_end_by (F : DefOk K mg "end_by" "end_by" H75.sEndBy) : GEndBy P w K mg base := by
  refine gfa_of (ps := ["word", "one", "other"]) (N := ["word", "one", "other"]) F ⟨rfl, rfl, rfl, by decide +kernel, rfl, by decide +kernel, by decide +kernel⟩ (fun _ => rfl) (fun _ _ _ _ _ _ us hl => match us, hl with | [_, _, _], _ => rfl) fun f cdv A outer s H E i hr _ => ?_
  refine ds_when (tCd (cd_eqS (dv 0) pv_str)) (fun hz => ds_ret (vd_and (dv 1) fun _ => vd_one (dv 2)) ⟨rfl, ?_⟩) fun hz => ?_
  · unfold endBy; rw [if_pos (of_decide_eq_true hz)]
  refine ds_when (tCd (cd_eqS (dv 0) pv_str)) (fun hz2 => ds_ret (vd_or (dv 1) fun _ => vd_one (dv 2)) ⟨rfl, ?_⟩) fun hz2 => ?_
  · unfold endBy; rw [if_neg (of_decide_eq_false hz), if_pos (of_decide_eq_true hz2)]
  refine ds_when (tCd (cd_eqS (dv 0) pv_str)) (fun hz3 => ds_ret (vd_and (dv 1) fun _ => vd_one (vd_not (dv 2))) ⟨rfl, ?_⟩) fun hz3 => ?_
  · unfold endBy; rw [if_neg (of_decide_eq_false hz), if_neg (of_decide_eq_false hz2), if_pos (of_decide_eq_true hz3)]
  refine ds_ret (vC (cd_neB (dv 1) (dv 2))) ⟨rfl, ?_⟩
  unfold endBy; rw [if_neg (of_decide_eq_false hz), if_neg (of_decide_eq_false hz2), if_neg (of_decide_eq_false hz3)]
theorem paired_ok {W : Nat} {r1 r2 : List (List Nat)} {line : List (Nat × Nat)} {rws : List (List Nat)} (h : Paired2 (2 ^ W) r1 r2 line rws) (hw : W ≤ 6) (f : Nat × Nat → Bool) : MOk W rws (line.map f) := by
  have h64 : 2 ^ W ≤ 64 := Nat.le_trans (Nat.pow_le_pow_right (by omega) hw) (by decide)
  have h0 := (List.getElem?_eq_some_iff.mp h.inv.hd).1
  have hl := h.len
  have hm := h.most
  have row_of : ∀ row ∈ rws, row.length = 2 ^ W ∧ ∀ g ∈ row, g < line.length := fun row hrow => by
    obtain ⟨j, hj, e⟩ := List.getElem_of_mem hrow
    obtain ⟨row', a, b, c⟩ := h.inv.row j line[j] hj (List.getElem?_eq_getElem (by omega))
    rw [List.getElem?_eq_getElem hj, e] at a
    cases a
    refine ⟨b, fun g hg => ?_⟩
    obtain ⟨i, hi, e2⟩ := List.getElem_of_mem hg
    obtain ⟨m, h1, h2⟩ := c i (by omega)
    rw [List.getElem?_eq_getElem hi, e2] at h1
    cases h1
    exact (List.getElem?_eq_some_iff.mp h2).1
  exact ⟨⟨by omega, by omega, fun row hrow g hg => by have := (row_of row hrow).2 g hg; omega, fun row hrow => by rw [(row_of row hrow).1]; omega⟩, by rw [List.length_map, hl], fun row hrow => (row_of row hrow).1, hw⟩
abbrev PairedPost (i : Str × MA × MA) (d : D) : Prop := ∃ line rws, d = encM i.2.1.w rws (line.map fun p => endBy i.1 (i.2.1.es.getD p.1 false) (i.2.2.es.getD p.2 false)) ∧ Paired2 (2 ^ i.2.1.w) i.2.1.rows i.2.2.rows line rws
abbrev GPaired (P : Program) (w : World) (K : PySem.W.Frag) (mg : Str → Option Value) (base : Heap) : Prop := GFr P w K mg base 2 "paired" 4 (fun i : Str × MA × MA => [.str i.1, i.2.1.enc, i.2.2.enc, .int 300]) (fun i => PairPre i.2) PairedPost
theorem reach_lt {i : MA × MA} (h : PairPre i) {p : Nat × Nat} (hp : ReachP (2 ^ i.1.w) i.1.rows i.2.rows p) : p.1 < i.1.rows.length ∧ p.2 < i.2.rows.length := by
  obtain ⟨m1, m2, ew, _⟩ := h
  obtain ⟨V, hV, rfl⟩ := hp
  exact ⟨run_lt m1 hV, run_lt m2 (by rw [ew]; exact hV)⟩
theorem getD_at {α : Type} {l : List α} {i : Nat} {x : α} (h : i < l.length) : l[i]? = some (l.getD i x) := by rw [List.getD_eq_getElem?_getD, List.getElem?_eq_getElem h]; rfl
theorem ok_paired (C : Cst K mg) (F : DefOk K mg "paired" "paired" H75.sPaired) (G1 : GPairs P w K mg base) (G2 : GEndBy P w K mg base) : GPaired P w K mg base := by
  refine gfr_of (ps := ["word", "first", "second", "most"]) (N := ["word", "first", "second", "most", "line", "rows", "ends", "one", "other"]) F ⟨rfl, rfl, rfl, by decide +kernel, rfl, by decide +kernel, by decide +kernel⟩ (fun _ => rfl) (fun _ _ _ _ _ _ us hl => match us, hl with | [_, _, _, _], _ => rfl) fun f cdv A outer s H E i hr hi => ?_
  obtain ⟨wd, M1, M2⟩ := i
  have pre : PairPre (M1, M2) := hi
  have hN : (["word", "first", "second", "most", "line", "rows", "ends", "one", "other"] : List Str).Nodup := by decide +kernel
  refine uC (is := [4, 5]) (M1, M2) hN rfl (tgs_one 4 rfl (.inl rfl) (tgs_one 5 rfl (.inl rfl) .nil)) G1 hr (by omega) (pvs_cons (dv 1) (pvs_cons (dv 2) (pvs_one (dv 3)))) rfl pre ?_
  rintro d ⟨line, rws, rfl, h⟩
  refine ⟨_, rfl, rfl, ?_⟩
  have hmo := h.most
  refine sL 6 (L := line) (emb := fun p => D.tup [.int (p.1 : Nat), .int (p.2 : Nat)]) (f := fun p => .bl (endBy wd (M1.es.getD p.1 false) (M2.es.getD p.2 false))) [("one", 7), ("other", 8)] (.many [7, 8]) rfl hN (pid_lst (dv 4)) rfl (tb2 7 8 hN rfl) (fun p hp => ⟨_, rfl, fun s H C2 cl fp => ?_⟩) (by omega) ?_
  · obtain ⟨h1, h2⟩ := reach_lt pre (h.inv.rch p hp)
    exact pv_callE (wd, M1.es.getD p.1 false, M2.es.getD p.2 false) G2 hr (by omega) (pvs_cons (dv 0) (pvs_cons (pv_ix (pv_ix (d := encB M1.es) (dv 1) pv_int True.intro rfl rfl rfl) (dv 7) True.intro rfl rfl (encB_at (getD_at (by rw [pre.1.es]; exact h1)))) (pvs_one (pv_ix (pv_ix (d := encB M2.es) (dv 2) pv_int True.intro rfl rfl rfl) (dv 8) True.intro rfl rfl (encB_at (getD_at (by rw [pre.2.1.es]; exact h2))))))) rfl True.intro
  · refine rD (d := encM M1.w rws (line.map fun p => endBy wd (M1.es.getD p.1 false) (M2.es.getD p.2 false))) ?_ ⟨rfl, line, rws, rfl, h⟩
    unfold encM
    rw [encB_map]
    exact pv_tup (pvs_cons (pv_ix (dv 1) pv_int True.intro rfl rfl rfl) (pvs_cons (dv 5) (pvs_one (bTuple C.b (ov 6))))) rfl
end
end K75
namespace K75
open PySem PySem.Spec PyProof.Rows L2 PL

/-! ### formulas -/
structure Tm where
  c : Int
  ps : List (Nat × Int)
inductive At where
  | ge (t : Tm) | eq (t : Tm) | mod (m : Nat) (t : Tm)
def At.tm : At → Tm
  | .ge t => t
  | .eq t => t
  | .mod _ t => t
inductive Fm where
  | atm (a : At) | no (f : Fm) | bi (b : Bool) (f g : Fm)
def encPs (ps : List (Nat × Int)) : D := .tup (ps.map fun p => .tup [.int (p.1 : Nat), .int p.2])
def Tm.enc (t : Tm) : D := .tup [.int t.c, encPs t.ps]
def At.enc : At → D
  | .ge t => .tup [.str "ge", t.enc]
  | .eq t => .tup [.str "eq", t.enc]
  | .mod m t => .tup [.str "mod", .int (m : Nat), t.enc]
def wordB (b : Bool) : Str := if b = true then "and" else "or"
def Fm.enc : Fm → D
  | .atm a => a.enc
  | .no f => .tup [.str "not", f.enc]
  | .bi b f g => .tup [.str (wordB b), .tup [f.enc, g.enc]]
structure Tm.ok (t : Tm) : Prop where
  c : -6 ≤ t.c ∧ t.c ≤ 6
  lt : ∀ p ∈ t.ps, p.1 < 3 ∧ -2 ≤ p.2 ∧ p.2 ≤ 2 ∧ p.2 ≠ 0
  up : t.ps.Pairwise fun p q => p.1 < q.1
def At.ok : At → Prop
  | .ge t => t.ok
  | .eq t => t.ok
  | .mod m t => 2 ≤ m ∧ m ≤ 6 ∧ t.ok
def Fm.ok : Fm → Prop
  | .atm a => a.ok
  | .no f => f.ok
  | .bi _ f g => f.ok ∧ g.ok
section
variable {P : Program} {w : World} {K : PySem.W.Frag} {mg : Str → Option Value} {base : Heap}
abbrev GIsFrom (P : Program) (w : World) (K : PySem.W.Frag) (mg : Str → Option Value) (base : Heap) : Prop := GFa P w K mg base 1 "is_from" 3 (fun i : Int × Int × Int => [.int i.1, .int i.2.1, .int i.2.2]) (fun _ => True) (fun i => .bl (decide (i.2.1 ≤ i.1) && decide (i.1 ≤ i.2.2)))
theorem ok_is_from (C : Cst K mg) (F : DefOk K mg "is_from" "is_from" H75.sIsFrom) : GIsFrom P w K mg base := by
  refine gfa_of (ps := ["value", "least", "most"]) (N := ["value", "least", "most"]) F ⟨rfl, rfl, rfl, by decide +kernel, rfl, by decide +kernel, by decide +kernel⟩ (fun _ => rfl) (fun _ _ _ _ _ _ us hl => match us, hl with | [_, _, _], _ => rfl) fun f cdv A outer s H E i hr _ => ?_
  obtain ⟨v, l, m⟩ := i
  exact rD (vd_and (bIsi C.b C.b.int (dv 0) rfl rfl) fun _ => vd_and (z := true) (PVz (vd_not (bIsi C.b C.b.bool (dv 0) rfl rfl))) fun _ => vd_one (pv_lele (dv 1) (dv 0) (dv 2))) ⟨rfl, rfl⟩
abbrev GNeedMany (P : Program) (w : World) (K : PySem.W.Frag) (mg : Str → Option Value) (base : Heap) : Prop := GFa P w K mg base 2 "need_many" 1 (fun v : Int => [.int v]) (fun v => 1 ≤ v ∧ v ≤ 4) (fun v => .int v)
theorem ok_need_many (C : Cst K mg) (F : DefOk K mg "need_many" "need_many" H75.sNeedMany) (G1 : GIsFrom P w K mg base) : GNeedMany P w K mg base := by
  refine gfa_of (ps := ["value"]) (N := ["value"]) F ⟨rfl, rfl, rfl, by decide +kernel, rfl, by decide +kernel, by decide +kernel⟩ (fun _ => rfl) (fun _ _ _ _ _ _ us hl => match us, hl with | [_], _ => rfl) fun f cdv A outer s H E v hr hv => ?_
  refine iNo (z := !(decide (1 ≤ v) && decide (v ≤ 4))) (td_not (PV.t (pv_callE (v, 1, 4) G1 hr (by omega) (pvs_cons (dv 0) (pvs_cons pv_int (pvs_one (gi C.widest)))) rfl True.intro))) (rD (dv 0) ⟨rfl, rfl⟩) ?_
  simp [hv.1, hv.2]
abbrev GArePairs (P : Program) (w : World) (K : PySem.W.Frag) (mg : Str → Option Value) (base : Heap) : Prop := GFa P w K mg base 2 "are_pairs" 1 (fun t : Tm => [encPs t.ps]) Tm.ok (fun _ => .bl true)
theorem ok_are_pairs (C : Cst K mg) (F : DefOk K mg "are_pairs" "are_pairs" H75.sArePairs) (G1 : GIsFrom P w K mg base) : GArePairs P w K mg base := by
  refine gfa_of (ps := ["value"]) (N := ["value", "pair"]) F ⟨rfl, rfl, rfl, by decide +kernel, rfl, by decide +kernel, by decide +kernel⟩ (fun _ => rfl) (fun _ _ _ _ _ _ us hl => match us, hl with | [_], _ => rfl) fun f cdv A outer s H E t hr ht => ?_
  have hN : (["value", "pair"] : List Str).Nodup := by decide +kernel
  have tok : t.ok := ht
  refine iNo (z := !true) (td_not (PV.t (bIsi C.b C.b.tuple (dv 0) rfl rfl))) ?_
  refine ds_forL (L := t.ps) (emb := fun p => .tup [.int (p.1 : Nat), .int p.2]) (.one 1) (fun k S => ∃ c, S = ⟨[some (.dat (encPs t.ps)), c], none⟩) (fun S => ∃ c, S = ⟨[some (.dat (encPs t.ps)), c], none⟩) PassesOwn.never rfl (pid_tup (dv 0)) (tl1 1 hN) ⟨none, rfl⟩ ?_ (fun S h => h) ?_
  · rintro k p S hk ⟨c, rfl⟩
    have hp := tok.lt p (List.mem_of_getElem? hk)
    refine ⟨_, rfl, iNo (PWd.t (td_or (td_not (PV.t (bIsi C.b C.b.tuple (dv 1) rfl rfl))) fun _ => td_one (tCd (cd_neI (bLen C.b (dv 1)) pv_int)))) ?_⟩
    refine iNo (z := (!(decide ((0 : Int) ≤ (p.1 : Int)) && decide ((p.1 : Int) ≤ 10 - 1)) || !(decide ((-1000000000 : Int) ≤ p.2) && decide (p.2 ≤ 1000000000)))) (PWd.t (td_or (td_not (PV.t (pv_callE ((p.1 : Int), 0, 10 - 1) G1 hr (by omega) (pvs_cons (pv_ix (dv 1) pv_int True.intro rfl rfl rfl) (pvs_cons pv_int (pvs_one (pv_sub (gi C.names) pv_int)))) rfl True.intro))) fun _ => td_one (td_not (PV.t (pv_callE (p.2, -1000000000, 1000000000) G1 hr (by omega) (pvs_cons (pv_ix (dv 1) pv_int True.intro rfl rfl rfl) (pvs_cons (pv_neg (gi C.greatest)) (pvs_one (gi C.greatest)))) rfl True.intro))))) (ds_nil ⟨_, rfl⟩) ?_
    have a1 : (0 : Int) ≤ (p.1 : Int) := by omega
    have a2 : (p.1 : Int) ≤ 10 - 1 := by omega
    have a3 : (-1000000000 : Int) ≤ p.2 := by omega
    have a4 : p.2 ≤ 1000000000 := by omega
    rw [decide_eq_true a1, decide_eq_true a2, decide_eq_true a3, decide_eq_true a4]
    rfl
  · rintro S ⟨c, rfl⟩
    exact rD pv_bl ⟨rfl, rfl⟩
abbrev GIsTerm (P : Program) (w : World) (K : PySem.W.Frag) (mg : Str → Option Value) (base : Heap) : Prop := GFa P w K mg base 3 "is_term" 1 (fun t : Tm => [t.enc]) Tm.ok (fun _ => .bl true)
theorem ok_is_term (C : Cst K mg) (F : DefOk K mg "is_term" "is_term" H75.sIsTerm) (G1 : GIsFrom P w K mg base) (G2 : GArePairs P w K mg base) : GIsTerm P w K mg base := by
  refine gfa_of (ps := ["value"]) (N := ["value", "last", "name", "factor"]) F ⟨rfl, rfl, rfl, by decide +kernel, rfl, by decide +kernel, by decide +kernel⟩ (fun _ => rfl) (fun _ _ _ _ _ _ us hl => match us, hl with | [_], _ => rfl) fun f cdv A outer s H E t hr ht => ?_
  have hN : (["value", "last", "name", "factor"] : List Str).Nodup := by decide +kernel
  have tok : t.ok := ht
  have hc := tok.c
  refine iNo (PWd.t (td_or (td_not (PV.t (bIsi C.b C.b.tuple (dv 0) rfl rfl))) fun _ => td_or (tCd (cd_neI (bLen C.b (dv 0)) pv_int)) fun _ => td_one (td_not (PV.t (pv_callE (t.c, -1000000000, 1000000000) G1 hr (by omega) (pvs_cons (pv_ix (dv 0) pv_int True.intro rfl rfl rfl) (pvs_cons (pv_neg (gi C.greatest)) (pvs_one (gi C.greatest)))) rfl True.intro))))) (h := ?h1) (hz := ?h2)
  case h2 =>
    have a3 : (-1000000000 : Int) ≤ t.c := by omega
    have a4 : t.c ≤ 1000000000 := by omega
    rw [decide_eq_true a3, decide_eq_true a4]
    rfl
  refine iNo (z := !true) (td_not (PV.t (pv_callE t G2 hr (by omega) (pvs_one (pv_ix (dv 0) pv_int True.intro rfl rfl rfl)) rfl tok))) ?_
  refine sD 1 hN (pv_neg pv_int) ?_
  refine ds_forL (L := t.ps) (emb := fun p => .tup [.int (p.1 : Nat), .int p.2]) (.many [2, 3]) (fun k S => ∃ l c d, S = ⟨[some (.dat t.enc), some (.dat (.int l)), c, d], none⟩ ∧ ∀ (j : Nat) (q : Nat × Int), k ≤ j → t.ps[j]? = some q → l < (q.1 : Int)) (fun S => ∃ l c d, S = ⟨[some (.dat t.enc), some (.dat (.int l)), c, d], none⟩) PassesOwn.never rfl (pid_tup (pv_ix (d := encPs t.ps) (dv 0) pv_int True.intro rfl rfl rfl)) (tl2 2 3 hN rfl) ⟨-1, none, none, rfl, fun j q _ hq => by omega⟩ ?_ ?_ ?_
  · rintro k p S hk ⟨l, c, d, rfl, hl⟩
    have hp := tok.lt p (List.mem_of_getElem? hk)
    have hlp := hl k p (Nat.le_refl _) hk
    refine ⟨_, rfl, iNo (z := (decide ((p.1 : Int) ≤ l) || decide (p.2 = 0))) (PWd.t (td_or (tCd (cd_le (dv 2) (dv 1))) fun _ => td_one (tCd (cd_eqI (dv 3) pv_int)))) (sD 1 hN (dv 2) (ds_nil ⟨_, _, _, rfl, fun j q hj hq => ?_⟩)) ?_⟩
    · have := List.pairwise_iff_getElem.mp tok.up k j (List.getElem?_eq_some_iff.mp hk).1 (List.getElem?_eq_some_iff.mp hq).1 hj
      rw [(List.getElem?_eq_some_iff.mp hk).2, (List.getElem?_eq_some_iff.mp hq).2] at this
      omega
    · rw [decide_eq_false (by omega), decide_eq_false hp.2.2.2]
      rfl
  · rintro S ⟨l, c, d, h, _⟩
    exact ⟨l, c, d, h⟩
  · rintro S ⟨l, c, d, rfl⟩
    exact rD pv_bl ⟨rfl, rfl⟩
end
end K75
namespace K75
open PySem PySem.Spec PyProof.Rows L2 PL

theorem at0 {α : Type} {x : α} {xs : List α} : atI (x :: xs) (0 : Int) = some x := atI_nat (n := 0) rfl
def Fm.word : Fm → Str
  | .atm (.ge _) => "ge"
  | .atm (.eq _) => "eq"
  | .atm (.mod _ _) => "mod"
  | .no _ => "not"
  | .bi b _ _ => wordB b
def Fm.args : Fm → List D
  | .atm (.ge t) => [t.enc]
  | .atm (.eq t) => [t.enc]
  | .atm (.mod m t) => [.int (m : Nat), t.enc]
  | .no f => [f.enc]
  | .bi _ f g => [.tup [f.enc, g.enc]]
theorem Fm.enc_eq (f : Fm) : f.enc = .tup (.str f.word :: f.args) := by
  cases f with
  | atm a => cases a <;> rfl
  | no f => rfl
  | bi b f g => rfl
def Fm.subs : Fm → List Fm
  | .atm _ => []
  | .no f => [f]
  | .bi _ f g => [f, g]
def Fm.place : Fm → Nat → List Nat
  | .atm _, _ => [2]
  | .no _, _ => [1]
  | .bi _ _ _, i => [1, i]
section
variable {P : Program} {w : World} {K : PySem.W.Frag} {mg : Str → Option Value} {base : Heap}
abbrev GHasForm (P : Program) (w : World) (K : PySem.W.Frag) (mg : Str → Option Value) (base : Heap) : Prop := GFa P w K mg base 4 "has_form" 1 (fun f : Fm => [f.enc]) Fm.ok (fun _ => .bl true)
theorem ok_has_form (C : Cst K mg) (F : DefOk K mg "has_form" "has_form" H75.sHasForm) (G1 : GIsFrom P w K mg base) (G2 : GIsTerm P w K mg base) : GHasForm P w K mg base := by
  refine gfa_of (ps := ["value"]) (N := ["value", "word"]) F ⟨rfl, rfl, rfl, by decide +kernel, rfl, by decide +kernel, by decide +kernel⟩ (fun _ => rfl) (fun _ _ _ _ _ _ us hl => match us, hl with | [_], _ => rfl) fun fa cdv A outer s H E f hr hf => ?_
  have hN : (["value", "word"] : List Str).Nodup := by decide +kernel
  have fok : f.ok := hf
  show PSd _ _ ⟨[some (.dat f.enc), none], none⟩ _
  rw [f.enc_eq]
  refine iNo (PWd.t (td_or (td_not (PV.t (bIsi C.b C.b.tuple (dv 0) rfl rfl))) fun _ => td_or (tCd (cd_eqI (bLen C.b (dv 0)) pv_int)) fun _ => td_one (td_not (PV.t (bIsi C.b C.b.str (pv_ix (d := .str f.word) (dv 0) pv_int True.intro rfl rfl at0) rfl rfl))))) ?_ ?_
  · refine sD 1 hN (pv_ix (d := .str f.word) (dv 0) pv_int True.intro rfl rfl at0) ?_
    cases f with
    | atm a =>
      cases a with
      | ge t =>
        have tok : t.ok := fok
        exact iYes (tCd (cd_inSeqS (is := ["ge", "eq"]) (dv 1) (pv_tup (pvs_cons pv_str (pvs_one pv_str)) rfl) rfl rfl)) (rD (vd_and (z := true) (PVz (vC (cd_eqI (bLen C.b (dv 0)) pv_int))) fun _ => vd_one (pv_callE t G2 hr (by omega) (pvs_one (pv_ix (dv 0) pv_int True.intro rfl rfl rfl)) rfl tok)) ⟨rfl, rfl⟩)
      | eq t =>
        have tok : t.ok := fok
        exact iYes (tCd (cd_inSeqS (is := ["ge", "eq"]) (dv 1) (pv_tup (pvs_cons pv_str (pvs_one pv_str)) rfl) rfl rfl)) (rD (vd_and (z := true) (PVz (vC (cd_eqI (bLen C.b (dv 0)) pv_int))) fun _ => vd_one (pv_callE t G2 hr (by omega) (pvs_one (pv_ix (dv 0) pv_int True.intro rfl rfl rfl)) rfl tok)) ⟨rfl, rfl⟩)
      | mod m t =>
        obtain ⟨h2, h6, tok⟩ := (show 2 ≤ m ∧ m ≤ 6 ∧ t.ok from fok)
        have a1 : (2 : Int) ≤ (m : Int) := by omega
        have a2 : (m : Int) ≤ 1000000 := by omega
        refine iNo (tCd (cd_inSeqS (is := ["ge", "eq"]) (dv 1) (pv_tup (pvs_cons pv_str (pvs_one pv_str)) rfl) rfl rfl)) ?_
        refine iYes (tCd (cd_eqS (dv 1) pv_str)) (rD (vd_and (z := true) (PVz (vC (cd_eqI (bLen C.b (dv 0)) pv_int))) fun _ => vd_and (z := true) (PVz (z := decide ((2 : Int) ≤ (m : Int)) && decide ((m : Int) ≤ 1000000)) (pv_callE ((m : Int), 2, 1000000) G1 hr (by omega) (pvs_cons (pv_ix (dv 0) pv_int True.intro rfl rfl rfl) (pvs_cons pv_int (pvs_one (gi C.modulus)))) rfl True.intro) (by simp [a1, a2])) fun _ => vd_one (pv_callE t G2 hr (by omega) (pvs_one (pv_ix (dv 0) pv_int True.intro rfl rfl rfl)) rfl tok)) ⟨rfl, rfl⟩)
    | no f =>
      refine iNo (tCd (cd_inSeqS (is := ["ge", "eq"]) (dv 1) (pv_tup (pvs_cons pv_str (pvs_one pv_str)) rfl) rfl rfl)) ?_
      refine iNo (tCd (cd_eqS (dv 1) pv_str)) ?_
      exact iYes (tCd (cd_eqS (dv 1) pv_str)) (rD (PVz (y := true) (vC (cd_eqI (bLen C.b (dv 0)) pv_int))) ⟨rfl, rfl⟩)
    | bi b f g =>
      cases b
      all_goals
        refine iNo (tCd (cd_inSeqS (is := ["ge", "eq"]) (dv 1) (pv_tup (pvs_cons pv_str (pvs_one pv_str)) rfl) rfl rfl)) ?_
        refine iNo (tCd (cd_eqS (dv 1) pv_str)) ?_
        refine iNo (tCd (cd_eqS (dv 1) pv_str)) ?_
        exact iYes (tCd (cd_inSeqS (is := ["and", "or"]) (dv 1) (pv_tup (pvs_cons pv_str (pvs_one pv_str)) rfl) rfl rfl)) (rD (vd_and (z := true) (PVz (vC (cd_eqI (bLen C.b (dv 0)) pv_int))) fun _ => vd_one (bIsi C.b C.b.tuple (pv_ix (d := .tup [f.enc, g.enc]) (dv 0) pv_int True.intro rfl rfl rfl) rfl rfl)) ⟨rfl, rfl⟩)
  · show (!true || ((decide (((f.args.length + 1 : Nat) : Int) = 0)) || !true)) = false
    rw [decide_eq_false (by omega)]
    rfl
end
end K75
namespace K75
open PySem PySem.Spec PyProof.Rows L2 PL

def Fm.size : Fm → Nat
  | .atm _ => 1
  | .no f => f.size + 1
  | .bi _ f g => f.size + g.size + 1
def Fm.depth : Fm → Nat
  | .atm _ => 1
  | .no f => f.depth + 1
  | .bi _ f g => max f.depth g.depth + 1
def sizes (l : List Fm) : Nat := (l.map Fm.size).sum
theorem Fm.size_eq (f : Fm) : f.size = 1 + sizes f.subs := by
  cases f with
  | atm a => rfl
  | no f => simp [Fm.size, Fm.subs, sizes]; omega
  | bi b f g => simp [Fm.size, Fm.subs, sizes]; omega
theorem Fm.sub_ok {f g : Fm} (h : g ∈ f.subs) (ok : f.ok) : g.ok ∧ g.depth < f.depth := by
  cases f with
  | atm a => simp [Fm.subs] at h
  | no f =>
    simp [Fm.subs] at h
    subst h
    exact ⟨ok, by simp [Fm.depth]⟩
  | bi b f1 f2 =>
    have ok' : f1.ok ∧ f2.ok := ok
    simp [Fm.subs] at h
    simp only [Fm.depth]
    rcases h with rfl | rfl
    · exact ⟨ok'.1, by omega⟩
    · exact ⟨ok'.2, by omega⟩
theorem Fm.depth_pos (f : Fm) : 1 ≤ f.depth := by cases f <;> simp [Fm.depth]
theorem Fm.subs_length (f : Fm) : f.subs.length ≤ 2 := by cases f <;> simp [Fm.subs]
theorem Fm.place_length (f : Fm) (i : Nat) : (f.place i).length ≤ 2 := by cases f <;> simp [Fm.place]
section
variable {P : Program} {w : World} {K : PySem.W.Frag} {mg : Str → Option Value} {base : Heap}
abbrev GInner (P : Program) (w : World) (K : PySem.W.Frag) (mg : Str → Option Value) (base : Heap) : Prop := GFa P w K mg base 1 "inner" 1 (fun f : Fm => [f.enc]) (fun _ => True) (fun f => .tup (f.subs.map Fm.enc))
theorem ok_inner (C : Cst K mg) (F : DefOk K mg "inner" "inner" H75.sInner) : GInner P w K mg base := by
  refine gfa_of (ps := ["formula"]) (N := ["formula", "word"]) F ⟨rfl, rfl, rfl, by decide +kernel, rfl, by decide +kernel, by decide +kernel⟩ (fun _ => rfl) (fun _ _ _ _ _ _ us hl => match us, hl with | [_], _ => rfl) fun fa cdv A outer s H E f hr hf => ?_
  have hN : (["formula", "word"] : List Str).Nodup := by decide +kernel
  show PSd _ _ ⟨[some (.dat f.enc), none], none⟩ _
  rw [f.enc_eq]
  refine sD 1 hN (pv_ix (d := .str f.word) (dv 0) pv_int True.intro rfl rfl at0) ?_
  cases f with
  | atm a =>
    cases a
    all_goals
      refine iNo (tCd (cd_inSeqS (is := ["and", "or"]) (dv 1) (pv_tup (pvs_cons pv_str (pvs_one pv_str)) rfl) rfl rfl)) ?_
      refine iNo (tCd (cd_eqS (dv 1) pv_str)) ?_
      exact rD (vif (z := false) (PTz (tCd (cd_inSeqS (is := ["some", "all"]) (dv 1) (pv_tup (pvs_cons pv_str (pvs_one pv_str)) rfl) rfl rfl))) (fun e => nomatch e) (fun _ => pv_tup (ds := []) pvs_nil rfl)) ⟨rfl, rfl⟩
  | no f =>
    refine iNo (tCd (cd_inSeqS (is := ["and", "or"]) (dv 1) (pv_tup (pvs_cons pv_str (pvs_one pv_str)) rfl) rfl rfl)) ?_
    exact iYes (tCd (cd_eqS (dv 1) pv_str)) (rD (pv_tup (pvs_one (pv_ix (d := f.enc) (dv 0) pv_int True.intro rfl rfl rfl)) rfl) ⟨rfl, rfl⟩)
  | bi b f g =>
    cases b
    all_goals exact iYes (tCd (cd_inSeqS (is := ["and", "or"]) (dv 1) (pv_tup (pvs_cons pv_str (pvs_one pv_str)) rfl) rfl rfl)) (rD (pv_ix (d := .tup [f.enc, g.enc]) (dv 0) pv_int True.intro rfl rfl rfl) ⟨rfl, rfl⟩)
abbrev GPlace (P : Program) (w : World) (K : PySem.W.Frag) (mg : Str → Option Value) (base : Heap) : Prop := GFa P w K mg base 1 "place_of" 2 (fun i : Fm × Nat => [i.1.enc, .int (i.2 : Nat)]) (fun _ => True) (fun i => .tup (encN (i.1.place i.2)))
theorem ok_place_of (C : Cst K mg) (F : DefOk K mg "place_of" "place_of" H75.sPlaceOf) : GPlace P w K mg base := by
  refine gfa_of (ps := ["formula", "index"]) (N := ["formula", "index"]) F ⟨rfl, rfl, rfl, by decide +kernel, rfl, by decide +kernel, by decide +kernel⟩ (fun _ => rfl) (fun _ _ _ _ _ _ us hl => match us, hl with | [_, _], _ => rfl) fun fa cdv A outer s H E i hr hf => ?_
  obtain ⟨f, n⟩ := i
  show PSd _ _ ⟨[some (.dat f.enc), some (.dat (.int (n : Nat)))], none⟩ _
  cases f with
  | atm a =>
    cases a
    all_goals
      refine iNo (tCd (cd_inSeqS (is := ["and", "or"]) (pv_ix (dv 0) pv_int True.intro rfl rfl at0) (pv_tup (pvs_cons pv_str (pvs_one pv_str)) rfl) rfl rfl)) ?_
      exact rD (vif (z := false) (PTz (tCd (cd_eqS (pv_ix (dv 0) pv_int True.intro rfl rfl at0) pv_str))) (fun e => nomatch e) (fun _ => pv_tup (pvs_one pv_int) rfl)) ⟨rfl, rfl⟩
  | no f =>
    refine iNo (tCd (cd_inSeqS (is := ["and", "or"]) (pv_ix (dv 0) pv_int True.intro rfl rfl at0) (pv_tup (pvs_cons pv_str (pvs_one pv_str)) rfl) rfl rfl)) ?_
    exact rD (vif (z := true) (PTz (tCd (cd_eqS (pv_ix (dv 0) pv_int True.intro rfl rfl at0) pv_str))) (fun _ => pv_tup (pvs_one pv_int) rfl) (fun e => nomatch e)) ⟨rfl, rfl⟩
  | bi b f g =>
    cases b
    all_goals exact iYes (tCd (cd_inSeqS (is := ["and", "or"]) (pv_ix (dv 0) pv_int True.intro rfl rfl at0) (pv_tup (pvs_cons pv_str (pvs_one pv_str)) rfl) rfl rfl)) (rD (pv_tup (pvs_cons pv_int (pvs_one (dv 1))) rfl) ⟨rfl, rfl⟩)
theorem sizes_take {l : List Fm} {k : Nat} {f : Fm} (h : l[k]? = some f) : sizes (l.take (k + 1)) = sizes (l.take k) + f.size := by
  unfold sizes
  rw [List.take_add_one, h, List.map_append, List.sum_append]
  simp
theorem sizes_le {l : List Fm} {k : Nat} {f : Fm} (h : l[k]? = some f) : sizes (l.take k) + f.size ≤ sizes l := by
  have e : l = l.take k ++ f :: l.drop (k + 1) := by
    have hk := (List.getElem?_eq_some_iff.mp h).1
    have h2 : l.drop k = f :: l.drop (k + 1) := by rw [List.drop_eq_getElem_cons hk, (List.getElem?_eq_some_iff.mp h).2]
    rw [← h2, List.take_append_drop]
  have : sizes l = sizes (l.take k) + (f.size + sizes (l.drop (k + 1))) := by
    conv => lhs; rw [e]
    unfold sizes
    rw [List.map_append, List.sum_append]
    rfl
  omega
theorem zip_at {l : List Fm} {k : Nat} {q : Fm × Nat} (h : l.zipIdx[k]? = some q) : l[k]? = some q.1 ∧ q.2 = k := by
  rw [List.getElem?_zipIdx] at h
  cases e : l[k]? with
  | none => rw [e] at h; cases h
  | some y => rw [e] at h; simp at h; rw [← h]; simp
abbrev WalkedPre (n : Nat) (i : Fm × List Nat × Nat × Nat) : Prop := i.1.ok ∧ i.1.depth ≤ n ∧ i.2.2.1 + i.1.depth ≤ 21 ∧ i.2.2.2 + i.1.size ≤ 2000 ∧ i.2.1.length + 2 * i.1.depth ≤ 1000
abbrev GWalked (P : Program) (w : World) (K : PySem.W.Frag) (mg : Str → Option Value) (base : Heap) (n : Nat) : Prop := GFa P w K mg base (n + 5) "walked" 4 (fun i : Fm × List Nat × Nat × Nat => [i.1.enc, .tup (encN i.2.1), .int (i.2.2.1 : Nat), .int (i.2.2.2 : Nat)]) (WalkedPre n) (fun i => .int ((i.2.2.2 + i.1.size : Nat) : Int))
theorem ok_walked (C : Cst K mg) (F : DefOk K mg "walked" "walked" H75.sWalked) (G1 : GHasForm P w K mg base) (G2 : GInner P w K mg base) (G3 : GPlace P w K mg base) : ∀ n, GWalked P w K mg base n := by
  intro n
  induction n with
  | zero =>
    refine gfa_of (ps := ["value", "path", "deep", "met"]) (N := ["value", "path", "deep", "met", "number", "index", "part"]) F ⟨rfl, rfl, rfl, by decide +kernel, rfl, by decide +kernel, by decide +kernel⟩ (fun _ => rfl) (fun _ _ _ _ _ _ us hl => match us, hl with | [_, _, _, _], _ => rfl) fun fa cdv A outer s H E i hr hi => ?_
    have := i.1.depth_pos
    have := hi.2.1
    omega
  | succ n ih =>
    refine gfa_of (ps := ["value", "path", "deep", "met"]) (N := ["value", "path", "deep", "met", "number", "index", "part"]) F ⟨rfl, rfl, rfl, by decide +kernel, rfl, by decide +kernel, by decide +kernel⟩ (fun _ => rfl) (fun _ _ _ _ _ _ us hl => match us, hl with | [_, _, _, _], _ => rfl) fun fa cdv A outer s H E i hr hi => ?_
    obtain ⟨f, path, deep, met⟩ := i
    obtain ⟨fok, hdn, hdeep, hmet, hpath⟩ := (show f.ok ∧ f.depth ≤ n + 1 ∧ deep + f.depth ≤ 21 ∧ met + f.size ≤ 2000 ∧ path.length + 2 * f.depth ≤ 1000 from hi)
    have hN : (["value", "path", "deep", "met", "number", "index", "part"] : List Str).Nodup := by decide +kernel
    have hd1 := f.depth_pos
    have hsz := f.size_eq
    refine iNo (tCd (cd_gt (dv 2) (gi C.deep))) ?_ (decide_eq_false (show ¬ (20 : Int) < (deep : Int) by omega))
    refine iNo (tCd (cd_eqI (dv 3) (gi C.parts))) ?_ (decide_eq_false (show ¬ (met : Int) = 2000 by omega))
    refine iNo (z := !true) (td_not (PV.t (pv_callE f G1 hr (by omega) (pvs_one (dv 0)) rfl fok))) ?_
    refine sD 4 hN (pv_add (dv 3) pv_int) ?_
    have hL : f.subs.length ≤ 2 := f.subs_length
    refine ds_forL (L := f.subs.zipIdx) (emb := fun q => .tup [.int (q.2 : Nat), q.1.enc]) (.many [5, 6]) (fun k S => ∃ c d, S = ⟨[some (.dat f.enc), some (.dat (.tup (encN path))), some (.dat (.int (deep : Nat))), some (.dat (.int (met : Nat))), some (.dat (.int ((met + 1 + sizes (f.subs.take k) : Nat) : Int))), c, d], none⟩)
      (fun S => ∃ c d, S = ⟨[some (.dat f.enc), some (.dat (.tup (encN path))), some (.dat (.int (deep : Nat))), some (.dat (.int (met : Nat))), some (.dat (.int ((met + f.size : Nat) : Int))), c, d], none⟩) PassesOwn.never rfl
      (bEnum (t := true) (emb := Fm.enc) C.b (pv_callE (d := .tup (f.subs.map Fm.enc)) f G2 hr (by omega) (pvs_one (dv 0)) rfl True.intro)) (tl2 5 6 hN rfl) ⟨none, none, rfl⟩ ?_ ?_ ?_
    · rintro k q S hk ⟨c, d, rfl⟩
      obtain ⟨g, i⟩ := q
      have hg : f.subs[k]? = some g := (zip_at hk).1
      have hik : i = k := (zip_at hk).2
      subst hik
      have hgm := List.mem_of_getElem? hg
      obtain ⟨gok, gd⟩ := Fm.sub_ok hgm fok
      have hpl := f.place_length i
      have hsl := sizes_le hg
      refine ⟨_, rfl, sD 4 hN (pv_callE (d := .int ((met + 1 + sizes (f.subs.take (i + 1)) : Nat) : Int)) (g, path ++ f.place i, deep + 1, met + 1 + sizes (f.subs.take i)) ih hr (by omega) (pvs_cons (dv 6) (pvs_cons (pv_catT (dv 1) (pv_callE (d := .tup (encN (f.place i))) (f, i) G3 hr (by omega) (pvs_cons (dv 0) (pvs_one (dv 5))) rfl True.intro) (by rw [encN_length, encN_length]; omega)) (pvs_cons (pv_add (dv 2) pv_int) (pvs_one (dv 4))))) ?_ ⟨gok, by show g.depth ≤ n; omega, by show deep + 1 + g.depth ≤ 21; omega, by show met + 1 + sizes (f.subs.take i) + g.size ≤ 2000; omega, by show (path ++ f.place i).length + 2 * g.depth ≤ 1000; rw [List.length_append]; omega⟩ ?_) (ds_nil ⟨_, _, rfl⟩)⟩
      · have e : encN (path ++ f.place i) = encN path ++ encN (f.place i) := by unfold encN; rw [List.map_append]
        show some _ = some [_, D.tup (encN (path ++ f.place i)), _, _]
        rw [e]
        rfl
      · show D.int ((met + 1 + sizes (f.subs.take i) + g.size : Nat) : Int) = _
        rw [sizes_take hg, Nat.add_assoc (met + 1)]
    · rintro S ⟨c, d, h⟩
      rw [List.length_zipIdx, List.take_length] at h
      refine ⟨c, d, ?_⟩
      rw [h, hsz]
      simp only [Nat.add_assoc]
    · rintro S ⟨c, d, rfl⟩
      exact rD (dv 4) ⟨rfl, rfl⟩
abbrev GNeedFormula (P : Program) (w : World) (K : PySem.W.Frag) (mg : Str → Option Value) (base : Heap) : Prop := GFa P w K mg base 14 "need_formula" 1 (fun f : Fm => [f.enc]) (fun f => f.ok ∧ f.depth ≤ 8 ∧ f.size ≤ 100) Fm.enc
theorem ok_need_formula (C : Cst K mg) (F : DefOk K mg "need_formula" "need_formula" H75.sNeedFormula) (G1 : GWalked P w K mg base 8) : GNeedFormula P w K mg base := by
  refine gfa_of (ps := ["value"]) (N := ["value"]) F ⟨rfl, rfl, rfl, by decide +kernel, rfl, by decide +kernel, by decide +kernel⟩ (fun _ => rfl) (fun _ _ _ _ _ _ us hl => match us, hl with | [_], _ => rfl) fun fa cdv A outer s H E f hr hi => ?_
  obtain ⟨fok, hd, hs⟩ := hi
  exact ds_expr (pv_callE (d := .int ((0 + f.size : Nat) : Int)) (f, [], 1, 0) G1 hr (by omega) (pvs_cons (dv 0) (pvs_cons (pv_tup (ds := []) pvs_nil rfl) (pvs_cons pv_int (pvs_one pv_int)))) rfl ⟨fok, hd, by show 1 + f.depth ≤ 21; omega, by show 0 + f.size ≤ 2000; omega, by show 0 + 2 * f.depth ≤ 1000; omega⟩) (rD (dv 0) ⟨rfl, rfl⟩)
end
end K75
namespace K75
open PySem PySem.Spec PyProof.Rows L2 PL

def listing : Fm → List Nat → List (List Nat × Fm)
  | .atm a, p => [(p, .atm a)]
  | .no f, p => (p, .no f) :: listing f (p ++ [1])
  | .bi b f g, p => (p, .bi b f g) :: (listing f (p ++ [1, 0]) ++ listing g (p ++ [1, 1]))
def encL (l : List (List Nat × Fm)) : List D := l.map fun q => .tup [.tup (encN q.1), q.2.enc]
theorem listing_eq (f : Fm) (p : List Nat) : listing f p = (p, f) :: ((f.subs.zipIdx).map fun q => listing q.1 (p ++ f.place q.2)).flatten := by
  cases f with
  | atm a => rfl
  | no f => simp [listing, Fm.subs, Fm.place]
  | bi b f g => simp [listing, Fm.subs, Fm.place]
theorem listing_length : ∀ (f : Fm) (p : List Nat), (listing f p).length = f.size
  | .atm a, p => rfl
  | .no f, p => by simp [listing, Fm.size, listing_length f]
  | .bi b f g, p => by simp [listing, Fm.size, listing_length f, listing_length g]
theorem listing_in : ∀ (f : Fm) (p : List Nat) (q : List Nat × Fm), q ∈ listing f p → f.ok → q.2.ok ∧ q.2.depth ≤ f.depth
  | .atm a, p, q, h, ok => by
    simp [listing] at h
    subst h
    exact ⟨ok, Nat.le_refl _⟩
  | .no f, p, q, h, ok => by
    simp only [listing, List.mem_cons] at h
    rcases h with h | h
    · subst h; exact ⟨ok, Nat.le_refl _⟩
    · have := listing_in f _ q h ok
      exact ⟨this.1, by simp only [Fm.depth]; omega⟩
  | .bi b f g, p, q, h, ok => by
    have ok' : f.ok ∧ g.ok := ok
    simp only [listing, List.mem_cons, List.mem_append] at h
    rcases h with h | h | h
    · subst h; exact ⟨ok, Nat.le_refl _⟩
    · have := listing_in f _ q h ok'.1
      exact ⟨this.1, by simp only [Fm.depth]; omega⟩
    · have := listing_in g _ q h ok'.2
      exact ⟨this.1, by simp only [Fm.depth]; omega⟩
def namesI (ps : List (Nat × Int)) : List Int := ps.map fun p => (p.1 : Int)
def freeI : Fm → List Int
  | .atm a => namesI a.tm.ps
  | .no f => sortU (freeI f)
  | .bi _ f g => sortU (freeI f ++ freeI g)
theorem At.tm_ok {a : At} (h : a.ok) : a.tm.ok := by
  cases a with
  | ge t => exact h
  | eq t => exact h
  | mod m t => exact h.2.2
theorem freeI_lt : ∀ (f : Fm), f.ok → ∀ x ∈ freeI f, 0 ≤ x ∧ x < 3
  | .atm a, ok, x, hx => by
    obtain ⟨p, hp, rfl⟩ := List.mem_map.mp hx
    have := (At.tm_ok ok).lt p hp
    omega
  | .no f, ok, x, hx => freeI_lt f ok x (mem_sortU.mp hx)
  | .bi b f g, ok, x, hx => by
    have ok' : f.ok ∧ g.ok := ok
    rcases List.mem_append.mp (mem_sortU.mp hx) with h | h
    · exact freeI_lt f ok'.1 x h
    · exact freeI_lt g ok'.2 x h
theorem rises_len {l : List Int} (h : l.Pairwise (· < ·)) (hl : ∀ x ∈ l, 0 ≤ x ∧ x < 3) : l.length ≤ 3 := by
  have nd : l.Nodup := h.imp fun {a b} hab e => by omega
  have := nodup_le nd (M := [0, 1, 2]) fun x hx => by
    have := hl x hx
    have : x = 0 ∨ x = 1 ∨ x = 2 := by omega
    rcases this with rfl | rfl | rfl <;> simp
  exact this
theorem namesI_up {t : Tm} (ok : t.ok) : (namesI t.ps).Pairwise (· < ·) := by
  unfold namesI
  rw [List.pairwise_map]
  exact ok.up.imp fun {a b} h => by omega
theorem freeI_rises : ∀ (f : Fm), f.ok → (freeI f).Pairwise (· < ·)
  | .atm a, ok => namesI_up (At.tm_ok ok)
  | .no f, ok => sortU_rises
  | .bi b f g, ok => sortU_rises
theorem freeI_len (f : Fm) (ok : f.ok) : (freeI f).length ≤ 3 := rises_len (freeI_rises f ok) (freeI_lt f ok)
def freeS (l : List Fm) : List Int := (l.map freeI).flatten
theorem freeS_len : ∀ (l : List Fm) (k : Nat), l.length ≤ k → (∀ g ∈ l, g.ok) → (freeS l).length ≤ 3 * k
  | [], k, _, _ => by simp [freeS]
  | g :: l, k, hk, h => by
    rw [List.length_cons] at hk
    have h1 := freeS_len l (k - 1) (by omega) fun x hx => h x (List.mem_cons_of_mem _ hx)
    have h2 := freeI_len g (h g (by simp))
    unfold freeS at h1 ⊢
    rw [List.map_cons, List.flatten_cons, List.length_append]
    omega
theorem Fm.kinds (f : Fm) : (∃ a, f = .atm a) ∨ (decide (f.word ∈ (["ge", "eq"] : List Str)) = false ∧ decide (f.word = ("mod" : Str)) = false ∧ decide (f.word ∈ (["some", "all"] : List Str)) = false ∧ freeI f = sortU (freeS f.subs)) := by
  cases f with
  | atm a => exact .inl ⟨a, rfl⟩
  | no f => exact .inr ⟨rfl, rfl, rfl, by simp [freeI, freeS, Fm.subs]⟩
  | bi b f g => cases b <;> exact .inr ⟨rfl, rfl, rfl, by simp [freeI, freeS, Fm.subs]⟩
theorem PVd {X : Cx} {e : Expr} {S S1 : PSt} {d d' : D} (h : PV X e S (.dat d) S1) (e' : d = d') : PV X e S (.dat d') S1 := by rw [← e']; exact h
section
variable {P : Program} {w : World} {K : PySem.W.Frag} {mg : Str → Option Value} {base : Heap}
abbrev ListedPre (n : Nat) (i : Fm × List Nat) : Prop := i.1.ok ∧ i.1.depth ≤ n ∧ i.1.size ≤ 100 ∧ i.2.length + 2 * i.1.depth ≤ 1000
abbrev GListed (P : Program) (w : World) (K : PySem.W.Frag) (mg : Str → Option Value) (base : Heap) (n : Nat) : Prop := GFa P w K mg base (n + 2) "listed" 2 (fun i : Fm × List Nat => [i.1.enc, .tup (encN i.2)]) (ListedPre n) (fun i => .lst (encL (listing i.1 i.2)))
theorem ok_listed (C : Cst K mg) (F : DefOk K mg "listed" "listed" H75.sListed) (G2 : GInner P w K mg base) (G3 : GPlace P w K mg base) : ∀ n, GListed P w K mg base n := by
  intro n
  induction n with
  | zero =>
    refine gfa_of (ps := ["formula", "path"]) (N := ["formula", "path", "found", "index", "part"]) F ⟨rfl, rfl, rfl, by decide +kernel, rfl, by decide +kernel, by decide +kernel⟩ (fun _ => rfl) (fun _ _ _ _ _ _ us hl => match us, hl with | [_, _], _ => rfl) fun fa cdv A outer s H E i hr hi => ?_
    have := i.1.depth_pos
    have := hi.2.1
    omega
  | succ n ih =>
    refine gfa_of (ps := ["formula", "path"]) (N := ["formula", "path", "found", "index", "part"]) F ⟨rfl, rfl, rfl, by decide +kernel, rfl, by decide +kernel, by decide +kernel⟩ (fun _ => rfl) (fun _ _ _ _ _ _ us hl => match us, hl with | [_, _], _ => rfl) fun fa cdv A outer s H E i hr hi => ?_
    obtain ⟨f, path⟩ := i
    obtain ⟨fok, hdn, hsz, hpath⟩ := (show f.ok ∧ f.depth ≤ n + 1 ∧ f.size ≤ 100 ∧ path.length + 2 * f.depth ≤ 1000 from hi)
    have hN : (["formula", "path", "found", "index", "part"] : List Str).Nodup := by decide +kernel
    have hseq := f.size_eq
    refine sN 2 hN (pv_lst (pvs_one (pv_tup (pvs_cons (dv 1) (pvs_one (dv 0))) rfl)) rfl) ?_
    let acc := fun (k : Nat) => (path, f) :: (((f.subs.zipIdx).take k).map fun q => listing q.1 (path ++ f.place q.2)).flatten
    have accl : ∀ k, (acc k).length = 1 + sizes (f.subs.take k) := fun k => by
      simp only [acc, List.length_cons, List.length_flatten, List.map_map]
      have e : (List.length ∘ fun (q : Fm × Nat) => listing q.1 (path ++ f.place q.2)) = fun q => q.1.size := by funext q; exact listing_length _ _
      rw [e]
      have e2 : ((f.subs.zipIdx).take k).map (fun (q : Fm × Nat) => q.1.size) = (f.subs.take k).map Fm.size := by
        have : (f.subs.zipIdx).map (fun (q : Fm × Nat) => q.1.size) = f.subs.map Fm.size := by
          have h := List.zipIdx_map_fst 0 f.subs
          conv => rhs; rw [← h]
          rw [List.map_map]; rfl
        rw [List.map_take, this, List.map_take]
      rw [e2]
      unfold sizes
      omega
    refine ds_forL (L := f.subs.zipIdx) (emb := fun q => .tup [.int (q.2 : Nat), q.1.enc]) (.many [3, 4]) (fun k S => ∃ c d, S = ⟨[some (.dat f.enc), some (.dat (.tup (encN path))), some (.lst (encL (acc k))), c, d], none⟩)
      (fun S => ∃ c d, S = ⟨[some (.dat f.enc), some (.dat (.tup (encN path))), some (.lst (encL (listing f path))), c, d], none⟩) PassesOwn.never rfl
      (bEnum (t := true) (emb := Fm.enc) C.b (pv_callE (d := .tup (f.subs.map Fm.enc)) f G2 hr (by omega) (pvs_one (dv 0)) rfl True.intro)) (tl2 3 4 hN rfl) ⟨none, none, rfl⟩ ?_ ?_ ?_
    · rintro k q S hk ⟨c, d, rfl⟩
      obtain ⟨g, i⟩ := q
      have hg : f.subs[k]? = some g := (zip_at hk).1
      have hik : i = k := (zip_at hk).2
      subst hik
      have hgm := List.mem_of_getElem? hg
      obtain ⟨gok, gd⟩ := Fm.sub_ok hgm fok
      have hpl := f.place_length i
      have hsl := sizes_le hg
      have ha := accl i
      refine ⟨_, rfl, sN 2 hN (pv_catL (ov 2) (pv_callE (d := .lst (encL (listing g (path ++ f.place i)))) (g, path ++ f.place i) ih hr (by omega) (pvs_cons (dv 4) (pvs_one (pv_catT (dv 1) (pv_callE (d := .tup (encN (f.place i))) (f, i) G3 hr (by omega) (pvs_cons (dv 0) (pvs_one (dv 3))) rfl True.intro) (by rw [encN_length, encN_length]; omega)))) ?_ ⟨gok, by show g.depth ≤ n; omega, by show g.size ≤ 100; omega, by show (path ++ f.place i).length + 2 * g.depth ≤ 1000; rw [List.length_append]; omega⟩) rfl rfl rfl rfl ?_) (ds_nil ⟨some (.dat (.int (i : Nat))), some (.dat g.enc), ?_⟩)⟩
      · have e : encN (path ++ f.place i) = encN path ++ encN (f.place i) := by unfold encN; rw [List.map_append]
        show some _ = some [_, D.tup (encN (path ++ f.place i))]
        rw [e]
      · unfold encL
        rw [List.length_map, List.length_map, listing_length]
        omega
      · have e : acc (i + 1) = acc i ++ listing g (path ++ f.place i) := by
          simp only [acc]
          rw [List.take_add_one, hk]
          simp
        have e2 : encL (acc (i + 1)) = encL (acc i) ++ encL (listing g (path ++ f.place i)) := by rw [e]; unfold encL; rw [List.map_append]
        rw [e2]
        rfl
    · rintro S ⟨c, d, h⟩
      have e : acc (f.subs.zipIdx.length) = listing f path := by
        simp only [acc]
        rw [List.take_length, ← listing_eq]
      rw [e] at h
      exact ⟨c, d, h⟩
    · rintro S ⟨c, d, rfl⟩
      exact ds_ret (PV.frzO (ov 2)) ⟨rfl, rfl⟩
abbrev GFree (P : Program) (w : World) (K : PySem.W.Frag) (mg : Str → Option Value) (base : Heap) (n : Nat) : Prop := GFa P w K mg base (n + 2) "free_in" 1 (fun f : Fm => [f.enc]) (fun f => f.ok ∧ f.depth ≤ n) (fun f => .lst ((freeI f).map D.int))
theorem map_ints (ps : List (Nat × Int)) : (namesI ps).map D.int = ps.map fun p => D.int (p.1 : Nat) := by unfold namesI; rw [List.map_map]; rfl
theorem ok_free_in (C : Cst K mg) (F : DefOk K mg "free_in" "free_in" H75.sFreeIn) (G2 : GInner P w K mg base) : ∀ n, GFree P w K mg base n := by
  intro n
  induction n with
  | zero =>
    refine gfa_of (ps := ["formula"]) (N := ["formula", "word", "found", "part", "name", "factor"]) F ⟨rfl, rfl, rfl, by decide +kernel, rfl, by decide +kernel, by decide +kernel⟩ (fun _ => rfl) (fun _ _ _ _ _ _ us hl => match us, hl with | [_], _ => rfl) fun fa cdv A outer s H E i hr hi => ?_
    have := i.depth_pos
    have := hi.2
    omega
  | succ n ih =>
    refine gfa_of (ps := ["formula"]) (N := ["formula", "word", "found", "part", "name", "factor"]) F ⟨rfl, rfl, rfl, by decide +kernel, rfl, by decide +kernel, by decide +kernel⟩ (fun _ => rfl) (fun _ _ _ _ _ _ us hl => match us, hl with | [_], _ => rfl) fun fa cdv A outer s H E f hr hi => ?_
    obtain ⟨fok, hdn⟩ := hi
    have hN : (["formula", "word", "found", "part", "name", "factor"] : List Str).Nodup := by decide +kernel
    have atoms : ∀ (t : Tm), t.ok → t.ps.length ≤ 1000000 := fun t tok => by
      have := rises_len (namesI_up tok) fun x hx => by
        obtain ⟨p, hp, rfl⟩ := List.mem_map.mp hx
        have := tok.lt p hp
        omega
      unfold namesI at this
      rw [List.length_map] at this
      omega
    rcases f.kinds with ⟨a, rfl⟩ | ⟨w1, w2, w3, hfree⟩
    · have tok := At.tm_ok fok
      have hl := atoms a.tm tok
      show PSd _ _ ⟨[some (.dat a.enc), none, none, none, none, none], none⟩ _
      cases a with
      | ge t =>
        refine sD 1 hN (pv_ix (dv 0) pv_int True.intro rfl rfl at0) ?_
        refine iYes (tCd (cd_inSeqS (is := ["ge", "eq"]) (dv 1) (pv_tup (pvs_cons pv_str (pvs_one pv_str)) rfl) rfl rfl)) ?_
        refine rD (d := .lst ((namesI t.ps).map D.int)) ?_ ⟨rfl, rfl⟩
        rw [map_ints]
        exact PV.frz (pv_mapL (L := t.ps) (emb := fun p => .tup [.int (p.1 : Nat), .int p.2]) (f := fun p => D.int (p.1 : Nat)) [("name", 4), ("factor", 5)] (.many [4, 5]) rfl hN (pid_tup (pv_ix (d := encPs t.ps) (pv_ix (d := t.enc) (dv 0) pv_int True.intro rfl rfl rfl) pv_int True.intro rfl rfl rfl)) rfl (tb2 4 5 hN rfl) (fun p hp => ⟨_, rfl, fun s H C2 cl fp => dv 4⟩) hl)
      | eq t =>
        refine sD 1 hN (pv_ix (dv 0) pv_int True.intro rfl rfl at0) ?_
        refine iYes (tCd (cd_inSeqS (is := ["ge", "eq"]) (dv 1) (pv_tup (pvs_cons pv_str (pvs_one pv_str)) rfl) rfl rfl)) ?_
        refine rD (d := .lst ((namesI t.ps).map D.int)) ?_ ⟨rfl, rfl⟩
        rw [map_ints]
        exact PV.frz (pv_mapL (L := t.ps) (emb := fun p => .tup [.int (p.1 : Nat), .int p.2]) (f := fun p => D.int (p.1 : Nat)) [("name", 4), ("factor", 5)] (.many [4, 5]) rfl hN (pid_tup (pv_ix (d := encPs t.ps) (pv_ix (d := t.enc) (dv 0) pv_int True.intro rfl rfl rfl) pv_int True.intro rfl rfl rfl)) rfl (tb2 4 5 hN rfl) (fun p hp => ⟨_, rfl, fun s H C2 cl fp => dv 4⟩) hl)
      | mod m t =>
        refine sD 1 hN (pv_ix (dv 0) pv_int True.intro rfl rfl at0) ?_
        refine iNo (tCd (cd_inSeqS (is := ["ge", "eq"]) (dv 1) (pv_tup (pvs_cons pv_str (pvs_one pv_str)) rfl) rfl rfl)) ?_
        refine iYes (tCd (cd_eqS (dv 1) pv_str)) ?_
        refine rD (d := .lst ((namesI t.ps).map D.int)) ?_ ⟨rfl, rfl⟩
        rw [map_ints]
        exact PV.frz (pv_mapL (L := t.ps) (emb := fun p => .tup [.int (p.1 : Nat), .int p.2]) (f := fun p => D.int (p.1 : Nat)) [("name", 4), ("factor", 5)] (.many [4, 5]) rfl hN (pid_tup (pv_ix (d := encPs t.ps) (pv_ix (d := t.enc) (dv 0) pv_int True.intro rfl rfl rfl) pv_int True.intro rfl rfl rfl)) rfl (tb2 4 5 hN rfl) (fun p hp => ⟨_, rfl, fun s H C2 cl fp => dv 4⟩) hl)
    · have hseq := Fm.subs_length f
      have hlen : ∀ k, (freeS (f.subs.take k)).length ≤ 3 * k := fun k => freeS_len _ k (List.length_take_le ..) fun g hg => (Fm.sub_ok (List.mem_of_mem_take hg) fok).1
      have h6 : (freeS f.subs).length ≤ 6 := by
        have := freeS_len f.subs 2 hseq fun g hg => (Fm.sub_ok hg fok).1
        omega
      rw [hfree]
      show PSd _ _ ⟨[some (.dat f.enc), none, none, none, none, none], none⟩ _
      refine sD 1 hN (pv_ix (d := .str f.word) (PVd (dv 0) f.enc_eq) pv_int True.intro rfl rfl at0) ?_
      refine iNo (tCd (cd_inSeqS (is := ["ge", "eq"]) (dv 1) (pv_tup (pvs_cons pv_str (pvs_one pv_str)) rfl) rfl rfl)) ?_ w1
      refine iNo (tCd (cd_eqS (dv 1) pv_str)) ?_ w2
      refine sN 2 hN (pv_lst pvs_nil rfl) ?_
      refine ds_forL (L := f.subs) (emb := Fm.enc) (.one 3) (fun k S => ∃ c, S = ⟨[some (.dat f.enc), some (.dat (.str f.word)), some (.lst ((freeS (f.subs.take k)).map D.int)), c, none, none], none⟩)
        (fun S => ∃ c, S = ⟨[some (.dat f.enc), some (.dat (.str f.word)), some (.lst ((freeS f.subs).map D.int)), c, none, none], none⟩) PassesOwn.never rfl
        (pid_tup (pv_callE (d := .tup (f.subs.map Fm.enc)) f G2 hr (by omega) (pvs_one (dv 0)) rfl True.intro)) (tl1 3 hN) ⟨none, rfl⟩ ?_ ?_ ?_
      · rintro k g S hk ⟨c, rfl⟩
        obtain ⟨gok, gd⟩ := Fm.sub_ok (List.mem_of_getElem? hk) fok
        have hkl := (List.getElem?_eq_some_iff.mp hk).1
        have h1 := hlen k
        have h2 := freeI_len g gok
        refine ⟨_, rfl, sN 2 hN (pv_catL (ov 2) (pv_callE (d := .lst ((freeI g).map D.int)) g ih hr (by omega) (pvs_one (dv 3)) rfl ⟨gok, by omega⟩) rfl rfl rfl rfl ?_) (ds_nil ⟨some (.dat g.enc), ?_⟩)⟩
        · rw [List.length_map, List.length_map]; omega
        · have e : (freeS (f.subs.take (k + 1))).map D.int = (freeS (f.subs.take k)).map D.int ++ (freeI g).map D.int := by
            rw [← List.map_append]
            congr 1
            unfold freeS
            rw [List.take_add_one, hk]
            simp
          rw [e]
          rfl
      · rintro S ⟨c, h⟩
        rw [List.take_length] at h
        exact ⟨c, h⟩
      · rintro S ⟨c, rfl⟩
        refine iNo (tCd (cd_inSeqS (is := ["some", "all"]) (dv 1) (pv_tup (pvs_cons pv_str (pvs_one pv_str)) rfl) rfl rfl)) ?_ w3
        exact rD (PV.frz (pv_sortedSet (is := freeS f.subs) rfl rfl C.b.sorted rfl C.b.set (ov 2) rfl rfl (by omega))) ⟨rfl, rfl⟩
abbrev GNeedWide (P : Program) (w : World) (K : PySem.W.Frag) (mg : Str → Option Value) (base : Heap) : Prop := GFa P w K mg base 15 "need_wide" 2 (fun i : Nat × Fm => [.int (i.1 : Nat), i.2.enc]) (fun i => 1 ≤ i.1 ∧ i.1 ≤ 4 ∧ i.2.ok ∧ i.2.depth ≤ 8 ∧ i.2.size ≤ 100 ∧ ∀ x ∈ freeI i.2, x < (i.1 : Int)) (fun i => i.2.enc)
theorem ok_need_wide (C : Cst K mg) (F : DefOk K mg "need_wide" "need_wide" H75.sNeedWide) (G1 : GNeedMany P w K mg base) (G2 : GNeedFormula P w K mg base) (G3 : GFree P w K mg base 8) : GNeedWide P w K mg base := by
  refine gfa_of (ps := ["many", "formula"]) (N := ["many", "formula", "name"]) F ⟨rfl, rfl, rfl, by decide +kernel, rfl, by decide +kernel, by decide +kernel⟩ (fun _ => rfl) (fun _ _ _ _ _ _ us hl => match us, hl with | [_, _], _ => rfl) fun fa cdv A outer s H E i hr hi => ?_
  obtain ⟨m, f⟩ := i
  obtain ⟨h1, h4, fok, hd, hs, hx⟩ := (show 1 ≤ m ∧ m ≤ 4 ∧ f.ok ∧ f.depth ≤ 8 ∧ f.size ≤ 100 ∧ ∀ x ∈ freeI f, x < (m : Int) from hi)
  have hN : (["many", "formula", "name"] : List Str).Nodup := by decide +kernel
  refine ds_expr (pv_callE (d := .int (m : Nat)) (m : Int) G1 hr (by omega) (pvs_one (dv 0)) rfl ⟨by omega, by omega⟩) ?_
  refine ds_expr (pv_callE (d := f.enc) f G2 hr (by omega) (pvs_one (dv 1)) rfl ⟨fok, hd, hs⟩) ?_
  refine ds_forL (L := freeI f) (emb := D.int) (.one 2) (fun k S => ∃ c, S = ⟨[some (.dat (.int (m : Nat))), some (.dat f.enc), c], none⟩) (fun S => ∃ c, S = ⟨[some (.dat (.int (m : Nat))), some (.dat f.enc), c], none⟩) PassesOwn.never rfl
    (pid_lst (pv_callE (d := .lst ((freeI f).map D.int)) f G3 hr (by omega) (pvs_one (dv 1)) rfl ⟨fok, hd⟩)) (tl1 2 hN) ⟨none, rfl⟩ ?_ (fun S h => h) ?_
  · rintro k x S hk ⟨c, rfl⟩
    have := hx x (List.mem_of_getElem? hk)
    exact ⟨_, rfl, iNo (tCd (cd_ge (dv 2) (dv 0))) (ds_nil ⟨_, rfl⟩) (decide_eq_false (by omega))⟩
  · rintro S ⟨c, rfl⟩
    exact rD (dv 1) ⟨rfl, rfl⟩
end
end K75
namespace K75
open PySem PySem.Spec PyProof.Rows L2 PL

/-! ### sums of columns -/
def sumStep (s : List Int) (f : Int) : List Int := s ++ s.map fun x => x + f
def sumsF (fs : List Int) : List Int := fs.foldl sumStep [0]
def linF : List Int → Nat → Int
  | [], _ => 0
  | f :: fs, c => (if c % 2 = 1 then f else 0) + linF fs (c / 2)
theorem sums_at : ∀ (fs s : List Int) (c d : Nat) (x : Int), s[c]? = some x → d < 2 ^ fs.length → (fs.foldl sumStep s)[c + s.length * d]? = some (x + linF fs d)
  | [], s, c, d, x, hc, hd => by
    have : d = 0 := by simp at hd; omega
    subst this
    simp [linF, hc]
  | f :: fs, s, c, d, x, hc, hd => by
    have hcl := (List.getElem?_eq_some_iff.mp hc).1
    have hl : (sumStep s f).length = s.length + s.length := by unfold sumStep; simp
    rw [List.length_cons, Nat.pow_succ] at hd
    have key : ∀ (c' : Nat) (x' : Int), (sumStep s f)[c']? = some x' → ((f :: fs).foldl sumStep s)[c' + (s.length + s.length) * (d / 2)]? = some (x' + linF fs (d / 2)) := fun c' x' h => by
      have := sums_at fs (sumStep s f) c' (d / 2) x' h (by omega)
      rw [hl] at this
      exact this
    by_cases h : d % 2 = 1
    · have h1 : (sumStep s f)[s.length + c]? = some (x + f) := by
        unfold sumStep
        rw [List.getElem?_append_right (by omega), List.getElem?_map, show s.length + c - s.length = c by omega, hc]
        rfl
      have h2 := key _ _ h1
      have e : s.length + c + (s.length + s.length) * (d / 2) = c + s.length * d := by
        have hd2 : d = 2 * (d / 2) + 1 := by omega
        generalize d / 2 = q at hd2 ⊢
        subst hd2
        rw [Nat.mul_add, Nat.mul_one, ← Nat.mul_assoc, Nat.mul_comm s.length 2, Nat.two_mul]
        omega
      rw [e] at h2
      rw [h2]
      simp only [linF, h, if_true]
      congr 1
      omega
    · have h1 : (sumStep s f)[c]? = some x := by
        unfold sumStep
        rw [List.getElem?_append_left hcl]
        exact hc
      have h2 := key _ _ h1
      have e : c + (s.length + s.length) * (d / 2) = c + s.length * d := by
        have hd2 : d = 2 * (d / 2) := by omega
        generalize d / 2 = q at hd2 ⊢
        subst hd2
        rw [← Nat.mul_assoc, Nat.mul_comm s.length 2, Nat.two_mul]
      rw [e] at h2
      rw [h2]
      simp only [linF, h, if_false]
      congr 1
      omega
theorem sumsF_at {fs : List Int} {d : Nat} (h : d < 2 ^ fs.length) : (sumsF fs)[d]? = some (linF fs d) := by
  have := sums_at fs [0] 0 d 0 rfl h
  simp at this
  exact this
theorem sumStep_foldl_length : ∀ (fs s : List Int), (fs.foldl sumStep s).length = s.length * 2 ^ fs.length
  | [], s => by simp
  | f :: fs, s => by
    rw [List.foldl_cons, sumStep_foldl_length fs]
    unfold sumStep
    rw [List.length_append, List.length_map, List.length_cons, Nat.pow_succ, ← Nat.mul_two, Nat.mul_assoc, Nat.mul_comm 2]
theorem sumsF_length (fs : List Int) : (sumsF fs).length = 2 ^ fs.length := by unfold sumsF; rw [sumStep_foldl_length]; simp
theorem linF_bound : ∀ (fs : List Int) (c : Nat), (∀ f ∈ fs, -2 ≤ f ∧ f ≤ 2) → -(2 * (fs.length : Int)) ≤ linF fs c ∧ linF fs c ≤ 2 * (fs.length : Int)
  | [], c, _ => by simp [linF]
  | f :: fs, c, h => by
    have h1 := linF_bound fs (c / 2) fun x hx => h x (List.mem_cons_of_mem _ hx)
    have h2 := h f (by simp)
    simp only [linF, List.length_cons]
    split <;> omega
/-! ### carries -/
abbrev Cy := Int × Int
def encCy (c : Cy) : D := .tup [.int c.1, .int c.2]
def encO : Option Cy → D
  | none => .non
  | some c => encCy c
def At.word : At → Str
  | .ge _ => "ge"
  | .eq _ => "eq"
  | .mod _ _ => "mod"
def nextC (a : At) (c : Cy) (more : Int) : Option Cy := match a with
  | .ge _ => some ((c.1 + more) / 2, 0)
  | .eq _ => if (c.1 + more) % 2 = 1 then none else some ((c.1 + more) / 2, 0)
  | .mod _ _ => if c.2 % 2 = 1 then some ((c.1 + more) * ((c.2 + 1) / 2) % c.2, c.2) else if (c.1 + more) % 2 = 1 then none else some ((c.1 + more) / 2 % (c.2 / 2), c.2 / 2)
def startC (a : At) : Cy := match a with
  | .ge t => (t.c, 0)
  | .eq t => (t.c, 0)
  | .mod m t => (t.c % (m : Int), (m : Int))
def CInv (a : At) (c : Cy) : Prop := match a with
  | .ge _ => c.2 = 0 ∧ -6 ≤ c.1 ∧ c.1 ≤ 6
  | .eq _ => c.2 = 0 ∧ -6 ≤ c.1 ∧ c.1 ≤ 6
  | .mod _ _ => 1 ≤ c.2 ∧ c.2 ≤ 6 ∧ 0 ≤ c.1 ∧ c.1 < c.2
theorem startC_inv {a : At} (ok : a.ok) : CInv a (startC a) := by
  cases a with
  | ge t => exact ⟨rfl, ok.c⟩
  | eq t => exact ⟨rfl, ok.c⟩
  | mod m t =>
    obtain ⟨h1, h2, _⟩ := ok
    have a1 : (0 : Int) < (m : Int) := by omega
    exact ⟨by show (1 : Int) ≤ (m : Int); omega, by show (m : Int) ≤ 6; omega, Int.emod_nonneg _ (by omega), Int.emod_lt_of_pos _ a1⟩
theorem nextC_inv {a : At} {c c' : Cy} {more : Int} (h : CInv a c) (hm : -6 ≤ more ∧ more ≤ 6) (e : nextC a c more = some c') : CInv a c' := by
  cases a with
  | ge t =>
    obtain ⟨h1, h2, h3⟩ := h
    simp only [nextC] at e
    cases e
    exact ⟨rfl, by show -6 ≤ (c.1 + more) / 2; omega, by show (c.1 + more) / 2 ≤ 6; omega⟩
  | eq t =>
    obtain ⟨h1, h2, h3⟩ := h
    simp only [nextC] at e
    split at e
    · cases e
    · cases e
      exact ⟨rfl, by show -6 ≤ (c.1 + more) / 2; omega, by show (c.1 + more) / 2 ≤ 6; omega⟩
  | mod m t =>
    obtain ⟨h1, h2, h3, h4⟩ := h
    simp only [nextC] at e
    split at e
    · cases e
      exact ⟨h1, h2, Int.emod_nonneg _ (by omega), Int.emod_lt_of_pos _ (by omega)⟩
    · split at e
      · cases e
      · cases e
        have : 0 < c.2 / 2 := by omega
        exact ⟨by show 1 ≤ c.2 / 2; omega, by show c.2 / 2 ≤ 6; omega, Int.emod_nonneg _ (by omega), Int.emod_lt_of_pos _ this⟩
section
variable {P : Program} {w : World} {K : PySem.W.Frag} {mg : Str → Option Value} {base : Heap}
abbrev GSums (P : Program) (w : World) (K : PySem.W.Frag) (mg : Str → Option Value) (base : Heap) : Prop := GFa P w K mg base 1 "column_sums" 1 (fun fs : List Int => [.lst (fs.map D.int)]) (fun fs => fs.length ≤ 6) (fun fs => .lst ((sumsF fs).map D.int))
theorem ok_column_sums (C : Cst K mg) (F : DefOk K mg "column_sums" "column_sums" H75.sColumnSums) : GSums P w K mg base := by
  refine gfa_of (ps := ["factors"]) (N := ["factors", "sums", "factor", "old"]) F ⟨rfl, rfl, rfl, by decide +kernel, rfl, by decide +kernel, by decide +kernel⟩ (fun _ => rfl) (fun _ _ _ _ _ _ us hl => match us, hl with | [_], _ => rfl) fun fa cdv A outer s H E fs hr hi => ?_
  have hN : (["factors", "sums", "factor", "old"] : List Str).Nodup := by decide +kernel
  have h6 : fs.length ≤ 6 := hi
  refine sN 1 hN (pv_lst (pvs_one pv_int) rfl) ?_
  refine ds_forL (L := fs) (emb := D.int) (.one 2) (fun k S => ∃ c, S = ⟨[some (.dat (.lst (fs.map D.int))), some (.lst ((sumsF (fs.take k)).map D.int)), c, none], none⟩) (fun S => ∃ c, S = ⟨[some (.dat (.lst (fs.map D.int))), some (.lst ((sumsF fs).map D.int)), c, none], none⟩) PassesOwn.never rfl (pid_lst (dv 0)) (tl1 2 hN) ⟨none, rfl⟩ ?_ ?_ ?_
  · rintro k x S hk ⟨c, rfl⟩
    have hl : (sumsF (fs.take k)).length ≤ 64 := by
      rw [sumsF_length, List.length_take]
      exact Nat.le_trans (Nat.pow_le_pow_right (by omega) (by omega : min k fs.length ≤ 6)) (by decide)
    refine ⟨_, rfl, sN 1 hN (pv_catL (ov 1) (pv_mapO (i := 1) (L := sumsF (fs.take k)) (emb := D.int) (f := fun y => D.int (y + x)) [("old", 3)] (.one 3) rfl hN (pio_lst (ov 1) rfl) rfl rfl (tb1 3 hN) (fun y hy => ⟨_, rfl, fun s H C2 cl fp => pv_add (dv 3) (dv 2)⟩) (by omega)) rfl rfl rfl rfl (by rw [List.length_map, List.length_map]; omega)) (ds_nil ⟨some (.dat (.int x)), ?_⟩)⟩
    have e : (sumsF (fs.take (k + 1))).map D.int = (sumsF (fs.take k)).map D.int ++ (sumsF (fs.take k)).map (fun y => D.int (y + x)) := by
      rw [List.take_add_one, hk]
      unfold sumsF
      rw [List.foldl_append]
      show (sumStep _ x).map D.int = _
      unfold sumStep
      rw [List.map_append, List.map_map]
      rfl
    rw [e]
    rfl
  · rintro S ⟨c, h⟩
    rw [List.take_length] at h
    exact ⟨c, h⟩
  · rintro S ⟨c, rfl⟩
    exact ds_ret (PV.frzO (ov 1)) ⟨rfl, rfl⟩
abbrev GNext (P : Program) (w : World) (K : PySem.W.Frag) (mg : Str → Option Value) (base : Heap) : Prop := GFa P w K mg base 1 "next_carry" 3 (fun i : At × Cy × Int => [.str i.1.word, encCy i.2.1, .int i.2.2]) (fun i => CInv i.1 i.2.1 ∧ -6 ≤ i.2.2 ∧ i.2.2 ≤ 6) (fun i => encO (nextC i.1 i.2.1 i.2.2))
theorem ok_next_carry (C : Cst K mg) (F : DefOk K mg "next_carry" "next_carry" H75.sNextCarry) : GNext P w K mg base := by
  refine gfa_of (ps := ["word", "carry", "more"]) (N := ["word", "carry", "more", "left", "modulus", "total"]) F ⟨rfl, rfl, rfl, by decide +kernel, rfl, by decide +kernel, by decide +kernel⟩ (fun _ => rfl) (fun _ _ _ _ _ _ us hl => match us, hl with | [_, _, _], _ => rfl) fun fa cdv A outer s H E i hr hi => ?_
  obtain ⟨a, ⟨l, m⟩, more⟩ := i
  obtain ⟨hc, hm⟩ := (show CInv a (l, m) ∧ -6 ≤ more ∧ more ≤ 6 from hi)
  have hN : (["word", "carry", "more", "left", "modulus", "total"] : List Str).Nodup := by decide +kernel
  refine ds_unpack (is := [3, 4]) (ds := [.int l, .int m]) hN rfl (tgs_one 3 rfl (.inl rfl) (tgs_one 4 rfl (.inl rfl) .nil)) rfl (dv 1) ?_
  refine sD 5 hN (pv_add (dv 3) (dv 2)) ?_
  cases a with
  | ge t => exact iYes (tCd (cd_eqS (dv 0) pv_str)) (rD (pv_tup (pvs_cons (pv_fdiv (dv 5) pv_int) (pvs_one pv_int)) rfl) ⟨rfl, rfl⟩)
  | eq t =>
    refine iNo (tCd (cd_eqS (dv 0) pv_str)) ?_
    refine iNo (z := false && false) (PWd.t (td_and (PTz (tCd (cd_eqS (dv 0) pv_str))) fun h => nomatch h)) ?_
    refine ds_when (tCd (cd_eqI (pv_mod (dv 5) pv_int) pv_int)) (fun hz => rD pv_non ⟨rfl, ?_⟩) fun hz => ?_
    · show D.non = encO (if (l + more) % 2 = 1 then none else some ((l + more) / 2, 0))
      rw [if_pos (of_decide_eq_true hz)]
      rfl
    refine iYes (tCd (cd_eqS (dv 0) pv_str)) (rD (pv_tup (pvs_cons (pv_fdiv (dv 5) pv_int) (pvs_one pv_int)) rfl) ⟨rfl, ?_⟩)
    show D.tup [.int ((l + more) / 2), .int 0] = encO (if (l + more) % 2 = 1 then none else some ((l + more) / 2, 0))
    rw [if_neg (of_decide_eq_false hz)]
    rfl
  | mod mm t =>
    obtain ⟨h1, h2, h3, h4⟩ := (show 1 ≤ m ∧ m ≤ 6 ∧ 0 ≤ l ∧ l < m from hc)
    refine iNo (tCd (cd_eqS (dv 0) pv_str)) ?_
    refine ds_when (PWd.t (td_and (z := true) (PTz (tCd (cd_eqS (dv 0) pv_str))) fun _ => td_one (tCd (cd_eqI (pv_mod (dv 4) pv_int) pv_int)))) (fun hz => ?_) fun hz => ?_
    · rw [Bool.true_and] at hz
      refine rD (pv_tup (pvs_cons (pv_mod (pv_mul (dv 5) (pv_fdiv (pv_add (dv 4) pv_int) pv_int) (.inr ⟨by omega, by omega⟩)) (dv 4) (by omega)) (pvs_one (dv 4))) rfl) ⟨rfl, ?_⟩
      show _ = encO (if m % 2 = 1 then some ((l + more) * ((m + 1) / 2) % m, m) else if (l + more) % 2 = 1 then none else some ((l + more) / 2 % (m / 2), m / 2))
      rw [if_pos (of_decide_eq_true hz)]
      rfl
    · rw [Bool.true_and] at hz
      have hme := of_decide_eq_false hz
      refine ds_when (tCd (cd_eqI (pv_mod (dv 5) pv_int) pv_int)) (fun hz2 => rD pv_non ⟨rfl, ?_⟩) fun hz2 => ?_
      · show D.non = encO (if m % 2 = 1 then some ((l + more) * ((m + 1) / 2) % m, m) else if (l + more) % 2 = 1 then none else some ((l + more) / 2 % (m / 2), m / 2))
        rw [if_neg hme, if_pos (of_decide_eq_true hz2)]
        rfl
      · refine iNo (tCd (cd_eqS (dv 0) pv_str)) ?_
        refine rD (pv_tup (pvs_cons (pv_mod (pv_fdiv (dv 5) pv_int) (pv_fdiv (dv 4) pv_int) (by omega)) (pvs_one (pv_fdiv (dv 4) pv_int))) rfl) ⟨rfl, ?_⟩
        show _ = encO (if m % 2 = 1 then some ((l + more) * ((m + 1) / 2) % m, m) else if (l + more) % 2 = 1 then none else some ((l + more) / 2 % (m / 2), m / 2))
        rw [if_neg hme, if_neg (of_decide_eq_false hz2)]
        rfl
abbrev GFirst (P : Program) (w : World) (K : PySem.W.Frag) (mg : Str → Option Value) (base : Heap) : Prop := GFa P w K mg base 1 "first_carry" 1 (fun a : At => [a.enc]) At.ok (fun a => encCy (startC a))
theorem ok_first_carry (C : Cst K mg) (F : DefOk K mg "first_carry" "first_carry" H75.sFirstCarry) : GFirst P w K mg base := by
  refine gfa_of (ps := ["atom"]) (N := ["atom"]) F ⟨rfl, rfl, rfl, by decide +kernel, rfl, by decide +kernel, by decide +kernel⟩ (fun _ => rfl) (fun _ _ _ _ _ _ us hl => match us, hl with | [_], _ => rfl) fun fa cdv A outer s H E a hr hi => ?_
  have aok : a.ok := hi
  show PSd _ _ ⟨[some (.dat a.enc)], none⟩ _
  cases a with
  | ge t => exact iNo (tCd (cd_eqS (pv_ix (dv 0) pv_int True.intro rfl rfl at0) pv_str)) (rD (pv_tup (pvs_cons (pv_ix (pv_ix (d := t.enc) (dv 0) pv_int True.intro rfl rfl rfl) pv_int True.intro rfl rfl rfl) (pvs_one pv_int)) rfl) ⟨rfl, rfl⟩)
  | eq t => exact iNo (tCd (cd_eqS (pv_ix (dv 0) pv_int True.intro rfl rfl at0) pv_str)) (rD (pv_tup (pvs_cons (pv_ix (pv_ix (d := t.enc) (dv 0) pv_int True.intro rfl rfl rfl) pv_int True.intro rfl rfl rfl) (pvs_one pv_int)) rfl) ⟨rfl, rfl⟩)
  | mod m t =>
    obtain ⟨h2, h6, _⟩ := (show 2 ≤ m ∧ m ≤ 6 ∧ t.ok from aok)
    exact iYes (tCd (cd_eqS (pv_ix (dv 0) pv_int True.intro rfl rfl at0) pv_str)) (rD (pv_tup (pvs_cons (pv_mod (pv_ix (pv_ix (d := t.enc) (dv 0) pv_int True.intro rfl rfl rfl) pv_int True.intro rfl rfl rfl) (pv_ix (dv 0) pv_int True.intro rfl rfl rfl) (by omega)) (pvs_one (pv_ix (dv 0) pv_int True.intro rfl rfl rfl))) rfl) ⟨rfl, rfl⟩)
end
end K75
namespace K75
open PySem PySem.Spec PyProof.Rows L2 PL

def cyk (c : Cy) : NestedKey := (encCy c).key
theorem cyk_inj : ∀ a b : Cy, cyk a = cyk b → a = b := fun a b h => by
  have h' : NestedKey.tup [.num a.1, .num a.2] = NestedKey.tup [.num b.1, .num b.2] := h
  injection h' with h'
  injection h' with h1 h2
  injection h2 with h2 _
  injection h1 with h1
  injection h2 with h2
  exact Prod.ext h1 h2
theorem At.enc_eq (a : At) : ∃ as, a.enc = .tup as ∧ atI as 0 = some (.str a.word) ∧ atI as (-1) = some a.tm.enc := by
  cases a with
  | ge t => exact ⟨_, rfl, rfl, rfl⟩
  | eq t => exact ⟨_, rfl, rfl, rfl⟩
  | mod m t => exact ⟨_, rfl, rfl, rfl⟩
def factors (a : At) : List Int := a.tm.ps.map (·.2)
def wideA (a : At) : Nat := a.tm.ps.length
theorem wideA_le {a : At} (ok : a.ok) : wideA a ≤ 3 := by
  have := rises_len (namesI_up (At.tm_ok ok)) fun x hx => by
    obtain ⟨p, hp, rfl⟩ := List.mem_map.mp hx
    have := (At.tm_ok ok).lt p hp
    omega
  unfold namesI at this
  rw [List.length_map] at this
  exact this
theorem more_bound {a : At} (ok : a.ok) (c : Nat) : -6 ≤ linF (factors a) c ∧ linF (factors a) c ≤ 6 := by
  have h1 := linF_bound (factors a) c fun f hf => by
    obtain ⟨p, hp, rfl⟩ := List.mem_map.mp hf
    have := (At.tm_ok ok).lt p hp
    omega
  have h2 := wideA_le ok
  have h3 : (factors a).length = wideA a := List.length_map _
  rw [h3] at h1
  omega
theorem cinv_few {a : At} {line : List Cy} (nd : line.Nodup) (h : ∀ c ∈ line, CInv a c) : line.length ≤ 91 := by
  have := nodup_le nd (M := (List.range 13).flatMap fun i => (List.range 7).map fun j => (((i : Nat) : Int) - 6, ((j : Nat) : Int))) fun c hc => by
    have hh := h c hc
    have key : -6 ≤ c.1 ∧ c.1 ≤ 6 ∧ 0 ≤ c.2 ∧ c.2 ≤ 6 := by
      cases a with
      | ge t => obtain ⟨h1, h2, h3⟩ := hh; omega
      | eq t => obtain ⟨h1, h2, h3⟩ := hh; omega
      | mod m t => obtain ⟨h1, h2, h3, h4⟩ := hh; omega
    refine List.mem_flatMap.mpr ⟨(c.1 + 6).toNat, List.mem_range.mpr (by omega), List.mem_map.mpr ⟨c.2.toNat, List.mem_range.mpr (by omega), Prod.ext ?_ ?_⟩⟩
    · show (((c.1 + 6).toNat : Nat) : Int) - 6 = c.1; omega
    · show ((c.2.toNat : Nat) : Int) = c.2; omega
  refine Nat.le_trans this (by decide)
def Cell (line : List Cy) (oc : Option Cy) (o : Option Nat) : Prop := match oc, o with
  | none, none => True
  | some c, some n => line[n]? = some c
  | _, _ => False
theorem Cell.grow {line line' : List Cy} {oc : Option Cy} {o : Option Nat} (h : Cell line oc o) (e : ∀ (i : Nat) (x : Cy), line[i]? = some x → line'[i]? = some x) : Cell line' oc o := by
  cases oc with
  | none => cases o with
    | none => exact h
    | some n => exact h
  | some c => cases o with
    | none => exact h
    | some n => exact e n c h
def encON : Option Nat → D
  | none => .non
  | some n => .int (n : Nat)
structure CarInv (a : At) (line : List Cy) (rows : List (List (Option Nat))) : Prop where
  nd : line.Nodup
  hd : line[0]? = some (startC a)
  inv : ∀ c ∈ line, CInv a c
  le : rows.length ≤ line.length
  row : ∀ (j : Nat) (c : Cy), j < rows.length → line[j]? = some c → ∃ row : List (Option Nat), rows[j]? = some row ∧ row.length = 2 ^ wideA a ∧ ∀ C, C < 2 ^ wideA a → ∃ o, row[C]? = some o ∧ Cell line (nextC a c (linF (factors a) C)) o
theorem CarInv.grow {a : At} {line : List Cy} {rows : List (List (Option Nat))} {c : Cy} (h : CarInv a line rows) (hc : c ∉ line) (hi : CInv a c) : CarInv a (line ++ [c]) rows where
  nd := nodup_snoc h.nd hc
  hd := by rw [List.getElem?_append_left (List.getElem?_eq_some_iff.mp h.hd).1]; exact h.hd
  inv := fun x hx => by
    rcases List.mem_append.mp hx with hx | hx
    · exact h.inv x hx
    · rw [List.mem_singleton.mp hx]; exact hi
  le := by have := h.le; rw [List.length_append]; omega
  row := fun j x hj hx => by
    have hle := h.le
    rw [List.getElem?_append_left (by omega)] at hx
    obtain ⟨row, b, c', d⟩ := h.row j x hj hx
    refine ⟨row, b, c', fun i hi => ?_⟩
    obtain ⟨o, e1, e2⟩ := d i hi
    exact ⟨o, e1, e2.grow fun i x hx => by rw [List.getElem?_append_left (List.getElem?_eq_some_iff.mp hx).1]; exact hx⟩
def encRowsO (rows : List (List (Option Nat))) : List D := rows.map fun r => .lst (r.map encON)
section
variable {P : Program} {w : World} {K : PySem.W.Frag} {mg : Str → Option Value} {base : Heap}
abbrev GCarries (P : Program) (w : World) (K : PySem.W.Frag) (mg : Str → Option Value) (base : Heap) : Prop := GFr P w K mg base 2 "carries_of" 1 (fun a : At => [a.enc]) At.ok (fun a d => ∃ line rows, d = .tup [.lst (line.map encCy), .lst (encRowsO rows)] ∧ CarInv a line rows ∧ rows.length = line.length)
theorem ok_carries_of (C : Cst K mg) (F : DefOk K mg "carries_of" "carries_of" H75.sCarriesOf) (G1 : GSums P w K mg base) (G2 : GNext P w K mg base) (G3 : GFirst P w K mg base) : GCarries P w K mg base := by
  refine gfr_of (ps := ["atom"]) (N := ["atom", "word", "sums", "line", "numbers", "rows", "carry", "row", "more", "goal", "name", "factor"]) F ⟨rfl, rfl, rfl, by decide +kernel, rfl, by decide +kernel, by decide +kernel⟩ (fun _ => rfl) (fun _ _ _ _ _ _ us hl => match us, hl with | [_], _ => rfl) fun fa cdv A outer s H E a hr hi => ?_
  have aok : a.ok := hi
  have hN : (["atom", "word", "sums", "line", "numbers", "rows", "carry", "row", "more", "goal", "name", "factor"] : List Str).Nodup := by decide +kernel
  have hu9 := PL.Room.u9 hr
  obtain ⟨as, ea, e0, e1⟩ := a.enc_eq
  have hw := wideA_le aok
  have h8 : 2 ^ wideA a ≤ 8 := Nat.le_trans (Nat.pow_le_pow_right (by omega) hw) (by decide)
  have hfl : (factors a).length = wideA a := List.length_map _
  show PSd _ _ ⟨[some (.dat a.enc), none, none, none, none, none, none, none, none, none, none, none], none⟩ _
  refine sD 1 hN (pv_ix (d := .str a.word) (PVd (dv 0) ea) pv_int True.intro rfl rfl e0) ?_
  refine sD 2 hN (pv_callE (d := .lst ((sumsF (factors a)).map D.int)) (factors a) G1 hr (by omega) (pvs_one (PV.frz (pv_mapL (L := a.tm.ps) (emb := fun p => .tup [.int (p.1 : Nat), .int p.2]) (f := fun p => D.int p.2) [("name", 10), ("factor", 11)] (.many [10, 11]) rfl hN (pid_tup (pv_ix (d := encPs a.tm.ps) (pv_ix (d := a.tm.enc) (PVd (dv 0) ea) (pv_neg pv_int) True.intro rfl rfl e1) pv_int True.intro rfl rfl rfl)) rfl (tb2 10 11 hN rfl) (fun p hp => ⟨_, rfl, fun s H C2 cl fp => dv 11⟩) (by unfold wideA at hw; omega)))) ?_ (by omega)) ?_
  · show some [D.lst (a.tm.ps.map fun p => D.int p.2)] = some [D.lst ((factors a).map D.int)]
    unfold factors
    rw [List.map_map]
    rfl
  refine sN 3 hN (pv_lst (pvs_one (pv_callE (d := encCy (startC a)) a G3 hr (by omega) (pvs_one (dv 0)) rfl aok)) rfl (by simp)) ?_
  refine sN 4 hN (pv_dispN hu9 (pv_ix (d := encCy (startC a)) (ov 3) pv_int rfl rfl rfl rfl) pv_int rfl) (sN 5 hN (pv_lst pvs_nil rfl) ?_)
  let St := fun (line : List Cy) (rows : List (List (Option Nat))) (c6 c7 c8 c9 : Option Sl) => (⟨[some (.dat a.enc), some (.dat (.str a.word)), some (.dat (.lst ((sumsF (factors a)).map D.int))), some (.lst (line.map encCy)), some (.dicN (idxT cyk line)), some (.lst (encRowsO rows)), c6, c7, c8, c9, none, none], none⟩ : PSt)
  refine ds_while (fun m S => ∃ line rows c6 c7 c8 c9, S = St line rows c6 c7 c8 c9 ∧ CarInv a line rows ∧ m = 100 - rows.length) (fun S => ∃ line rows c6 c7 c8 c9, S = St line rows c6 c7 c8 c9 ∧ CarInv a line rows ∧ rows.length = line.length) (m0 := 100) PassesOwn.never
    ⟨[startC a], [], none, none, none, none, rfl, ⟨by simp, rfl, fun c hc => by rw [List.mem_singleton.mp hc]; exact startC_inv aok, by simp, fun j c hj => absurd hj (by simp)⟩, by simp⟩ ?_ ?_
  · rintro m S ⟨line, rows, c6, c7, c8, c9, rfl, inv, rfl⟩
    have hle := inv.le
    have hll := cinv_few inv.nd inv.inv
    refine ⟨_, _, tCd (cd_lt (bLen C.b (ov 5)) (bLen C.b (ov 3))), fun hz => ?_, fun hz => ?_⟩
    · have hlt : rows.length < line.length := by
        have := of_decide_eq_true hz
        unfold encRowsO at this
        rw [List.length_map, List.length_map] at this; omega
      obtain ⟨c, hc⟩ : ∃ c, line[rows.length]? = some c := ⟨_, List.getElem?_eq_getElem hlt⟩
      have hci := inv.inv c (List.mem_of_getElem? hc)
      refine sD 6 hN (pv_ix (d := encCy c) (ov 3) (bLen C.b (ov 5)) rfl rfl rfl (by unfold encRowsO; rw [List.length_map]; exact atI_nat (by rw [List.getElem?_map, hc]; rfl))) ?_
      refine sN 7 hN (pv_lst pvs_nil rfl) ?_
      refine ds_forL (L := sumsF (factors a)) (emb := D.int) (.one 8) (fun j S => ∃ (line2 : List Cy) (row : List (Option Nat)) (c8 c9 : Option Sl), S = St line2 rows (some (.dat (encCy c))) (some (.lst (row.map encON))) c8 c9 ∧ CarInv a line2 rows ∧ rows.length < line2.length ∧ line2[rows.length]? = some c ∧ row.length = j ∧ ∀ x, x < j → ∃ o, row[x]? = some o ∧ Cell line2 (nextC a c (linF (factors a) x)) o)
        (fun S => ∃ (line2 : List Cy) (row : List (Option Nat)) (c8 c9 : Option Sl), S = St line2 rows (some (.dat (encCy c))) (some (.lst (row.map encON))) c8 c9 ∧ CarInv a line2 rows ∧ rows.length < line2.length ∧ line2[rows.length]? = some c ∧ row.length = 2 ^ wideA a ∧ ∀ x, x < 2 ^ wideA a → ∃ o, row[x]? = some o ∧ Cell line2 (nextC a c (linF (factors a) x)) o) PassesOwn.never rfl
        (pid_lst (dv 2)) (tl1 8 hN) ⟨line, [], c8, c9, rfl, inv, hlt, hc, rfl, fun x hx => absurd hx (by omega)⟩ ?_ ?_ ?_
      · rintro j more S hj ⟨line2, row, c8, c9, rfl, inv2, hlt2, hc2, hrl, hpre⟩
        have hjl := (List.getElem?_eq_some_iff.mp hj).1
        rw [sumsF_length, hfl] at hjl
        have hmj : more = linF (factors a) j := by
          have := sumsF_at (fs := factors a) (d := j) (by rw [hfl]; exact hjl)
          rw [hj] at this
          exact Option.some.inj this
        have hmb := more_bound aok j
        rw [← hmj] at hmb
        have h2l := cinv_few inv2.nd inv2.inv
        have step : ∀ {line3 : List Cy} {o : Option Nat}, (∀ (i : Nat) (x : Cy), line2[i]? = some x → line3[i]? = some x) → Cell line3 (nextC a c more) o → ∀ x, x < j + 1 → ∃ o', (row ++ [o])[x]? = some o' ∧ Cell line3 (nextC a c (linF (factors a) x)) o' := fun {line3 o} hext hn x hx => by
          by_cases e : x = j
          · subst e
            exact ⟨o, by rw [List.getElem?_append_right (by omega)]; simp [hrl], by rw [← hmj]; exact hn⟩
          · obtain ⟨o', h1, h2⟩ := hpre x (by omega)
            exact ⟨o', by rw [List.getElem?_append_left (List.getElem?_eq_some_iff.mp h1).1]; exact h1, h2.grow hext⟩
        refine ⟨_, rfl, sD 9 hN (pv_callE (d := encO (nextC a c more)) (a, c, more) G2 hr (by omega) (pvs_cons (dv 1) (pvs_cons (dv 6) (pvs_one (dv 8)))) rfl ⟨hci, hmb⟩) ?_⟩
        have snoc : ∀ (l : List Cy) (x : Cy), (l ++ [x]).map encCy = l.map encCy ++ [encCy x] := fun l x => by rw [List.map_append]; rfl
        have snocR : ∀ (o : Option Nat), (row ++ [o]).map encON = row.map encON ++ [encON o] := fun o => by rw [List.map_append]; rfl
        have hrow8 : (row.map encON).length < 1000000 := by rw [List.length_map]; omega
        cases hn : nextC a c more with
        | none =>
          rw [hn] at step
          refine iNo (z := false && false) (PWd.t (td_and (PTz (tCd (cd_notN (dv 9)))) fun h => nomatch h)) ?_
          refine ds_app (i := 7) (ov 7) (vif (z := true) (PTz (tCd (cd_isN (dv 9)))) (fun _ => pv_non) (fun h => nomatch h)) rfl hrow8 rfl (ds_nil ⟨line2, row ++ [none], some (.dat (.int more)), some (.dat .non), ?_, inv2, hlt2, hc2, by rw [List.length_append, hrl]; rfl, step (fun _ _ h => h) True.intro⟩)
          simp only [St]
          rw [snocR]
          rfl
        | some c' =>
          rw [hn] at step
          have hci' := nextC_inv hci hmb hn
          refine ds_if (fun S => ∃ (line3 : List Cy) (n : Nat), S = St line3 rows (some (.dat (encCy c))) (some (.lst (row.map encON))) (some (.dat (.int more))) (some (.dat (encCy c'))) ∧ CarInv a line3 rows ∧ rows.length < line3.length ∧ line3[rows.length]? = some c ∧ (∀ (i : Nat) (x : Cy), line2[i]? = some x → line3[i]? = some x) ∧ line3[n]? = some c') (PWd.t (td_and (z := true) (PTz (tCd (cd_notN (dv 9)))) fun _ => td_one (tCd (cd_notInN (ds := [.int c'.1, .int c'.2]) hu9 (dv 9) (ov 4) rfl rfl)))) (fun hz => ?_) (fun hz => ds_nil ?_) ?_
          · rw [Bool.true_and] at hz
            have hnew : c' ∉ line2 := fun hm => by
              have := (idxT_some cyk_inj inv2.nd).mpr hm
              have hz' : (!(aget (idxT cyk line2) (cyk c')).isSome) = true := hz
              rw [this] at hz'; exact nomatch hz'
            have inv3 := inv2.grow hnew hci'
            refine iNo (tCd (cd_eqI (bLen C.b (ov 3)) (gi C.reached))) ?_ (decide_eq_false (by rw [List.length_map]; omega))
            refine ds_putN (ds := [.int c'.1, .int c'.2]) (i := 4) hu9 (bLen C.b (ov 3)) (ov 4) (dv 9) rfl rfl (by rw [idxT_length]; omega) (ds_app (i := 3) (ov 3) (dv 9) rfl (by rw [List.length_map]; omega) rfl (ds_nil ⟨line2 ++ [c'], line2.length, ?_, inv3, by rw [List.length_append]; omega, by rw [List.getElem?_append_left hlt2]; exact hc2, fun i x hx => by rw [List.getElem?_append_left (List.getElem?_eq_some_iff.mp hx).1]; exact hx, by simp⟩))
            simp only [St]
            rw [snoc, List.length_map, ← idxT_snoc cyk_inj hnew]
            rfl
          · rw [Bool.true_and, Bool.not_eq_false'] at hz
            have hmem : c' ∈ line2 := (idxT_some cyk_inj inv2.nd).mp hz
            obtain ⟨n, hn, e⟩ := List.getElem_of_mem hmem
            exact ⟨line2, n, rfl, inv2, hlt2, hc2, fun _ _ h => h, by rw [List.getElem?_eq_getElem hn, e]⟩
          · rintro S ⟨line3, n, rfl, inv3, hlt3, hc3, hext, hn3⟩
            refine ds_app (i := 7) (d := .int (n : Nat)) (ov 7) (vif (z := false) (PTz (tCd (cd_isN (dv 9)))) (fun h => nomatch h) (fun _ => vd_getN (ds := [.int c'.1, .int c'.2]) hu9 (ov 4) (dv 9) rfl rfl rfl (idxT_at cyk_inj inv3.nd hn3))) rfl hrow8 rfl (ds_nil ⟨line3, row ++ [some n], some (.dat (.int more)), some (.dat (encCy c')), ?_, inv3, hlt3, hc3, by rw [List.length_append, hrl]; rfl, step hext hn3⟩)
            simp only [St]
            rw [snocR]
            rfl
      · rintro S ⟨line2, row, c8, c9, rfl, inv2, hlt2, hc2, hrl, hpre⟩
        rw [sumsF_length, hfl] at hrl hpre
        exact ⟨line2, row, c8, c9, rfl, inv2, hlt2, hc2, hrl, hpre⟩
      · rintro S ⟨line2, row, c8, c9, rfl, inv2, hlt2, hc2, hrl, hpre⟩
        have h2l := cinv_few inv2.nd inv2.inv
        refine ds_app (i := 5) (ov 5) (PV.frzO (ov 7)) rfl (by unfold encRowsO; rw [List.length_map]; omega) rfl (ds_nil ⟨100 - (rows.length + 1), by omega, line2, rows ++ [row], some (.dat (encCy c)), some (.dat (.lst (row.map encON))), c8, c9, ?_, ⟨inv2.nd, inv2.hd, inv2.inv, by rw [List.length_append]; simp; omega, fun j x hj hx => ?_⟩, by rw [List.length_append]; rfl⟩)
        · have e : encRowsO (rows ++ [row]) = encRowsO rows ++ [D.lst (row.map encON)] := by unfold encRowsO; rw [List.map_append]; rfl
          simp only [St]
          rw [e]
          rfl
        · by_cases e : j = rows.length
          · subst e
            rw [hc2] at hx
            cases hx
            exact ⟨row, by simp, hrl, hpre⟩
          · rw [List.length_append] at hj
            simp at hj
            obtain ⟨row', b', c', d'⟩ := inv2.row j x (by omega) hx
            exact ⟨row', by rw [List.getElem?_append_left (by omega)]; exact b', c', d'⟩
    · refine ⟨line, rows, c6, c7, c8, c9, rfl, inv, ?_⟩
      have := of_decide_eq_false hz
      unfold encRowsO at this
      rw [List.length_map, List.length_map] at this; omega
  · rintro S ⟨line, rows, c6, c7, c8, c9, rfl, inv, hlen⟩
    exact ds_ret (pv_tup (pvs_cons (PV.frzO (ov 3)) (pvs_one (PV.frzO (ov 5)))) rfl) ⟨rfl, line, rows, rfl, inv, hlen⟩
end
end K75
namespace K75
open PySem PySem.Spec PyProof.Rows L2 PL

def accC (a : At) (c : Cy) : Bool := match a with
  | .ge _ => decide (0 ≤ c.1)
  | _ => decide (c.1 = 0)
def accO (a : At) : Option Cy → Bool
  | none => false
  | some c => accC a c
def stepsA (rows : List (List (Option Nat))) (lost : Nat) : List (List Nat) := (rows.map fun r => r.map fun o => o.getD lost) ++ [(rows.headD []).map fun _ => lost]
def endsA (a : At) (line : List Cy) : List Bool := line.map (accC a) ++ [false]
theorem atom_ok {a : At} {line : List Cy} {rows : List (List (Option Nat))} (aok : a.ok) (inv : CarInv a line rows) (hl : rows.length = line.length) : MOk (wideA a) (stepsA rows line.length) (endsA a line) := by
  have h91 := cinv_few inv.nd inv.inv
  have hw := wideA_le aok
  have h8 : 2 ^ wideA a ≤ 8 := Nat.le_trans (Nat.pow_le_pow_right (by omega) hw) (by decide)
  have h0 := (List.getElem?_eq_some_iff.mp inv.hd).1
  have len : (stepsA rows line.length).length = line.length + 1 := by unfold stepsA; rw [List.length_append, List.length_map, hl]; rfl
  have row_of : ∀ r ∈ rows, r.length = 2 ^ wideA a ∧ ∀ o ∈ r, o.getD line.length ≤ line.length := fun r hr => by
    obtain ⟨j, hj, e⟩ := List.getElem_of_mem hr
    obtain ⟨r', b, c, d⟩ := inv.row j line[j] hj (List.getElem?_eq_getElem (by omega))
    rw [List.getElem?_eq_getElem hj, e] at b
    cases b
    refine ⟨c, fun o ho => ?_⟩
    obtain ⟨i, hi, e2⟩ := List.getElem_of_mem ho
    obtain ⟨o', h1, h2⟩ := d i (by omega)
    rw [List.getElem?_eq_getElem hi, e2] at h1
    cases h1
    cases o with
    | none => exact Nat.le_refl _
    | some n =>
      cases q : nextC a line[j] (linF (factors a) i) with
      | none => rw [q] at h2; exact h2.elim
      | some c' =>
        rw [q] at h2
        have := (List.getElem?_eq_some_iff.mp (show line[n]? = some c' from h2)).1
        show n ≤ line.length
        omega
  have hd_mem : rows.headD [] ∈ rows := by
    cases rows with
    | nil => simp at hl; omega
    | cons r rs => simp
  have mem : ∀ r ∈ stepsA rows line.length, r.length = 2 ^ wideA a ∧ ∀ g ∈ r, g ≤ line.length := fun r hr => by
    unfold stepsA at hr
    rcases List.mem_append.mp hr with hr | hr
    · obtain ⟨r0, h0, rfl⟩ := List.mem_map.mp hr
      obtain ⟨h1, h2⟩ := row_of r0 h0
      refine ⟨by rw [List.length_map]; exact h1, fun g hg => ?_⟩
      obtain ⟨o, ho, rfl⟩ := List.mem_map.mp hg
      exact h2 o ho
    · rw [List.mem_singleton.mp hr]
      refine ⟨by rw [List.length_map]; exact (row_of _ hd_mem).1, fun g hg => ?_⟩
      obtain ⟨o, ho, rfl⟩ := List.mem_map.mp hg
      exact Nat.le_refl _
  exact ⟨⟨by omega, by omega, fun r hr g hg => by have := (mem r hr).2 g hg; omega, fun r hr => by rw [(mem r hr).1]; omega⟩, by rw [len]; unfold endsA; simp, fun r hr => (mem r hr).1, by omega⟩
section
variable {P : Program} {w : World} {K : PySem.W.Frag} {mg : Str → Option Value} {base : Heap}
abbrev AtomPost (a : At) (d : D) : Prop := ∃ line rows rows' es' T φ, CarInv a line rows ∧ rows.length = line.length ∧ d = encM (wideA a) rows' es' ∧ MOk (wideA a) rows' es' ∧ Sim (stepsA rows line.length) (endsA a line) rows' es' T φ
abbrev GAtom (P : Program) (w : World) (K : PySem.W.Frag) (mg : Str → Option Value) (base : Heap) : Prop := GFr P w K mg base 3 "atom_machine" 1 (fun a : At => [a.enc]) At.ok AtomPost
theorem ok_atom_machine (C : Cst K mg) (F : DefOk K mg "atom_machine" "atom_machine" H75.sAtomMachine) (G1 : GCarries P w K mg base) (G2 : GLeast P w K mg base) : GAtom P w K mg base := by
  refine gfr_of (ps := ["atom"]) (N := ["atom", "line", "rows", "lost", "steps", "ends", "carry", "row", "goal"]) F ⟨rfl, rfl, rfl, by decide +kernel, rfl, by decide +kernel, by decide +kernel⟩ (fun _ => rfl) (fun _ _ _ _ _ _ us hl => match us, hl with | [_], _ => rfl) fun fa cdv A outer s H E a hr hi => ?_
  have aok : a.ok := hi
  have hN : (["atom", "line", "rows", "lost", "steps", "ends", "carry", "row", "goal"] : List Str).Nodup := by decide +kernel
  have hw := wideA_le aok
  obtain ⟨as, ea, e0, e1⟩ := a.enc_eq
  show PSd _ _ ⟨[some (.dat a.enc), none, none, none, none, none, none, none, none], none⟩ _
  refine uC (is := [1, 2]) a hN rfl (tgs_one 1 rfl (.inl rfl) (tgs_one 2 rfl (.inl rfl) .nil)) G1 hr (by omega) (pvs_one (dv 0)) rfl aok ?_
  rintro d ⟨line, rows, rfl, inv, hl⟩
  refine ⟨_, rfl, rfl, ?_⟩
  have h91 := cinv_few inv.nd inv.inv
  have h0 := (List.getElem?_eq_some_iff.mp inv.hd).1
  have mo := atom_ok aok inv hl
  have h8 : 2 ^ wideA a ≤ 8 := Nat.le_trans (Nat.pow_le_pow_right (by omega) hw) (by decide)
  have row_len : ∀ r ∈ rows, r.length = 2 ^ wideA a := fun r hr => by
    obtain ⟨j, hj, e⟩ := List.getElem_of_mem hr
    obtain ⟨r', b, c, d⟩ := inv.row j line[j] hj (List.getElem?_eq_getElem (by omega))
    rw [List.getElem?_eq_getElem hj, e] at b
    cases b
    exact c
  obtain ⟨r0, rs, erows⟩ : ∃ r0 rs, rows = r0 :: rs := by
    cases rows with
    | nil => simp at hl; omega
    | cons r rs => exact ⟨r, rs, rfl⟩
  have hr0 : rows[0]? = some r0 := by rw [erows]; rfl
  have hr0m : r0 ∈ rows := by rw [erows]; simp
  refine sD 3 hN (bLen C.b (dv 1)) ?_
  rw [List.length_map]
  refine sL 4 (L := rows) (emb := fun r => D.lst (r.map encON)) (f := fun r => .tup (r.map fun o => D.int ((o.getD line.length : Nat) : Int))) [("row", 7)] (.one 7) rfl hN (pid_lst (dv 2)) rfl (tb1 7 hN) (fun r hrm => ⟨_, rfl, fun s H C2 cl fp => ?_⟩) (by omega) ?_
  · have := row_len r hrm
    exact bTuple C.b (PV.frz (pv_mapL (L := r) (emb := encON) (f := fun o => D.int ((o.getD line.length : Nat) : Int)) [("goal", 8)] (.one 8) rfl hN (pid_lst (dv 7)) rfl (tb1 8 hN) (fun o ho => ⟨_, rfl, fun s H C2 cl fp => by
      cases o with
      | none => exact vif (z := true) (PTz (tCd (cd_isN (dv 8)))) (fun _ => dv 3) (fun h => nomatch h)
      | some n => exact vif (z := false) (PTz (tCd (cd_isN (dv 8)))) (fun h => nomatch h) (fun _ => dv 8)⟩) (by omega)))
  have hr0l := row_len r0 hr0m
  refine ds_app (i := 4) (ov 4) (bTuple C.b (PV.frz (pv_mapL (L := r0) (emb := encON) (f := fun _ => D.int (line.length : Nat)) [("goal", 8)] (.one 8) rfl hN (pid_lst (pv_ix (d := .lst (r0.map encON)) (dv 2) pv_int True.intro rfl rfl (atI_nat (n := 0) (by unfold encRowsO; rw [List.getElem?_map, hr0]; rfl)))) rfl (tb1 8 hN) (fun o ho => ⟨_, rfl, fun s H C2 cl fp => dv 3⟩) (by omega)))) rfl (by rw [List.length_map]; omega) rfl ?_
  have esteps : encRows (stepsA rows line.length) = .tup ((rows.map fun r => D.tup (r.map fun o => D.int ((o.getD line.length : Nat) : Int))) ++ [D.tup (r0.map fun _ => D.int (line.length : Nat))]) := by
    unfold stepsA encRows
    rw [List.map_append, List.map_map]
    have eh : rows.headD [] = r0 := by rw [erows]; rfl
    rw [eh]
    congr 1
    congr 1
    · refine List.map_congr_left fun r _ => ?_
      show D.tup (encN (r.map fun o => o.getD line.length)) = _
      rw [encN_map]
    · show [D.tup (encN (r0.map fun _ => line.length))] = _
      rw [encN_map]
  have eends : encB (endsA a line) = .tup ((line.map fun c => D.bl (accC a c)) ++ [.bl false]) := by
    unfold endsA encB
    rw [List.map_append, List.map_map]
    rfl
  refine ds_if (fun S => S = ⟨[some (.dat a.enc), some (.dat (.lst (line.map encCy))), some (.dat (.lst (encRowsO rows))), some (.dat (.int (line.length : Nat))), some (.lst ((rows.map fun r => D.tup (r.map fun o => D.int ((o.getD line.length : Nat) : Int))) ++ [D.tup (r0.map fun _ => D.int (line.length : Nat))])), some (.lst (line.map fun c => D.bl (accC a c))), none, none, none], none⟩)
    (z := decide (a.word = "ge")) (tCd (cd_eqS (pv_ix (d := .str a.word) (PVd (dv 0) ea) pv_int True.intro rfl rfl e0) pv_str)) (fun hz => ?_) (fun hz => ?_) ?_
  · cases a with
    | ge t => exact sL 5 (L := line) (emb := encCy) (f := fun c => .bl (accC (.ge t) c)) [("carry", 6)] (.one 6) rfl hN (pid_lst (dv 1)) rfl (tb1 6 hN) (fun c hc => ⟨_, rfl, fun s H C2 cl fp => vC (cd_ge (pv_ix (dv 6) pv_int True.intro rfl rfl rfl) pv_int)⟩) (by omega) (ds_nil rfl)
    | eq t => exact nomatch (show false = true from hz)
    | mod m t => exact nomatch (show false = true from hz)
  · cases a with
    | ge t => exact nomatch (show true = false from hz)
    | eq t => exact sL 5 (L := line) (emb := encCy) (f := fun c => .bl (accC (.eq t) c)) [("carry", 6)] (.one 6) rfl hN (pid_lst (dv 1)) rfl (tb1 6 hN) (fun c hc => ⟨_, rfl, fun s H C2 cl fp => vC (cd_eqI (pv_ix (dv 6) pv_int True.intro rfl rfl rfl) pv_int)⟩) (by omega) (ds_nil rfl)
    | mod m t => exact sL 5 (L := line) (emb := encCy) (f := fun c => .bl (accC (.mod m t) c)) [("carry", 6)] (.one 6) rfl hN (pid_lst (dv 1)) rfl (tb1 6 hN) (fun c hc => ⟨_, rfl, fun s H C2 cl fp => vC (cd_eqI (pv_ix (dv 6) pv_int True.intro rfl rfl rfl) pv_int)⟩) (by omega) (ds_nil rfl)
  · rintro S rfl
    refine rC (wideA a, stepsA rows line.length, endsA a line) G2 hr (by omega) (pvs_one (pv_tup (pvs_cons (bLen C.b (pv_ix (d := encPs a.tm.ps) (pv_ix (d := a.tm.enc) (PVd (dv 0) ea) (pv_neg pv_int) True.intro rfl rfl e1) pv_int True.intro rfl rfl rfl)) (pvs_cons (bTuple C.b (ov 4)) (pvs_one (bTuple C.b (pv_catL (ov 5) (pv_lst (pvs_one pv_bl) rfl) rfl rfl rfl rfl (by rw [List.length_map]; simp; omega)))))) rfl)) ?_ mo fun d hd => ⟨rfl, ?_⟩
    · show some [D.tup [.int _, _, _]] = some [encM (wideA a) (stepsA rows line.length) (endsA a line)]
      unfold encM
      rw [esteps, eends]
      rw [List.length_map]
      rfl
    · obtain ⟨rows', es', T, φ, h1, h2, h3, h4⟩ := hd
      exact ⟨line, rows, rows', es', T, φ, inv, hl, h1, h2, h4⟩
end
end K75
/-! What the machines mean: words, carries, truth. -/
namespace K75
open PySem PySem.Spec PyProof.Rows L2 PL

theorem snoc_ind {α : Type} {p : List α → Prop} (h0 : p []) (hs : ∀ l a, p l → p (l ++ [a])) : ∀ l, p l := by
  have key : ∀ (n : Nat) (l : List α), l.length = n → p l := by
    intro n
    induction n with
    | zero => intro l hl; rw [List.length_eq_zero_iff.mp hl]; exact h0
    | succ n ih =>
      intro l hl
      have hne : l ≠ [] := fun e => by rw [e] at hl; simp at hl
      have e := List.dropLast_concat_getLast hne
      rw [← e]
      exact hs _ _ (ih _ (by rw [List.length_dropLast, hl]; rfl))
  exact fun l => key _ l rfl
theorem Wd.init {n c : Nat} {V : List Nat} (h : Wd n (V ++ [c])) : Wd n V ∧ c < n := ⟨fun x hx => h x (List.mem_append_left _ hx), h c (by simp)⟩
theorem stp_at {rows : List (List Nat)} {s c g : Nat} {r : List Nat} (h : rows[s]? = some r) (hg : r[c]? = some g) : stp rows s c = g := by
  unfold stp
  rw [List.getD_eq_getElem?_getD, List.getD_eq_getElem?_getD, h, Option.getD_some, hg]
  rfl
/-! ### a machine made smaller -/
theorem Sim.run {W : Nat} {rows rows' : List (List Nat)} {es es' : List Bool} {T : Nat → Prop} {φ : Nat → Nat} (mo : MOk W rows es) (h : Sim rows es rows' es' T φ) : ∀ V, Wd (2 ^ W) V → T (run rows V) ∧ run rows' V = φ (run rows V) := by
  refine snoc_ind (fun _ => ⟨h.t0, h.z.symm⟩) fun V c ih hV => ?_
  obtain ⟨hV1, hc⟩ := hV.init
  obtain ⟨t, e⟩ := ih hV1
  obtain ⟨r, h1, h2, h3⟩ := h.row _ t
  have hr := mo.cols r (List.mem_of_getElem? h1)
  obtain ⟨g, hg⟩ : ∃ g, r[c]? = some g := ⟨_, List.getElem?_eq_getElem (by omega)⟩
  have e1 := stp_at h1 hg
  have e2 : stp rows' (φ (K75.run rows V)) c = φ g := stp_at h2 (by rw [List.getElem?_map, hg]; rfl)
  rw [run_snoc, run_snoc, e, e1, e2]
  exact ⟨h3 g (List.mem_of_getElem? hg), rfl⟩
theorem Sim.end_ {W : Nat} {rows rows' : List (List Nat)} {es es' : List Bool} {T : Nat → Prop} {φ : Nat → Nat} (mo : MOk W rows es) (h : Sim rows es rows' es' T φ) {V : List Nat} (hV : Wd (2 ^ W) V) : ∃ b, es[K75.run rows V]? = some b ∧ es'[K75.run rows' V]? = some b := by
  obtain ⟨t, e⟩ := h.run mo V hV
  rw [e]
  exact h.ends _ t
/-! ### columns -/
theorem bit_zero (p : Nat) : bit 0 p = 0 := by unfold bit; simp
theorem bit_lt (c p : Nat) : bit c p < 2 := Nat.mod_lt _ (by decide)
theorem bit_head (b c : Nat) (hb : b < 2) : bit (b + 2 * c) 0 = b := by
  unfold bit
  rw [Nat.pow_zero, Nat.div_one]
  omega
theorem bit_succ (b c i : Nat) (hb : b < 2) : bit (b + 2 * c) (i + 1) = bit c i := by
  unfold bit
  rw [Nat.pow_succ, Nat.mul_comm (2 ^ i) 2, ← Nat.div_div_eq_div_mul]
  congr 2
  omega
theorem bit_colf : ∀ (ps : List Nat) (C i p : Nat), ps[i]? = some p → bit (colf ps C) i = bit C p
  | [], _, _, _, h => by simp at h
  | q :: ps, C, 0, p, h => by
    simp at h
    subst h
    show bit (bit C q + 2 * colf ps C) 0 = bit C q
    exact bit_head _ _ (bit_lt C q)
  | q :: ps, C, i + 1, p, h => by
    show bit (bit C q + 2 * colf ps C) (i + 1) = bit C p
    rw [bit_succ _ _ _ (bit_lt C q)]
    exact bit_colf ps C i p (by simpa using h)
/-- the places of names in a wider list, then the wider list's own: the names -/
theorem colf_colf (wider : List Nat) (C : Nat) : ∀ (ns : List Nat), (∀ x ∈ ns, x ∈ wider) → colf (ns.map fun x => wider.idxOf x) (colf wider C) = colf ns C
  | [], _ => rfl
  | x :: ns, h => by
    have hx := h x (by simp)
    rw [List.map_cons, colf, colf, colf_colf wider C ns fun y hy => h y (List.mem_cons_of_mem _ hy)]
    rw [bit_colf wider C (wider.idxOf x) x (by rw [List.getElem?_eq_getElem (List.idxOf_lt_length_of_mem hx), List.getElem_idxOf])]
theorem wd_colf {ns V : List Nat} : Wd (2 ^ ns.length) (V.map (colf ns)) := fun c hc => by
  obtain ⟨x, _, rfl⟩ := List.mem_map.mp hc
  exact colf_lt ns x
theorem bit_add_other {C x y : Nat} (h : bit C x = 0) (hy : y ≠ x) : bit (C + 2 ^ x) y = bit C y := by
  unfold bit at h ⊢
  rcases Nat.lt_or_gt_of_ne hy with hlt | hlt
  · have e : 2 ^ x = 2 ^ y * 2 ^ (x - y) := by rw [← Nat.pow_add]; congr 1; omega
    have e2 : 2 ^ (x - y) % 2 = 0 := by
      have : x - y = (x - y - 1) + 1 := by omega
      rw [this, Nat.pow_succ]; omega
    rw [e, Nat.add_mul_div_left _ _ (Nat.pow_pos (by decide))]
    omega
  · have e : 2 ^ y = 2 ^ x * 2 ^ (y - x) := by rw [← Nat.pow_add]; congr 1; omega
    have e3 : 2 ^ (y - x) = 2 * 2 ^ (y - x - 1) := by
      have : y - x = (y - x - 1) + 1 := by omega
      conv => lhs; rw [this, Nat.pow_succ]
      omega
    rw [e, ← Nat.div_div_eq_div_mul, ← Nat.div_div_eq_div_mul, Nat.add_div_right _ (Nat.pow_pos (by decide)), e3, ← Nat.div_div_eq_div_mul, ← Nat.div_div_eq_div_mul]
    congr 2
    omega
/-- every column of fewer names comes from a column of all -/
theorem colf_onto {m : Nat} : ∀ (ns : List Nat), ns.Nodup → (∀ x ∈ ns, x < m) → ∀ c, c < 2 ^ ns.length → ∃ C, C < 2 ^ m ∧ colf ns C = c := by
  intro ns hnd hlt c hc
  -- C = the sum of 2 ^ name over the places of c that are 1
  have key : ∀ (ns : List Nat), ns.Nodup → (∀ x ∈ ns, x < m) → ∀ c, c < 2 ^ ns.length → ∃ C, C < 2 ^ m ∧ (∀ i x, ns[i]? = some x → bit C x = bit c i) ∧ ∀ y, y ∉ ns → bit C y = 0 := by
    intro ns
    induction ns with
    | nil => intro _ _ c hc; exact ⟨0, Nat.pow_pos (by decide), fun i x h => by simp at h, fun y _ => bit_zero y⟩
    | cons x ns ih =>
      intro hn hl c hc
      obtain ⟨h1, h2⟩ := List.nodup_cons.mp hn
      rw [List.length_cons, Nat.pow_succ] at hc
      obtain ⟨C, hC, hb, hz⟩ := ih h2 (fun y hy => hl y (List.mem_cons_of_mem _ hy)) (c / 2) (by omega)
      have hx := hl x (by simp)
      have hCx := hz x h1
      have bs : ∀ i, bit (c / 2) i = bit c (i + 1) := fun i => by
        unfold bit
        rw [Nat.pow_succ, Nat.mul_comm (2 ^ i) 2, Nat.div_div_eq_div_mul]
      by_cases hb0 : c % 2 = 1
      · refine ⟨C + 2 ^ x, ?_, fun i y hy => ?_, fun y hy => ?_⟩
        · -- bit x of C is 0, so C + 2^x < 2^m
          have hsplit : 2 ^ m = 2 ^ x * 2 ^ (m - x) := by rw [← Nat.pow_add]; congr 1; omega
          have hq : C / 2 ^ x < 2 ^ (m - x) := by
            rw [Nat.div_lt_iff_lt_mul (Nat.pow_pos (by decide)), Nat.mul_comm, ← hsplit]
            exact hC
          have heven : C / 2 ^ x % 2 = 0 := hCx
          have hpe : 2 ^ (m - x) % 2 = 0 := by
            have : m - x = (m - x - 1) + 1 := by omega
            rw [this, Nat.pow_succ]
            omega
          have hq2 : C / 2 ^ x + 1 < 2 ^ (m - x) := by omega
          have := Nat.div_add_mod C (2 ^ x)
          have hm := Nat.mod_lt C (show 0 < 2 ^ x from Nat.pow_pos (by decide))
          have h3 : 2 ^ x * (C / 2 ^ x + 1 + 1) ≤ 2 ^ x * 2 ^ (m - x) := Nat.mul_le_mul_left _ hq2
          rw [Nat.mul_add, Nat.mul_add, Nat.mul_one] at h3
          rw [hsplit]
          omega
        · cases i with
          | zero =>
            simp at hy
            subst hy
            have e : bit (C + 2 ^ x) x = 1 := by
              unfold bit
              have heven : C / 2 ^ x % 2 = 0 := hCx
              rw [Nat.add_div_right _ (Nat.pow_pos (by decide))]
              omega
            rw [e]
            unfold bit
            rw [Nat.pow_zero, Nat.div_one, hb0]
          | succ i =>
            have hy' : ns[i]? = some y := by simpa using hy
            rw [← bs i, ← hb i y hy']
            have hyx : y ≠ x := fun e => h1 (e ▸ List.mem_of_getElem? hy')
            exact bit_add_other hCx hyx
        · have hy1 : y ≠ x := fun e => hy (by rw [e]; simp)
          rw [bit_add_other hCx hy1]
          exact hz y fun h => hy (List.mem_cons_of_mem _ h)
      · refine ⟨C, hC, fun i y hy => ?_, fun y hy => hz y fun h => hy (List.mem_cons_of_mem _ h)⟩
        cases i with
        | zero =>
          simp at hy
          subst hy
          rw [hCx]
          unfold bit
          rw [Nat.pow_zero, Nat.div_one]
          omega
        | succ i => rw [← bs i]; exact hb i y (by simpa using hy)
  obtain ⟨C, h1, h2, _⟩ := key ns hnd hlt c hc
  refine ⟨C, h1, ?_⟩
  have back : ∀ (ns : List Nat) (c : Nat), c < 2 ^ ns.length → (∀ i x, ns[i]? = some x → bit C x = bit c i) → colf ns C = c := by
    intro ns
    induction ns with
    | nil => intro c hc _; simp at hc; subst hc; rfl
    | cons x ns ih =>
      intro c hc h
      rw [List.length_cons, Nat.pow_succ] at hc
      have h0 := h 0 x rfl
      have bs : ∀ i, bit (c / 2) i = bit c (i + 1) := fun i => by
        unfold bit
        rw [Nat.pow_succ, Nat.mul_comm (2 ^ i) 2, Nat.div_div_eq_div_mul]
      rw [colf, ih (c / 2) (by omega) fun i y hy => by rw [bs i]; exact h (i + 1) y (by simpa using hy), h0]
      unfold bit
      rw [Nat.pow_zero, Nat.div_one]
      omega
  exact back ns c hc h2
end K75
/-! What the machines mean: atoms, pairs, wider names. -/
namespace K75
open PySem PySem.Spec PyProof.Rows L2 PL

theorem idxOf_gen {α : Type} [BEq α] [LawfulBEq α] {l : List α} {n : Nat} {x : α} (hn : l.Nodup) (h : l[n]? = some x) : l.idxOf x = n := by
  have hm := List.mem_of_getElem? h
  have h1 : l[l.idxOf x]? = some x := by
    rw [List.getElem?_eq_getElem (List.idxOf_lt_length_of_mem hm), List.getElem_idxOf]
  exact (List.getElem?_inj (List.getElem?_eq_some_iff.mp h1).1 hn).mp (h1.trans h.symm)
theorem at_idxOf {α : Type} [BEq α] [LawfulBEq α] {l : List α} {x : α} (h : x ∈ l) : l[l.idxOf x]? = some x := by
  rw [List.getElem?_eq_getElem (List.idxOf_lt_length_of_mem h), List.getElem_idxOf]
theorem widen_run {W m : Nat} {ps : List Nat} {rows : List (List Nat)} {es : List Bool} (mo : MOk W rows es) (hl : ps.length = W) : ∀ V, Wd (2 ^ m) V → run (widen m ps rows) V = run rows (V.map (colf ps)) := by
  refine snoc_ind (fun _ => rfl) fun V c ih hV => ?_
  obtain ⟨hV1, hc⟩ := hV.init
  rw [List.map_append, List.map_cons, List.map_nil, run_snoc, run_snoc, ih hV1]
  have hs := run_lt mo (V := V.map (colf ps)) (by rw [← hl]; exact wd_colf)
  obtain ⟨r, hr⟩ : ∃ r, rows[run rows (V.map (colf ps))]? = some r := ⟨_, List.getElem?_eq_getElem hs⟩
  have hcl := colf_lt ps c
  have hrl := mo.cols r (List.mem_of_getElem? hr)
  obtain ⟨g, hg⟩ : ∃ g, r[colf ps c]? = some g := ⟨_, List.getElem?_eq_getElem (by rw [hrl, ← hl]; exact hcl)⟩
  rw [stp_at hr hg]
  refine stp_at (r := ((List.range (2 ^ m)).map (colf ps)).map fun c => r.getD c 0) (by unfold widen; rw [List.getElem?_map, hr]; rfl) ?_
  rw [List.map_map, List.getElem?_map, List.getElem?_range hc]
  show some (r.getD (colf ps c) 0) = some g
  rw [List.getD_eq_getElem?_getD, hg]
  rfl
/-! ### atoms -/
def namesA (a : At) : List Nat := a.tm.ps.map (·.1)
def cstep (a : At) (oc : Option Cy) (c : Nat) : Option Cy := oc.bind fun x => nextC a x (linF (factors a) c)
def cst (a : At) (V : List Nat) : Option Cy := V.foldl (cstep a) (some (startC a))
def cg (a : At) (V : List Nat) : Option Cy := cst a (V.map (colf (namesA a)))
theorem cst_snoc (a : At) (V : List Nat) (c : Nat) : cst a (V ++ [c]) = cstep a (cst a V) c := by unfold cst; rw [List.foldl_append]; rfl
theorem cg_snoc (a : At) (V : List Nat) (c : Nat) : cg a (V ++ [c]) = cstep a (cg a V) (colf (namesA a) c) := by unfold cg; rw [List.map_append]; exact cst_snoc a _ _
def idxC (line : List Cy) : Option Cy → Nat
  | none => line.length
  | some c => line.idxOf c
theorem atom_run {a : At} {line : List Cy} {rows : List (List (Option Nat))} (inv : CarInv a line rows) (hl : rows.length = line.length) : ∀ V, Wd (2 ^ wideA a) V → run (stepsA rows line.length) V = idxC line (cst a V) ∧ ∀ c, cst a V = some c → c ∈ line := by
  have h0 := (List.getElem?_eq_some_iff.mp inv.hd).1
  obtain ⟨r0, rs, erows⟩ : ∃ r0 rs, rows = r0 :: rs := by
    cases rows with
    | nil => simp at hl; omega
    | cons r rs => exact ⟨r, rs, rfl⟩
  have hr0 : r0.length = 2 ^ wideA a := by
    obtain ⟨r', b, c, d⟩ := inv.row 0 (startC a) (by omega) inv.hd
    rw [erows] at b
    cases b
    exact c
  refine snoc_ind (fun _ => ⟨(idxOf_gen inv.nd inv.hd).symm, fun c e => by cases e; exact List.mem_of_getElem? inv.hd⟩) fun V x ih hV => ?_
  obtain ⟨hV1, hx⟩ := hV.init
  obtain ⟨e, hm⟩ := ih hV1
  rw [run_snoc, cst_snoc, e]
  cases q : cst a V with
  | none =>
    refine ⟨?_, fun c h => by cases h⟩
    show stp (stepsA rows line.length) line.length x = line.length
    refine stp_at (r := r0.map fun _ => line.length) ?_ (by rw [List.getElem?_map, List.getElem?_eq_getElem (by omega)]; rfl)
    unfold stepsA
    rw [List.getElem?_append_right (by rw [List.length_map, hl]; exact Nat.le_refl _), List.length_map, hl, Nat.sub_self, erows]
    rfl
  | some c0 =>
    have hc0 := hm c0 q
    have hj := at_idxOf hc0
    have hjl := (List.getElem?_eq_some_iff.mp hj).1
    obtain ⟨row, hrow, hrl, hcell⟩ := inv.row (line.idxOf c0) c0 (by omega) hj
    obtain ⟨o, ho, cell⟩ := hcell x hx
    have hstp : stp (stepsA rows line.length) (line.idxOf c0) x = o.getD line.length := by
      refine stp_at (r := row.map fun o => o.getD line.length) ?_ (by rw [List.getElem?_map, ho]; rfl)
      unfold stepsA
      rw [List.getElem?_append_left (by rw [List.length_map]; omega), List.getElem?_map, hrow]
      rfl
    show stp (stepsA rows line.length) (line.idxOf c0) x = idxC line (nextC a c0 (linF (factors a) x)) ∧ ∀ c, nextC a c0 (linF (factors a) x) = some c → c ∈ line
    rw [hstp]
    cases qn : nextC a c0 (linF (factors a) x) with
    | none =>
      rw [qn] at cell
      cases o with
      | none => exact ⟨rfl, fun c h => by cases h⟩
      | some n => exact cell.elim
    | some c' =>
      rw [qn] at cell
      cases o with
      | none => exact cell.elim
      | some n =>
        have hn : line[n]? = some c' := cell
        exact ⟨(idxOf_gen inv.nd hn).symm, fun c h => by cases h; exact List.mem_of_getElem? hn⟩
theorem atom_end {a : At} {line : List Cy} {rows : List (List (Option Nat))} (inv : CarInv a line rows) {oc : Option Cy} (h : ∀ c, oc = some c → c ∈ line) : (endsA a line)[idxC line oc]? = some (accO a oc) := by
  unfold endsA
  cases oc with
  | none =>
    show (line.map (accC a) ++ [false])[line.length]? = some false
    rw [List.getElem?_append_right (by rw [List.length_map]; exact Nat.le_refl _), List.length_map, Nat.sub_self]
    rfl
  | some c =>
    have hj := at_idxOf (h c rfl)
    have hjl := (List.getElem?_eq_some_iff.mp hj).1
    show (line.map (accC a) ++ [false])[line.idxOf c]? = some (accC a c)
    rw [List.getElem?_append_left (by rw [List.length_map]; exact hjl), List.getElem?_map, hj]
    rfl
/-! ### formulas -/
def atoms : Fm → List At
  | .atm a => [a]
  | .no f => atoms f
  | .bi _ f g => atoms f ++ atoms g
def sem : Fm → List Nat → Bool
  | .atm a, V => accO a (cg a V)
  | .no f, V => !sem f V
  | .bi b f g, V => if b = true then sem f V && sem g V else sem f V || sem g V
def lefts (f : Fm) (V : List Nat) : List (Option Cy) := (atoms f).map fun a => cg a V
/-- a machine that tells the truth of f over the names ns among mm -/
structure Good (mm : Nat) (f : Fm) (ns : List Nat) (rows : List (List Nat)) (es : List Bool) : Prop where
  mo : MOk ns.length rows es
  up : ns.Pairwise (· < ·)
  lt : ∀ x ∈ ns, x < mm
  dep : ∀ V V', Wd (2 ^ mm) V → Wd (2 ^ mm) V' → lefts f V = lefts f V' → run rows (V.map (colf ns)) = run rows (V'.map (colf ns))
  tru : ∀ V, Wd (2 ^ mm) V → es[run rows (V.map (colf ns))]? = some (sem f V)
/-- not: the same steps, the other ends -/
theorem Good.no {mm : Nat} {f : Fm} {ns : List Nat} {rows : List (List Nat)} {es : List Bool} (h : Good mm f ns rows es) : Good mm (.no f) ns rows (es.map fun b => !b) where
  mo := ⟨h.mo.ok, by rw [List.length_map]; exact h.mo.es, h.mo.cols, h.mo.w6⟩
  up := h.up
  lt := h.lt
  dep := h.dep
  tru := fun V hV => by rw [List.getElem?_map, h.tru V hV]; rfl
theorem Good.atom {mm : Nat} {a : At} {rows' : List (List Nat)} {es' : List Bool} {line : List Cy} {rows : List (List (Option Nat))} {T : Nat → Prop} {φ : Nat → Nat} (aok : a.ok) (hlt : ∀ x ∈ namesA a, x < mm) (inv : CarInv a line rows) (hl : rows.length = line.length) (mo' : MOk (wideA a) rows' es') (sim : Sim (stepsA rows line.length) (endsA a line) rows' es' T φ) : Good mm (.atm a) (namesA a) rows' es' := by
  have mo := atom_ok aok inv hl
  have hnl : (namesA a).length = wideA a := List.length_map _
  have hw : ∀ V : List Nat, Wd (2 ^ wideA a) (V.map (colf (namesA a))) := fun V => by rw [← hnl]; exact wd_colf
  have hrun : ∀ V : List Nat, run rows' (V.map (colf (namesA a))) = φ (idxC line (cg a V)) := fun V => by
    rw [(sim.run mo _ (hw V)).2, (atom_run inv hl _ (hw V)).1]
    rfl
  refine ⟨by rw [hnl]; exact mo', ?_, hlt, fun V V' hV hV' e => ?_, fun V hV => ?_⟩
  · unfold namesA
    rw [List.pairwise_map]
    exact (At.tm_ok aok).up
  · have : cg a V = cg a V' := by
      have e' : [cg a V] = [cg a V'] := e
      injection e'
    rw [hrun, hrun, this]
  · obtain ⟨b, h1, h2⟩ := sim.end_ mo (hw V)
    have := atom_end inv (oc := cg a V) (atom_run inv hl _ (hw V)).2
    rw [(atom_run inv hl _ (hw V)).1] at h1
    have h3 : (endsA a line)[idxC line (cg a V)]? = some b := h1
    rw [this] at h3
    rw [h2, ← h3]
    rfl
/-- over more names -/
theorem Good.wider {mm : Nat} {f : Fm} {ns wider : List Nat} {rows rows' : List (List Nat)} {es es' : List Bool} {T : Nat → Prop} {φ : Nat → Nat} (h : Good mm f ns rows es) (hsub : ∀ x ∈ ns, x ∈ wider) (hup : wider.Pairwise (· < ·)) (hlt : ∀ x ∈ wider, x < mm) (hw6 : wider.length ≤ 6) (mo' : MOk wider.length rows' es') (sim : Sim (widen wider.length (ns.map fun x => wider.idxOf x) rows) es rows' es' T φ) : Good mm f wider rows' es' := by
  have hpl : (ns.map fun x => wider.idxOf x).length = ns.length := List.length_map _
  have mo := widen_ok (ps := ns.map fun x => wider.idxOf x) h.mo hw6 hpl
  have hrun : ∀ V : List Nat, run rows' (V.map (colf wider)) = φ (run rows (V.map (colf ns))) := fun V => by
    rw [(sim.run mo _ wd_colf).2, widen_run h.mo hpl _ wd_colf, List.map_map]
    congr 2
    exact List.map_congr_left fun c _ => colf_colf wider c ns hsub
  refine ⟨mo', hup, hlt, fun V V' hV hV' e => ?_, fun V hV => ?_⟩
  · rw [hrun, hrun, h.dep V V' hV hV' e]
  · obtain ⟨b, h1, h2⟩ := sim.end_ mo (V := V.map (colf wider)) wd_colf
    rw [widen_run h.mo hpl _ wd_colf, List.map_map] at h1
    have e : (V.map (colf (ns.map fun x => wider.idxOf x) ∘ colf wider)) = V.map (colf ns) := List.map_congr_left fun c _ => colf_colf wider c ns hsub
    rw [e, h.tru V hV] at h1
    rw [h2, ← h1]
/-! ### pairs -/
theorem pair_run {n : Nat} {r1 r2 : List (List Nat)} {line : List (Nat × Nat)} {rws : List (List Nat)} (h : Paired2 n r1 r2 line rws) : ∀ V, Wd n V → (run r1 V, run r2 V) ∈ line ∧ run rws V = line.idxOf (run r1 V, run r2 V) := by
  refine snoc_ind (fun _ => ⟨List.mem_of_getElem? h.inv.hd, (idxOf_gen h.inv.nd h.inv.hd).symm⟩) fun V c ih hV => ?_
  obtain ⟨hV1, hc⟩ := hV.init
  obtain ⟨hm, e⟩ := ih hV1
  have hj := at_idxOf hm
  have hjl := (List.getElem?_eq_some_iff.mp hj).1
  obtain ⟨row, hrow, hrl, hcell⟩ := h.inv.row _ _ (by rw [h.len]; exact hjl) hj
  obtain ⟨m, h1, h2⟩ := hcell c hc
  rw [run_snoc, run_snoc, run_snoc, e]
  exact ⟨List.mem_of_getElem? h2, by rw [stp_at hrow h1]; exact (idxOf_gen h.inv.nd h2).symm⟩
/-- no more than 300 rests -/
def NoOver (mm : Nat) (f : Fm) : Prop := ∀ Vs : List (List Nat), (∀ V ∈ Vs, Wd (2 ^ mm) V) → (Vs.map (lefts f)).Nodup → Vs.length ≤ 300
theorem nodup_of_fun {α β γ : Type} {f : α → β} {g : α → γ} : ∀ {l : List α}, (∀ x ∈ l, ∀ y ∈ l, g x = g y → f x = f y) → (l.map f).Nodup → (l.map g).Nodup
  | [], _, _ => List.nodup_nil
  | x :: l, h, hn => by
    rw [List.map_cons] at hn ⊢
    obtain ⟨h1, h2⟩ := List.nodup_cons.mp hn
    refine List.nodup_cons.mpr ⟨fun hm => ?_, nodup_of_fun (fun a ha b hb => h a (List.mem_cons_of_mem _ ha) b (List.mem_cons_of_mem _ hb)) h2⟩
    obtain ⟨y, hy, e⟩ := List.mem_map.mp hm
    exact h1 (List.mem_map.mpr ⟨y, hy, (h x (by simp) y (List.mem_cons_of_mem _ hy) e.symm).symm⟩)
theorem NoOver.left {mm : Nat} {b : Bool} {f g : Fm} (h : NoOver mm (.bi b f g)) : NoOver mm f := fun Vs hV hn => h Vs hV (nodup_of_fun (fun x _ y _ e => by
  have e' : lefts f x ++ lefts g x = lefts f y ++ lefts g y := by
    unfold lefts at e ⊢
    simpa [atoms] using e
  exact (List.append_inj e' (by unfold lefts; rw [List.length_map, List.length_map])).1) hn)
theorem NoOver.right {mm : Nat} {b : Bool} {f g : Fm} (h : NoOver mm (.bi b f g)) : NoOver mm g := fun Vs hV hn => h Vs hV (nodup_of_fun (fun x _ y _ e => by
  have e' : lefts f x ++ lefts g x = lefts f y ++ lefts g y := by
    unfold lefts at e ⊢
    simpa [atoms] using e
  exact (List.append_inj e' (by unfold lefts; rw [List.length_map, List.length_map])).2) hn)
theorem lift_word {mm : Nat} {ns : List Nat} (hnd : ns.Nodup) (hlt : ∀ x ∈ ns, x < mm) : ∀ W, Wd (2 ^ ns.length) W → ∃ V, Wd (2 ^ mm) V ∧ V.map (colf ns) = W := by
  intro W
  induction W with
  | nil => intro _; exact ⟨[], fun c hc => by simp at hc, rfl⟩
  | cons c W ih =>
    intro hW
    obtain ⟨V, h1, h2⟩ := ih fun x hx => hW x (List.mem_cons_of_mem _ hx)
    obtain ⟨C, h3, h4⟩ := colf_onto ns hnd hlt c (hW c (by simp))
    refine ⟨C :: V, fun x hx => ?_, by rw [List.map_cons, h4, h2]⟩
    rcases List.mem_cons.mp hx with rfl | hx
    · exact h3
    · exact h1 x hx
theorem Good.nd {mm : Nat} {f : Fm} {ns : List Nat} {rows : List (List Nat)} {es : List Bool} (h : Good mm f ns rows es) : ns.Nodup := h.up.imp fun {a b} hab e => by omega
theorem few_of {mm : Nat} {b : Bool} {f g : Fm} {ns : List Nat} {r1 r2 : List (List Nat)} {e1 e2 : List Bool} (h1 : Good mm f ns r1 e1) (h2 : Good mm g ns r2 e2) (no : NoOver mm (.bi b f g)) : Few (2 ^ ns.length) r1 r2 := by
  intro ps hnd hrch
  have key : ∀ ps : List (Nat × Nat), (∀ p ∈ ps, ReachP (2 ^ ns.length) r1 r2 p) → ∃ Vs : List (List Nat), (∀ V ∈ Vs, Wd (2 ^ mm) V) ∧ Vs.map (fun V => (run r1 (V.map (colf ns)), run r2 (V.map (colf ns)))) = ps := by
    intro ps
    induction ps with
    | nil => intro _; exact ⟨[], fun V hV => by simp at hV, rfl⟩
    | cons p ps ih =>
      intro h
      obtain ⟨Vs, a1, a2⟩ := ih fun q hq => h q (List.mem_cons_of_mem _ hq)
      obtain ⟨W, hW, rfl⟩ := h p (by simp)
      obtain ⟨V, a3, a4⟩ := lift_word h1.nd h1.lt W hW
      refine ⟨V :: Vs, fun x hx => ?_, by rw [List.map_cons, a2, a4]⟩
      rcases List.mem_cons.mp hx with rfl | hx
      · exact a3
      · exact a1 x hx
  obtain ⟨Vs, hV, e⟩ := key ps hrch
  rw [← e] at hnd ⊢
  rw [List.length_map]
  refine no Vs hV (nodup_of_fun (fun x hx y hy el => ?_) hnd)
  have e' : lefts f x ++ lefts g x = lefts f y ++ lefts g y := by
    unfold lefts at el ⊢
    simpa [atoms] using el
  obtain ⟨a1, a2⟩ := List.append_inj e' (by unfold lefts; rw [List.length_map, List.length_map])
  rw [h1.dep x y (hV x hx) (hV y hy) a1, h2.dep x y (hV x hx) (hV y hy) a2]
theorem Good.pair {mm : Nat} {b : Bool} {f g : Fm} {ns : List Nat} {r1 r2 rws rows' : List (List Nat)} {e1 e2 es' : List Bool} {line : List (Nat × Nat)} {T : Nat → Prop} {φ : Nat → Nat} (h1 : Good mm f ns r1 e1) (h2 : Good mm g ns r2 e2) (hp : Paired2 (2 ^ ns.length) r1 r2 line rws)
    (mo' : MOk ns.length rows' es') (sim : Sim rws (line.map fun p => endBy (wordB b) (e1.getD p.1 false) (e2.getD p.2 false)) rows' es' T φ) : Good mm (.bi b f g) ns rows' es' := by
  have mo := paired_ok hp h1.mo.w6 (fun p => endBy (wordB b) (e1.getD p.1 false) (e2.getD p.2 false))
  refine ⟨mo', h1.up, h1.lt, fun V V' hV hV' e => ?_, fun V hV => ?_⟩
  · have e' : lefts f V ++ lefts g V = lefts f V' ++ lefts g V' := by
      unfold lefts at e ⊢
      simpa [atoms] using e
    obtain ⟨a1, a2⟩ := List.append_inj e' (by unfold lefts; rw [List.length_map, List.length_map])
    rw [(sim.run mo _ wd_colf).2, (sim.run mo _ wd_colf).2, (pair_run hp _ wd_colf).2, (pair_run hp _ wd_colf).2, h1.dep V V' hV hV' a1, h2.dep V V' hV hV' a2]
  · obtain ⟨x, a1, a2⟩ := sim.end_ mo (V := V.map (colf ns)) wd_colf
    obtain ⟨hm, er⟩ := pair_run hp (V.map (colf ns)) wd_colf
    rw [er, List.getElem?_map, at_idxOf hm] at a1
    rw [a2, ← a1]
    show some (endBy (wordB b) (e1.getD (run r1 (V.map (colf ns))) false) (e2.getD (run r2 (V.map (colf ns))) false)) = _
    rw [List.getD_eq_getElem?_getD, List.getD_eq_getElem?_getD, h1.tru V hV, h2.tru V hV]
    cases b
    · show some (endBy "or" (sem f V) (sem g V)) = some (sem f V || sem g V)
      unfold endBy
      rw [if_neg (by decide), if_pos rfl]
    · show some (endBy "and" (sem f V) (sem g V)) = some (sem f V && sem g V)
      unfold endBy
      rw [if_pos rfl]
end K75
namespace K75
open PySem PySem.Spec PyProof.Rows L2 PL

theorem encN_ints (ns : List Nat) : encN ns = (ns.map natI).map D.int := by unfold encN; rw [List.map_map]; rfl
theorem toNat_back {l : List Int} (h : ∀ x ∈ l, 0 ≤ x) : (l.map Int.toNat).map natI = l := by
  rw [List.map_map]
  conv => rhs; rw [← List.map_id l]
  refine List.map_congr_left fun x hx => ?_
  have := h x hx
  show ((x.toNat : Nat) : Int) = x
  omega
/-- the names of both, in order -/
def join (ns ms : List Nat) : List Nat := (sortU ((ns ++ ms).map natI)).map Int.toNat
theorem join_ints (ns ms : List Nat) : (join ns ms).map natI = sortU ((ns ++ ms).map natI) := toNat_back fun x hx => by
  obtain ⟨y, _, rfl⟩ := List.mem_map.mp (mem_sortU.mp hx)
  exact Int.natCast_nonneg _
theorem mem_join {ns ms : List Nat} {x : Nat} : x ∈ join ns ms ↔ x ∈ ns ∨ x ∈ ms := by
  have h1 : x ∈ join ns ms ↔ natI x ∈ (join ns ms).map natI := ⟨fun h => List.mem_map.mpr ⟨x, h, rfl⟩, fun h => by
    obtain ⟨y, hy, e⟩ := List.mem_map.mp h
    rw [← nat_int_inj y x e]; exact hy⟩
  rw [h1, join_ints, mem_sortU, List.map_append, List.mem_append]
  constructor
  · rintro (h | h)
    · obtain ⟨y, hy, e⟩ := List.mem_map.mp h
      exact .inl (by rw [← nat_int_inj y x e]; exact hy)
    · obtain ⟨y, hy, e⟩ := List.mem_map.mp h
      exact .inr (by rw [← nat_int_inj y x e]; exact hy)
  · rintro (h | h)
    · exact .inl (List.mem_map.mpr ⟨x, h, rfl⟩)
    · exact .inr (List.mem_map.mpr ⟨x, h, rfl⟩)
theorem join_up (ns ms : List Nat) : (join ns ms).Pairwise (· < ·) := by
  have h : ((join ns ms).map natI).Pairwise (· < ·) := by rw [join_ints]; exact sortU_rises
  rw [List.pairwise_map] at h
  exact h.imp fun {a b} hab => by unfold natI at hab; omega
theorem up_nd {l : List Nat} (h : l.Pairwise (· < ·)) : l.Nodup := h.imp fun {a b} hab e => by omega
section
variable {P : Program} {w : World} {K : PySem.W.Frag} {mg : Str → Option Value} {base : Heap}
abbrev OverPre (i : List Nat × MA × List Nat) : Prop := i.2.1.ok ∧ i.2.1.w = i.1.length ∧ (∀ x ∈ i.1, x ∈ i.2.2) ∧ i.2.2.length ≤ 6 ∧ i.2.2.Nodup
abbrev GOver (P : Program) (w : World) (K : PySem.W.Frag) (mg : Str → Option Value) (base : Heap) : Prop := GFr P w K mg base 4 "over" 3 (fun i : List Nat × MA × List Nat => [.tup (encN i.1), i.2.1.enc, .tup (encN i.2.2)]) OverPre (fun i => SpreadPost (i.2.1, i.2.2.length, false, i.1.map fun x => i.2.2.idxOf x))
theorem ok_over (C : Cst K mg) (F : DefOk K mg "over" "over" H75.sOver) (G1 : GSpread P w K mg base) : GOver P w K mg base := by
  refine gfr_of (ps := ["names", "machine", "wider"]) (N := ["names", "machine", "wider", "name"]) F ⟨rfl, rfl, rfl, by decide +kernel, rfl, by decide +kernel, by decide +kernel⟩ (fun _ => rfl) (fun _ _ _ _ _ _ us hl => match us, hl with | [_, _, _], _ => rfl) fun fa cdv A outer s H E i hr hi => ?_
  obtain ⟨ns, M, wider⟩ := i
  obtain ⟨mo, hw, hsub, h6, hnd⟩ := (show M.ok ∧ M.w = ns.length ∧ (∀ x ∈ ns, x ∈ wider) ∧ wider.length ≤ 6 ∧ wider.Nodup from hi)
  have hN : (["names", "machine", "wider", "name"] : List Str).Nodup := by decide +kernel
  have hw6 := mo.w6
  refine rC (M, wider.length, false, ns.map fun x => wider.idxOf x) G1 hr (by omega) (pvs_cons (dv 1) (pvs_cons (bLen C.b (dv 2)) (pvs_one (PV.frz (pv_mapL (L := ns) (emb := fun (n : Nat) => D.int (n : Int)) (f := fun x => D.int ((wider.idxOf x : Nat) : Int)) [("name", 3)] (.one 3) rfl hN (pid_tup (dv 0)) rfl (tb1 3 hN) (fun x hx => ⟨_, rfl, fun s H C2 cl fp => ?_⟩) (by omega)))))) ?_ ⟨mo, h6, by show (ns.map _).length = M.w; rw [List.length_map, hw], fun p hp => ?_⟩ fun d hd => ⟨rfl, hd⟩
  · have hm := hsub x hx
    have ha := at_idxOf hm
    refine pv_index (k := (x : Int)) (is := wider.map natI) (PVd (dv 2) (by rw [encN_ints])) (dv 3) (by rw [List.getElem?_map, ha]; rfl) fun m hmj e => ?_
    rw [List.getElem?_map] at e
    cases q : wider[m]? with
    | none => rw [q] at e; cases e
    | some y =>
      rw [q] at e
      have : y = x := nat_int_inj _ _ (Option.some.inj e)
      subst this
      have := idxOf_gen hnd q
      omega
  · show some [_, D.int ((encN wider).length : Nat), D.lst _] = some [_, D.int (wider.length : Nat), D.lst (encN (ns.map fun x => wider.idxOf x))]
    rw [encN_length, encN_map]
  · obtain ⟨x, hx, rfl⟩ := List.mem_map.mp hp
    exact List.idxOf_lt_length_of_mem (hsub x hx)
/-! ### built -/
def binless : Fm → Bool
  | .atm _ => true
  | .no f => binless f
  | .bi _ _ _ => false
structure BuiltPre (n : Nat) (i : Nat × Fm) : Prop where
  ok : i.2.ok
  dp : i.2.depth ≤ n
  m6 : i.1 ≤ 6
  nm : ∀ x ∈ freeI i.2, x < (i.1 : Int)
  no : binless i.2 = true ∨ NoOver i.1 i.2
abbrev BuiltPost (mm : Nat) (f : Fm) (d : D) : Prop := ∃ ns rows es, d = .tup [.tup (encN ns), encM ns.length rows es] ∧ Good mm f ns rows es
abbrev GBuilt (P : Program) (w : World) (K : PySem.W.Frag) (mg : Str → Option Value) (base : Heap) (n : Nat) : Prop := GFr P w K mg base (2 * n + 8) "built" 1 (fun i : Nat × Fm => [i.2.enc]) (BuiltPre n) (fun i => BuiltPost i.1 i.2)
abbrev GBuiltRow (P : Program) (w : World) (K : PySem.W.Frag) (mg : Str → Option Value) (base : Heap) (n : Nat) : Prop := GFr P w K mg base (2 * n + 9) "built_row" 2 (fun i : Nat × Bool × Fm × Fm => [.str (wordB i.2.1), .tup [i.2.2.1.enc, i.2.2.2.enc]]) (fun i => BuiltPre n (i.1, i.2.2.1) ∧ BuiltPre n (i.1, i.2.2.2) ∧ NoOver i.1 (.bi i.2.1 i.2.2.1 i.2.2.2)) (fun i => BuiltPost i.1 (.bi i.2.1 i.2.2.1 i.2.2.2))
theorem ok_built_row (C : Cst K mg) (F : DefOk K mg "built_row" "built_row" H75.sBuiltRow) (G1 : GPaired P w K mg base) (G2 : GOver P w K mg base) (G3 : GLeast P w K mg base) (n : Nat) (G4 : GBuilt P w K mg base n) : GBuiltRow P w K mg base n := by
  refine gfr_of (ps := ["word", "formulas"]) (N := ["word", "formulas", "names", "machine", "index", "formula", "more", "other", "wider", "joined_so"]) F ⟨rfl, rfl, rfl, by decide +kernel, rfl, by decide +kernel, by decide +kernel⟩ (fun _ => rfl) (fun _ _ _ _ _ _ us hl => match us, hl with | [_, _], _ => rfl) fun fa cdv A outer s H E i hr hi => ?_
  obtain ⟨mm, b, f, g⟩ := i
  obtain ⟨pf, pg, no⟩ := (show BuiltPre n (mm, f) ∧ BuiltPre n (mm, g) ∧ NoOver mm (.bi b f g) from hi)
  have hm6 : mm ≤ 6 := pf.m6
  have hN : (["word", "formulas", "names", "machine", "index", "formula", "more", "other", "wider", "joined_so"] : List Str).Nodup := by decide +kernel
  refine sD 2 hN (pv_tup (ds := []) pvs_nil rfl) ?_
  refine sD 3 hN (d := .tup [.int 0, .tup [.tup [.int 0]], .tup [.bl (decide (wordB b = "and"))]]) (pv_tup (pvs_cons pv_int (pvs_cons (pv_tup (pvs_one (pv_tup (pvs_one pv_int) rfl)) rfl) (pvs_one (pv_tup (pvs_one (vC (cd_eqS (dv 0) pv_str))) rfl)))) rfl) ?_
  let St := fun (d2 d3 : D) (c4 c5 c6 c7 c8 c9 : Option Sl) => (⟨[some (.dat (.str (wordB b))), some (.dat (.tup [f.enc, g.enc])), some (.dat d2), some (.dat d3), c4, c5, c6, c7, c8, c9], none⟩ : PSt)
  refine ds_forL (L := [f, g].zipIdx) (emb := fun q => .tup [.int (q.2 : Nat), q.1.enc]) (.many [4, 5]) (fun k S => ∃ d2 d3 c4 c5 c6 c7 c8 c9, S = St d2 d3 c4 c5 c6 c7 c8 c9 ∧ (k = 1 → ∃ ns rows es, d2 = .tup (encN ns) ∧ d3 = encM ns.length rows es ∧ Good mm f ns rows es) ∧ (k = 2 → ∃ ns rows es, d2 = .tup (encN ns) ∧ d3 = encM ns.length rows es ∧ Good mm (.bi b f g) ns rows es))
    (fun S => ∃ d2 d3 c4 c5 c6 c7 c8 c9, S = St d2 d3 c4 c5 c6 c7 c8 c9 ∧ ∃ ns rows es, d2 = .tup (encN ns) ∧ d3 = encM ns.length rows es ∧ Good mm (.bi b f g) ns rows es) PassesOwn.never rfl
    (bEnum (t := true) (L := [f, g]) (emb := Fm.enc) C.b (dv 1)) (tl2 4 5 hN rfl) ⟨_, _, none, none, none, none, none, none, rfl, fun h => absurd h (by decide), fun h => absurd h (by decide)⟩ ?_ ?_ ?_
  · rintro k q S hk ⟨d2, d3, c4, c5, c6, c7, c8, c9, rfl, h1, h2⟩
    have hkl := (List.getElem?_eq_some_iff.mp hk).1
    have hk2 : k = 0 ∨ k = 1 := by simp at hkl; omega
    rcases hk2 with rfl | rfl
    · cases hk
      refine ⟨_, rfl, uC (is := [6, 7]) (mm, f) hN rfl (tgs_one 6 rfl (.inl rfl) (tgs_one 7 rfl (.inl rfl) .nil)) G4 hr (by omega) (pvs_one (dv 5)) rfl pf ?_⟩
      rintro d ⟨ns, rows, es, rfl, good⟩
      refine ⟨_, rfl, rfl, ?_⟩
      refine ds_if2 (PTz (y := true) (tCd (cd_eqI (dv 4) pv_int))) (fun _ => ?_) (fun h => nomatch h)
      exact ds_par 2 3 rfl hN rfl rfl (by decide) rfl rfl (pvs_cons (dv 6) (pvs_one (dv 7))) (ds_nil (ds_nil ⟨_, _, _, _, _, _, _, _, rfl, fun _ => ⟨ns, rows, es, rfl, rfl, good⟩, fun h => absurd h (by decide)⟩))
    · cases hk
      obtain ⟨ns, r1, e1, rfl, rfl, g1⟩ := h1 rfl
      refine ⟨_, rfl, uC (is := [6, 7]) (mm, g) hN rfl (tgs_one 6 rfl (.inl rfl) (tgs_one 7 rfl (.inl rfl) .nil)) G4 hr (by omega) (pvs_one (dv 5)) rfl pg ?_⟩
      rintro d ⟨ms, r2, e2, rfl, g2⟩
      refine ⟨_, rfl, rfl, ?_⟩
      have wlt : ∀ x ∈ join ns ms, x < mm := fun x hx => by
        rcases mem_join.mp hx with h | h
        · exact g1.lt x h
        · exact g2.lt x h
      have hnd := up_nd (join_up ns ms)
      have hw6 : (join ns ms).length ≤ 6 := Nat.le_trans (nodup_lt hnd wlt) hm6
      have hn6 := g1.mo.w6
      have hm6' := g2.mo.w6
      refine ds_if2 (PTz (y := false) (tCd (cd_eqI (dv 4) pv_int))) (fun h => nomatch h) (fun _ => ?_)
      have es1 : encN ns ++ encN ms = ((ns ++ ms).map natI).map D.int := by rw [encN_ints, encN_ints, ← List.map_append, ← List.map_append]
      refine sD 8 hN (d := .tup (encN (join ns ms))) (PVd (bTuple C.b (pv_sortedSet (is := (ns ++ ms).map natI) (s := .lst (encN ns ++ encN ms)) rfl rfl C.b.sorted rfl C.b.set (pv_catL (pv_list rfl C.b.list (dv 2) rfl rfl) (pv_list rfl C.b.list (dv 6) rfl rfl) rfl rfl rfl rfl (by rw [encN_length, encN_length]; omega)) rfl (by rw [← es1]; rfl) (by rw [List.length_map, List.length_append]; omega))) (by rw [encN_ints, join_ints])) ?_
      refine sX 9 hN (post := fun d S' => (∃ ra ea rb eb, Good mm f (join ns ms) ra ea ∧ Good mm g (join ns ms) rb eb ∧ PairedPost (wordB b, ⟨(join ns ms).length, ra, ea⟩, ⟨(join ns ms).length, rb, eb⟩) d ∧ S' = St (.tup (encN ns)) (encM ns.length r1 e1) (some (.dat (.int ((1 : Nat) : Int)))) (some (.dat g.enc)) (some (.dat (.tup (encN ms)))) (some (.dat (encM ms.length r2 e2))) (some (.dat (.tup (encN (join ns ms))))) c9)) (pvx_call G1 hr (by omega) (pax_cons (pa := fun d S' => d = .str (wordB b) ∧ S' = St (.tup (encN ns)) (encM ns.length r1 e1) (some (.dat (.int ((1 : Nat) : Int)))) (some (.dat g.enc)) (some (.dat (.tup (encN ms)))) (some (.dat (encM ms.length r2 e2))) (some (.dat (.tup (encN (join ns ms))))) c9) (pvx_of (dv 0) ⟨rfl, rfl⟩) ?_)) ?_
      · rintro d S1 ⟨rfl, rfl⟩
        refine pax_cons (pa := fun d S' => SpreadPost (⟨ns.length, r1, e1⟩, (join ns ms).length, false, ns.map fun x => (join ns ms).idxOf x) d ∧ S' = St (.tup (encN ns)) (encM ns.length r1 e1) (some (.dat (.int ((1 : Nat) : Int)))) (some (.dat g.enc)) (some (.dat (.tup (encN ms)))) (some (.dat (encM ms.length r2 e2))) (some (.dat (.tup (encN (join ns ms))))) c9) (pvx_call G2 hr (by omega) (pax_of (pvs_cons (dv 2) (pvs_cons (dv 3) (pvs_one (dv 8)))) rfl ⟨(ns, ⟨ns.length, r1, e1⟩, join ns ms), rfl, ⟨g1.mo, rfl, fun x hx => mem_join.mpr (.inl hx), hw6, hnd⟩, fun d hd => ⟨hd, rfl⟩⟩)) ?_
        rintro d S1 ⟨⟨ra, ea, T1, φ1, rfl, moa, _, sima⟩, rfl⟩
        refine pax_cons (pa := fun d S' => SpreadPost (⟨ms.length, r2, e2⟩, (join ns ms).length, false, ms.map fun x => (join ns ms).idxOf x) d ∧ S' = St (.tup (encN ns)) (encM ns.length r1 e1) (some (.dat (.int ((1 : Nat) : Int)))) (some (.dat g.enc)) (some (.dat (.tup (encN ms)))) (some (.dat (encM ms.length r2 e2))) (some (.dat (.tup (encN (join ns ms))))) c9) (pvx_call G2 hr (by omega) (pax_of (pvs_cons (dv 6) (pvs_cons (dv 7) (pvs_one (dv 8)))) rfl ⟨(ms, ⟨ms.length, r2, e2⟩, join ns ms), rfl, ⟨g2.mo, rfl, fun x hx => mem_join.mpr (.inr hx), hw6, hnd⟩, fun d hd => ⟨hd, rfl⟩⟩)) ?_
        rintro d S1 ⟨⟨rb, eb, T2, φ2, rfl, mob, _, simb⟩, rfl⟩
        have ga := g1.wider (fun x hx => mem_join.mpr (.inl hx)) (join_up ns ms) wlt hw6 moa sima
        have gb := g2.wider (fun x hx => mem_join.mpr (.inr hx)) (join_up ns ms) wlt hw6 mob simb
        refine pax_of (pvs_one (gi C.reached)) rfl ⟨(wordB b, ⟨(join ns ms).length, ra, ea⟩, ⟨(join ns ms).length, rb, eb⟩), rfl, ⟨ga.mo, gb.mo, rfl, few_of ga gb no⟩, fun d hd => ⟨ra, ea, rb, eb, ga, gb, hd, rfl⟩⟩
      · rintro d S1 ⟨ra, ea, rb, eb, ga, gb, ⟨line, rws, rfl, hp⟩, rfl⟩
        · have mop := paired_ok hp ga.mo.w6 (fun p => endBy (wordB b) (ea.getD p.1 false) (eb.getD p.2 false))
          refine dsx_par 2 3 rfl hN rfl rfl (by decide) rfl rfl (pax_cons (pa := fun d S' => d = .tup (encN (join ns ms)) ∧ S' = _) (pvx_of (dv 8) ⟨rfl, rfl⟩) ?_)
          rintro d S1 ⟨rfl, rfl⟩
          refine pax_cons (pa := fun d S' => LeastPost ((join ns ms).length, rws, line.map fun p => endBy (wordB b) (ea.getD p.1 false) (eb.getD p.2 false)) d ∧ S' = _) (pvx_call G3 hr (by omega) (pax_of (pvs_one (dv 9)) rfl ⟨((join ns ms).length, rws, line.map fun p => endBy (wordB b) (ea.getD p.1 false) (eb.getD p.2 false)), rfl, mop, fun d hd => ⟨hd, rfl⟩⟩)) ?_
          rintro d S1 ⟨⟨rows', es', T, φ, rfl, mo', _, sim⟩, rfl⟩
          exact pax_nil ⟨_, _, rfl, ds_nil (ds_nil ⟨_, _, _, _, _, _, _, _, rfl, fun h => absurd h (by decide), fun _ => ⟨join ns ms, rows', es', rfl, rfl, ga.pair gb hp mo' sim⟩⟩)⟩
  · rintro S ⟨d2, d3, c4, c5, c6, c7, c8, c9, rfl, _, h2⟩
    exact ⟨d2, d3, c4, c5, c6, c7, c8, c9, rfl, h2 rfl⟩
  · rintro S ⟨d2, d3, c4, c5, c6, c7, c8, c9, rfl, ns, rows, es, rfl, rfl, good⟩
    exact rD (pv_tup (pvs_cons (dv 2) (pvs_one (dv 3))) rfl) ⟨rfl, ns, rows, es, rfl, good⟩
end
end K75
namespace K75
open PySem PySem.Spec PyProof.Rows L2 PL

section
variable {P : Program} {w : World} {K : PySem.W.Frag} {mg : Str → Option Value} {base : Heap}
theorem BuiltPre.no_ {n mm : Nat} {f : Fm} (h : BuiltPre (n + 1) (mm, .no f)) : BuiltPre n (mm, f) where
  ok := h.ok
  dp := by have := h.dp; simp only [Fm.depth] at this; show f.depth ≤ n; omega
  m6 := h.m6
  nm := fun x hx => h.nm x (mem_sortU.mpr hx)
  no := by
    rcases h.no with e | e
    · exact .inl e
    · exact .inr e
theorem BuiltPre.bi_ {n mm : Nat} {b : Bool} {f g : Fm} (h : BuiltPre (n + 1) (mm, .bi b f g)) : BuiltPre n (mm, f) ∧ BuiltPre n (mm, g) ∧ NoOver mm (.bi b f g) := by
  have no : NoOver mm (.bi b f g) := by
    rcases h.no with e | e
    · exact nomatch (show false = true from e)
    · exact e
  have hd : max f.depth g.depth + 1 ≤ n + 1 := h.dp
  have ok : f.ok ∧ g.ok := h.ok
  exact ⟨⟨ok.1, by show f.depth ≤ n; omega, h.m6, fun x hx => h.nm x (mem_sortU.mpr (List.mem_append_left _ hx)), .inr no.left⟩, ⟨ok.2, by show g.depth ≤ n; omega, h.m6, fun x hx => h.nm x (mem_sortU.mpr (List.mem_append_right _ hx)), .inr no.right⟩, no⟩
theorem ok_built (C : Cst K mg) (F : DefOk K mg "built" "built" H75.sBuilt) (Gr : ∀ n, GBuilt P w K mg base n → GBuiltRow P w K mg base n) (G2 : GFa P w K mg base 1 "opposite" 1 (fun i : MA => [i.enc]) (fun i => i.es.length ≤ 1000) (fun i => encM i.w i.rows (i.es.map fun b => !b))) (G3 : GAtom P w K mg base) : ∀ n, GBuilt P w K mg base n := by
  intro n
  induction n with
  | zero =>
    refine gfr_of (ps := ["formula"]) (N := ["formula", "word", "names", "machine", "name", "factor"]) F ⟨rfl, rfl, rfl, by decide +kernel, rfl, by decide +kernel, by decide +kernel⟩ (fun _ => rfl) (fun _ _ _ _ _ _ us hl => match us, hl with | [_], _ => rfl) fun fa cdv A outer s H E i hr hi => ?_
    have := i.2.depth_pos
    have := hi.dp
    omega
  | succ n ih =>
    have Gb := Gr n ih
    refine gfr_of (ps := ["formula"]) (N := ["formula", "word", "names", "machine", "name", "factor"]) F ⟨rfl, rfl, rfl, by decide +kernel, rfl, by decide +kernel, by decide +kernel⟩ (fun _ => rfl) (fun _ _ _ _ _ _ us hl => match us, hl with | [_], _ => rfl) fun fa cdv A outer s H E i hr hi => ?_
    obtain ⟨mm, f⟩ := i
    have pre : BuiltPre (n + 1) (mm, f) := hi
    have hN : (["formula", "word", "names", "machine", "name", "factor"] : List Str).Nodup := by decide +kernel
    show PSd _ _ ⟨[some (.dat f.enc), none, none, none, none, none], none⟩ _
    refine sD 1 hN (pv_ix (d := .str f.word) (PVd (dv 0) f.enc_eq) pv_int True.intro rfl rfl at0) ?_
    cases f with
    | bi b f g =>
      have bp := pre.bi_
      cases b
      · refine iYes (tCd (cd_inSeqS (is := ["and", "or"]) (dv 1) (pv_tup (pvs_cons pv_str (pvs_one pv_str)) rfl) rfl rfl)) ?_
        exact rC (mm, false, f, g) Gb hr (by omega) (pvs_cons (dv 1) (pvs_one (pv_ix (d := .tup [f.enc, g.enc]) (dv 0) pv_int True.intro rfl rfl rfl))) rfl bp fun d hd => ⟨rfl, hd⟩
      · refine iYes (tCd (cd_inSeqS (is := ["and", "or"]) (dv 1) (pv_tup (pvs_cons pv_str (pvs_one pv_str)) rfl) rfl rfl)) ?_
        exact rC (mm, true, f, g) Gb hr (by omega) (pvs_cons (dv 1) (pvs_one (pv_ix (d := .tup [f.enc, g.enc]) (dv 0) pv_int True.intro rfl rfl rfl))) rfl bp fun d hd => ⟨rfl, hd⟩
    | no f =>
      have np := pre.no_
      refine iNo (tCd (cd_inSeqS (is := ["and", "or"]) (dv 1) (pv_tup (pvs_cons pv_str (pvs_one pv_str)) rfl) rfl rfl)) ?_
      refine iYes (tCd (cd_eqS (dv 1) pv_str)) ?_
      refine uC (is := [2, 3]) (mm, f) hN rfl (tgs_one 2 rfl (.inl rfl) (tgs_one 3 rfl (.inl rfl) .nil)) ih hr (by omega) (pvs_one (pv_ix (d := f.enc) (dv 0) pv_int True.intro rfl rfl rfl)) rfl np ?_
      rintro d ⟨ns, rows, es, rfl, good⟩
      have hb := good.mo.ok.big
      have he := good.mo.es
      exact ⟨_, rfl, rfl, rD (pv_tup (pvs_cons (dv 2) (pvs_one (pv_callE (d := encM ns.length rows (es.map fun b => !b)) ⟨ns.length, rows, es⟩ G2 hr (by omega) (pvs_one (dv 3)) rfl (by show es.length ≤ 1000; omega)))) rfl) ⟨rfl, ns, rows, es.map fun b => !b, rfl, good.no⟩⟩
    | atm a =>
      have aok : a.ok := pre.ok
      obtain ⟨as, ea, e0, e1⟩ := a.enc_eq
      have hw := wideA_le aok
      have nlt : ∀ x ∈ namesA a, x < mm := fun x hx => by
        obtain ⟨p, hp, rfl⟩ := List.mem_map.mp hx
        have := pre.nm (p.1 : Int) (List.mem_map.mpr ⟨p, hp, rfl⟩)
        have h2 : ((p.1 : Nat) : Int) < ((mm : Nat) : Int) := this
        omega
      have no1 : decide (a.word ∈ (["and", "or"] : List Str)) = false ∧ decide (a.word = ("not" : Str)) = false ∧ decide (a.word = ("some" : Str)) = false ∧ decide (a.word = ("all" : Str)) = false := by cases a <;> exact ⟨rfl, rfl, rfl, rfl⟩
      have ew : (Fm.atm a).word = a.word := by cases a <;> rfl
      rw [ew]
      refine iNo (tCd (cd_inSeqS (is := ["and", "or"]) (dv 1) (pv_tup (pvs_cons pv_str (pvs_one pv_str)) rfl) rfl rfl)) ?_ no1.1
      refine iNo (tCd (cd_eqS (dv 1) pv_str)) ?_ no1.2.1
      refine iNo (tCd (cd_eqS (dv 1) pv_str)) ?_ no1.2.2.1
      refine iNo (tCd (cd_eqS (dv 1) pv_str)) ?_ no1.2.2.2
      let S0 : PSt := ⟨[some (.dat a.enc), some (.dat (.str a.word)), none, none, none, none], none⟩
      refine dsx_ret (post := fun d S' => BuiltPost mm (.atm a) d ∧ S' = S0) (pvx_tup (pax_cons (pa := fun d S' => d = .tup (encN (namesA a)) ∧ S' = S0) (pvx_of (PVd (bTuple C.b (pv_mapL (L := a.tm.ps) (emb := fun p => .tup [.int (p.1 : Nat), .int p.2]) (f := fun p => D.int (p.1 : Nat)) [("name", 4), ("factor", 5)] (.many [4, 5]) rfl hN (pid_tup (pv_ix (d := encPs a.tm.ps) (pv_ix (d := a.tm.enc) (PVd (dv 0) ea) (pv_neg pv_int) True.intro rfl rfl e1) pv_int True.intro rfl rfl rfl)) rfl (tb2 4 5 hN rfl) (fun p hp => ⟨_, rfl, fun s H C2 cl fp => dv 4⟩) (by unfold wideA at hw; omega))) (by unfold namesA; rw [encN_map])) ⟨rfl, rfl⟩) ?_)) fun d S' ⟨hd, e⟩ => by rw [e]; exact ⟨rfl, hd⟩
      rintro d S1 ⟨rfl, rfl⟩
      refine pax_cons (pa := fun d S' => AtomPost a d ∧ S' = S0) (pvx_call G3 hr (by omega) (pax_of (pvs_one (dv 0)) rfl ⟨a, rfl, aok, fun d hd => ⟨hd, rfl⟩⟩)) ?_
      rintro d S1 ⟨⟨line, rows, rows', es', T, φ, inv, hl, rfl, mo', sim⟩, rfl⟩
      have hnl : (namesA a).length = wideA a := List.length_map _
      exact pax_nil ⟨by simp, ⟨namesA a, rows', es', by rw [hnl], Good.atom aok nlt inv hl mo' sim⟩, rfl⟩
abbrev GMachineOver (P : Program) (w : World) (K : PySem.W.Frag) (mg : Str → Option Value) (base : Heap) : Prop := GFr P w K mg base 25 "machine_over" 1 (fun i : Nat × Fm => [i.2.enc]) (fun i => BuiltPre 8 i ∧ i.2.size ≤ 100) (fun i => BuiltPost i.1 i.2)
theorem ok_machine_over (C : Cst K mg) (F : DefOk K mg "machine_over" "machine_over" H75.sMachineOver) (G1 : GListed P w K mg base 8) (G2 : GFree P w K mg base 8) (G3 : GBuilt P w K mg base 8) : GMachineOver P w K mg base := by
  refine gfr_of (ps := ["formula"]) (N := ["formula", "path", "part"]) F ⟨rfl, rfl, rfl, by decide +kernel, rfl, by decide +kernel, by decide +kernel⟩ (fun _ => rfl) (fun _ _ _ _ _ _ us hl => match us, hl with | [_], _ => rfl) fun fa cdv A outer s H E i hr hi => ?_
  obtain ⟨mm, f⟩ := i
  obtain ⟨pre, hsz⟩ := (show BuiltPre 8 (mm, f) ∧ f.size ≤ 100 from hi)
  have fok : f.ok := pre.ok
  have hd : f.depth ≤ 8 := pre.dp
  have hN : (["formula", "path", "part"] : List Str).Nodup := by decide +kernel
  refine ds_forL (L := listing f []) (emb := fun q => .tup [.tup (encN q.1), q.2.enc]) (.many [1, 2]) (fun k S => ∃ c d, S = ⟨[some (.dat f.enc), c, d], none⟩) (fun S => ∃ c d, S = ⟨[some (.dat f.enc), c, d], none⟩) PassesOwn.never rfl
    (pid_lst (pv_callE (d := .lst (encL (listing f []))) (f, []) G1 hr (by omega) (pvs_cons (dv 0) (pvs_one (pv_tup (ds := []) pvs_nil rfl))) rfl ⟨fok, hd, hsz, by show 0 + 2 * f.depth ≤ 1000; omega⟩)) (tl2 1 2 hN rfl) ⟨none, none, rfl⟩ ?_ (fun S h => h) ?_
  · rintro k q S hk ⟨c, d, rfl⟩
    obtain ⟨qok, qd⟩ := listing_in f [] q (List.mem_of_getElem? hk) fok
    have ql := freeI_len q.2 qok
    refine ⟨_, rfl, iNo (tCd (cd_gt (bLen C.b (pv_callE (d := .lst ((freeI q.2).map D.int)) q.2 G2 hr (by omega) (pvs_one (dv 2)) rfl ⟨qok, by omega⟩)) (gi C.mnames))) (ds_nil ⟨_, _, rfl⟩) (decide_eq_false (by rw [List.length_map]; omega))⟩
  · rintro S ⟨c, d, rfl⟩
    exact rC (mm, f) G3 hr (by omega) (pvs_one (dv 0)) rfl pre fun d hd => ⟨rfl, hd⟩
/-- a machine over all mm names -/
structure Final (mm : Nat) (f : Fm) (rows : List (List Nat)) (es : List Bool) : Prop where
  mo : MOk mm rows es
  dep : ∀ V V', Wd (2 ^ mm) V → Wd (2 ^ mm) V' → lefts f V = lefts f V' → run rows V = run rows V'
  tru : ∀ V, Wd (2 ^ mm) V → es[run rows V]? = some (sem f V)
theorem Good.final {mm : Nat} {f : Fm} {ns : List Nat} {rows rows' : List (List Nat)} {es es' : List Bool} {T : Nat → Prop} {φ : Nat → Nat} (h : Good mm f ns rows es) (hm : mm ≤ 6) (mo' : MOk mm rows' es') (sim : Sim (widen mm ns rows) es rows' es' T φ) : Final mm f rows' es' := by
  have mo := widen_ok (m := mm) (ps := ns) h.mo hm rfl
  refine ⟨mo', fun V V' hV hV' e => ?_, fun V hV => ?_⟩
  · rw [(sim.run mo V hV).2, (sim.run mo V' hV').2, widen_run h.mo rfl V hV, widen_run h.mo rfl V' hV', h.dep V V' hV hV' e]
  · obtain ⟨b, h1, h2⟩ := sim.end_ mo hV
    rw [widen_run h.mo rfl V hV, h.tru V hV] at h1
    rw [h2, ← h1]
abbrev GMachineOf (P : Program) (w : World) (K : PySem.W.Frag) (mg : Str → Option Value) (base : Heap) : Prop := GFr P w K mg base 26 "machine_of" 2 (fun i : Nat × Fm => [.int (i.1 : Nat), i.2.enc]) (fun i => BuiltPre 8 i ∧ i.2.size ≤ 100 ∧ 1 ≤ i.1 ∧ i.1 ≤ 4) (fun i d => ∃ rows es, d = encM i.1 rows es ∧ Final i.1 i.2 rows es)
theorem ok_machine_of (C : Cst K mg) (F : DefOk K mg "machine_of" "machine_of" H75.sMachineOf) (G1 : GNeedWide P w K mg base) (G2 : GMachineOver P w K mg base) (G3 : GSpread P w K mg base) : GMachineOf P w K mg base := by
  refine gfr_of (ps := ["many", "formula"]) (N := ["many", "formula", "names", "machine"]) F ⟨rfl, rfl, rfl, by decide +kernel, rfl, by decide +kernel, by decide +kernel⟩ (fun _ => rfl) (fun _ _ _ _ _ _ us hl => match us, hl with | [_, _], _ => rfl) fun fa cdv A outer s H E i hr hi => ?_
  obtain ⟨mm, f⟩ := i
  obtain ⟨pre, hsz, h1, h4⟩ := (show BuiltPre 8 (mm, f) ∧ f.size ≤ 100 ∧ 1 ≤ mm ∧ mm ≤ 4 from hi)
  have hN : (["many", "formula", "names", "machine"] : List Str).Nodup := by decide +kernel
  refine ds_expr (pv_callE (d := f.enc) (mm, f) G1 hr (by omega) (pvs_cons (dv 0) (pvs_one (dv 1))) rfl ⟨h1, h4, pre.ok, pre.dp, hsz, pre.nm⟩) ?_
  refine uC (is := [2, 3]) (mm, f) hN rfl (tgs_one 2 rfl (.inl rfl) (tgs_one 3 rfl (.inl rfl) .nil)) G2 hr (by omega) (pvs_one (dv 1)) rfl ⟨pre, hsz⟩ ?_
  rintro d ⟨ns, rows, es, rfl, good⟩
  refine ⟨_, rfl, rfl, ?_⟩
  refine rC (⟨ns.length, rows, es⟩, mm, true, ns) G3 hr (by omega) (pvs_cons (dv 3) (pvs_cons (dv 0) (pvs_one (dv 2)))) rfl ⟨good.mo, by show mm ≤ 6; omega, rfl, good.lt⟩ fun d hd => ⟨rfl, ?_⟩
  obtain ⟨rows', es', T, φ, h5, h6, _, h7⟩ := hd
  exact ⟨rows', es', h5, good.final (by omega) h6 h7⟩
end
end K75
namespace K75
open PySem PySem.Spec PyProof.Rows L2 PL

theorem linF_colf (C : Nat) : ∀ (ps : List (Nat × Int)), linF (ps.map (·.2)) (colf (ps.map (·.1)) C) = (ps.map fun p => p.2 * ((bit C p.1 : Nat) : Int)).sum
  | [] => rfl
  | p :: ps => by
    rw [List.map_cons, List.map_cons, List.map_cons, List.sum_cons, linF, colf]
    have hb := bit_lt C p.1
    have e1 : (bit C p.1 + 2 * colf (ps.map (·.1)) C) / 2 = colf (ps.map (·.1)) C := by omega
    have e2 : (bit C p.1 + 2 * colf (ps.map (·.1)) C) % 2 = bit C p.1 := by omega
    rw [e1, e2, linF_colf C ps]
    congr 1
    rcases (by omega : bit C p.1 = 0 ∨ bit C p.1 = 1) with h | h
    · rw [h]; simp
    · rw [h]; simp
def moreA (a : At) (C : Nat) : Int := linF (factors a) (colf (namesA a) C)
theorem odd_half {n m : Int} (hm : m % 2 = 1) (h1 : 1 ≤ m) : (if n % 2 = 0 then n else n + m) / 2 % m = n * ((m + 1) / 2) % m := by
  obtain ⟨k, hk⟩ : ∃ k, m = 2 * k + 1 := ⟨m / 2, by omega⟩
  subst hk
  have e1 : (2 * k + 1 + 1) / 2 = k + 1 := by omega
  rw [e1]
  by_cases h : n % 2 = 0
  · obtain ⟨q, hq⟩ : ∃ q, n = 2 * q := ⟨n / 2, by omega⟩
    subst hq
    rw [if_pos h]
    have e2 : 2 * q / 2 = q := by omega
    rw [e2]
    have e3 : 2 * q * (k + 1) = q + q * (2 * k + 1) := by
      rw [Int.mul_add, Int.mul_add, Int.mul_one, Int.mul_one, ← Int.mul_assoc, Int.mul_comm q 2]
      omega
    rw [e3, Int.add_mul_emod_self_right]
  · rw [if_neg h]
    obtain ⟨q, hq⟩ : ∃ q, n = 2 * q + 1 := ⟨n / 2, by omega⟩
    subst hq
    have e2 : (2 * q + 1 + (2 * k + 1)) / 2 = q + k + 1 := by omega
    rw [e2]
    have e3 : (2 * q + 1) * (k + 1) = (q + k + 1) + q * (2 * k + 1) := by
      have e4 : q * (2 * k + 1) = 2 * q * k + q := by rw [Int.mul_add, Int.mul_one, ← Int.mul_assoc, Int.mul_comm q 2]
      have e5 : (2 * q + 1) * (k + 1) = 2 * q * k + 2 * q + (k + 1) := by rw [Int.add_mul, Int.mul_add, Int.mul_one, Int.one_mul]
      rw [e4, e5]
      omega
    rw [e3, Int.add_mul_emod_self_right]
section
variable {P : Program} {w : World} {K : PySem.W.Frag} {mg : Str → Option Value} {base : Heap}
abbrev GWidth (P : Program) (w : World) (K : PySem.W.Frag) (mg : Str → Option Value) (base : Heap) : Prop := GFa P w K mg base 1 "_law_width" 1 (fun m : Nat => [.int (m : Nat)]) (fun m => m ≤ 6) (fun m => .int ((2 ^ m : Nat) : Int))
theorem ok_width (F : DefOk K mg "_law_width" "_law_width" H75.sLWidth) : GWidth P w K mg base := by
  refine gfa_of (ps := ["_law_many_so"]) (N := ["_law_many_so"]) F ⟨rfl, rfl, rfl, by decide +kernel, rfl, by decide +kernel, by decide +kernel⟩ (fun _ => rfl) (fun _ _ _ _ _ _ us hl => match us, hl with | [_], _ => rfl) fun fa cdv A outer s H E m hr hm => ?_
  have hm6 : m ≤ 6 := hm
  exact rD (pv_ix (pv_lst (ds := powers.map D.int) (pvs_cons pv_int (pvs_cons pv_int (pvs_cons pv_int (pvs_cons pv_int (pvs_cons pv_int (pvs_cons pv_int (pvs_one pv_int))))))) rfl) (dv 0) True.intro rfl rfl (pow_at (by omega))) ⟨rfl, rfl⟩
abbrev GStart (P : Program) (w : World) (K : PySem.W.Frag) (mg : Str → Option Value) (base : Heap) : Prop := GFa P w K mg base 1 "_law_start" 1 (fun a : At => [a.enc]) At.ok (fun a => encCy (startC a))
theorem ok_start (C : Cst K mg) (F : DefOk K mg "_law_start" "_law_start" H75.sLStart) : GStart P w K mg base := by
  refine gfa_of (ps := ["_law_atom_here"]) (N := ["_law_atom_here"]) F ⟨rfl, rfl, rfl, by decide +kernel, rfl, by decide +kernel, by decide +kernel⟩ (fun _ => rfl) (fun _ _ _ _ _ _ us hl => match us, hl with | [_], _ => rfl) fun fa cdv A outer s H E a hr hi => ?_
  have aok : a.ok := hi
  show PSd _ _ ⟨[some (.dat a.enc)], none⟩ _
  cases a with
  | ge t => exact iNo (tCd (cd_eqS (pv_ix (dv 0) pv_int True.intro rfl rfl at0) pv_str)) (rD (pv_tup (pvs_cons (pv_ix (pv_ix (d := t.enc) (dv 0) pv_int True.intro rfl rfl rfl) pv_int True.intro rfl rfl rfl) (pvs_one pv_int)) rfl) ⟨rfl, rfl⟩)
  | eq t => exact iNo (tCd (cd_eqS (pv_ix (dv 0) pv_int True.intro rfl rfl at0) pv_str)) (rD (pv_tup (pvs_cons (pv_ix (pv_ix (d := t.enc) (dv 0) pv_int True.intro rfl rfl rfl) pv_int True.intro rfl rfl rfl) (pvs_one pv_int)) rfl) ⟨rfl, rfl⟩)
  | mod m t =>
    obtain ⟨h2, h6, _⟩ := (show 2 ≤ m ∧ m ≤ 6 ∧ t.ok from aok)
    exact iYes (tCd (cd_eqS (pv_ix (dv 0) pv_int True.intro rfl rfl at0) pv_str)) (rD (pv_tup (pvs_cons (pv_mod (bInt C.b (pv_ix (pv_ix (d := t.enc) (dv 0) pv_int True.intro rfl rfl rfl) pv_int True.intro rfl rfl rfl)) (pv_ix (dv 0) pv_int True.intro rfl rfl rfl) (by omega)) (pvs_one (pv_ix (dv 0) pv_int True.intro rfl rfl rfl))) rfl) ⟨rfl, rfl⟩)
abbrev GMore (P : Program) (w : World) (K : PySem.W.Frag) (mg : Str → Option Value) (base : Heap) : Prop := GFa P w K mg base 1 "_law_more" 2 (fun i : At × Nat => [i.1.enc, .int (i.2 : Nat)]) (fun i => i.1.ok) (fun i => .int (moreA i.1 i.2))
theorem ok_more (C : Cst K mg) (F : DefOk K mg "_law_more" "_law_more" H75.sLMore) : GMore P w K mg base := by
  refine gfa_of (ps := ["_law_atom_here", "_law_column"]) (N := ["_law_atom_here", "_law_column", "_law_found", "_law_name", "_law_factor"]) F ⟨rfl, rfl, rfl, by decide +kernel, rfl, by decide +kernel, by decide +kernel⟩ (fun _ => rfl) (fun _ _ _ _ _ _ us hl => match us, hl with | [_, _], _ => rfl) fun fa cdv A outer s H E i hr hi => ?_
  obtain ⟨a, c⟩ := i
  have aok : a.ok := hi
  have tok := At.tm_ok aok
  have hN : (["_law_atom_here", "_law_column", "_law_found", "_law_name", "_law_factor"] : List Str).Nodup := by decide +kernel
  obtain ⟨as, ea, e0, e1⟩ := a.enc_eq
  show PSd _ _ ⟨[some (.dat a.enc), some (.dat (.int (c : Nat))), none, none, none], none⟩ _
  refine sD 2 hN pv_int ?_
  refine ds_forL (L := a.tm.ps) (emb := fun p => .tup [.int (p.1 : Nat), .int p.2]) (.many [3, 4]) (fun k S => ∃ c3 c4, S = ⟨[some (.dat a.enc), some (.dat (.int (c : Nat))), some (.dat (.int ((a.tm.ps.take k).map fun p => p.2 * ((bit c p.1 : Nat) : Int)).sum)), c3, c4], none⟩) (fun S => ∃ c3 c4, S = ⟨[some (.dat a.enc), some (.dat (.int (c : Nat))), some (.dat (.int (moreA a c))), c3, c4], none⟩) PassesOwn.never rfl
    (pid_tup (pv_ix (d := encPs a.tm.ps) (pv_ix (d := a.tm.enc) (PVd (dv 0) ea) (pv_neg pv_int) True.intro rfl rfl e1) pv_int True.intro rfl rfl rfl)) (tl2 3 4 hN rfl) ⟨none, none, rfl⟩ ?_ ?_ ?_
  · rintro k p S hk ⟨c3, c4, rfl⟩
    have hp := tok.lt p (List.mem_of_getElem? hk)
    have hpow : atI ([1, 2, 4, 8].map D.int) (p.1 : Int) = some (.int ((2 ^ p.1 : Nat) : Int)) := by
      refine atI_nat ?_
      have : p.1 = 0 ∨ p.1 = 1 ∨ p.1 = 2 := by omega
      rcases this with h | h | h <;> rw [h] <;> rfl
    have eb : ((bit c p.1 : Nat) : Int) = (c : Int) / ((2 ^ p.1 : Nat) : Int) % 2 := by unfold bit; omega
    have esum : ((a.tm.ps.take (k + 1)).map fun p => p.2 * ((bit c p.1 : Nat) : Int)).sum = ((a.tm.ps.take k).map fun p => p.2 * ((bit c p.1 : Nat) : Int)).sum + p.2 * ((c : Int) / ((2 ^ p.1 : Nat) : Int) % 2) := by
      rw [List.take_add_one, hk, ← eb]
      simp
    rw [esum]
    exact ⟨_, rfl, sD 2 hN (pv_add (dv 2) (pv_mul (dv 4) (pv_mod (bInt C.b (pv_fdiv (dv 1) (pv_ix (pv_lst (ds := [1, 2, 4, 8].map D.int) (pvs_cons pv_int (pvs_cons pv_int (pvs_cons pv_int (pvs_one pv_int)))) rfl) (dv 3) True.intro rfl rfl hpow) (pow_lt (by omega)))) pv_int) (.inl ⟨by omega, by omega⟩))) (ds_nil ⟨_, _, rfl⟩)⟩
  · rintro S ⟨c3, c4, h⟩
    rw [List.take_length, ← linF_colf] at h
    exact ⟨c3, c4, h⟩
  · rintro S ⟨c3, c4, rfl⟩
    exact rD (dv 2) ⟨rfl, rfl⟩
abbrev GLeft (P : Program) (w : World) (K : PySem.W.Frag) (mg : Str → Option Value) (base : Heap) : Prop := GFa P w K mg base 2 "_law_left" 3 (fun i : At × Option Cy × Nat => [i.1.enc, encO i.2.1, .int (i.2.2 : Nat)]) (fun i => i.1.ok ∧ ∀ c, i.2.1 = some c → CInv i.1 c) (fun i => encO (cstep i.1 i.2.1 (colf (namesA i.1) i.2.2)))
theorem ok_left (C : Cst K mg) (F : DefOk K mg "_law_left" "_law_left" H75.sLLeft) (G1 : GMore P w K mg base) : GLeft P w K mg base := by
  refine gfa_of (ps := ["_law_atom_here", "_law_here", "_law_column"]) (N := ["_law_atom_here", "_law_here", "_law_column", "_law_number", "_law_modulus"]) F ⟨rfl, rfl, rfl, by decide +kernel, rfl, by decide +kernel, by decide +kernel⟩ (fun _ => rfl) (fun _ _ _ _ _ _ us hl => match us, hl with | [_, _, _], _ => rfl) fun fa cdv A outer s H E i hr hi => ?_
  obtain ⟨a, oc, col⟩ := i
  obtain ⟨aok, hci⟩ := (show a.ok ∧ ∀ c, oc = some c → CInv a c from hi)
  have hN : (["_law_atom_here", "_law_here", "_law_column", "_law_number", "_law_modulus"] : List Str).Nodup := by decide +kernel
  show PSd _ _ ⟨[some (.dat a.enc), some (.dat (encO oc)), some (.dat (.int (col : Nat))), none, none], none⟩ { nx := fun S' => S'.w = none ∧ encO (cstep a oc (colf (namesA a) col)) = .non, rt := fun d w' => w' = none ∧ d = encO (cstep a oc (colf (namesA a) col)) }
  cases oc with
  | none => exact iYes (tCd (cd_isN (dv 1))) (rD pv_non ⟨rfl, rfl⟩)
  | some c =>
    obtain ⟨l, m⟩ := c
    have hc := hci (l, m) rfl
    show PSd _ _ _ { nx := fun S' => S'.w = none ∧ encO (nextC a (l, m) (moreA a col)) = .non, rt := fun d w' => w' = none ∧ d = encO (nextC a (l, m) (moreA a col)) }
    refine iNo (tCd (cd_isN (dv 1))) ?_
    refine ds_par 3 4 (d1 := .int (l + moreA a col)) (d2 := .int m) rfl hN rfl rfl (by decide) rfl rfl (pvs_cons (pv_add (pv_ix (d := .int l) (dv 1) pv_int True.intro rfl rfl rfl) (pv_callE (d := .int (moreA a col)) (a, col) G1 hr (by omega) (pvs_cons (dv 0) (pvs_one (dv 2))) rfl aok)) (pvs_one (pv_ix (d := .int m) (dv 1) pv_int True.intro rfl rfl rfl))) ?_
    generalize moreA a col = more
    cases a with
    | ge t => exact iYes (tCd (cd_eqS (pv_ix (dv 0) pv_int True.intro rfl rfl at0) pv_str)) (rD (pv_tup (pvs_cons (pv_fdiv (dv 3) pv_int) (pvs_one pv_int)) rfl) ⟨rfl, rfl⟩)
    | eq t =>
      refine iNo (tCd (cd_eqS (pv_ix (dv 0) pv_int True.intro rfl rfl at0) pv_str)) ?_
      refine iNo (z := false && false) (PWd.t (td_and (PTz (tCd (cd_eqS (pv_ix (dv 0) pv_int True.intro rfl rfl at0) pv_str))) fun h => nomatch h)) ?_
      refine ds_when (tCd (cd_eqI (pv_mod (bInt C.b (dv 3)) pv_int) pv_int)) (fun hz => rD pv_non ⟨rfl, ?_⟩) fun hz => ?_
      · show D.non = encO (if (l + more) % 2 = 1 then none else some ((l + more) / 2, 0))
        rw [if_pos (of_decide_eq_true hz)]
        rfl
      · refine rD (d := .tup [.int ((l + more) / 2), .int 0]) (vif (z := true) (PTz (tCd (cd_eqS (pv_ix (dv 0) pv_int True.intro rfl rfl at0) pv_str))) (fun _ => pv_tup (pvs_cons (pv_fdiv (dv 3) pv_int) (pvs_one pv_int)) rfl) (fun h => nomatch h)) ⟨rfl, ?_⟩
        show _ = encO (if (l + more) % 2 = 1 then none else some ((l + more) / 2, 0))
        rw [if_neg (of_decide_eq_false hz)]
        rfl
    | mod mm t =>
      obtain ⟨h1, h2, h3, h4⟩ := (show 1 ≤ m ∧ m ≤ 6 ∧ 0 ≤ l ∧ l < m from hc)
      refine iNo (tCd (cd_eqS (pv_ix (dv 0) pv_int True.intro rfl rfl at0) pv_str)) ?_
      refine ds_when (PWd.t (td_and (z := true) (PTz (tCd (cd_eqS (pv_ix (dv 0) pv_int True.intro rfl rfl at0) pv_str))) fun _ => td_one (tCd (cd_eqI (pv_mod (bInt C.b (dv 4)) pv_int) pv_int)))) (fun hz => ?_) fun hz => ?_
      · rw [Bool.true_and] at hz
        have hodd := of_decide_eq_true hz
        refine rD (d := .tup [.int ((if (l + more) % 2 = 0 then l + more else l + more + m) / 2 % m), .int m]) (pv_tup (pvs_cons (pv_mod (pv_fdiv (bInt C.b (i := if (l + more) % 2 = 0 then l + more else l + more + m) (vif (tCd (cd_eqI (pv_mod (bInt C.b (dv 3)) pv_int) pv_int)) (fun h => ?_) (fun h => ?_))) pv_int) (dv 4) (by omega)) (pvs_one (dv 4))) rfl) ⟨rfl, ?_⟩
        · rw [if_pos (of_decide_eq_true h)]; exact dv 3
        · rw [if_neg (of_decide_eq_false h)]; exact pv_add (dv 3) (dv 4)
        · show _ = encO (if m % 2 = 1 then some ((l + more) * ((m + 1) / 2) % m, m) else if (l + more) % 2 = 1 then none else some ((l + more) / 2 % (m / 2), m / 2))
          rw [if_pos hodd, odd_half hodd h1]
          rfl
      · rw [Bool.true_and] at hz
        have hme := of_decide_eq_false hz
        refine ds_when (tCd (cd_eqI (pv_mod (bInt C.b (dv 3)) pv_int) pv_int)) (fun hz2 => rD pv_non ⟨rfl, ?_⟩) fun hz2 => ?_
        · show D.non = encO (if m % 2 = 1 then some ((l + more) * ((m + 1) / 2) % m, m) else if (l + more) % 2 = 1 then none else some ((l + more) / 2 % (m / 2), m / 2))
          rw [if_neg hme, if_pos (of_decide_eq_true hz2)]
          rfl
        · refine rD (d := .tup [.int ((l + more) / 2 % (m / 2)), .int (m / 2)]) (vif (z := false) (PTz (tCd (cd_eqS (pv_ix (dv 0) pv_int True.intro rfl rfl at0) pv_str))) (fun h => nomatch h) (fun _ => pv_tup (pvs_cons (pv_mod (bInt C.b (pv_fdiv (dv 3) pv_int)) (pv_fdiv (dv 4) pv_int) (by omega)) (pvs_one (pv_fdiv (dv 4) pv_int))) rfl)) ⟨rfl, ?_⟩
          show _ = encO (if m % 2 = 1 then some ((l + more) * ((m + 1) / 2) % m, m) else if (l + more) % 2 = 1 then none else some ((l + more) / 2 % (m / 2), m / 2))
          rw [if_neg hme, if_neg (of_decide_eq_false hz2)]
          rfl
abbrev GTrue (P : Program) (w : World) (K : PySem.W.Frag) (mg : Str → Option Value) (base : Heap) : Prop := GFa P w K mg base 1 "_law_true_there" 2 (fun i : At × Option Cy => [i.1.enc, encO i.2]) (fun _ => True) (fun i => .bl (accO i.1 i.2))
theorem ok_true (F : DefOk K mg "_law_true_there" "_law_true_there" H75.sLTrueThere) : GTrue P w K mg base := by
  refine gfa_of (ps := ["_law_atom_here", "_law_here"]) (N := ["_law_atom_here", "_law_here"]) F ⟨rfl, rfl, rfl, by decide +kernel, rfl, by decide +kernel, by decide +kernel⟩ (fun _ => rfl) (fun _ _ _ _ _ _ us hl => match us, hl with | [_, _], _ => rfl) fun fa cdv A outer s H E i hr hi => ?_
  obtain ⟨a, oc⟩ := i
  show PSd _ _ ⟨[some (.dat a.enc), some (.dat (encO oc))], none⟩ _
  cases oc with
  | none => exact iYes (tCd (cd_isN (dv 1))) (rD pv_bl ⟨rfl, rfl⟩)
  | some c =>
    refine iNo (tCd (cd_isN (dv 1))) ?_
    cases a with
    | ge t => exact rD (d := .bl (decide (0 ≤ c.1))) (vif (z := true) (PTz (tCd (cd_eqS (pv_ix (dv 0) pv_int True.intro rfl rfl at0) pv_str))) (fun _ => vC (cd_ge (pv_ix (dv 1) pv_int True.intro rfl rfl rfl) pv_int)) (fun h => nomatch h)) ⟨rfl, rfl⟩
    | eq t => exact rD (d := .bl (decide (c.1 = 0))) (vif (z := false) (PTz (tCd (cd_eqS (pv_ix (dv 0) pv_int True.intro rfl rfl at0) pv_str))) (fun h => nomatch h) (fun _ => vC (cd_eqI (pv_ix (dv 1) pv_int True.intro rfl rfl rfl) pv_int))) ⟨rfl, rfl⟩
    | mod m t => exact rD (d := .bl (decide (c.1 = 0))) (vif (z := false) (PTz (tCd (cd_eqS (pv_ix (dv 0) pv_int True.intro rfl rfl at0) pv_str))) (fun h => nomatch h) (fun _ => vC (cd_eqI (pv_ix (dv 1) pv_int True.intro rfl rfl rfl) pv_int))) ⟨rfl, rfl⟩
end
end K75
namespace K75
open PySem PySem.Spec PyProof.Rows L2 PL

/-! ### keys of atoms -/
def atk (a : At) : NestedKey := a.enc.key
theorem keys_ps : ∀ a b : List (Nat × Int), D.keys (a.map fun p => D.tup [.int (p.1 : Nat), .int p.2]) = D.keys (b.map fun p => D.tup [.int (p.1 : Nat), .int p.2]) → a = b
  | [], [], _ => rfl
  | [], _ :: _, h => by simp [D.keys] at h
  | _ :: _, [], h => by simp [D.keys] at h
  | x :: a, y :: b, h => by
    have h' : NestedKey.tup [.num ((x.1 : Nat) : Int), .num x.2] :: D.keys (a.map fun p => D.tup [.int (p.1 : Nat), .int p.2]) = NestedKey.tup [.num ((y.1 : Nat) : Int), .num y.2] :: D.keys (b.map fun p => D.tup [.int (p.1 : Nat), .int p.2]) := h
    injection h' with h1 h2
    injection h1 with h1
    injection h1 with h3 h4
    injection h4 with h4 _
    injection h3 with h3
    injection h4 with h4
    rw [keys_ps a b h2, Prod.ext (nat_int_inj _ _ h3) h4]
theorem tmk_inj (s t : Tm) (h : s.enc.key = t.enc.key) : s = t := by
  have h' : NestedKey.tup [.num s.c, .tup (D.keys (s.ps.map fun p => D.tup [.int (p.1 : Nat), .int p.2]))] = NestedKey.tup [.num t.c, .tup (D.keys (t.ps.map fun p => D.tup [.int (p.1 : Nat), .int p.2]))] := h
  injection h' with h'
  injection h' with h1 h2
  injection h2 with h2 _
  injection h1 with h1
  injection h2 with h2
  obtain ⟨c, ps⟩ := s
  obtain ⟨c', ps'⟩ := t
  have e := keys_ps _ _ h2
  simp only at h1 e
  rw [h1, e]
theorem atk_inj (a b : At) (h : atk a = atk b) : a = b := by
  cases a with
  | ge s =>
    cases b with
    | ge t =>
      have h' : NestedKey.tup [.text "ge", s.enc.key] = NestedKey.tup [.text "ge", t.enc.key] := h
      injection h' with h'
      injection h' with _ h2
      injection h2 with h2 _
      rw [tmk_inj s t h2]
    | eq t =>
      have h' : NestedKey.tup [.text "ge", s.enc.key] = NestedKey.tup [.text "eq", t.enc.key] := h
      injection h' with h'
      injection h' with h1 _
      injection h1 with h1
      exact absurd h1 (by decide)
    | mod m t =>
      have h' : NestedKey.tup [.text "ge", s.enc.key] = NestedKey.tup [.text "mod", .num ((m : Nat) : Int), t.enc.key] := h
      injection h' with h'
      injection h' with h1 _
      injection h1 with h1
      exact absurd h1 (by decide)
  | eq s =>
    cases b with
    | ge t =>
      have h' : NestedKey.tup [.text "eq", s.enc.key] = NestedKey.tup [.text "ge", t.enc.key] := h
      injection h' with h'
      injection h' with h1 _
      injection h1 with h1
      exact absurd h1 (by decide)
    | eq t =>
      have h' : NestedKey.tup [.text "eq", s.enc.key] = NestedKey.tup [.text "eq", t.enc.key] := h
      injection h' with h'
      injection h' with _ h2
      injection h2 with h2 _
      rw [tmk_inj s t h2]
    | mod m t =>
      have h' : NestedKey.tup [.text "eq", s.enc.key] = NestedKey.tup [.text "mod", .num ((m : Nat) : Int), t.enc.key] := h
      injection h' with h'
      injection h' with h1 _
      injection h1 with h1
      exact absurd h1 (by decide)
  | mod n s =>
    cases b with
    | ge t =>
      have h' : NestedKey.tup [.text "mod", .num ((n : Nat) : Int), s.enc.key] = NestedKey.tup [.text "ge", t.enc.key] := h
      injection h' with h'
      injection h' with h1 _
      injection h1 with h1
      exact absurd h1 (by decide)
    | eq t =>
      have h' : NestedKey.tup [.text "mod", .num ((n : Nat) : Int), s.enc.key] = NestedKey.tup [.text "eq", t.enc.key] := h
      injection h' with h'
      injection h' with h1 _
      injection h1 with h1
      exact absurd h1 (by decide)
    | mod m t =>
      have h' : NestedKey.tup [.text "mod", .num ((n : Nat) : Int), s.enc.key] = NestedKey.tup [.text "mod", .num ((m : Nat) : Int), t.enc.key] := h
      injection h' with h'
      injection h' with _ h2
      injection h2 with h2 h3
      injection h3 with h3 _
      injection h2 with h2
      rw [tmk_inj s t h3, nat_int_inj _ _ h2]
theorem keyables_ps (n : Nat) : ∀ ps : List (Nat × Int), D.keyables (n + 1) (ps.map fun p => D.tup [.int (p.1 : Nat), .int p.2]) = true
  | [] => rfl
  | p :: ps => by
    show (true && D.keyables (n + 1) (ps.map fun p => D.tup [.int (p.1 : Nat), .int p.2])) = true
    rw [keyables_ps n ps]; rfl
theorem keyable_tm (n : Nat) (t : Tm) : t.enc.keyable (n + 3) = true := by
  show (true && ((D.keyables (n + 1) (t.ps.map fun p => D.tup [.int (p.1 : Nat), .int p.2])) && true)) = true
  rw [keyables_ps n t.ps]; rfl
theorem keyable_at (a : At) : a.enc.keyable 8 = true := by
  cases a with
  | ge t => show (true && (t.enc.keyable 7 && true)) = true; rw [keyable_tm 4 t]; rfl
  | eq t => show (true && (t.enc.keyable 7 && true)) = true; rw [keyable_tm 4 t]; rfl
  | mod m t => show (true && (true && (t.enc.keyable 7 && true))) = true; rw [keyable_tm 4 t]; rfl
def semF (τ : At → Bool) : Fm → Bool
  | .atm a => τ a
  | .no f => !semF τ f
  | .bi b f g => if b = true then semF τ f && semF τ g else semF τ f || semF τ g
theorem semF_sem (f : Fm) (V : List Nat) : semF (fun a => accO a (cg a V)) f = sem f V := by
  induction f with
  | atm a => rfl
  | no f ih => simp only [semF, sem, ih]
  | bi b f g ih1 ih2 => simp only [semF, sem, ih1, ih2]
theorem atoms_ok : ∀ (f : Fm), f.ok → ∀ a ∈ atoms f, a.ok
  | .atm a, ok, x, hx => by rw [List.mem_singleton.mp hx]; exact ok
  | .no f, ok, x, hx => atoms_ok f ok x hx
  | .bi b f g, ok, x, hx => by
    have ok' : f.ok ∧ g.ok := ok
    rcases List.mem_append.mp hx with h | h
    · exact atoms_ok f ok'.1 x h
    · exact atoms_ok g ok'.2 x h
theorem atoms_size : ∀ (f : Fm), (atoms f).length ≤ f.size
  | .atm a => Nat.le_refl _
  | .no f => by have := atoms_size f; simp only [atoms, Fm.size]; omega
  | .bi b f g => by have := atoms_size f; have := atoms_size g; simp only [atoms, Fm.size, List.length_append]; omega
def atomsS (l : List Fm) : List At := (l.map atoms).flatten
section
variable {P : Program} {w : World} {K : PySem.W.Frag} {mg : Str → Option Value} {base : Heap}
abbrev GAtoms (P : Program) (w : World) (K : PySem.W.Frag) (mg : Str → Option Value) (base : Heap) (n : Nat) : Prop := GFa P w K mg base (n + 1) "_law_atoms" 1 (fun f : Fm => [f.enc]) (fun f => f.depth ≤ n ∧ f.size ≤ 1000) (fun f => .lst ((atoms f).map At.enc))
theorem ok_atoms (C : Cst K mg) (F : DefOk K mg "_law_atoms" "_law_atoms" H75.sLAtoms) : ∀ n, GAtoms P w K mg base n := by
  intro n
  induction n with
  | zero =>
    refine gfa_of (ps := ["_law_formula"]) (N := ["_law_formula", "_law_word", "_law_found", "_law_part"]) F ⟨rfl, rfl, rfl, by decide +kernel, rfl, by decide +kernel, by decide +kernel⟩ (fun _ => rfl) (fun _ _ _ _ _ _ us hl => match us, hl with | [_], _ => rfl) fun fa cdv A outer s H E i hr hi => ?_
    have := i.depth_pos
    have := hi.1
    omega
  | succ n ih =>
    refine gfa_of (ps := ["_law_formula"]) (N := ["_law_formula", "_law_word", "_law_found", "_law_part"]) F ⟨rfl, rfl, rfl, by decide +kernel, rfl, by decide +kernel, by decide +kernel⟩ (fun _ => rfl) (fun _ _ _ _ _ _ us hl => match us, hl with | [_], _ => rfl) fun fa cdv A outer s H E f hr hi => ?_
    obtain ⟨hd, hsz⟩ := hi
    have hN : (["_law_formula", "_law_word", "_law_found", "_law_part"] : List Str).Nodup := by decide +kernel
    show PSd _ _ ⟨[some (.dat f.enc), none, none, none], none⟩ _
    refine sD 1 hN (pv_ix (d := .str f.word) (PVd (dv 0) f.enc_eq) pv_int True.intro rfl rfl at0) ?_
    cases f with
    | atm a =>
      have ew : decide ((Fm.atm a).word = ("not" : Str)) = false ∧ decide ((Fm.atm a).word ∈ (["and", "or"] : List Str)) = false := by cases a <;> exact ⟨rfl, rfl⟩
      refine iNo (tCd (cd_eqS (dv 1) pv_str)) ?_ ew.1
      refine iNo (tCd (cd_inSeqS (is := ["and", "or"]) (dv 1) (pv_tup (pvs_cons pv_str (pvs_one pv_str)) rfl) rfl rfl)) ?_ ew.2
      exact rD (PV.frz (pv_lst (pvs_one (dv 0)) rfl)) ⟨rfl, rfl⟩
    | no f =>
      have h1 : f.depth + 1 ≤ n + 1 := hd
      have h2 : f.size + 1 ≤ 1000 := hsz
      exact iYes (tCd (cd_eqS (dv 1) pv_str)) (rD (pv_callE (d := .lst ((atoms f).map At.enc)) f ih hr (by omega) (pvs_one (pv_ix (d := f.enc) (dv 0) pv_int True.intro rfl rfl rfl)) rfl ⟨by omega, by omega⟩) ⟨rfl, rfl⟩)
    | bi b f g =>
      have h1 : max f.depth g.depth + 1 ≤ n + 1 := hd
      have h2 : f.size + g.size + 1 ≤ 1000 := hsz
      have a1 := atoms_size f
      have a2 := atoms_size g
      have ew : decide ((Fm.bi b f g).word = ("not" : Str)) = false ∧ decide ((Fm.bi b f g).word ∈ (["and", "or"] : List Str)) = true := by cases b <;> exact ⟨rfl, rfl⟩
      refine iNo (tCd (cd_eqS (dv 1) pv_str)) ?_ ew.1
      refine iYes (tCd (cd_inSeqS (is := ["and", "or"]) (dv 1) (pv_tup (pvs_cons pv_str (pvs_one pv_str)) rfl) rfl rfl)) ?_ ew.2
      refine sN 2 hN (pv_lst pvs_nil rfl) ?_
      refine ds_forL (L := [f, g]) (emb := Fm.enc) (.one 3) (fun k S => ∃ c, S = ⟨[some (.dat (Fm.bi b f g).enc), some (.dat (.str (Fm.bi b f g).word)), some (.lst ((atomsS ([f, g].take k)).map At.enc)), c], none⟩) (fun S => ∃ c, S = ⟨[some (.dat (Fm.bi b f g).enc), some (.dat (.str (Fm.bi b f g).word)), some (.lst ((atoms (.bi b f g)).map At.enc)), c], none⟩) PassesOwn.never rfl
        (pid_tup (pv_ix (d := .tup [f.enc, g.enc]) (dv 0) pv_int True.intro rfl rfl rfl)) (tl1 3 hN) ⟨none, rfl⟩ ?_ ?_ ?_
      · rintro k x S hk ⟨c, rfl⟩
        have hkl := (List.getElem?_eq_some_iff.mp hk).1
        have hx : x.depth ≤ n ∧ x.size ≤ 1000 ∧ (atoms x).length ≤ 1000 := by
          have := List.mem_of_getElem? hk
          simp at this
          rcases this with rfl | rfl
          · exact ⟨by omega, by omega, by omega⟩
          · exact ⟨by omega, by omega, by omega⟩
        have hacc : (atomsS ([f, g].take k)).length ≤ 2000 := by
          have : k = 0 ∨ k = 1 := by simp at hkl; omega
          rcases this with rfl | rfl
          · simp [atomsS]
          · simp [atomsS]; omega
        refine ⟨_, rfl, sN 2 hN (pv_catL (ov 2) (pv_callE (d := .lst ((atoms x).map At.enc)) x ih hr (by omega) (pvs_one (dv 3)) rfl ⟨hx.1, hx.2.1⟩) rfl rfl rfl rfl (by rw [List.length_map, List.length_map]; omega)) (ds_nil ⟨some (.dat x.enc), ?_⟩)⟩
        have e : (atomsS ([f, g].take (k + 1))).map At.enc = (atomsS ([f, g].take k)).map At.enc ++ (atoms x).map At.enc := by
          rw [← List.map_append]
          congr 1
          unfold atomsS
          rw [List.take_add_one, hk]
          simp
        rw [e]
        rfl
      · rintro S ⟨c, h⟩
        have e : atomsS ([f, g].take [f, g].length) = atoms (.bi b f g) := by simp [atomsS, atoms]
        rw [e] at h
        exact ⟨c, h⟩
      · rintro S ⟨c, rfl⟩
        exact ds_ret (PV.frzO (ov 2)) ⟨rfl, rfl⟩
structure ByArg where
  f : Fm
  ks : List NestedKey
  vs : List D
  τ : At → Bool
def trD (P : Program) (w : World) (K : PySem.W.Frag) (ks : List NestedKey) (vs : List D) : D := .dicN (fun ys p => DicRaw ⟨P, w, K⟩ p ys) ks vs
abbrev GBy (P : Program) (w : World) (K : PySem.W.Frag) (mg : Str → Option Value) (base : Heap) (n : Nat) : Prop := GFa P w K mg base (n + 1) "_law_by" 2 (fun i : ByArg => [i.f.enc, trD P w K i.ks i.vs]) (fun i => i.f.depth ≤ n ∧ ∀ a ∈ atoms i.f, aget (i.ks.zip i.vs) (atk a) = some (.bl (i.τ a))) (fun i => .bl (semF i.τ i.f))
theorem ok_by (F : DefOk K mg "_law_by" "_law_by" H75.sLBy) : ∀ n, GBy P w K mg base n := by
  intro n
  induction n with
  | zero =>
    refine gfa_of (ps := ["_law_formula", "_law_truths"]) (N := ["_law_formula", "_law_truths", "_law_word", "_law_part"]) F ⟨rfl, rfl, rfl, by decide +kernel, rfl, by decide +kernel, by decide +kernel⟩ (fun _ => rfl) (fun _ _ _ _ _ _ us hl => match us, hl with | [_, _], _ => rfl) fun fa cdv A outer s H E i hr hi => ?_
    have := i.f.depth_pos
    have := hi.1
    omega
  | succ n ih =>
    refine gfa_of (ps := ["_law_formula", "_law_truths"]) (N := ["_law_formula", "_law_truths", "_law_word", "_law_part"]) F ⟨rfl, rfl, rfl, by decide +kernel, rfl, by decide +kernel, by decide +kernel⟩ (fun _ => rfl) (fun _ _ _ _ _ _ us hl => match us, hl with | [_, _], _ => rfl) fun fa cdv A outer s H E i hr hi => ?_
    obtain ⟨f, ks, vs, τ⟩ := i
    obtain ⟨hd, hτ⟩ := (show f.depth ≤ n + 1 ∧ ∀ a ∈ atoms f, aget (ks.zip vs) (atk a) = some (.bl (τ a)) from hi)
    have hN : (["_law_formula", "_law_truths", "_law_word", "_law_part"] : List Str).Nodup := by decide +kernel
    show PSd _ _ ⟨[some (.dat f.enc), some (.dat (trD P w K ks vs)), none, none], none⟩ _
    refine sD 2 hN (pv_ix (d := .str f.word) (PVd (dv 0) f.enc_eq) pv_int True.intro rfl rfl at0) ?_
    cases f with
    | atm a =>
      have ew : decide ((Fm.atm a).word = ("not" : Str)) = false ∧ decide ((Fm.atm a).word ∈ (["and", "or"] : List Str)) = false := by cases a <;> exact ⟨rfl, rfl⟩
      refine iNo (tCd (cd_eqS (dv 2) pv_str)) ?_ ew.1
      refine iNo (tCd (cd_inSeqS (is := ["and", "or"]) (dv 2) (pv_tup (pvs_cons pv_str (pvs_one pv_str)) rfl) rfl rfl)) ?_ ew.2
      obtain ⟨as, ea, _, _⟩ := a.enc_eq
      have hk := keyable_at a
      have hg := hτ a (by simp [atoms])
      unfold atk at hg
      rw [ea] at hk hg
      exact rD (vd_getND (ds := as) (PL.Room.u9 hr) (dv 1) (PVd (dv 0) ea) hk hg) ⟨rfl, rfl⟩
    | no f =>
      have h1 : f.depth + 1 ≤ n + 1 := hd
      exact iYes (tCd (cd_eqS (dv 2) pv_str)) (rD (vd_not (pv_callE (d := .bl (semF τ f)) ⟨f, ks, vs, τ⟩ ih hr (by omega) (pvs_cons (pv_ix (d := f.enc) (dv 0) pv_int True.intro rfl rfl rfl) (pvs_one (dv 1))) rfl ⟨by show f.depth ≤ n; omega, hτ⟩)) ⟨rfl, rfl⟩)
    | bi b f g =>
      have h1 : max f.depth g.depth + 1 ≤ n + 1 := hd
      have ew : decide ((Fm.bi b f g).word = ("not" : Str)) = false ∧ decide ((Fm.bi b f g).word ∈ (["and", "or"] : List Str)) = true ∧ decide ((Fm.bi b f g).word = ("and" : Str)) = b ∧ decide ((Fm.bi b f g).word = ("or" : Str)) = !b := by cases b <;> exact ⟨rfl, rfl, rfl, rfl⟩
      refine iNo (tCd (cd_eqS (dv 2) pv_str)) ?_ ew.1
      refine iYes (tCd (cd_inSeqS (is := ["and", "or"]) (dv 2) (pv_tup (pvs_cons pv_str (pvs_one pv_str)) rfl) rfl rfl)) ?_ ew.2.1
      refine ds_forL (L := [f, g]) (emb := Fm.enc) (.one 3) (fun k S => ∃ c, S = ⟨[some (.dat (Fm.bi b f g).enc), some (.dat (trD P w K ks vs)), some (.dat (.str (Fm.bi b f g).word)), c], none⟩ ∧ ∀ x ∈ [f, g].take k, semF τ x = b) (fun S => ∃ c, S = ⟨[some (.dat (Fm.bi b f g).enc), some (.dat (trD P w K ks vs)), some (.dat (.str (Fm.bi b f g).word)), c], none⟩ ∧ ∀ x ∈ [f, g], semF τ x = b) PassesOwn.never rfl
        (pid_tup (pv_ix (d := .tup [f.enc, g.enc]) (dv 0) pv_int True.intro rfl rfl rfl)) (tl1 3 hN) ⟨none, rfl, fun x hx => by simp at hx⟩ ?_ ?_ ?_
      · rintro k x S hk ⟨c, rfl, hpre⟩
        have hxm := List.mem_of_getElem? hk
        have hx : x.depth ≤ n ∧ ∀ a ∈ atoms x, aget (ks.zip vs) (atk a) = some (.bl (τ a)) := by
          simp at hxm
          rcases hxm with rfl | rfl
          · exact ⟨by omega, fun a ha => hτ a (List.mem_append_left _ ha)⟩
          · exact ⟨by omega, fun a ha => hτ a (List.mem_append_right _ ha)⟩
        refine ⟨_, rfl, ds_when (tCd (cd_neB (j := b) (pv_callE (d := .bl (semF τ x)) ⟨x, ks, vs, τ⟩ ih hr (by omega) (pvs_cons (dv 3) (pvs_one (dv 1))) rfl hx) (PVz (vC (cd_eqS (dv 2) pv_str)) ew.2.2.1))) (fun hz => rD (PVz (vC (cd_eqS (dv 2) pv_str)) ew.2.2.2) ⟨rfl, ?_⟩) (fun hz => ds_nil ⟨_, rfl, fun y hy => ?_⟩)⟩
        · have hne : semF τ x ≠ b := by
            intro e
            rw [e] at hz
            simp at hz
          show D.bl (!b) = .bl (if b = true then semF τ f && semF τ g else semF τ f || semF τ g)
          simp at hxm
          cases b
          · have : semF τ x = true := by simpa using hne
            rcases hxm with rfl | rfl <;> simp [this]
          · have : semF τ x = false := by simpa using hne
            rcases hxm with rfl | rfl <;> simp [this]
        · rw [List.take_add_one, hk] at hy
          rcases List.mem_append.mp hy with hy | hy
          · exact hpre y hy
          · have : y = x := by simpa using hy
            subst this
            have : decide (semF τ y = b) = true := by simpa using hz
            exact of_decide_eq_true this
      · rintro S ⟨c, rfl, hpre⟩
        exact ⟨c, rfl, fun x hx => hpre x (by simpa using hx)⟩
      · rintro S ⟨c, rfl, hall⟩
        refine rD (PVz (vC (cd_eqS (dv 2) pv_str)) ew.2.2.1) ⟨rfl, ?_⟩
        show D.bl b = .bl (if b = true then semF τ f && semF τ g else semF τ f || semF τ g)
        rw [hall f (by simp), hall g (by simp)]
        cases b <;> rfl
end
end K75
namespace K75
open PySem PySem.Spec PyProof.Rows L2 PL

def encLf (l : List (Option Cy)) : D := .tup (l.map encO)
def lfk (l : List (Option Cy)) : NestedKey := (encLf l).key
theorem encO_key : ∀ a b : Option Cy, (encO a).key = (encO b).key → a = b
  | none, none, _ => rfl
  | none, some c, h => by
    have h' : NestedKey.none = NestedKey.tup [.num c.1, .num c.2] := h
    exact nomatch h'
  | some c, none, h => by
    have h' : NestedKey.tup [.num c.1, .num c.2] = NestedKey.none := h
    exact nomatch h'
  | some c, some d, h => by rw [cyk_inj c d h]
theorem keys_lf : ∀ a b : List (Option Cy), D.keys (a.map encO) = D.keys (b.map encO) → a = b
  | [], [], _ => rfl
  | [], _ :: _, h => by simp [D.keys] at h
  | _ :: _, [], h => by simp [D.keys] at h
  | x :: a, y :: b, h => by
    have h' : (encO x).key :: D.keys (a.map encO) = (encO y).key :: D.keys (b.map encO) := h
    injection h' with h1 h2
    rw [encO_key x y h1, keys_lf a b h2]
theorem lfk_inj : ∀ a b : List (Option Cy), lfk a = lfk b → a = b := fun a b h => keys_lf a b (by
  have h' : NestedKey.tup (D.keys (a.map encO)) = NestedKey.tup (D.keys (b.map encO)) := h
  injection h')
theorem keyables_lf (n : Nat) : ∀ l : List (Option Cy), D.keyables (n + 1) (l.map encO) = true
  | [] => rfl
  | x :: l => by
    show ((encO x).keyable (n + 1) && D.keyables (n + 1) (l.map encO)) = true
    rw [keyables_lf n l]
    cases x <;> rfl
def lstep (f : Fm) (l : List (Option Cy)) (col : Nat) : List (Option Cy) := ((atoms f).zip l).map fun q => cstep q.1 q.2 (colf (namesA q.1) col)
theorem lstep_lefts (f : Fm) (V : List Nat) (col : Nat) : lstep f (lefts f V) col = lefts f (V ++ [col]) := by
  unfold lstep lefts
  have : ∀ as : List At, ((as.zip (as.map fun a => cg a V)).map fun q => cstep q.1 q.2 (colf (namesA q.1) col)) = as.map fun a => cg a (V ++ [col]) := by
    intro as
    induction as with
    | nil => rfl
    | cons a as ih =>
      rw [List.map_cons, List.zip_cons_cons, List.map_cons, List.map_cons, ih, cg_snoc]
  exact this (atoms f)
theorem cg_inv {a : At} (ok : a.ok) : ∀ V c, cg a V = some c → CInv a c := by
  refine snoc_ind (fun c e => ?_) fun V x ih c e => ?_
  · have e' : some (startC a) = some c := e
    cases e'
    exact startC_inv ok
  · rw [cg_snoc] at e
    cases q : cg a V with
    | none => rw [q] at e; exact nomatch (show (none : Option Cy) = some c from e)
    | some c0 =>
      rw [q] at e
      exact nextC_inv (ih c0 q) (more_bound ok _) e
theorem lefts_length (f : Fm) (V : List Nat) : (lefts f V).length = (atoms f).length := List.length_map _
/-- the rests met: each is the rest of a word; up to at_ all that follows is there -/
structure LfInv (mm : Nat) (f : Fm) (line : List (List (Option Cy))) (at_ : Nat) : Prop where
  nd : line.Nodup
  hd : line[0]? = some (lefts f [])
  rch : ∀ l ∈ line, ∃ V, Wd (2 ^ mm) V ∧ l = lefts f V
  cl : ∀ (j : Nat) (l : List (Option Cy)), j < at_ → line[j]? = some l → ∀ col, col < 2 ^ mm → lstep f l col ∈ line
theorem LfInv.grow {mm : Nat} {f : Fm} {line : List (List (Option Cy))} {at_ : Nat} {l : List (Option Cy)} (h : LfInv mm f line at_) (ha : at_ ≤ line.length) (hl : l ∉ line) (hr : ∃ V, Wd (2 ^ mm) V ∧ l = lefts f V) : LfInv mm f (line ++ [l]) at_ where
  nd := nodup_snoc h.nd hl
  hd := by rw [List.getElem?_append_left (List.getElem?_eq_some_iff.mp h.hd).1]; exact h.hd
  rch := fun x hx => by
    rcases List.mem_append.mp hx with hx | hx
    · exact h.rch x hx
    · rw [List.mem_singleton.mp hx]; exact hr
  cl := fun j x hj hx col hc => by
    rw [List.getElem?_append_left (by omega)] at hx
    exact List.mem_append_left _ (h.cl j x hj hx col hc)
theorem LfInv.over {mm : Nat} {f : Fm} {line : List (List (Option Cy))} (h : LfInv mm f line line.length) (h300 : line.length ≤ 300) : NoOver mm f := by
  have all : ∀ V, Wd (2 ^ mm) V → lefts f V ∈ line := by
    refine snoc_ind (fun _ => List.mem_of_getElem? h.hd) fun V c ih hV => ?_
    obtain ⟨hV1, hc⟩ := hV.init
    obtain ⟨j, hj, e⟩ := List.getElem_of_mem (ih hV1)
    have := h.cl j _ hj (List.getElem?_eq_getElem hj) c hc
    rw [e, lstep_lefts] at this
    exact this
  intro Vs hV hn
  have := nodup_le hn (M := line) fun x hx => by
    obtain ⟨V, hVm, rfl⟩ := List.mem_map.mp hx
    exact all V (hV V hVm)
  rw [List.length_map] at this
  omega
section
variable {P : Program} {w : World} {K : PySem.W.Frag} {mg : Str → Option Value} {base : Heap}
structure RestPre (i : Fm × Nat) : Prop where
  ok : i.1.ok
  m6 : i.2 ≤ 3
  few : (atoms i.1).length ≤ 100
abbrev GRests (P : Program) (w : World) (K : PySem.W.Frag) (mg : Str → Option Value) (base : Heap) : Prop := GFr P w K mg base 3 "_law_rests" 2 (fun i : Fm × Nat => [.lst ((atoms i.1).map At.enc), .int (i.2 : Nat)]) RestPre (fun i d => ∃ r : Int, d = .int r ∧ (r ≤ 300 → NoOver i.2 i.1))
/-- the next rests, in a block -/
theorem far_at {f : Fm} {V : List Nat} {l : List (Option Cy)} (fok : f.ok) (e : l = lefts f V) : ∀ q ∈ (atoms f).zip l, q.1.ok ∧ ∀ c, q.2 = some c → CInv q.1 c := fun q hq => by
  subst e
  unfold lefts at hq
  have h1 : q.1 ∈ atoms f := (List.of_mem_zip hq).1
  have h2 : q.2 = cg q.1 V := by
    have : ∀ as : List At, q ∈ as.zip (as.map fun a => cg a V) → q.2 = cg q.1 V := by
      intro as
      induction as with
      | nil => intro h; simp at h
      | cons a as ih =>
        intro h
        rw [List.map_cons, List.zip_cons_cons] at h
        rcases List.mem_cons.mp h with rfl | h
        · rfl
        · exact ih h
    exact this _ hq
  have ok := atoms_ok f fok q.1 h1
  exact ⟨ok, fun c hc => cg_inv ok V c (by rw [← h2]; exact hc)⟩
theorem ok_rests (C : Cst K mg) (F : DefOk K mg "_law_rests" "_law_rests" H75.sLRests) (G1 : GStart P w K mg base) (G2 : GLeft P w K mg base) (G3 : GWidth P w K mg base) : GRests P w K mg base := by
  refine gfr_of (ps := ["_law_atoms_so", "_law_many_so"]) (N := ["_law_atoms_so", "_law_many_so", "_law_line", "_law_seen", "_law_at", "_law_column", "_law_far", "_law_atom_here", "_law_left_here"]) F ⟨rfl, rfl, rfl, by decide +kernel, rfl, by decide +kernel, by decide +kernel⟩ (fun _ => rfl) (fun _ _ _ _ _ _ us hl => match us, hl with | [_, _], _ => rfl) fun fa cdv A outer s H E i hr hi => ?_
  obtain ⟨f, mm⟩ := i
  obtain ⟨fok, hm3, hfew⟩ := (show RestPre (f, mm) from hi)
  have hN : (["_law_atoms_so", "_law_many_so", "_law_line", "_law_seen", "_law_at", "_law_column", "_law_far", "_law_atom_here", "_law_left_here"] : List Str).Nodup := by decide +kernel
  have hu9 := PL.Room.u9 hr
  have hm3' : mm ≤ 3 := hm3
  have hfew' : (atoms f).length ≤ 100 := hfew
  have h8 : 2 ^ mm ≤ 8 := Nat.le_trans (Nat.pow_le_pow_right (by omega) hm3') (by decide)
  have e0 : encLf (lefts f []) = .tup ((atoms f).map fun a => encCy (startC a)) := by
    unfold encLf lefts
    rw [List.map_map]
    rfl
  refine sN 2 hN (pv_lst (ds := [encLf (lefts f [])]) (pvs_one (PVd (bTuple C.b (PV.frz (pv_mapL (L := atoms f) (emb := At.enc) (f := fun a => encCy (startC a)) [("_law_atom_here", 7)] (.one 7) rfl hN (pid_lst (dv 0)) rfl (tb1 7 hN) (fun a ha => ⟨_, rfl, fun s H C2 cl fp => pv_callE a G1 hr (by omega) (pvs_one (dv 7)) rfl (atoms_ok f fok a ha)⟩) (by omega)))) e0.symm)) rfl) ?_
  refine sN 3 hN (pv_dispN (ds := (lefts f []).map encO) hu9 (pv_ix (d := encLf (lefts f [])) (ov 2) pv_int rfl rfl rfl rfl) pv_bl (keyables_lf 6 _)) ?_
  let St := fun (line : List (List (Option Cy))) (c4 c5 c6 : Option Sl) => (⟨[some (.dat (.lst ((atoms f).map At.enc))), some (.dat (.int (mm : Nat))), some (.lst (line.map encLf)), some (.dicN (seenT lfk line)), c4, c5, c6, none, none], none⟩ : PSt)
  refine ds_forL (L := List.range 301) (emb := fun (i : Nat) => D.int (i : Int)) (.one 4) (fun k S => ∃ line c4 c5 c6, S = St line c4 c5 c6 ∧ LfInv mm f line k ∧ k ≤ line.length ∧ line.length ≤ 300) (fun S => ∃ line c4 c5 c6, S = St line c4 c5 c6) PassesOwn.never rfl (bRangeN (n := 301) C.b (pv_int (i := 301)) (by decide)) (tl1 4 hN)
    ⟨[lefts f []], none, none, none, rfl, ⟨by simp, rfl, fun l hl => ⟨[], fun c hc => by simp at hc, List.mem_singleton.mp hl⟩, fun j l hj => absurd hj (by omega)⟩, by simp, by simp⟩ ?_ ?_ ?_
  · rintro k a S hk ⟨line, c4, c5, c6, rfl, inv, hkl, hl300⟩
    obtain ⟨rfl, hk301⟩ := range_at hk
    refine ⟨_, rfl, ds_when (tCd (cd_eqI (dv 4) (bLen C.b (ov 2)))) (fun hz => rD (bLen C.b (ov 2)) ⟨rfl, (line.length : Int), by rw [List.length_map], fun _ => ?_⟩) fun hz => ?_⟩
    · have := of_decide_eq_true hz
      rw [List.length_map] at this
      have e : a = line.length := by omega
      subst e
      exact inv.over hl300
    have hlt : a < line.length := by
      have := of_decide_eq_false hz
      rw [List.length_map] at this; omega
    obtain ⟨l, hl⟩ : ∃ l, line[a]? = some l := ⟨_, List.getElem?_eq_getElem hlt⟩
    obtain ⟨V, hV, eV⟩ := inv.rch l (List.mem_of_getElem? hl)
    have hll : (atoms f).length = l.length := by rw [eV, lefts_length]
    refine ds_forL (L := List.range (2 ^ mm)) (emb := fun (i : Nat) => D.int (i : Int)) (.one 5) (fun j S => ∃ line2 c5 c6, S = St line2 (some (.dat (.int (a : Nat)))) c5 c6 ∧ LfInv mm f line2 a ∧ a < line2.length ∧ line2[a]? = some l ∧ (∀ col, col < j → lstep f l col ∈ line2) ∧ line2.length ≤ 300 + j)
      (fun S => ∃ line2 c5 c6, S = St line2 (some (.dat (.int (a : Nat)))) c5 c6 ∧ LfInv mm f line2 a ∧ a < line2.length ∧ line2[a]? = some l ∧ (∀ col, col < 2 ^ mm → lstep f l col ∈ line2) ∧ line2.length ≤ 310) PassesOwn.never rfl
      (bRangeN (n := 2 ^ mm) C.b (pv_callE (d := .int ((2 ^ mm : Nat) : Int)) mm G3 hr (by omega) (pvs_one (dv 1)) rfl (by omega)) (by omega)) (tl1 5 hN) ⟨line, c5, c6, rfl, inv, hlt, hl, fun col hc => absurd hc (by omega), by omega⟩ ?_ ?_ ?_
    · rintro j col S hj ⟨line2, c5, c6, rfl, inv2, hlt2, hl2, hcl, hsz⟩
      obtain ⟨rfl, hj8⟩ := range_at hj
      have eF : encLf (lstep f l col) = .tup (((atoms f).zip l).map fun q => encO (cstep q.1 q.2 (colf (namesA q.1) col))) := by
        unfold encLf lstep
        rw [List.map_map]
        rfl
      have hF := far_at fok eV
      refine ⟨_, rfl, sD 6 hN (d := encLf (lstep f l col)) (PVd (bTuple C.b (PV.frz (pv_mapL (L := (atoms f).zip l) (emb := fun q => .tup [q.1.enc, encO q.2]) (f := fun q => encO (cstep q.1 q.2 (colf (namesA q.1) col))) [("_law_atom_here", 7), ("_law_left_here", 8)] (.many [7, 8]) rfl hN (bZip (t := false) (u := true) (L := atoms f) (M := l) (e1 := At.enc) (e2 := encO) C.b (dv 0) (pv_ix (d := encLf l) (ov 2) (dv 4) rfl rfl rfl (atI_nat (by rw [List.getElem?_map, hl2]; rfl))) hll) rfl (tb2 7 8 hN rfl) (fun q hq => ⟨_, rfl, fun s H C2 cl fp => pv_callE (q.1, q.2, col) G2 hr (by omega) (pvs_cons (dv 7) (pvs_cons (dv 8) (pvs_one (dv 5)))) rfl (hF q hq)⟩) (by rw [List.length_zip]; omega)))) eF.symm) ?_⟩
      have hrch : ∃ V', Wd (2 ^ mm) V' ∧ lstep f l col = lefts f V' := ⟨V ++ [col], hV.snoc hj8, by rw [eV, lstep_lefts]⟩
      refine ds_when (tCd (cd_notInN (ds := (lstep f l col).map encO) hu9 (dv 6) (ov 3) rfl (keyables_lf 6 _))) (fun hz => ?_) (fun hz => ds_nil ⟨line2, some (.dat (.int (col : Nat))), some (.dat (encLf (lstep f l col))), rfl, inv2, hlt2, hl2, fun c hc => ?_, by omega⟩)
      · have hnew : lstep f l col ∉ line2 := fun hm => by
          have := (seenT_some lfk_inj).mpr hm
          have hz' : (!(aget (seenT lfk line2) (lfk (lstep f l col))).isSome) = true := hz
          rw [this] at hz'; exact nomatch hz'
        refine ds_putN (ds := (lstep f l col).map encO) (i := 3) hu9 pv_bl (ov 3) (dv 6) rfl (keyables_lf 6 _) (by rw [seenT_length]; omega) (ds_app (i := 2) (ov 2) (dv 6) rfl (by rw [List.length_map]; omega) rfl (ds_nil (ds_nil ⟨line2 ++ [lstep f l col], some (.dat (.int (col : Nat))), some (.dat (encLf (lstep f l col))), ?_, inv2.grow (by omega) hnew hrch, by rw [List.length_append]; omega, by rw [List.getElem?_append_left hlt2]; exact hl2, fun c hc => ?_, by rw [List.length_append]; simp; omega⟩)))
        · simp only [St]
          rw [List.map_append, ← seenT_snoc lfk_inj hnew]
          rfl
        · by_cases e : c = col
          · subst e; simp
          · exact List.mem_append_left _ (hcl c (by omega))
      · by_cases e : c = col
        · subst e
          rw [Bool.not_eq_false'] at hz
          exact (seenT_some lfk_inj).mp hz
        · exact hcl c (by omega)
    · rintro S ⟨line2, c5, c6, rfl, inv2, hlt2, hl2, hcl, hsz⟩
      rw [List.length_range] at hcl hsz
      exact ⟨line2, c5, c6, rfl, inv2, hlt2, hl2, hcl, by omega⟩
    · rintro S ⟨line2, c5, c6, rfl, inv2, hlt2, hl2, hcl, hsz⟩
      refine ds_when (tCd (cd_gt (bLen C.b (ov 2)) pv_int)) (fun hz => rD pv_int ⟨rfl, 301, rfl, fun h => absurd h (by decide)⟩) (fun hz => ds_nil ⟨line2, _, c5, c6, rfl, ⟨inv2.nd, inv2.hd, inv2.rch, fun j x hj hx => ?_⟩, by omega, ?_⟩)
      · by_cases e : j = a
        · subst e
          rw [hl2] at hx
          cases hx
          exact hcl
        · exact inv2.cl j x (by omega) hx
      · have := of_decide_eq_false hz
        rw [List.length_map] at this; omega
  · rintro S ⟨line, c4, c5, c6, rfl, _⟩
    exact ⟨line, c4, c5, c6, rfl⟩
  · rintro S ⟨line, c4, c5, c6, rfl⟩
    exact rD pv_int ⟨rfl, 301, rfl, fun h => absurd h (by decide)⟩
end
end K75
namespace K75
open PySem PySem.Spec PyProof.Rows L2 PL

/-- a or b where a is known false: b may move the state -/
theorem td_orF {X : Cx} {a b : Expr} {es : List Expr} {S S1 S2 : PSt} {y : Bool} {pos : Pos} (ha : PTd X a S false S1) (hb : PWd X (.BoolOp .Or (b :: es) pos) S1 y S2) : PWd X (.BoolOp .Or (a :: b :: es) pos) S y S2 :=
  pwI (pw_or ha hb) fun σ H Q ⟨F0, H0, F, rr, k⟩ => ⟨F0, H0, F, rr, fun F1 H1 r1 e1 => ⟨F0, H0, F1, r1, fun F2 H2 r2 e2 => k F2 H2 r2 (e1.tr r1 e2)⟩⟩
theorem linF_zero : ∀ fs : List Int, linF fs 0 = 0
  | [] => rfl
  | f :: fs => by
    show (if 0 % 2 = 1 then f else 0) + linF fs (0 / 2) = 0
    rw [show (0 : Nat) / 2 = 0 from rfl, linF_zero fs]
    simp
theorem colf_zero : ∀ ps : List Nat, colf ps 0 = 0
  | [] => rfl
  | p :: ps => by rw [colf, colf_zero ps, bit_zero]
theorem settle {a : At} {c : Cy} (h : CInv a c) : accO a (nextC a c 0) = accC a c := by
  obtain ⟨l, m⟩ := c
  cases a with
  | ge t =>
    show decide (0 ≤ (l + 0) / 2) = decide (0 ≤ l)
    by_cases e : 0 ≤ l
    · rw [decide_eq_true e, decide_eq_true (by omega)]
    · rw [decide_eq_false e, decide_eq_false (by omega)]
  | eq t =>
    show accO (.eq t) (if (l + 0) % 2 = 1 then none else some ((l + 0) / 2, 0)) = decide (l = 0)
    by_cases e : (l + 0) % 2 = 1
    · rw [if_pos e, decide_eq_false (by omega)]; rfl
    · rw [if_neg e]
      show decide ((l + 0) / 2 = 0) = decide (l = 0)
      by_cases e2 : l = 0
      · rw [decide_eq_true e2, decide_eq_true (by omega)]
      · rw [decide_eq_false e2, decide_eq_false (by omega)]
  | mod mm t =>
    obtain ⟨h1, h2, h3, h4⟩ := (show 1 ≤ m ∧ m ≤ 6 ∧ 0 ≤ l ∧ l < m from h)
    show accO (.mod mm t) (if m % 2 = 1 then some ((l + 0) * ((m + 1) / 2) % m, m) else if (l + 0) % 2 = 1 then none else some ((l + 0) / 2 % (m / 2), m / 2)) = decide (l = 0)
    by_cases e : m % 2 = 1
    · rw [if_pos e]
      show decide ((l + 0) * ((m + 1) / 2) % m = 0) = decide (l = 0)
      have hm : m = 1 ∨ m = 3 ∨ m = 5 := by omega
      rcases hm with rfl | rfl | rfl
      · have : l = 0 := by omega
        subst this; rfl
      · have : l = 0 ∨ l = 1 ∨ l = 2 := by omega
        rcases this with rfl | rfl | rfl <;> rfl
      · have : l = 0 ∨ l = 1 ∨ l = 2 ∨ l = 3 ∨ l = 4 := by omega
        rcases this with rfl | rfl | rfl | rfl | rfl <;> rfl
    · rw [if_neg e]
      by_cases e2 : (l + 0) % 2 = 1
      · rw [if_pos e2, decide_eq_false (by omega)]; rfl
      · rw [if_neg e2]
        show decide ((l + 0) / 2 % (m / 2) = 0) = decide (l = 0)
        have hm : m = 2 ∨ m = 4 ∨ m = 6 := by omega
        rcases hm with rfl | rfl | rfl
        · have : l = 0 := by omega
          subst this; rfl
        · have : l = 0 ∨ l = 2 := by omega
          rcases this with rfl | rfl <;> rfl
        · have : l = 0 ∨ l = 2 ∨ l = 4 := by omega
          rcases this with rfl | rfl | rfl <;> rfl
theorem settle_word {a : At} (ok : a.ok) (V : List Nat) : accO a (cg a (V ++ [0])) = accO a (cg a V) := by
  rw [cg_snoc, colf_zero]
  cases q : cg a V with
  | none => rfl
  | some c =>
    show accO a (nextC a c (linF (factors a) 0)) = accC a c
    rw [linF_zero]
    exact settle (cg_inv ok V c q)
theorem settle_sem : ∀ (f : Fm), f.ok → ∀ V, sem f (V ++ [0]) = sem f V
  | .atm a, ok, V => settle_word ok V
  | .no f, ok, V => by simp only [sem, settle_sem f ok V]
  | .bi b f g, ok, V => by
    have ok' : f.ok ∧ g.ok := ok
    simp only [sem, settle_sem f ok'.1 V, settle_sem g ok'.2 V]
/-- a state and the rests -/
abbrev Bh := Nat × List (Option Cy)
def encBh (b : Bh) : D := .tup [.int (b.1 : Nat), encLf b.2]
def bhk (b : Bh) : NestedKey := (encBh b).key
theorem bhk_inj : ∀ a b : Bh, bhk a = bhk b → a = b := fun a b h => by
  have h' : NestedKey.tup [.num ((a.1 : Nat) : Int), lfk a.2] = NestedKey.tup [.num ((b.1 : Nat) : Int), lfk b.2] := h
  injection h' with h'
  injection h' with h1 h2
  injection h2 with h2 _
  injection h1 with h1
  exact Prod.ext (nat_int_inj _ _ h1) (lfk_inj _ _ h2)
theorem keyable_bh (b : Bh) : (encBh b).keyable 8 = true := by
  show (true && (D.keyables 6 (b.2.map encO) && true)) = true
  rw [keyables_lf 5]; rfl
structure BhInv (mm : Nat) (f : Fm) (rows : List (List Nat)) (line : List Bh) (at_ : Nat) : Prop where
  nd : line.Nodup
  rch : ∀ b ∈ line, ∃ V, Wd (2 ^ mm) V ∧ b = (run rows V, lefts f V)
theorem BhInv.few {mm : Nat} {f : Fm} {rows : List (List Nat)} {es : List Bool} {line : List Bh} {at_ : Nat} (h : BhInv mm f rows line at_) (fin : Final mm f rows es) (no : NoOver mm f) : line.length ≤ 300 := by
  have key : ∀ bs : List Bh, (∀ b ∈ bs, ∃ V, Wd (2 ^ mm) V ∧ b = (run rows V, lefts f V)) → ∃ Vs : List (List Nat), (∀ V ∈ Vs, Wd (2 ^ mm) V) ∧ Vs.map (fun V => (run rows V, lefts f V)) = bs := by
    intro bs
    induction bs with
    | nil => intro _; exact ⟨[], fun V hV => by simp at hV, rfl⟩
    | cons b bs ih =>
      intro h
      obtain ⟨Vs, a1, a2⟩ := ih fun q hq => h q (List.mem_cons_of_mem _ hq)
      obtain ⟨V, hV, rfl⟩ := h b (by simp)
      refine ⟨V :: Vs, fun x hx => ?_, by rw [List.map_cons, a2]⟩
      rcases List.mem_cons.mp hx with rfl | hx
      · exact hV
      · exact a1 x hx
  obtain ⟨Vs, hV, e⟩ := key line h.rch
  have hnd := h.nd
  rw [← e] at hnd ⊢
  rw [List.length_map]
  refine no Vs hV (nodup_of_fun (fun x hx y hy el => ?_) hnd)
  rw [fin.dep x y (hV x hx) (hV y hy) el, el]
theorem BhInv.grow {mm : Nat} {f : Fm} {rows : List (List Nat)} {line : List Bh} {at_ : Nat} {b : Bh} (h : BhInv mm f rows line at_) (hb : b ∉ line) (hr : ∃ V, Wd (2 ^ mm) V ∧ b = (run rows V, lefts f V)) : BhInv mm f rows (line ++ [b]) at_ where
  nd := nodup_snoc h.nd hb
  rch := fun x hx => by
    rcases List.mem_append.mp hx with hx | hx
    · exact h.rch x hx
    · rw [List.mem_singleton.mp hx]; exact hr
section
variable {P : Program} {w : World} {K : PySem.W.Frag} {mg : Str → Option Value} {base : Heap}
structure AgArg where
  mm : Nat
  f : Fm
  rows : List (List Nat)
  es : List Bool
structure AgPre (i : AgArg) : Prop where
  ok : i.f.ok
  dp : i.f.depth ≤ 8
  sz : i.f.size ≤ 100
  m3 : i.mm ≤ 3
  fin : Final i.mm i.f i.rows i.es
  no : NoOver i.mm i.f
abbrev GAgrees (P : Program) (w : World) (K : PySem.W.Frag) (mg : Str → Option Value) (base : Heap) : Prop := GFa P w K mg base 10 "_law_agrees" 2 (fun i : AgArg => [i.f.enc, encM i.mm i.rows i.es]) AgPre (fun _ => .bl true)
theorem ok_agrees (C : Cst K mg) (F : DefOk K mg "_law_agrees" "_law_agrees" H75.sLAgrees) (G1 : GStart P w K mg base) (G2 : GLeft P w K mg base) (G3 : GWidth P w K mg base) (G4 : GAtoms P w K mg base 8) (G5 : GTrue P w K mg base) (G6 : GBy P w K mg base 8) : GAgrees P w K mg base := by
  refine gfa_of (ps := ["_law_formula", "_law_machine"]) (N := ["_law_formula", "_law_machine", "_law_atoms_so", "_law_line", "_law_seen", "_law_at", "_law_here", "_law_lefts", "_law_truths", "_law_atom_here", "_law_left_here", "_law_column", "_law_far", "_law_behind"]) F ⟨rfl, rfl, rfl, by decide +kernel, rfl, by decide +kernel, by decide +kernel⟩ (fun _ => rfl) (fun _ _ _ _ _ _ us hl => match us, hl with | [_, _], _ => rfl) fun fa cdv A outer s H E i hr hi => ?_
  obtain ⟨mm, f, rows, es⟩ := i
  obtain ⟨fok, hdp, hsz, hm3, fin, no⟩ := (show AgPre ⟨mm, f, rows, es⟩ from hi)
  have fok' : f.ok := fok
  have hdp' : f.depth ≤ 8 := hdp
  have hsz' : f.size ≤ 100 := hsz
  have hm3' : mm ≤ 3 := hm3
  have fin' : Final mm f rows es := fin
  have no' : NoOver mm f := no
  have hN : (["_law_formula", "_law_machine", "_law_atoms_so", "_law_line", "_law_seen", "_law_at", "_law_here", "_law_lefts", "_law_truths", "_law_atom_here", "_law_left_here", "_law_column", "_law_far", "_law_behind"] : List Str).Nodup := by decide +kernel
  have hu9 := PL.Room.u9 hr
  have hfew : (atoms f).length ≤ 100 := Nat.le_trans (atoms_size f) hsz'
  have h8 : 2 ^ mm ≤ 8 := Nat.le_trans (Nat.pow_le_pow_right (by omega) hm3') (by decide)
  have e0 : encLf (lefts f []) = .tup ((atoms f).map fun a => encCy (startC a)) := by
    unfold encLf lefts
    rw [List.map_map]
    rfl
  have mo := fin'.mo
  refine sD 2 hN (pv_callE (d := .lst ((atoms f).map At.enc)) f G4 hr (by omega) (pvs_one (dv 0)) rfl ⟨hdp', by omega⟩) ?_
  refine sN 3 hN (pv_lst (ds := [encBh (0, lefts f [])]) (pvs_one (pv_tup (pvs_cons pv_int (pvs_one (PVd (bTuple C.b (PV.frz (pv_mapL (L := atoms f) (emb := At.enc) (f := fun a => encCy (startC a)) [("_law_atom_here", 9)] (.one 9) rfl hN (pid_lst (dv 2)) rfl (tb1 9 hN) (fun a ha => ⟨_, rfl, fun s H C2 cl fp => pv_callE a G1 hr (by omega) (pvs_one (dv 9)) rfl (atoms_ok f fok' a ha)⟩) (by omega)))) e0.symm))) rfl)) rfl) ?_
  refine sN 4 hN (pv_dispN (ds := [.int ((0 : Nat) : Int), encLf (lefts f [])]) hu9 (pv_ix (d := encBh (0, lefts f [])) (ov 3) pv_int rfl rfl rfl rfl) pv_bl (keyable_bh (0, lefts f []))) ?_
  let St := fun (line : List Bh) (c5 c6 c7 c8 : Option Sl) (c9 c10 : Option D) (c11 c12 c13 : Option Sl) => (⟨[some (.dat f.enc), some (.dat (encM mm rows es)), some (.dat (.lst ((atoms f).map At.enc))), some (.lst (line.map encBh)), some (.dicN (seenT bhk line)), c5, c6, c7, c8, c9.map Sl.dat, c10.map Sl.dat, c11, c12, c13], none⟩ : PSt)
  refine ds_forL (L := List.range 3000) (emb := fun (i : Nat) => D.int (i : Int)) (.one 5) (fun k S => ∃ line c5 c6 c7 c8 c9 c10 c11 c12 c13, S = St line c5 c6 c7 c8 c9 c10 c11 c12 c13 ∧ BhInv mm f rows line k ∧ k ≤ line.length) (fun S => False) PassesOwn.never rfl (bRangeN (n := 3000) C.b (pv_int (i := 3000)) (by decide)) (tl1 5 hN)
    ⟨[(0, lefts f [])], none, none, none, none, none, none, none, none, none, rfl, ⟨by simp, fun b hb => ⟨[], fun c hc => by simp at hc, List.mem_singleton.mp hb⟩⟩, by simp⟩ ?_ ?_ (fun S h => h.elim)
  · rintro k a S hk ⟨line, c5, c6, c7, c8, c9, c10, c11, c12, c13, rfl, inv, hkl⟩
    obtain ⟨rfl, hk3⟩ := range_at hk
    have hl300 := inv.few fin' no'
    refine ⟨_, rfl, ds_when (tCd (cd_eqI (dv 5) (bLen C.b (ov 3)))) (fun hz => rD pv_bl ⟨rfl, rfl⟩) fun hz => ?_⟩
    have hlt : a < line.length := by
      have := of_decide_eq_false hz
      rw [List.length_map] at this; omega
    obtain ⟨b, hb⟩ : ∃ b, line[a]? = some b := ⟨_, List.getElem?_eq_getElem hlt⟩
    obtain ⟨V, hV, rfl⟩ := inv.rch b (List.mem_of_getElem? hb)
    have hrun := run_lt mo hV
    have htru := fin'.tru V hV
    have hll : (atoms f).length = (lefts f V).length := (lefts_length f V).symm
    refine ds_unpack (is := [6, 7]) (ds := [.int (run rows V : Nat), encLf (lefts f V)]) hN rfl (tgs_one 6 rfl (.inl rfl) (tgs_one 7 rfl (.inl rfl) .nil)) rfl (pv_ix (ov 3) (dv 5) rfl rfl rfl (atI_nat (by rw [List.getElem?_map, hb]; rfl))) ?_
    refine sN 8 hN pv_dnewN ?_
    let τ : At → Bool := fun a => accO a (cg a V)
    have zipq : ∀ (k : Nat) (q : At × Option Cy), ((atoms f).zip (lefts f V))[k]? = some q → (atoms f)[k]? = some q.1 ∧ q.2 = cg q.1 V := fun k q hq => by
      unfold lefts at hq
      rw [List.getElem?_zip_eq_some, List.getElem?_map] at hq
      refine ⟨hq.1, ?_⟩
      have := hq.2
      rw [hq.1] at this
      exact (Option.some.inj this).symm
    refine ds_forL (L := (atoms f).zip (lefts f V)) (emb := fun q => .tup [q.1.enc, encO q.2]) (.many [9, 10]) (fun k S => ∃ kvs c9 c10, S = St line (some (.dat (.int (a : Nat)))) (some (.dat (.int (run rows V : Nat)))) (some (.dat (encLf (lefts f V)))) (some (.dicN kvs)) c9 c10 c11 c12 c13 ∧ kvs.length ≤ k ∧ ∀ x ∈ (atoms f).take k, aget kvs (atk x) = some (.bl (τ x)))
      (fun S => ∃ kvs c9 c10, S = St line (some (.dat (.int (a : Nat)))) (some (.dat (.int (run rows V : Nat)))) (some (.dat (encLf (lefts f V)))) (some (.dicN kvs)) c9 c10 c11 c12 c13 ∧ ∀ x ∈ atoms f, aget kvs (atk x) = some (.bl (τ x))) PassesOwn.never rfl
      (bZip (t := false) (u := true) (L := atoms f) (M := lefts f V) (e1 := At.enc) (e2 := encO) C.b (dv 2) (dv 7) hll) (tl2 9 10 hN rfl) ⟨[], c9, c10, rfl, by simp, fun x hx => by simp at hx⟩ ?_ ?_ ?_
    · rintro k q S hk2 ⟨kvs, c9', c10', rfl, hkv, htab⟩
      obtain ⟨hq1, hq2⟩ := zipq k q hk2
      have hka := (List.getElem?_eq_some_iff.mp hq1).1
      obtain ⟨as, ea, _, _⟩ := q.1.enc_eq
      have hkey := keyable_at q.1
      have ekey : atk q.1 = (D.tup as).key := by unfold atk; rw [ea]
      rw [ea] at hkey
      refine ⟨_, rfl, ds_putN (ds := as) (d := .bl (accO q.1 q.2)) (i := 8) hu9 (pv_callE (q.1, q.2) G5 hr (by omega) (pvs_cons (dv 9) (pvs_one (dv 10))) rfl True.intro) (ov 8) (PVd (dv 9) ea) rfl hkey (by omega) (ds_nil ⟨aput kvs (atk q.1) (.bl (accO q.1 q.2)), some q.1.enc, some (encO q.2), ?_, ?_, fun x hx => ?_⟩)⟩
      · rw [ekey]; rfl
      · have := aput_length kvs (atk q.1) (D.bl (accO q.1 q.2)); omega
      · rw [aget_aput]
        by_cases e : atk q.1 = atk x
        · rw [if_pos e]
          have := atk_inj _ _ e
          subst this
          show some (D.bl (accO q.1 q.2)) = some (D.bl (accO q.1 (cg q.1 V)))
          rw [hq2]
        · rw [if_neg e]
          rw [List.take_add_one, hq1] at hx
          rcases List.mem_append.mp hx with hx | hx
          · exact htab x hx
          · have : x = q.1 := by simpa using hx
            exact absurd (by rw [this]) e
    · rintro S ⟨kvs, c9', c10', rfl, _, htab⟩
      refine ⟨kvs, c9', c10', rfl, fun x hx => htab x ?_⟩
      rw [List.length_zip, ← hll, Nat.min_self, List.take_length]
      exact hx
    · rintro S ⟨kvs, c9', c10', rfl, htab⟩
      have esem : semF τ f = sem f V := semF_sem f V
      have hes : atI (es.map D.bl) (run rows V : Int) = some (.bl (sem f V)) := encB_at htru
      refine iNo (z := !decide (sem f V = semF τ f)) (PWd.t (td_orF (PTz (td_not (PV.t (bIsi C.b C.b.bool (pv_ix (d := .bl (sem f V)) (pv_ix (d := encB es) (dv 1) pv_int True.intro rfl rfl rfl) (dv 6) True.intro rfl rfl hes) rfl rfl)))) (td_one (tCd (cd_neB (i := sem f V) (j := semF τ f) (pv_ix (pv_ix (d := encB es) (dv 1) pv_int True.intro rfl rfl rfl) (dv 6) True.intro rfl rfl hes) (pv_callE (d := .bl (semF τ f)) ⟨f, kvs.map (·.1), kvs.map (·.2), τ⟩ G6 hr (by omega) (pvs_cons (dv 0) (pvs_one (PV.frzON (ov 8)))) rfl ⟨hdp', fun x hx => by rw [zip_fs]; exact htab x hx⟩)))))) ?_ (by rw [esem]; simp)
      let tr : Sl := .dat (.dicN (fun ys p => DicRaw ⟨P, w, K⟩ p ys) (kvs.map (·.1)) (kvs.map (·.2)))
      refine ds_forL (L := List.range (2 ^ mm)) (emb := fun (i : Nat) => D.int (i : Int)) (.one 11) (fun j S => ∃ line2 c11 c12 c13, S = St line2 (some (.dat (.int (a : Nat)))) (some (.dat (.int (run rows V : Nat)))) (some (.dat (encLf (lefts f V)))) (some tr) c9' c10' c11 c12 c13 ∧ BhInv mm f rows line2 a ∧ a < line2.length)
        (fun S => ∃ line2 c11 c12 c13, S = St line2 (some (.dat (.int (a : Nat)))) (some (.dat (.int (run rows V : Nat)))) (some (.dat (encLf (lefts f V)))) (some tr) c9' c10' c11 c12 c13 ∧ BhInv mm f rows line2 a ∧ a < line2.length) PassesOwn.never rfl
        (bRangeN (n := 2 ^ mm) C.b (pv_callE (d := .int ((2 ^ mm : Nat) : Int)) mm G3 hr (by omega) (pvs_one (pv_ix (d := .int (mm : Nat)) (dv 1) pv_int True.intro rfl rfl rfl)) rfl (by omega)) (by omega)) (tl1 11 hN) ⟨line, c11, c12, c13, rfl, inv, hlt⟩ ?_ (fun S h => h) ?_
      · rintro j col S hj ⟨line2, c11, c12, c13, rfl, inv2, hlt2⟩
        obtain ⟨rfl, hj8⟩ := range_at hj
        have hl2 := inv2.few fin' no'
        have eF : encLf (lstep f (lefts f V) col) = .tup (((atoms f).zip (lefts f V)).map fun q => encO (cstep q.1 q.2 (colf (namesA q.1) col))) := by
          unfold encLf lstep
          rw [List.map_map]
          rfl
        have hF := far_at (f := f) (V := V) fok' rfl
        have hV2 := hV.snoc hj8
        have eB : encLf (lefts f (V ++ [col])) = encLf (lstep f (lefts f V) col) := by rw [lstep_lefts]
        obtain ⟨row, hrow⟩ : ∃ r, rows[run rows V]? = some r := ⟨_, List.getElem?_eq_getElem hrun⟩
        have hrl := mo.cols row (List.mem_of_getElem? hrow)
        obtain ⟨g, hg⟩ : ∃ g, row[col]? = some g := ⟨_, List.getElem?_eq_getElem (by omega)⟩
        have eg : run rows (V ++ [col]) = g := by rw [run_snoc]; exact stp_at hrow hg
        let bh : Bh := (run rows (V ++ [col]), lefts f (V ++ [col]))
        refine ⟨_, rfl, sD 12 hN (d := encLf (lefts f (V ++ [col]))) (PVd (bTuple C.b (PV.frz (pv_mapL (L := (atoms f).zip (lefts f V)) (emb := fun q => .tup [q.1.enc, encO q.2]) (f := fun q => encO (cstep q.1 q.2 (colf (namesA q.1) col))) [("_law_atom_here", 9), ("_law_left_here", 10)] (.many [9, 10]) rfl hN (bZip (t := false) (u := true) (L := atoms f) (M := lefts f V) (e1 := At.enc) (e2 := encO) C.b (dv 2) (dv 7) hll) rfl (tb2 9 10 hN rfl) (fun q hq => ⟨_, rfl, fun s H C2 cl fp => pv_callE (q.1, q.2, col) G2 hr (by omega) (pvs_cons (dv 9) (pvs_cons (dv 10) (pvs_one (dv 11)))) rfl (hF q hq)⟩) (by rw [List.length_zip]; omega) (by cases c9' <;> cases c10' <;> rfl)))) (by rw [eB, eF])) ?_⟩
        refine sD 13 hN (d := encBh bh) (pv_tup (ds := [.int (run rows (V ++ [col]) : Nat), encLf (lefts f (V ++ [col]))]) (pvs_cons (pv_ix (pv_ix (d := .tup (encN row)) (pv_ix (d := encRows rows) (dv 1) pv_int True.intro rfl rfl rfl) (dv 6) True.intro rfl rfl (rows_at hrow)) (dv 11) True.intro rfl rfl (encN_at (by rw [eg]; exact hg))) (pvs_one (dv 12))) rfl) ?_
        have hrch : ∃ V', Wd (2 ^ mm) V' ∧ bh = (run rows V', lefts f V') := ⟨V ++ [col], hV2, rfl⟩
        refine ds_when (tCd (cd_notInN (ds := [.int (run rows (V ++ [col]) : Nat), encLf (lefts f (V ++ [col]))]) hu9 (dv 13) (ov 4) rfl (keyable_bh bh))) (fun hz => ?_) (fun hz => ds_nil ⟨line2, _, _, _, rfl, inv2, hlt2⟩)
        have hnew : bh ∉ line2 := fun hm => by
          have := (seenT_some bhk_inj).mpr hm
          have hz' : (!(aget (seenT bhk line2) (bhk bh)).isSome) = true := hz
          rw [this] at hz'; exact nomatch hz'
        refine ds_putN (ds := [.int (run rows (V ++ [col]) : Nat), encLf (lefts f (V ++ [col]))]) (i := 4) hu9 pv_bl (ov 4) (dv 13) rfl (keyable_bh bh) (by rw [seenT_length]; omega) (ds_app (i := 3) (ov 3) (dv 13) rfl (by rw [List.length_map]; omega) rfl (ds_nil (ds_nil ⟨line2 ++ [bh], some (.dat (.int (col : Nat))), some (.dat (encLf (lefts f (V ++ [col])))), some (.dat (encBh bh)), ?_, inv2.grow hnew hrch, by rw [List.length_append]; omega⟩)))
        simp only [St]
        rw [List.map_append, ← seenT_snoc bhk_inj hnew]
        rfl
      · rintro S ⟨line2, c11, c12, c13, rfl, inv2, hlt2⟩
        obtain ⟨row, hrow⟩ : ∃ r, rows[run rows V]? = some r := ⟨_, List.getElem?_eq_getElem hrun⟩
        have hrl := mo.cols row (List.mem_of_getElem? hrow)
        have hp : 0 < 2 ^ mm := Nat.pow_pos (by decide)
        obtain ⟨g, hg⟩ : ∃ g, row[0]? = some g := ⟨_, List.getElem?_eq_getElem (by omega)⟩
        have eg : run rows (V ++ [0]) = g := by rw [run_snoc]; exact stp_at hrow hg
        have hg2 := fin'.tru (V ++ [0]) (hV.snoc hp)
        rw [eg, settle_sem f fok' V] at hg2
        refine iNo (tCd (cd_neB (i := sem f V) (j := sem f V) (pv_ix (pv_ix (d := encB es) (dv 1) pv_int True.intro rfl rfl rfl) (pv_ix (d := .int (g : Nat)) (pv_ix (d := .tup (encN row)) (pv_ix (d := encRows rows) (dv 1) pv_int True.intro rfl rfl rfl) (dv 6) True.intro rfl rfl (rows_at hrow)) pv_int True.intro rfl rfl (atI_nat (n := 0) (by unfold encN; rw [List.getElem?_map, hg]; rfl))) True.intro rfl rfl (encB_at hg2)) (pv_ix (pv_ix (d := encB es) (dv 1) pv_int True.intro rfl rfl rfl) (dv 6) True.intro rfl rfl hes))) (ds_nil ⟨line2, _, _, _, _, c9', c10', _, _, _, rfl, ⟨inv2.nd, inv2.rch⟩, hlt2⟩) (by simp)
  · rintro S ⟨line, c5, c6, c7, c8, c9, c10, c11, c12, c13, rfl, inv, hkl⟩
    have hl300 := inv.few fin' no'
    rw [List.length_range] at hkl
    omega
end
end K75
namespace K75
open PySem PySem.Spec PyProof.Rows L2 PL

def WsOk (p : Ws) : Prop := p.cells ≠ [] ∧ p.lefts.length = p.cells.length ∧ 0 ≤ p.at_
def Adv (p q : Ws) (k : Int) : Prop := WsOk q ∧ p.at_ ≤ q.at_ ∧ q.at_ ≤ p.at_ + k
theorem Adv.tr {p q r : Ws} {j k : Int} (a : Adv p q j) (b : Adv q r k) : Adv p r (j + k) := ⟨b.1, by have := a.2.1; have := b.2.1; omega, by have := a.2.2; have := b.2.2; omega⟩
theorem Adv.le {p q : Ws} {j k : Int} (a : Adv p q j) (h : j ≤ k) : Adv p q k := ⟨a.1, a.2.1, by have := a.2.2; omega⟩
def mixF (c k : Int) : Int := (c % 2147483647 * (48271 + 2 * k * k) + 69621 * k + 11) % 2147483647 * 69621 % 2147483629
section
variable {P : Program} {w : World} {K : PySem.W.Frag} {mg : Str → Option Value} {base : Heap}
abbrev GMixed (P : Program) (w : World) (K : PySem.W.Frag) (mg : Str → Option Value) (base : Heap) : Prop := GFa P w K mg base 1 "_law_mixed" 2 (fun i : Int × Int => [.int i.1, .int i.2]) (fun i => 0 ≤ i.2 ∧ i.2 ≤ 100000000) (fun i => .int (mixF i.1 i.2))
theorem ok_mixed (C : Cst K mg) (F : DefOk K mg "_law_mixed" "_law_mixed" H75.sLMixed) : GMixed P w K mg base := by
  refine gfa_of (ps := ["_law_cell", "_law_k"]) (N := ["_law_cell", "_law_k"]) F ⟨rfl, rfl, rfl, by decide +kernel, rfl, by decide +kernel, by decide +kernel⟩ (fun _ => rfl) (fun _ _ _ _ _ _ us hl => match us, hl with | [_, _], _ => rfl) fun fa cdv A outer s H E i hr hi => ?_
  obtain ⟨c, k⟩ := i
  obtain ⟨h0, h1⟩ := (show 0 ≤ k ∧ k ≤ 100000000 from hi)
  have hN : (["_law_cell", "_law_k"] : List Str).Nodup := by decide +kernel
  have hc0 : 0 ≤ c % 2147483647 := Int.emod_nonneg _ (by decide)
  have hc1 : c % 2147483647 < 2147483647 := Int.emod_lt_of_pos _ (by decide)
  refine sD 0 hN (pv_mod (bInt C.b (dv 0)) pv_int) ?_
  exact rD (pv_mod (pv_mul (pv_mod (pv_add (pv_add (pv_mul (dv 0) (pv_add pv_int (pv_mul (pv_mul pv_int (dv 1) (.inl ⟨by decide, by decide⟩)) (dv 1) (.inr ⟨by omega, by omega⟩))) (.inl ⟨by omega, by omega⟩)) (pv_mul pv_int (dv 1) (.inl ⟨by decide, by decide⟩))) pv_int) pv_int) pv_int (.inr ⟨by decide, by decide⟩)) pv_int) ⟨rfl, rfl⟩
abbrev GDraw (P : Program) (w : World) (K : PySem.W.Frag) (mg : Str → Option Value) (base : Heap) : Prop := GFs P w K mg base 2 "_law_draw" 2 (fun n : Int => [.int n]) (fun n p => 1 ≤ n ∧ n ≤ 1000 ∧ WsOk p ∧ p.at_ ≤ 1000000) (fun n p d q => ∃ r : Int, d = .int r ∧ 0 ≤ r ∧ r < n ∧ Adv p q 1)
theorem ok_draw (C : Cst K mg) (F : DefOk K mg "_law_draw" "_law_draw" H75.sLDraw) (G1 : GMixed P w K mg base) : GDraw P w K mg base := by
  refine gfs_of (ps := ["_law_state", "_law_limit"]) (N := ["_law_state", "_law_limit", "_law_at", "_law_place", "_law_left_here", "_law_number"]) F ⟨rfl, rfl, rfl, by decide +kernel, rfl, by decide +kernel, by decide +kernel⟩ (fun _ => rfl) (fun _ _ _ _ _ _ us hl => match us, hl with | [_, _], _ => rfl) fun fa cdv A outer s H E n ws hr hi => ?_
  obtain ⟨h1, h2, ⟨hne, hll, hat0⟩, hat⟩ := hi
  have hne' : ws.cells ≠ [] := hne
  have hll' : ws.lefts.length = ws.cells.length := hll
  have hat0' : 0 ≤ ws.at_ := hat0
  have hat' : ws.at_ ≤ 1000000 := hat
  have hN : (["_law_state", "_law_limit", "_law_at", "_law_place", "_law_left_here", "_law_number"] : List Str).Nodup := by decide +kernel
  have hu := PL.Room.u1 hr
  have hlen : 0 < ws.cells.length := List.length_pos_iff.mpr hne'
  have hl0 : (0 : Int) < (ws.cells.length : Int) := by omega
  refine sD 2 hN (st_at hu (sv 0) rfl) ?_
  refine ds_stAt hu (pv_add (dv 2) pv_int) (sv 0) ?_
  refine sD 3 hN (pv_mod (bInt C.b (dv 2)) (st_len C.b rfl (st_cells hu (sv 0) rfl)) hl0) ?_
  have hp0 : 0 ≤ ws.at_ % (ws.cells.length : Int) := Int.emod_nonneg _ (by omega)
  have hp1 : ws.at_ % (ws.cells.length : Int) < (ws.cells.length : Int) := Int.emod_lt_of_pos _ hl0
  obtain ⟨j, hj⟩ : ∃ j : Nat, ws.at_ % (ws.cells.length : Int) = (j : Int) := ⟨(ws.at_ % (ws.cells.length : Int)).toNat, by omega⟩
  have hjl : j < ws.cells.length := by omega
  obtain ⟨x, hx⟩ : ∃ x, ws.lefts[j]? = some x := ⟨_, List.getElem?_eq_getElem (by omega)⟩
  obtain ⟨y, hy⟩ : ∃ y, ws.cells[j]? = some y := ⟨_, List.getElem?_eq_getElem hjl⟩
  show PSd _ _ ⟨[some .st, some (.dat (.int n)), some (.dat (.int ws.at_)), some (.dat (.int (ws.at_ % (ws.cells.length : Int)))), none, none], some (ws.up ⟨ws.cells, ws.lefts, ws.at_ + 1⟩)⟩ _
  rw [hj]
  refine sD 4 hN (st_left (x := x) rfl (st_lefts hu (sv 0) rfl) (dv 3) (atI_nat hx)) ?_
  refine ds_when (tCd (cd_gt (dv 4) pv_int)) (fun hz => ?_) fun hz => ?_
  · refine ds_stLeft (j := j) (pv_fdiv (dv 4) (dv 1) ⟨by omega, by omega⟩) (st_lefts hu (sv 0) rfl) (dv 3) ?_ ?_
    · show ixN ws.lefts.length (j : Int) = some j
      unfold ixN
      rw [if_pos (by omega), if_pos (by omega), Int.toNat_natCast]
    · refine rD (pv_mod (bInt C.b (dv 4)) (dv 1) (by omega)) ⟨⟨ws.cells, ws.lefts.set j (x / n), ws.at_ + 1⟩, rfl, x % n, rfl, Int.emod_nonneg _ (by omega), Int.emod_lt_of_pos _ (by omega), ⟨hne', by show (ws.lefts.set j _).length = _; rw [List.length_set]; exact hll', by show 0 ≤ ws.at_ + 1; omega⟩, by show ws.at_ ≤ ws.at_ + 1; omega, by show ws.at_ + 1 ≤ ws.at_ + 1; omega⟩
  · refine sD 5 hN (pv_callE (d := .int (mixF (mixF y ws.at_) (40 + ws.at_))) (mixF y ws.at_, 40 + ws.at_) G1 hr (by omega) (pvs_cons (pv_callE (d := .int (mixF y ws.at_)) (y, ws.at_) G1 hr (by omega) (pvs_cons (st_cell (x := y) rfl (st_cells hu (sv 0) rfl) (dv 3) (atI_nat hy)) (pvs_one (dv 2))) rfl ⟨hat0', by show ws.at_ ≤ 100000000; omega⟩) (pvs_one (pv_add pv_int (dv 2)))) rfl ⟨by show 0 ≤ 40 + ws.at_; omega, by show 40 + ws.at_ ≤ 100000000; omega⟩) ?_
    generalize mixF (mixF y ws.at_) (40 + ws.at_) = num
    refine rD (pv_mod (pv_fdiv (bInt C.b (pv_add (pv_mul (dv 5) pv_int (.inr ⟨by decide, by decide⟩)) (pv_callE (d := .int (mixF num (7 + ws.at_))) (num, 7 + ws.at_) G1 hr (by omega) (pvs_cons (dv 5) (pvs_one (pv_add pv_int (dv 2)))) rfl ⟨by show 0 ≤ 7 + ws.at_; omega, by show 7 + ws.at_ ≤ 100000000; omega⟩))) pv_int) (dv 1) (by omega)) ⟨⟨ws.cells, ws.lefts, ws.at_ + 1⟩, rfl, _, rfl, Int.emod_nonneg _ (by omega), Int.emod_lt_of_pos _ (by omega), ⟨hne', hll', by show 0 ≤ ws.at_ + 1; omega⟩, by show ws.at_ ≤ ws.at_ + 1; omega, by show ws.at_ + 1 ≤ ws.at_ + 1; omega⟩
end
end K75
namespace K75
open PySem PySem.Spec PyProof.Rows L2 PL

section
variable {P : Program} {w : World} {K : PySem.W.Frag} {mg : Str → Option Value} {base : Heap}
def rangeN (mm : Nat) : D := .lst (encN (List.range mm))
structure TermOk (mm : Nat) (t : Tm) : Prop where
  ok : t.ok
  nm : ∀ q ∈ t.ps, q.1 < mm
abbrev GTerm (P : Program) (w : World) (K : PySem.W.Frag) (mg : Str → Option Value) (base : Heap) : Prop := GFs P w K mg base 3 "_law_term" 4 (fun mm : Nat => [rangeN mm, .int 2, .int 6]) (fun mm p => mm ≤ 3 ∧ WsOk p ∧ p.at_ ≤ 900000) (fun mm p d q => ∃ t : Tm, d = t.enc ∧ TermOk mm t ∧ Adv p q 4)
theorem ok_term (C : Cst K mg) (F : DefOk K mg "_law_term" "_law_term" H75.sLTerm) (G1 : GDraw P w K mg base) : GTerm P w K mg base := by
  refine gfs_of (ps := ["_law_state", "_law_names", "_law_most", "_law_bound"]) (N := ["_law_state", "_law_names", "_law_most", "_law_bound", "_law_parts_so", "_law_name", "_law_factor"]) F ⟨rfl, rfl, rfl, by decide +kernel, rfl, by decide +kernel, by decide +kernel⟩ (fun _ => rfl) (fun _ _ _ _ _ _ us hl => match us, hl with | [_, _, _, _], _ => rfl) fun fa cdv A outer s H E mm ws hr hi => ?_
  obtain ⟨h3, hok, hat⟩ := hi
  have hat' : ws.at_ ≤ 900000 := hat
  have hN : (["_law_state", "_law_names", "_law_most", "_law_bound", "_law_parts_so", "_law_name", "_law_factor"] : List Str).Nodup := by decide +kernel
  refine sD 4 hN (pv_tup (ds := []) pvs_nil rfl) ?_
  let St := fun (ps : List (Nat × Int)) (c5 c6 : Option Sl) (p : Ws) => (⟨[some .st, some (.dat (rangeN mm)), some (.dat (.int 2)), some (.dat (.int 6)), some (.dat (encPs ps)), c5, c6], some (ws.up p)⟩ : PSt)
  refine ds_forL (L := List.range mm) (emb := fun (n : Nat) => D.int (n : Int)) (.one 5) (fun k S => ∃ ps c5 c6 p, S = St ps c5 c6 p ∧ Adv ws.p p k ∧ (∀ q ∈ ps, q.1 < k ∧ -2 ≤ q.2 ∧ q.2 ≤ 2 ∧ q.2 ≠ 0) ∧ ps.Pairwise (fun a b => a.1 < b.1) ∧ ps.length ≤ k) (fun S => ∃ ps c5 c6 p, S = St ps c5 c6 p ∧ Adv ws.p p mm ∧ (∀ q ∈ ps, q.1 < mm ∧ -2 ≤ q.2 ∧ q.2 ≤ 2 ∧ q.2 ≠ 0) ∧ ps.Pairwise (fun a b => a.1 < b.1)) PassesOwn.never rfl (pid_lst (dv 1)) (tl1 5 hN)
    ⟨[], none, none, ws.p, rfl, ⟨hok, Int.le_refl _, by show ws.at_ ≤ ws.at_ + ((0 : Nat) : Int); omega⟩, by simp, by simp, by simp⟩ ?_ ?_ ?_
  · rintro k a S hk ⟨ps, c5, c6, p, rfl, adv, hps, hpw, hlen⟩
    obtain ⟨rfl, hkm⟩ := range_at hk
    have a3 : p.at_ ≤ ws.at_ + ((a : Nat) : Int) := adv.2.2
    refine ⟨_, rfl, sX 6 hN (post := fun d S' => ∃ (r : Int) (q : Ws), d = .int (r - 2) ∧ 0 ≤ r ∧ r < 5 ∧ Adv p q 1 ∧ S' = St ps (some (.dat (.int (a : Nat)))) c6 q) (pvx_sub (pa := fun d S' => ∃ (r : Int) (q : Ws), d = .int r ∧ 0 ≤ r ∧ r < 5 ∧ Adv p q 1 ∧ S' = St ps (some (.dat (.int (a : Nat)))) c6 q) (pvx_callS (ws := ws.up p) (5 : Int) G1 hr (by omega) (pvs_cons (sv 0) (pvs_one (pv_add (pv_mul pv_int (dv 2) (.inl ⟨by decide, by decide⟩)) pv_int))) rfl rfl ⟨by decide, by decide, adv.1, by show p.at_ ≤ 1000000; omega⟩ (fun d q ⟨r, e, h0, h5, ha⟩ => ⟨r, q, e, h0, h5, ha, rfl⟩)) ?_) ?_⟩
    · rintro d1 S1 ⟨r, q, rfl, h0, h5, ha, rfl⟩
      exact pvx_of (dv 2) ⟨r, 2, rfl, rfl, r, q, rfl, h0, h5, ha, rfl⟩
    · rintro d S1 ⟨r, q, rfl, h0, h5, ha, rfl⟩
      have adv2 : Adv ws.p q ((a + 1 : Nat) : Int) := (adv.tr ha).le (by omega)
      refine ds_when (tCd (cd_neI (dv 6) pv_int)) (fun hz => ?_) (fun hz => ds_nil ⟨ps, some (.dat (.int (a : Nat))), some (.dat (.int (r - 2))), q, rfl, adv2, fun x hx => ⟨by have := (hps x hx).1; omega, (hps x hx).2⟩, hpw, by omega⟩)
      have hne : r - 2 ≠ 0 := by simpa using hz
      refine sD 4 hN (pv_catT (dv 4) (pv_tup (ds := [.tup [.int (a : Nat), .int (r - 2)]]) (pvs_one (pv_tup (pvs_cons (dv 5) (pvs_one (dv 6))) rfl)) rfl) (by rw [List.length_map]; simp; omega)) (ds_nil (ds_nil ⟨ps ++ [(a, r - 2)], some (.dat (.int (a : Nat))), some (.dat (.int (r - 2))), q, ?_, adv2, fun x hx => ?_, ?_, by rw [List.length_append]; simp; omega⟩))
      · have e : encPs (ps ++ [(a, r - 2)]) = .tup ((ps.map fun p => .tup [.int (p.1 : Nat), .int p.2]) ++ [.tup [.int (a : Nat), .int (r - 2)]]) := by unfold encPs; rw [List.map_append]; rfl
        simp only [St]
        rw [e]
        rfl
      · rcases List.mem_append.mp hx with hx | hx
        · exact ⟨by have := (hps x hx).1; omega, (hps x hx).2⟩
        · rw [List.mem_singleton.mp hx]
          exact ⟨Nat.lt_succ_self a, by show -2 ≤ r - 2; omega, by show r - 2 ≤ 2; omega, hne⟩
      · refine List.pairwise_append.mpr ⟨hpw, by simp, fun x hx y hy => ?_⟩
        rw [List.mem_singleton.mp hy]
        exact (hps x hx).1
  · rintro S ⟨ps, c5, c6, p, rfl, adv, hps, hpw, _⟩
    rw [List.length_range] at adv hps
    exact ⟨ps, c5, c6, p, rfl, adv, hps, hpw⟩
  · rintro S ⟨ps, c5, c6, p, rfl, adv, hps, hpw⟩
    have a3 : p.at_ ≤ ws.at_ + ((mm : Nat) : Int) := adv.2.2
    refine dsx_ret (post := fun d S' => ∃ (r : Int) (q : Ws), d = .tup [.int (r - 6), encPs ps] ∧ 0 ≤ r ∧ r < 13 ∧ Adv p q 1 ∧ S' = St ps c5 c6 q) (pvx_tup (pax_cons (pa := fun d S' => ∃ (r : Int) (q : Ws), d = .int (r - 6) ∧ 0 ≤ r ∧ r < 13 ∧ Adv p q 1 ∧ S' = St ps c5 c6 q) (pvx_sub (pa := fun d S' => ∃ (r : Int) (q : Ws), d = .int r ∧ 0 ≤ r ∧ r < 13 ∧ Adv p q 1 ∧ S' = St ps c5 c6 q) (pvx_callS (ws := ws.up p) (13 : Int) G1 hr (by omega) (pvs_cons (sv 0) (pvs_one (pv_add (pv_mul pv_int (dv 3) (.inl ⟨by decide, by decide⟩)) pv_int))) rfl rfl ⟨by decide, by decide, adv.1, by show p.at_ ≤ 1000000; omega⟩ (fun d q ⟨r, e, h0, h5, ha⟩ => ⟨r, q, e, h0, h5, ha, rfl⟩)) ?_) ?_)) ?_
    · rintro d1 S1 ⟨r, q, rfl, h0, h5, ha, rfl⟩
      exact pvx_of (dv 3) ⟨r, 6, rfl, rfl, r, q, rfl, h0, h5, ha, rfl⟩
    · rintro d1 S1 ⟨r, q, rfl, h0, h5, ha, rfl⟩
      exact pax_of (pvs_one (dv 4)) rfl ⟨by simp, r, q, rfl, h0, h5, ha, rfl⟩
    · rintro d S1 ⟨r, q, rfl, h0, h5, ha, rfl⟩
      exact ⟨q, rfl, ⟨r - 6, ps⟩, rfl, ⟨⟨⟨by show -6 ≤ r - 6; omega, by show r - 6 ≤ 6; omega⟩, fun x hx => ⟨by have := (hps x hx).1; omega, (hps x hx).2⟩, hpw⟩, fun x hx => (hps x hx).1⟩, (adv.tr ha).le (by omega)⟩
structure AtomOk (mm : Nat) (a : At) : Prop where
  ok : a.ok
  nm : ∀ q ∈ a.tm.ps, q.1 < mm
abbrev GAtomL (P : Program) (w : World) (K : PySem.W.Frag) (mg : Str → Option Value) (base : Heap) : Prop := GFs P w K mg base 4 "_law_atom" 4 (fun mm : Nat => [rangeN mm, .int 2, .int 6]) (fun mm p => mm ≤ 3 ∧ WsOk p ∧ p.at_ ≤ 800000) (fun mm p d q => ∃ a : At, d = a.enc ∧ AtomOk mm a ∧ Adv p q 6)
theorem ok_atomL (C : Cst K mg) (F : DefOk K mg "_law_atom" "_law_atom" H75.sLAtom) (G1 : GDraw P w K mg base) (G2 : GTerm P w K mg base) : GAtomL P w K mg base := by
  refine gfs_of (ps := ["_law_state", "_law_names", "_law_most", "_law_bound"]) (N := ["_law_state", "_law_names", "_law_most", "_law_bound", "_law_pick", "_law_term_here"]) F ⟨rfl, rfl, rfl, by decide +kernel, rfl, by decide +kernel, by decide +kernel⟩ (fun _ => rfl) (fun _ _ _ _ _ _ us hl => match us, hl with | [_, _, _, _], _ => rfl) fun fa cdv A outer s H E mm ws hr hi => ?_
  obtain ⟨h3, hok, hat⟩ := hi
  have hat' : ws.at_ ≤ 800000 := hat
  have hN : (["_law_state", "_law_names", "_law_most", "_law_bound", "_law_pick", "_law_term_here"] : List Str).Nodup := by decide +kernel
  let St := fun (c4 c5 : Option Sl) (p : Ws) => (⟨[some .st, some (.dat (rangeN mm)), some (.dat (.int 2)), some (.dat (.int 6)), c4, c5], some (ws.up p)⟩ : PSt)
  show PSd _ _ (St none none ws.p) _
  refine dsx_par 4 5 rfl hN rfl rfl (by decide) rfl rfl (pax_cons (pa := fun d S' => ∃ (r : Int) (q : Ws), d = .int r ∧ 0 ≤ r ∧ r < 6 ∧ Adv ws.p q 1 ∧ S' = St none none q) (pvx_callS (ws := ws) (6 : Int) G1 hr (by omega) (pvs_cons (sv 0) (pvs_one pv_int)) rfl rfl ⟨by decide, by decide, hok, by show ws.at_ ≤ 1000000; omega⟩ (fun d q ⟨r, e, h0, h5, ha⟩ => ⟨r, q, e, h0, h5, ha, rfl⟩)) ?_)
  rintro d1 S1 ⟨r, q, rfl, h0, h6, ha, rfl⟩
  have b3 : q.at_ ≤ ws.at_ + 1 := ha.2.2
  refine pax_cons (pa := fun d S' => ∃ (t : Tm) (q2 : Ws), d = t.enc ∧ TermOk mm t ∧ Adv q q2 4 ∧ S' = St none none q2) (pvx_callS (ws := ws.up q) mm G2 hr (by omega) (pvs_cons (sv 0) (pvs_cons (dv 1) (pvs_cons (dv 2) (pvs_one (dv 3))))) rfl rfl ⟨h3, ha.1, by show q.at_ ≤ 900000; omega⟩ (fun d q2 ⟨t, e, ht, ha2⟩ => ⟨t, q2, e, ht, ha2, rfl⟩)) ?_
  rintro d2 S2 ⟨t, q2, rfl, tok, ha2, rfl⟩
  have c3 : q2.at_ ≤ q.at_ + 4 := ha2.2.2
  refine pax_nil ⟨_, _, rfl, ?_⟩
  refine ds_when (tCd (cd_lt (dv 4) pv_int)) (fun hz => rD (pv_tup (pvs_cons pv_str (pvs_one (dv 5))) rfl) ⟨q2, rfl, .ge t, rfl, ⟨tok.ok, tok.nm⟩, (ha.tr ha2).le (by decide)⟩) fun hz => ?_
  refine dsx_ret (post := fun d S' => ∃ (a : At) (q3 : Ws), d = a.enc ∧ AtomOk mm a ∧ Adv q2 q3 1 ∧ S'.w = some (ws.up q3)) (pvx_if (pt := fun z S' => S' = St (some (.dat (.int r))) (some (.dat t.enc)) q2) (ptx_of (tCd (cd_eqI (dv 4) pv_int)) rfl) ?_ ?_) ?_
  · rintro S1 rfl
    exact pvx_of (pv_tup (pvs_cons pv_str (pvs_one (dv 5))) rfl) ⟨.eq t, q2, rfl, ⟨tok.ok, tok.nm⟩, ⟨ha2.1, Int.le_refl _, by omega⟩, rfl⟩
  · rintro S1 rfl
    refine pvx_tup (pax_cons (pa := fun d S' => d = .str "mod" ∧ S' = St (some (.dat (.int r))) (some (.dat t.enc)) q2) (pvx_of pv_str ⟨rfl, rfl⟩) ?_)
    rintro d S1 ⟨rfl, rfl⟩
    refine pax_cons (pa := fun d S' => ∃ (r2 : Int) (q3 : Ws), d = .int (2 + r2) ∧ 0 ≤ r2 ∧ r2 < 5 ∧ Adv q2 q3 1 ∧ S' = St (some (.dat (.int r))) (some (.dat t.enc)) q3) (pvx_add (pa := fun d S' => d = .int 2 ∧ S' = St (some (.dat (.int r))) (some (.dat t.enc)) q2) (pvx_of pv_int ⟨rfl, rfl⟩) ?_) ?_
    · rintro d1 S1 ⟨rfl, rfl⟩
      exact pvx_callS (ws := ws.up q2) (5 : Int) G1 hr (by omega) (pvs_cons (sv 0) (pvs_one pv_int)) rfl rfl ⟨by decide, by decide, ha2.1, by show q2.at_ ≤ 1000000; omega⟩ (fun d q3 ⟨r2, e, h0, h5, ha3⟩ => ⟨2, r2, rfl, e, r2, q3, rfl, h0, h5, ha3, rfl⟩)
    · rintro d1 S1 ⟨r2, q3, rfl, k0, k5, ha3, rfl⟩
      refine pax_of (pvs_one (dv 5)) rfl ⟨by simp, .mod (2 + r2).toNat t, q3, ?_, ⟨⟨by omega, by omega, tok.ok⟩, tok.nm⟩, ha3, rfl⟩
      show D.tup [.str "mod", .int (2 + r2), t.enc] = .tup [.str "mod", .int (((2 + r2).toNat : Nat) : Int), t.enc]
      rw [Int.toNat_of_nonneg (by omega)]
  · rintro d S1 ⟨a, q3, rfl, aok, ha3, hw⟩
    exact ⟨q3, hw, a, rfl, aok, ((ha.tr ha2).tr ha3).le (by decide)⟩
end
end K75
namespace K75
open PySem PySem.Spec PyProof.Rows L2 PL

structure FmOk (mm n : Nat) (f : Fm) : Prop where
  ok : f.ok
  nm : ∀ a ∈ atoms f, ∀ q ∈ a.tm.ps, q.1 < mm
  dp : f.depth ≤ 2 * n
  sz : f.size + 2 ≤ 4 * n
theorem FmOk.atm {mm n : Nat} {a : At} (h : AtomOk mm a) (hn : 1 ≤ n) : FmOk mm n (.atm a) := ⟨h.ok, fun b hb => by
  have e : b ∈ [a] := hb
  rw [List.mem_singleton.mp e]; exact h.nm, by show 1 ≤ 2 * n; omega, by show 1 + 2 ≤ 4 * n; omega⟩
theorem FmOk.noa {mm n : Nat} {a : At} (h : AtomOk mm a) (hn : 1 ≤ n) : FmOk mm n (.no (.atm a)) := ⟨h.ok, fun b hb => by
  have e : b ∈ [a] := hb
  rw [List.mem_singleton.mp e]; exact h.nm, by show 1 + 1 ≤ 2 * n; omega, by show 1 + 1 + 2 ≤ 4 * n; omega⟩
theorem FmOk.bin {mm n k : Nat} {f g : Fm} (b : Bool) (hf : FmOk mm k f) (hg : FmOk mm (n - k) g) (h1 : 1 ≤ k) (h2 : k < n) : FmOk mm n (.bi b f g) ∧ FmOk mm n (.no (.bi b f g)) := by
  have a1 := hf.dp; have a2 := hg.dp; have a3 := hf.sz; have a4 := hg.sz
  have nm : ∀ a ∈ atoms f ++ atoms g, ∀ q ∈ a.tm.ps, q.1 < mm := fun a ha => by
    rcases List.mem_append.mp ha with h | h
    · exact hf.nm a h
    · exact hg.nm a h
  have d1 : max f.depth g.depth ≤ 2 * n - 2 := by omega
  refine ⟨⟨⟨hf.ok, hg.ok⟩, nm, ?_, ?_⟩, ⟨⟨hf.ok, hg.ok⟩, nm, ?_, ?_⟩⟩
  · show max f.depth g.depth + 1 ≤ 2 * n; omega
  · show f.size + g.size + 1 + 2 ≤ 4 * n; omega
  · show max f.depth g.depth + 1 + 1 ≤ 2 * n; omega
  · show f.size + g.size + 1 + 1 + 2 ≤ 4 * n; omega
section
variable {P : Program} {w : World} {K : PySem.W.Frag} {mg : Str → Option Value} {base : Heap}
abbrev GPlain (P : Program) (w : World) (K : PySem.W.Frag) (mg : Str → Option Value) (base : Heap) (n : Nat) : Prop := GFs P w K mg base (n + 5) "_law_plain" 5 (fun i : Nat × Nat => [rangeN i.1, .int (i.2 : Nat), .int 2, .int 6]) (fun i p => i.1 ≤ 3 ∧ 1 ≤ i.2 ∧ i.2 ≤ n ∧ i.2 ≤ 100 ∧ WsOk p ∧ p.at_ + 20 * (i.2 : Int) ≤ 700000) (fun i p d q => ∃ f : Fm, d = f.enc ∧ FmOk i.1 i.2 f ∧ Adv p q (20 * (i.2 : Int) - 10))
theorem ok_plain (C : Cst K mg) (F : DefOk K mg "_law_plain" "_law_plain" H75.sLPlain) (G1 : GDraw P w K mg base) (G2 : GAtomL P w K mg base) : ∀ n, GPlain P w K mg base n := by
  intro n
  induction n with
  | zero =>
    refine gfs_of (ps := ["_law_state", "_law_names", "_law_many_so", "_law_most", "_law_bound"]) (N := ["_law_state", "_law_names", "_law_many_so", "_law_most", "_law_bound", "_law_atom_here", "_law_left_here", "_law_one", "_law_other", "_law_found"]) F ⟨rfl, rfl, rfl, by decide +kernel, rfl, by decide +kernel, by decide +kernel⟩ (fun _ => rfl) (fun _ _ _ _ _ _ us hl => match us, hl with | [_, _, _, _, _], _ => rfl) fun fa cdv A outer s H E i ws hr hi => ?_
    have h1 := hi.2.1
    have h2 := hi.2.2.1
    omega
  | succ n ih =>
    refine gfs_of (ps := ["_law_state", "_law_names", "_law_many_so", "_law_most", "_law_bound"]) (N := ["_law_state", "_law_names", "_law_many_so", "_law_most", "_law_bound", "_law_atom_here", "_law_left_here", "_law_one", "_law_other", "_law_found"]) F ⟨rfl, rfl, rfl, by decide +kernel, rfl, by decide +kernel, by decide +kernel⟩ (fun _ => rfl) (fun _ _ _ _ _ _ us hl => match us, hl with | [_, _, _, _, _], _ => rfl) fun fa cdv A outer s H E i ws hr hi => ?_
    obtain ⟨mm, m⟩ := i
    obtain ⟨h3, hm1, hmn, hm100, hok, hat⟩ := (show mm ≤ 3 ∧ 1 ≤ m ∧ m ≤ n + 1 ∧ m ≤ 100 ∧ WsOk ws.p ∧ ws.at_ + 20 * (m : Int) ≤ 700000 from hi)
    have hat0 : 0 ≤ ws.at_ := hok.2.2
    have hN : (["_law_state", "_law_names", "_law_many_so", "_law_most", "_law_bound", "_law_atom_here", "_law_left_here", "_law_one", "_law_other", "_law_found"] : List Str).Nodup := by decide +kernel
    let St := fun (c5 c6 c7 c8 c9 : Option Sl) (p : Ws) => (⟨[some .st, some (.dat (rangeN mm)), some (.dat (.int (m : Nat))), some (.dat (.int 2)), some (.dat (.int 6)), c5, c6, c7, c8, c9], some (ws.up p)⟩ : PSt)
    show PSd _ _ (St none none none none none ws.p) _
    refine dsx_if (pt := fun z S' => (z = true → ∃ q, S' = St none none none none none q ∧ Adv ws.p q 1) ∧ (z = false → 2 ≤ m ∧ ∃ q, S' = St none none none none none q ∧ Adv ws.p q 1)) (ptx_or (tCd (cd_lt (dv 2) pv_int)) (fun _ => ⟨fun _ => ⟨ws.p, rfl, hok, Int.le_refl _, by omega⟩, fun h => nomatch h⟩) fun hz => ptx_eq (pa := fun d S' => ∃ (r : Int) (q : Ws), d = .int r ∧ Adv ws.p q 1 ∧ S' = St none none none none none q) (pvx_callS (ws := ws.up ws.p) (4 : Int) G1 hr (by omega) (pvs_cons (sv 0) (pvs_one pv_int)) rfl rfl ⟨by decide, by decide, hok, by show ws.at_ ≤ 1000000; omega⟩ (fun d q ⟨r, e, h0, h5, ha⟩ => ⟨r, q, e, ha, rfl⟩)) (fun _ => pv_int) ?_) ?_ ?_
    · rintro d S1 ⟨r, q, rfl, ha, rfl⟩
      have hm2 : 2 ≤ m := by
        have := of_decide_eq_false hz
        omega
      exact ⟨r, rfl, fun _ => ⟨q, rfl, ha⟩, fun _ => ⟨hm2, q, rfl, ha⟩⟩
    · rintro S1 ⟨h, _⟩
      obtain ⟨q, rfl, ha⟩ := h rfl
      have b3 : q.at_ ≤ ws.at_ + 1 := ha.2.2
      refine sX 5 hN (post := fun d S' => ∃ (a : At) (q2 : Ws), d = a.enc ∧ AtomOk mm a ∧ Adv q q2 6 ∧ S' = St none none none none none q2) (pvx_callS (ws := ws.up q) mm G2 hr (by omega) (pvs_cons (sv 0) (pvs_cons (dv 1) (pvs_cons (dv 3) (pvs_one (dv 4))))) rfl rfl ⟨h3, ha.1, by show q.at_ ≤ 800000; omega⟩ (fun d q2 ⟨a, e, aok, ha2⟩ => ⟨a, q2, e, aok, ha2, rfl⟩)) ?_
      rintro d S2 ⟨a, q2, rfl, aok, ha2, rfl⟩
      have c3 : q2.at_ ≤ q.at_ + 6 := ha2.2.2
      refine dsx_ret (post := fun d S' => ∃ (f : Fm) (q3 : Ws), d = f.enc ∧ FmOk mm m f ∧ Adv q2 q3 1 ∧ S'.w = some (ws.up q3)) (pvx_if (pt := fun z S' => ∃ q3, S' = St (some (.dat a.enc)) none none none none q3 ∧ Adv q2 q3 1) (ptx_eq (pa := fun d S' => ∃ (r : Int) (q3 : Ws), d = .int r ∧ Adv q2 q3 1 ∧ S' = St (some (.dat a.enc)) none none none none q3) (pvx_callS (ws := ws.up q2) (3 : Int) G1 hr (by omega) (pvs_cons (sv 0) (pvs_one pv_int)) rfl rfl ⟨by decide, by decide, ha2.1, by show q2.at_ ≤ 1000000; omega⟩ (fun d q3 ⟨r, e, h0, h5, ha3⟩ => ⟨r, q3, e, ha3, rfl⟩)) (fun _ => pv_int) (fun d S1 ⟨r, q3, e, ha3, e2⟩ => ⟨r, e, q3, e2, ha3⟩)) ?_ ?_) ?_
      · rintro S1 ⟨q3, rfl, ha3⟩
        exact pvx_of (pv_tup (pvs_cons pv_str (pvs_one (dv 5))) rfl) ⟨.no (.atm a), q3, rfl, .noa aok hm1, ha3, rfl⟩
      · rintro S1 ⟨q3, rfl, ha3⟩
        exact pvx_of (dv 5) ⟨.atm a, q3, rfl, .atm aok hm1, ha3, rfl⟩
      · rintro d S1 ⟨f, q3, rfl, fok, ha3, hw⟩
        exact ⟨q3, hw, f, rfl, fok, ((ha.tr ha2).tr ha3).le (by omega)⟩
    · rintro S1 ⟨_, h⟩
      obtain ⟨hm2, q, rfl, ha⟩ := h rfl
      have b3 : q.at_ ≤ ws.at_ + 1 := ha.2.2
      refine ds_nil ?_
      show PSd _ _ (St none none none none none q) _
      refine sX 6 hN (post := fun d S' => ∃ (k : Nat) (q2 : Ws), d = .int (k : Nat) ∧ 1 ≤ k ∧ k < m ∧ Adv q q2 1 ∧ S' = St none none none none none q2) (pvx_add (pa := fun d S' => d = .int 1 ∧ S' = St none none none none none q) (pvx_of pv_int ⟨rfl, rfl⟩) ?_) ?_
      · rintro d1 S1 ⟨rfl, rfl⟩
        exact pvx_callS (ws := ws.up q) ((m : Int) - 1) G1 hr (by omega) (pvs_cons (sv 0) (pvs_one (pv_sub (dv 2) pv_int))) rfl rfl ⟨by show 1 ≤ (m : Int) - 1; omega, by show (m : Int) - 1 ≤ 1000; omega, ha.1, by show q.at_ ≤ 1000000; omega⟩ (fun d q2 ⟨r, e, h0, h5, ha2⟩ => ⟨1, r, rfl, e, (1 + r).toNat, q2, by rw [Int.toNat_of_nonneg (by omega)], by omega, by omega, ha2, rfl⟩)
      · rintro d S1 ⟨k, q2, rfl, hk1, hkm, ha2, rfl⟩
        have c3 : q2.at_ ≤ q.at_ + 1 := ha2.2.2
        refine sX 7 hN (post := fun d S' => ∃ (f : Fm) (q3 : Ws), d = f.enc ∧ FmOk mm k f ∧ Adv q2 q3 (20 * (k : Int) - 10) ∧ S' = St none (some (.dat (.int (k : Nat)))) none none none q3) (pvx_callS (ws := ws.up q2) (mm, k) ih hr (by omega) (pvs_cons (sv 0) (pvs_cons (dv 1) (pvs_cons (dv 6) (pvs_cons (dv 3) (pvs_one (dv 4)))))) rfl rfl ⟨h3, hk1, by show k ≤ n; omega, by show k ≤ 100; omega, ha2.1, by show q2.at_ + 20 * (k : Int) ≤ 700000; omega⟩ (fun d q3 ⟨f, e, fok, ha3⟩ => ⟨f, q3, e, fok, ha3, rfl⟩)) ?_
        rintro d S1 ⟨f, q3, rfl, fok, ha3, rfl⟩
        have d3 : q3.at_ ≤ q2.at_ + (20 * (k : Int) - 10) := ha3.2.2
        refine sX 8 hN (post := fun d S' => ∃ (g : Fm) (q4 : Ws), d = g.enc ∧ FmOk mm (m - k) g ∧ Adv q3 q4 (20 * ((m - k : Nat) : Int) - 10) ∧ S' = St none (some (.dat (.int (k : Nat)))) (some (.dat f.enc)) none none q4) (pvx_callS (ws := ws.up q3) (mm, m - k) ih hr (by omega) (pvs_cons (sv 0) (pvs_cons (dv 1) (pvs_cons (PVd (d' := .int ((m - k : Nat) : Int)) (pv_sub (dv 2) (dv 6)) (by rw [Int.ofNat_sub (by omega)])) (pvs_cons (dv 3) (pvs_one (dv 4)))))) rfl rfl ⟨h3, by show 1 ≤ m - k; omega, by show m - k ≤ n; omega, by show m - k ≤ 100; omega, ha3.1, by show q3.at_ + 20 * ((m - k : Nat) : Int) ≤ 700000; omega⟩ (fun d q4 ⟨g, e, gok, ha4⟩ => ⟨g, q4, e, gok, ha4, rfl⟩)) ?_
        rintro d S1 ⟨g, q4, rfl, gok, ha4, rfl⟩
        have e3 : q4.at_ ≤ q3.at_ + (20 * ((m - k : Nat) : Int) - 10) := ha4.2.2
        refine sX 9 hN (post := fun d S' => ∃ (b : Bool) (q5 : Ws), d = (Fm.bi b f g).enc ∧ Adv q4 q5 1 ∧ S' = St none (some (.dat (.int (k : Nat)))) (some (.dat f.enc)) (some (.dat g.enc)) none q5) (pvx_tup (pax_cons (pa := fun d S' => ∃ (b : Bool) (q5 : Ws), d = .str (wordB b) ∧ Adv q4 q5 1 ∧ S' = St none (some (.dat (.int (k : Nat)))) (some (.dat f.enc)) (some (.dat g.enc)) none q5) (pvx_ix (w1 := none) (t := false) (pb := fun _ _ => True) (pv_lst (ds := [.str "and", .str "or"]) (pvs_cons pv_str (pvs_one pv_str)) rfl) (pvx_callS (ws := ws.up q4) (2 : Int) G1 hr (by omega) (pvs_cons (sv 0) (pvs_one pv_int)) rfl rfl ⟨by decide, by decide, ha4.1, by show q4.at_ ≤ 1000000; omega⟩ (fun d q5 ⟨r, e, h0, h5, ha5⟩ => ?_))) ?_)) ?_
        · have hr2 : r = 0 ∨ r = 1 := by omega
          rcases hr2 with rfl | rfl
          · exact ⟨0, .str "and", e, rfl, true, q5, rfl, ha5, rfl⟩
          · exact ⟨1, .str "or", e, rfl, false, q5, rfl, ha5, rfl⟩
        · rintro d S1 ⟨b, q5, rfl, ha5, rfl⟩
          exact pax_of (pvs_one (pv_tup (pvs_cons (dv 7) (pvs_one (dv 8))) rfl)) rfl ⟨by simp, b, q5, rfl, ha5, rfl⟩
        · rintro d S1 ⟨b, q5, rfl, ha5, rfl⟩
          have f3 : q5.at_ ≤ q4.at_ + 1 := ha5.2.2
          have hbin := FmOk.bin b fok gok hk1 hkm
          refine dsx_ret (post := fun d S' => ∃ (h : Fm) (q6 : Ws), d = h.enc ∧ FmOk mm m h ∧ Adv q5 q6 1 ∧ S'.w = some (ws.up q6)) (pvx_if (pt := fun z S' => ∃ q6, S' = St none (some (.dat (.int (k : Nat)))) (some (.dat f.enc)) (some (.dat g.enc)) (some (.dat (Fm.bi b f g).enc)) q6 ∧ Adv q5 q6 1) (ptx_eq (pa := fun d S' => ∃ (r : Int) (q6 : Ws), d = .int r ∧ Adv q5 q6 1 ∧ S' = St none (some (.dat (.int (k : Nat)))) (some (.dat f.enc)) (some (.dat g.enc)) (some (.dat (Fm.bi b f g).enc)) q6) (pvx_callS (ws := ws.up q5) (5 : Int) G1 hr (by omega) (pvs_cons (sv 0) (pvs_one pv_int)) rfl rfl ⟨by decide, by decide, ha5.1, by show q5.at_ ≤ 1000000; omega⟩ (fun d q6 ⟨r, e, h0, h5, ha6⟩ => ⟨r, q6, e, ha6, rfl⟩)) (fun _ => pv_int) (fun d S1 ⟨r, q6, e, ha6, e2⟩ => ⟨r, e, q6, e2, ha6⟩)) ?_ ?_) ?_
          · rintro S1 ⟨q6, rfl, ha6⟩
            exact pvx_of (pv_tup (pvs_cons pv_str (pvs_one (dv 9))) rfl) ⟨.no (.bi b f g), q6, rfl, hbin.2, ha6, rfl⟩
          · rintro S1 ⟨q6, rfl, ha6⟩
            exact pvx_of (dv 9) ⟨.bi b f g, q6, rfl, hbin.1, ha6, rfl⟩
          · rintro d S1 ⟨h, q6, rfl, hok6, ha6, hw⟩
            exact ⟨q6, hw, h, rfl, hok6, (((((ha.tr ha2).tr ha3).tr ha4).tr ha5).tr ha6).le (by omega)⟩
end
end K75
namespace K75
open PySem PySem.Spec PyProof.Rows L2 PL

def spBeg (c : Cc) : Sp := fun vs H Q _ => ∃ (F : Hp) (l : Addr) (is : List Int), vs = [.ref l] ∧ Ex F H ∧ SqL c.K F l (is.map V.int) ∧ is.length ≤ 1000 ∧ ∀ ws F' H', R c F H F' H' [] ⟨[], some ws⟩ → WsOk ws.p → ws.at_ = 0 → Q (.ref ws.sa) H'
section
variable {P : Program} {w : World} {K : PySem.W.Frag} {mg : Str → Option Value} {base : Heap}
abbrev GBegin (P : Program) (w : World) (K : PySem.W.Frag) (mg : Str → Option Value) (base : Heap) : Prop := GSp P w K mg base 1 "_law_begin" 1 (spBeg ⟨P, w, K⟩)
theorem ok_begin (C : Cst K mg) (F : DefOk K mg "_law_begin" "_law_begin" H75.sLBegin) : GBegin P w K mg base := by
  obtain ⟨f, fd, F, hm⟩ := F.ex
  have Sc : FnScope ["_law_script", "_law_cells_so", "_law_cell"] ["_law_script"] (defScope H75.sLBegin) := ⟨rfl, rfl, rfl, by decide +kernel, rfl, by decide +kernel, by decide +kernel⟩
  refine ⟨f, fd, ["_law_script"], F.ok Sc (fun vs H Q E h => ?_) (fun cdv A outer s H vs Q E hr h => ?_), rfl, hm, F.kp, F.bindsN fun _ _ _ _ _ _ us hl => match us, hl with | [_], _ => rfl⟩
  · obtain ⟨_, l, is, rfl, _⟩ := h
    rfl
  · obtain ⟨F1, l, is, rfl, e, hs, h63, q⟩ := h
    have hN : (["_law_script", "_law_cells_so", "_law_cell"] : List Str).Nodup := by decide +kernel
    have hu := hr.units
    let cel : List Int := if is = [] then [0] else is
    have hints : cel ≠ [] := by
      show (if is = [] then [0] else is) ≠ []
      by_cases h : is = []
      · rw [if_pos h]; simp
      · rw [if_neg h]; exact h
    have hlen : cel.length ≤ 1000 := by
      show (if is = [] then [0] else is).length ≤ 1000
      by_cases h : is = []
      · rw [if_pos h]; simp
      · rw [if_neg h]; exact h63
    let S0 : PSt := ⟨[some (.dat (.scr is)), none, none], none⟩
    let S1 : PSt := ⟨[some (.dat (.scr is)), some (.lst (cel.map D.int)), none], none⟩
    let X := xOf P w K mg base ["_law_script", "_law_cells_so", "_law_cell"] "_law_begin" (defScope H75.sLBegin) f cdv A outer s H E
    let tB : TS := fun E σ H => ∃ F0 H0 F, R (ccOf X) F0 H0 F H σ S0 ∧ ∀ ws F' H', R (ccOf X) F0 H0 F' H' [] ⟨[], some ws⟩ → Ex F F' → ws.cells = cel → ws.lefts = cel.map (fun c => if (10 : Int) ^ 18 ≤ c then c else 0) → ws.at_ = 0 → E.rt (.ref ws.sa) H'
    have hb : PSs X (defBody H75.sLBegin) tB := by
      refine pssI (pss_cons (ps_set (i := 1) (te := tV (ccOf X) S0 (.new (.lst (cel.map D.int))) S0) hN rfl (Or.inl rfl) ?_) (pss_one (ps_ret (pe_state (S := S1) (i := 1) (ds := cel) (es := cel.map (fun c => if (10 : Int) ^ 18 ≤ c then c else 0)) (X := X) ?_ rfl ?_)))) fun E σ H ⟨F0, H0, F, r, k⟩ => ⟨F0, H0, F, r, fun y F2 H2 r2 g z => ?_⟩
      · refine vif (z := !decide (is = [])) (PTz (tCd (cd_neS0 hu (dv 0) (pv_lst (ds := []) pvs_nil rfl)))) (fun hz => ?_) fun hz => ?_
        · have h0 : is ≠ [] := by simpa using hz
          have e1 : cel = is := if_neg h0
          rw [e1]
          exact pv_listS C.b (dv 0)
        · have h0 : is = [] := by simpa using hz
          have e1 : cel = [0] := if_pos h0
          rw [e1]
          exact pv_lst (ds := [.int 0]) (pvs_one pv_int) rfl
      · exact ov 1
      · rw [List.map_map]
        exact pv_mapO (i := 1) (L := cel) (emb := D.int) (f := fun c => D.int (if (10 : Int) ^ 18 ≤ c then c else 0)) [("_law_cell", 2)] (.one 2) rfl hN (pio_lst (ov 1) rfl) rfl rfl (tb1 2 hN) (fun y hy => ⟨_, rfl, fun s H C2 cl fp => vif (z := decide ((10 : Int) ^ 18 ≤ y)) (PTz (tCd (cd_ge (dv 2) (pv_pow pv_int pv_int ⟨by decide, by decide, by decide⟩)))) (fun hz => PVd (dv 2) (by rw [if_pos (of_decide_eq_true hz)])) (fun hz => PVd pv_int (by rw [if_neg (of_decide_eq_false hz)]))⟩) (by omega)
      · obtain ⟨ow, sl, ⟨p, ep, a1, a2, a3, a4⟩, _⟩ := z
        exact ⟨F0, H0, F2, r2.put sl (fun _ q eq => by rw [ep] at eq; cases eq; exact ⟨a1, a2, a3, fun j t _ => a4 j t⟩), rfl, fun ws F' H' r' ex ec el ea => k ws F' H' r' (ex_tr g.eF ex) ec el ea⟩
    refine ⟨_, PSs.nox hb, F1, H, F1, entry_r (ds := [.scr is]) e (.cons (.scr hs) .nil) (by simp), fun ws F' H' r' ex ec el ea => ?_⟩
    have kw := r'.ws ws rfl
    refine q ws F' H' r' ⟨by show ws.cells ≠ []; rw [ec]; exact hints, by show ws.lefts.length = ws.cells.length; rw [ec, el, List.length_map], by show 0 ≤ ws.at_; omega⟩ ea
end
end K75
namespace K75
open PySem PySem.Spec PyProof.Rows L2 PL

theorem freeI_atoms : ∀ (f : Fm), ∀ x ∈ freeI f, ∃ a ∈ atoms f, ∃ q ∈ a.tm.ps, x = ((q.1 : Nat) : Int)
  | .atm a, x, hx => by
    obtain ⟨p, hp, rfl⟩ := List.mem_map.mp hx
    exact ⟨a, List.mem_singleton.mpr rfl, p, hp, rfl⟩
  | .no f, x, hx => freeI_atoms f x (mem_sortU.mp hx)
  | .bi b f g, x, hx => by
    rcases List.mem_append.mp (mem_sortU.mp hx) with h | h
    · obtain ⟨a, ha, r⟩ := freeI_atoms f x h
      exact ⟨a, List.mem_append_left _ ha, r⟩
    · obtain ⟨a, ha, r⟩ := freeI_atoms g x h
      exact ⟨a, List.mem_append_right _ ha, r⟩
theorem atoms_ne : ∀ (f : Fm), ∃ a as, atoms f = a :: as
  | .atm a => ⟨a, [], rfl⟩
  | .no f => atoms_ne f
  | .bi b f g => by
    obtain ⟨a, as, e⟩ := atoms_ne f
    exact ⟨a, as ++ atoms g, by show atoms f ++ atoms g = _; rw [e]; rfl⟩
def cyCode : Option Cy → Nat
  | none => 91
  | some c => (c.1 + 6).toNat * 7 + c.2.toNat
theorem cyCode_lt {a : At} {o : Option Cy} (h : ∀ c, o = some c → CInv a c) : cyCode o < 92 := by
  cases o with
  | none => decide
  | some c =>
    have hc := h c rfl
    show (c.1 + 6).toNat * 7 + c.2.toNat < 92
    cases a with
    | ge t => obtain ⟨h1, h2, h3⟩ := hc; omega
    | eq t => obtain ⟨h1, h2, h3⟩ := hc; omega
    | mod m t => obtain ⟨h1, h2, h3, h4⟩ := hc; omega
theorem cyCode_inj {a : At} {o o' : Option Cy} (h : ∀ c, o = some c → CInv a c) (h' : ∀ c, o' = some c → CInv a c) (e : cyCode o = cyCode o') : o = o' := by
  have lt91 : ∀ c, CInv a c → (c.1 + 6).toNat * 7 + c.2.toNat < 91 ∧ -6 ≤ c.1 ∧ 0 ≤ c.2 ∧ c.2 ≤ 6 := fun c hc => by
    cases a with
    | ge t => obtain ⟨h1, h2, h3⟩ := hc; omega
    | eq t => obtain ⟨h1, h2, h3⟩ := hc; omega
    | mod m t => obtain ⟨h1, h2, h3, h4⟩ := hc; omega
  cases o with
  | none =>
    cases o' with
    | none => rfl
    | some c' =>
      have := lt91 c' (h' c' rfl)
      have e' : 91 = (c'.1 + 6).toNat * 7 + c'.2.toNat := e
      omega
  | some c =>
    have k := lt91 c (h c rfl)
    cases o' with
    | none =>
      have e' : (c.1 + 6).toNat * 7 + c.2.toNat = 91 := e
      omega
    | some c' =>
      have k' := lt91 c' (h' c' rfl)
      have e' : (c.1 + 6).toNat * 7 + c.2.toNat = (c'.1 + 6).toNat * 7 + c'.2.toNat := e
      obtain ⟨l, m⟩ := c
      obtain ⟨l', m'⟩ := c'
      simp only at k k' e'
      have e1 : l = l' := by omega
      have e2 : m = m' := by omega
      rw [e1, e2]
theorem noOver_atm {mm : Nat} {a : At} (ok : a.ok) : NoOver mm (.atm a) := fun Vs hV hn => by
  have h1 : (Vs.map fun V => cyCode (cg a V)).Nodup := nodup_of_fun (fun x hx y hy e => by
    have e2 := cyCode_inj (cg_inv ok x) (cg_inv ok y) e
    show [cg a x] = [cg a y]
    rw [e2]) hn
  have h2 := nodup_lt (n := 92) h1 fun x hx => by
    obtain ⟨V, _, rfl⟩ := List.mem_map.mp hx
    exact cyCode_lt (cg_inv ok V)
  rw [List.length_map] at h2
  omega
/-- the state comes up: the law's own def -/
theorem R.callBeg {c : Cc} {F0 H0 F H F' H' : Hp} {σ : L2.St} {env : List (Option Sl)} {ws : WS} (r : R c F0 H0 F H σ ⟨env, none⟩) (q : R c F H F' H' [] ⟨[], some ws⟩) (hd : ∀ (i : Nat) s, env[i]? = some (some s) → ∃ d, s = .dat d) : R c F0 H0 F' H' σ ⟨env, some ws⟩ := by
  refine ⟨r.len, q.fh, ex_tr r.ff q.ff, fun a o n e => q.hh a o n (r.hh a o (fun ⟨w, e, _⟩ => nomatch e) e), fun a n h => ?_, fun i s e => ?_, fun i s p e o => ?_, fun i j s t p e _ o => ?_, fun w e => by cases e; exact q.ws ws rfl⟩
  · cases z : F a with
    | none =>
      have h1 := q.nw a z h
      cases y : H0 a with
      | none => rfl
      | some o =>
        have := r.hh a o (fun ⟨w, e, _⟩ => nomatch e) y
        rw [h1] at this
        cases this
    | some o => exact r.nw a n (by rw [z]; simp)
  · obtain ⟨d, rfl⟩ := hd i s e
    obtain ⟨x, e1, sl⟩ := r.sl i _ e
    exact ⟨x, e1, Rep.mono q.ff sl⟩
  · obtain ⟨d, rfl⟩ := hd i s e
    cases o
  · obtain ⟨d, rfl⟩ := hd i s e
    cases o
theorem dsx_ifM {X : Cx} {a : Expr} {rest A B : List Stmt} {S : PSt} {P : Post} {pos : Pos} (Mid : PSt → Prop) {pt : Bool → PSt → Prop} (hc : PTX X a S pt) (hA : ∀ S1, pt true S1 → PSd X A S1 { P with nx := Mid }) (hB : ∀ S1, pt false S1 → PSd X B S1 { P with nx := Mid }) (h : ∀ S', Mid S' → PSd X rest S' P) : PSd X (.If a A B pos :: rest) S P :=
  dsx_if hc (fun S1 h1 => pssI (hA S1 h1) fun E σ H ⟨F0, H0, F, r, k1, k2, k3, k4⟩ => ⟨F0, H0, F, r, fun σ' F' H' S' r' e' hm => k1 σ' F' H' S' r' e' (h S' hm), k2, k3, k4⟩)
    (fun S1 h1 => pssI (hB S1 h1) fun E σ H ⟨F0, H0, F, r, k1, k2, k3, k4⟩ => ⟨F0, H0, F, r, fun σ' F' H' S' r' e' hm => k1 σ' F' H' S' r' e' (h S' hm), k2, k3, k4⟩)
def spLaw (K : PySem.W.Frag) : Sp := fun vs H Q _ => ∃ (l : Addr) (is : List Int), vs = [.ref l] ∧ SqL K H l (is.map V.int) ∧ is.length ≤ 1000 ∧ ∀ H', Q (.bl true) H'
section
variable {P : Program} {w : World} {K : PySem.W.Frag} {mg : Str → Option Value} {base : Heap}
theorem ok_law {f : Addr} {fd : FuncData} (C : Cst K mg) (F : FunD K "law" "law" (defArgs H75.sLaw) (defBody H75.sLaw) (defScope H75.sLaw) [] [] f fd) (G1 : GBegin P w K mg base) (G2 : GDraw P w K mg base) (G3 : GPlain P w K mg base 3) (G4 : GAtoms P w K mg base 8) (G5 : GRests P w K mg base) (G6 : GMachineOf P w K mg base) (G7 : GAgrees P w K mg base) : FnOk P w K mg base CX0 27 f fd ["_law_script"] (spLaw K) := by
  have Sc : FnScope ["_law_script", "_law_state", "_law_lap", "_law_many_so", "_law_formula", "_law_atoms_so", "_law_machine"] ["_law_script"] (defScope H75.sLaw) := ⟨rfl, rfl, rfl, by decide +kernel, rfl, by decide +kernel, by decide +kernel⟩
  refine F.ok Sc (fun vs H Q E h => ?_) (fun cdv A outer s H vs Q E hr h => ?_)
  · obtain ⟨l, is, rfl, _⟩ := h
    rfl
  · obtain ⟨l, is, rfl, hs, h63, q⟩ := h
    have hN : (["_law_script", "_law_state", "_law_lap", "_law_many_so", "_law_formula", "_law_atoms_so", "_law_machine"] : List Str).Nodup := by decide +kernel
    let X := xOf P w K mg base ["_law_script", "_law_state", "_law_lap", "_law_many_so", "_law_formula", "_law_atoms_so", "_law_machine"] "law" (defScope H75.sLaw) f cdv A outer s H E
    have hr' : Room 26 X.A := hr
    let S0 : PSt := ⟨[some (.dat (.scr is)), none, none, none, none, none, none], none⟩
    let St := fun (ws : WS) (c2 c3 c4 c5 c6 : Option Sl) (p : Ws) => (⟨[some (.dat (.scr is)), some .st, c2, c3, c4, c5, c6], some (ws.up p)⟩ : PSt)
    let Pl : Post := { nx := fun _ => False, rt := fun d _ => d = .bl true }
    have hbody : PSd X (defBody H75.sLaw) S0 Pl := by
      obtain ⟨fb, fdb, psb, Gb, _, hmb, hkb, hbb⟩ := G1
      refine psd_cons (p := fun S' => ∃ ws : WS, WsOk ws.p ∧ ws.at_ = 0 ∧ S' = St ws none none none none none ws.p) (ps_set (i := 1) hN rfl (Or.inl rfl) (pe_call (E := E0) Gb (hr'.mono (by omega)) rfl hmb hkb hbb (.nil : Vals [] []) pass0 (pvs_one (S := S0) (dv 0)))) ?_ ?_
      · rintro S' ⟨ws, hok, hat, rfl⟩
        refine ds_forL (L := List.range 2) (emb := fun (i : Nat) => D.int (i : Int)) (.one 2) (fun k S => ∃ c2 c3 c4 c5 c6 p, S = St ws c2 c3 c4 c5 c6 p ∧ WsOk p ∧ p.at_ ≤ 100 * (k : Int)) (fun S => ∃ c2 c3 c4 c5 c6 p, S = St ws c2 c3 c4 c5 c6 p) PassesOwn.never rfl (bRangeN (n := 2) C.b (pv_int (i := 2)) (by decide)) (tl1 2 hN)
          ⟨none, none, none, none, none, ws.p, rfl, hok, by show ws.at_ ≤ 100 * ((0 : Nat) : Int); omega⟩ ?_ ?_ ?_
        · rintro k lap S hk ⟨c2, c3, c4, c5, c6, p, rfl, hp, hpat⟩
          obtain ⟨rfl, hk2⟩ := range_at hk
          refine ⟨_, rfl, sX 3 hN (post := fun d S' => ∃ (mm : Nat) (q : Ws), d = .int (mm : Nat) ∧ 1 ≤ mm ∧ mm ≤ 3 ∧ Adv p q 1 ∧ S' = St ws (some (.dat (.int (lap : Nat)))) c3 c4 c5 c6 q) (pvx_add (pa := fun d S' => d = .int 1 ∧ S' = St ws (some (.dat (.int (lap : Nat)))) c3 c4 c5 c6 p) (pvx_of pv_int ⟨rfl, rfl⟩) ?_) ?_⟩
          · rintro d1 S1 ⟨rfl, rfl⟩
            exact pvx_callS (ws := ws.up p) (3 : Int) G2 hr' (by omega) (pvs_cons (sv 1) (pvs_one pv_int)) rfl rfl ⟨by decide, by decide, hp, by show p.at_ ≤ 1000000; omega⟩ (fun d q ⟨r, e, h0, h5, ha⟩ => ⟨1, r, rfl, e, (1 + r).toNat, q, by rw [Int.toNat_of_nonneg (by omega)], by omega, by omega, ha, rfl⟩)
          · rintro d S1 ⟨mm, q, rfl, hm1, hm3, ha, rfl⟩
            have b3 : q.at_ ≤ p.at_ + 1 := ha.2.2
            refine sX 4 hN (post := fun d S' => ∃ (g : Fm) (q2 : Ws), d = g.enc ∧ FmOk mm 3 g ∧ Adv q q2 60 ∧ S' = St ws (some (.dat (.int (lap : Nat)))) (some (.dat (.int (mm : Nat)))) c4 c5 c6 q2) (pvx_callS (ws := ws.up q) (mm, if mm = 3 then 2 else 3) G3 hr' (by omega) (pvs_cons (sv 1) (pvs_cons (PV.frz (pv_listRange rfl rfl C.b.list rfl C.b.range (dv 3) ⟨by omega, by omega⟩)) (pvs_cons (vif (v := .dat (.int ((if mm = 3 then 2 else 3 : Nat) : Int))) (z := decide ((mm : Int) = 3)) (PTz (tCd (cd_eqI (dv 3) pv_int))) (fun hz => PVd pv_int (by rw [if_pos (by have := of_decide_eq_true hz; omega)]; rfl)) (fun hz => PVd pv_int (by rw [if_neg (by have := of_decide_eq_false hz; omega)]; rfl))) (pvs_cons pv_int (pvs_one pv_int))))) rfl rfl ⟨hm3, by show 1 ≤ (if mm = 3 then 2 else 3 : Nat); split <;> omega, by show (if mm = 3 then 2 else 3 : Nat) ≤ 3; split <;> omega, by show (if mm = 3 then 2 else 3 : Nat) ≤ 100; split <;> omega, ha.1, by show q.at_ + 20 * ((if mm = 3 then 2 else 3 : Nat) : Int) ≤ 700000; split <;> omega⟩ (fun d q2 ⟨g, e, gok, ha2⟩ => ⟨g, q2, e, ?_, ?_, rfl⟩)) ?_
            · have gok' : FmOk mm (if mm = 3 then 2 else 3) g := gok
              have dp := gok'.dp
              have sz := gok'.sz
              refine ⟨gok'.ok, gok'.nm, ?_, ?_⟩
              · split at dp <;> omega
              · split at sz <;> omega
            · refine Adv.le ha2 ?_
              show 20 * ((if mm = 3 then 2 else 3 : Nat) : Int) - 10 ≤ 60
              split <;> omega
            · rintro d S1 ⟨g, q2, rfl, gok, ha2, rfl⟩
              have c3' : q2.at_ ≤ q.at_ + 60 := ha2.2.2
              have gdp := gok.dp
              have gsz := gok.sz
              have hal := atoms_size g
              refine sD 5 hN (pv_callE (d := .lst ((atoms g).map At.enc)) g G4 hr' (by omega) (pvs_one (dv 4)) rfl ⟨by omega, by omega⟩) ?_
              refine dsx_ifM (fun S' => ∃ h : Fm, S' = St ws (some (.dat (.int (lap : Nat)))) (some (.dat (.int (mm : Nat)))) (some (.dat h.enc)) (some (.dat (.lst ((atoms g).map At.enc)))) c6 q2 ∧ FmOk mm 3 h ∧ NoOver mm h) (pt := fun z S' => (z = false → NoOver mm g) ∧ S' = St ws (some (.dat (.int (lap : Nat)))) (some (.dat (.int (mm : Nat)))) (some (.dat g.enc)) (some (.dat (.lst ((atoms g).map At.enc)))) c6 q2)
                (ptx_gt (pa := fun d S' => (∃ r : Int, d = .int r ∧ (r ≤ 300 → NoOver mm g)) ∧ S' = St ws (some (.dat (.int (lap : Nat)))) (some (.dat (.int (mm : Nat)))) (some (.dat g.enc)) (some (.dat (.lst ((atoms g).map At.enc)))) c6 q2) (pvx_call G5 hr' (by omega) (pax_of (pvs_cons (dv 5) (pvs_one (dv 3))) rfl ⟨(g, mm), rfl, ⟨gok.ok, hm3, by show (atoms g).length ≤ 100; omega⟩, fun d hd => ⟨hd, rfl⟩⟩)) (fun _ => pv_int) ?_) ?_ ?_ ?_
              · rintro d S1 ⟨⟨r, rfl, hr3⟩, rfl⟩
                exact ⟨r, rfl, fun hz => hr3 (by have := of_decide_eq_false hz; omega), rfl⟩
              · rintro S1 ⟨_, rfl⟩
                obtain ⟨a, as, ea⟩ := atoms_ne g
                have ha0 : a ∈ atoms g := by rw [ea]; simp
                have aok := atoms_ok g gok.ok a ha0
                refine sD 4 hN (pv_ix (d := a.enc) (dv 5) pv_int True.intro rfl rfl (by rw [ea]; exact at0)) (ds_nil ⟨.atm a, rfl, ⟨aok, fun b hb => ?_, by show 1 ≤ 2 * 3; omega, by show 1 + 2 ≤ 4 * 3; omega⟩, noOver_atm aok⟩)
                have e : b ∈ [a] := hb
                rw [List.mem_singleton.mp e]
                exact gok.nm a ha0
              · rintro S1 ⟨h, rfl⟩
                exact ds_nil ⟨g, rfl, gok, h rfl⟩
              · rintro S1 ⟨h, rfl, hok', no⟩
                have hdp := hok'.dp
                have hsz := hok'.sz
                have hnm : ∀ x ∈ freeI h, x < (mm : Int) := fun x hx => by
                  obtain ⟨a, ha', qq, hq, rfl⟩ := freeI_atoms h x hx
                  have := hok'.nm a ha' qq hq
                  omega
                refine sC 6 (mm, h) hN G6 hr' (by omega) (pvs_cons (dv 3) (pvs_one (dv 4))) rfl ⟨⟨hok'.ok, by show h.depth ≤ 8; omega, by show mm ≤ 6; omega, hnm, .inr no⟩, by show h.size ≤ 100; omega, hm1, by show mm ≤ 4; omega⟩ ?_
                rintro d ⟨rows, es, rfl, fin⟩
                refine iNo (z := (!decide ((mm : Int) = (mm : Int)) || !true)) (PWd.t (td_or (tCd (cd_neI (pv_ix (d := .int (mm : Nat)) (dv 6) pv_int True.intro rfl rfl at0) (dv 3))) fun _ => td_one (td_not (PV.t (pv_callE (d := .bl true) (⟨mm, h, rows, es⟩ : AgArg) G7 hr' (by omega) (pvs_cons (dv 4) (pvs_one (dv 6))) rfl ⟨hok'.ok, by show h.depth ≤ 8; omega, by show h.size ≤ 100; omega, hm3, fin, no⟩))))) ?_ (by simp)
                exact ds_nil ⟨_, _, _, _, _, q2, rfl, ha2.1, by show q2.at_ ≤ 100 * ((lap + 1 : Nat) : Int); omega⟩
        · rintro S ⟨c2, c3, c4, c5, c6, p, rfl, _⟩
          exact ⟨c2, c3, c4, c5, c6, p, rfl⟩
        · rintro S ⟨c2, c3, c4, c5, c6, p, rfl⟩
          exact rD pv_bl rfl
      · rintro E σ H ⟨F0, H0, F, r, k1, _⟩
        refine ⟨F0, H0, F, r, fun xs F1 H1 r1 g1 z1 => ?_⟩
        obtain ⟨y, rfl, z⟩ := arg1 z1
        obtain ⟨l', rfl, hl'⟩ := rep_scr z
        refine ⟨F1, l', is, rfl, r1.fh, hl', h63, fun ws F' H' r' wok wat => ?_⟩
        have r2 := R.callBeg r1 r' (fun i s e => ?_)
        · exact k1 _ F' H' _ (r2.put (i := 1) (s := .st) ⟨ws, rfl, rfl⟩ (fun o => nomatch o)) (ex_tr g1.eF r'.ff) ⟨ws, wok, wat, rfl⟩
        · have hi : i = 0 ∨ i = 1 ∨ i = 2 ∨ i = 3 ∨ i = 4 ∨ i = 5 ∨ i = 6 ∨ 7 ≤ i := by omega
          rcases hi with rfl | rfl | rfl | rfl | rfl | rfl | rfl | hi
          · cases e; exact ⟨_, rfl⟩
          · have e' : (some none : Option (Option Sl)) = some (some s) := e
            simp at e'
          · have e' : (some none : Option (Option Sl)) = some (some s) := e
            simp at e'
          · have e' : (some none : Option (Option Sl)) = some (some s) := e
            simp at e'
          · have e' : (some none : Option (Option Sl)) = some (some s) := e
            simp at e'
          · have e' : (some none : Option (Option Sl)) = some (some s) := e
            simp at e'
          · have e' : (some none : Option (Option Sl)) = some (some s) := e
            simp at e'
          · exfalso
            have e2 : S0.env[i]? = none := List.getElem?_eq_none (by show 7 ≤ i; exact hi)
            have e3 : S0.env[i]? = some (some s) := e
            rw [e2] at e3
            cases e3
    refine ⟨_, PSs.nox hbody, H, H, H, entry_r (ds := [.scr is]) (Ex.rfl' H) (.cons (.scr hs) .nil) (by simp), fun _ _ _ _ _ _ h => h.elim, ?_, fun _ _ _ _ _ _ h => h.elim, fun _ _ _ _ _ _ h => h.elim⟩
    rintro y F' H' d w' _ _ ry rfl
    cases ry
    exact q H'
end
end K75
namespace K75
open PySem PySem.Spec PyProof.Rows L2 PL
theorem ex_tup {K : PySem.W.Frag} (h : H75.ex K = true) (F : Hp) : TupAt K F (He.ga K "POWERS") (powers.map V.int) := by
  unfold H75.ex at h
  cases q : K.lookup (He.ga K "POWERS") with
  | none =>
    rw [q] at h
    cases h
  | some o =>
    obtain ⟨oc, od, dt, osl⟩ := o
    rw [q] at h
    cases oc with
    | type c =>
      cases od with
      | some _ => cases h
      | none =>
        cases dt with
        | seq its n =>
          have h' : (decide (c = "tuple") && (decide (its.size ≤ sizeLine) && He.relAll ([1, 2, 4, 8, 16, 32, 64].map V.int) its.toList)) = true := h
          rw [Bool.and_eq_true, Bool.and_eq_true] at h'
          exact .inr ⟨_, its, n, q, congrArg Value.type (of_decide_eq_true h'.1), rfl, rfl, of_decide_eq_true h'.2.1, He.relAll_ok h'.2.2⟩
        | _ => cases h
    | _ => cases od <;> cases dt <;> cases h
section
variable {P : Program} {w : World} {K : PySem.W.Frag} {mg : Str → Option Value} {base h : Heap}
theorem df_dDigitsOf (X : K.In h) (G : h.Ns mainGlobals mg) (c : He.SaysD H75.fa H75.fn K) : DefOk K mg "digits_of" "digits_of" H75.sDigitsOf := by
  obtain ⟨fd, F⟩ := c.def_ 0 (d := H75.dDigitsOf) rfl
  exact ⟨_, fd, F, He.glo_ok X G (c.fact 0 (f := .glo "digits_of") rfl)⟩
theorem df_dColumnsFor (X : K.In h) (G : h.Ns mainGlobals mg) (c : He.SaysD H75.fa H75.fn K) : DefOk K mg "columns_for" "columns_for" H75.sColumnsFor := by
  obtain ⟨fd, F⟩ := c.def_ 1 (d := H75.dColumnsFor) rfl
  exact ⟨_, fd, F, He.glo_ok X G (c.fact 1 (f := .glo "columns_for") rfl)⟩
theorem df_dReachedOf (X : K.In h) (G : h.Ns mainGlobals mg) (c : He.SaysD H75.fa H75.fn K) : DefOk K mg "reached_of" "reached_of" H75.sReachedOf := by
  obtain ⟨fd, F⟩ := c.def_ 2 (d := H75.dReachedOf) rfl
  exact ⟨_, fd, F, He.glo_ok X G (c.fact 2 (f := .glo "reached_of") rfl)⟩
theorem df_dKindsOf (X : K.In h) (G : h.Ns mainGlobals mg) (c : He.SaysD H75.fa H75.fn K) : DefOk K mg "kinds_of" "kinds_of" H75.sKindsOf := by
  obtain ⟨fd, F⟩ := c.def_ 3 (d := H75.dKindsOf) rfl
  exact ⟨_, fd, F, He.glo_ok X G (c.fact 3 (f := .glo "kinds_of") rfl)⟩
theorem df_dLeastOf (X : K.In h) (G : h.Ns mainGlobals mg) (c : He.SaysD H75.fa H75.fn K) : DefOk K mg "least_of" "least_of" H75.sLeastOf := by
  obtain ⟨fd, F⟩ := c.def_ 4 (d := H75.dLeastOf) rfl
  exact ⟨_, fd, F, He.glo_ok X G (c.fact 4 (f := .glo "least_of") rfl)⟩
theorem df_dSpread (X : K.In h) (G : h.Ns mainGlobals mg) (c : He.SaysD H75.fa H75.fn K) : DefOk K mg "spread" "spread" H75.sSpread := by
  obtain ⟨fd, F⟩ := c.def_ 5 (d := H75.dSpread) rfl
  exact ⟨_, fd, F, He.glo_ok X G (c.fact 5 (f := .glo "spread") rfl)⟩
theorem df_dOpposite (X : K.In h) (G : h.Ns mainGlobals mg) (c : He.SaysD H75.fa H75.fn K) : DefOk K mg "opposite" "opposite" H75.sOpposite := by
  obtain ⟨fd, F⟩ := c.def_ 6 (d := H75.dOpposite) rfl
  exact ⟨_, fd, F, He.glo_ok X G (c.fact 6 (f := .glo "opposite") rfl)⟩
theorem df_dPairsOf (X : K.In h) (G : h.Ns mainGlobals mg) (c : He.SaysD H75.fa H75.fn K) : DefOk K mg "pairs_of" "pairs_of" H75.sPairsOf := by
  obtain ⟨fd, F⟩ := c.def_ 7 (d := H75.dPairsOf) rfl
  exact ⟨_, fd, F, He.glo_ok X G (c.fact 7 (f := .glo "pairs_of") rfl)⟩
theorem df_dEndBy (X : K.In h) (G : h.Ns mainGlobals mg) (c : He.SaysD H75.fa H75.fn K) : DefOk K mg "end_by" "end_by" H75.sEndBy := by
  obtain ⟨fd, F⟩ := c.def_ 8 (d := H75.dEndBy) rfl
  exact ⟨_, fd, F, He.glo_ok X G (c.fact 8 (f := .glo "end_by") rfl)⟩
theorem df_dPaired (X : K.In h) (G : h.Ns mainGlobals mg) (c : He.SaysD H75.fa H75.fn K) : DefOk K mg "paired" "paired" H75.sPaired := by
  obtain ⟨fd, F⟩ := c.def_ 9 (d := H75.dPaired) rfl
  exact ⟨_, fd, F, He.glo_ok X G (c.fact 9 (f := .glo "paired") rfl)⟩
theorem df_dIsFrom (X : K.In h) (G : h.Ns mainGlobals mg) (c : He.SaysD H75.fa H75.fn K) : DefOk K mg "is_from" "is_from" H75.sIsFrom := by
  obtain ⟨fd, F⟩ := c.def_ 10 (d := H75.dIsFrom) rfl
  exact ⟨_, fd, F, He.glo_ok X G (c.fact 10 (f := .glo "is_from") rfl)⟩
theorem df_dNeedMany (X : K.In h) (G : h.Ns mainGlobals mg) (c : He.SaysD H75.fa H75.fn K) : DefOk K mg "need_many" "need_many" H75.sNeedMany := by
  obtain ⟨fd, F⟩ := c.def_ 11 (d := H75.dNeedMany) rfl
  exact ⟨_, fd, F, He.glo_ok X G (c.fact 11 (f := .glo "need_many") rfl)⟩
theorem df_dArePairs (X : K.In h) (G : h.Ns mainGlobals mg) (c : He.SaysD H75.fa H75.fn K) : DefOk K mg "are_pairs" "are_pairs" H75.sArePairs := by
  obtain ⟨fd, F⟩ := c.def_ 12 (d := H75.dArePairs) rfl
  exact ⟨_, fd, F, He.glo_ok X G (c.fact 12 (f := .glo "are_pairs") rfl)⟩
theorem df_dIsTerm (X : K.In h) (G : h.Ns mainGlobals mg) (c : He.SaysD H75.fa H75.fn K) : DefOk K mg "is_term" "is_term" H75.sIsTerm := by
  obtain ⟨fd, F⟩ := c.def_ 13 (d := H75.dIsTerm) rfl
  exact ⟨_, fd, F, He.glo_ok X G (c.fact 13 (f := .glo "is_term") rfl)⟩
theorem df_dHasForm (X : K.In h) (G : h.Ns mainGlobals mg) (c : He.SaysD H75.fa H75.fn K) : DefOk K mg "has_form" "has_form" H75.sHasForm := by
  obtain ⟨fd, F⟩ := c.def_ 14 (d := H75.dHasForm) rfl
  exact ⟨_, fd, F, He.glo_ok X G (c.fact 14 (f := .glo "has_form") rfl)⟩
theorem df_dInner (X : K.In h) (G : h.Ns mainGlobals mg) (c : He.SaysD H75.fa H75.fn K) : DefOk K mg "inner" "inner" H75.sInner := by
  obtain ⟨fd, F⟩ := c.def_ 15 (d := H75.dInner) rfl
  exact ⟨_, fd, F, He.glo_ok X G (c.fact 15 (f := .glo "inner") rfl)⟩
theorem df_dPlaceOf (X : K.In h) (G : h.Ns mainGlobals mg) (c : He.SaysD H75.fa H75.fn K) : DefOk K mg "place_of" "place_of" H75.sPlaceOf := by
  obtain ⟨fd, F⟩ := c.def_ 16 (d := H75.dPlaceOf) rfl
  exact ⟨_, fd, F, He.glo_ok X G (c.fact 16 (f := .glo "place_of") rfl)⟩
theorem df_dWalked (X : K.In h) (G : h.Ns mainGlobals mg) (c : He.SaysD H75.fa H75.fn K) : DefOk K mg "walked" "walked" H75.sWalked := by
  obtain ⟨fd, F⟩ := c.def_ 17 (d := H75.dWalked) rfl
  exact ⟨_, fd, F, He.glo_ok X G (c.fact 17 (f := .glo "walked") rfl)⟩
theorem df_dNeedFormula (X : K.In h) (G : h.Ns mainGlobals mg) (c : He.SaysD H75.fa H75.fn K) : DefOk K mg "need_formula" "need_formula" H75.sNeedFormula := by
  obtain ⟨fd, F⟩ := c.def_ 18 (d := H75.dNeedFormula) rfl
  exact ⟨_, fd, F, He.glo_ok X G (c.fact 18 (f := .glo "need_formula") rfl)⟩
theorem df_dListed (X : K.In h) (G : h.Ns mainGlobals mg) (c : He.SaysD H75.fa H75.fn K) : DefOk K mg "listed" "listed" H75.sListed := by
  obtain ⟨fd, F⟩ := c.def_ 19 (d := H75.dListed) rfl
  exact ⟨_, fd, F, He.glo_ok X G (c.fact 19 (f := .glo "listed") rfl)⟩
theorem df_dFreeIn (X : K.In h) (G : h.Ns mainGlobals mg) (c : He.SaysD H75.fa H75.fn K) : DefOk K mg "free_in" "free_in" H75.sFreeIn := by
  obtain ⟨fd, F⟩ := c.def_ 20 (d := H75.dFreeIn) rfl
  exact ⟨_, fd, F, He.glo_ok X G (c.fact 20 (f := .glo "free_in") rfl)⟩
theorem df_dNeedWide (X : K.In h) (G : h.Ns mainGlobals mg) (c : He.SaysD H75.fa H75.fn K) : DefOk K mg "need_wide" "need_wide" H75.sNeedWide := by
  obtain ⟨fd, F⟩ := c.def_ 21 (d := H75.dNeedWide) rfl
  exact ⟨_, fd, F, He.glo_ok X G (c.fact 21 (f := .glo "need_wide") rfl)⟩
theorem df_dColumnSums (X : K.In h) (G : h.Ns mainGlobals mg) (c : He.SaysD H75.fa H75.fn K) : DefOk K mg "column_sums" "column_sums" H75.sColumnSums := by
  obtain ⟨fd, F⟩ := c.def_ 22 (d := H75.dColumnSums) rfl
  exact ⟨_, fd, F, He.glo_ok X G (c.fact 22 (f := .glo "column_sums") rfl)⟩
theorem df_dNextCarry (X : K.In h) (G : h.Ns mainGlobals mg) (c : He.SaysD H75.fa H75.fn K) : DefOk K mg "next_carry" "next_carry" H75.sNextCarry := by
  obtain ⟨fd, F⟩ := c.def_ 23 (d := H75.dNextCarry) rfl
  exact ⟨_, fd, F, He.glo_ok X G (c.fact 23 (f := .glo "next_carry") rfl)⟩
theorem df_dFirstCarry (X : K.In h) (G : h.Ns mainGlobals mg) (c : He.SaysD H75.fa H75.fn K) : DefOk K mg "first_carry" "first_carry" H75.sFirstCarry := by
  obtain ⟨fd, F⟩ := c.def_ 24 (d := H75.dFirstCarry) rfl
  exact ⟨_, fd, F, He.glo_ok X G (c.fact 24 (f := .glo "first_carry") rfl)⟩
theorem df_dCarriesOf (X : K.In h) (G : h.Ns mainGlobals mg) (c : He.SaysD H75.fa H75.fn K) : DefOk K mg "carries_of" "carries_of" H75.sCarriesOf := by
  obtain ⟨fd, F⟩ := c.def_ 25 (d := H75.dCarriesOf) rfl
  exact ⟨_, fd, F, He.glo_ok X G (c.fact 25 (f := .glo "carries_of") rfl)⟩
theorem df_dAtomMachine (X : K.In h) (G : h.Ns mainGlobals mg) (c : He.SaysD H75.fa H75.fn K) : DefOk K mg "atom_machine" "atom_machine" H75.sAtomMachine := by
  obtain ⟨fd, F⟩ := c.def_ 26 (d := H75.dAtomMachine) rfl
  exact ⟨_, fd, F, He.glo_ok X G (c.fact 26 (f := .glo "atom_machine") rfl)⟩
theorem df_dOver (X : K.In h) (G : h.Ns mainGlobals mg) (c : He.SaysD H75.fa H75.fn K) : DefOk K mg "over" "over" H75.sOver := by
  obtain ⟨fd, F⟩ := c.def_ 27 (d := H75.dOver) rfl
  exact ⟨_, fd, F, He.glo_ok X G (c.fact 27 (f := .glo "over") rfl)⟩
theorem df_dBuiltRow (X : K.In h) (G : h.Ns mainGlobals mg) (c : He.SaysD H75.fa H75.fn K) : DefOk K mg "built_row" "built_row" H75.sBuiltRow := by
  obtain ⟨fd, F⟩ := c.def_ 28 (d := H75.dBuiltRow) rfl
  exact ⟨_, fd, F, He.glo_ok X G (c.fact 28 (f := .glo "built_row") rfl)⟩
theorem df_dBuilt (X : K.In h) (G : h.Ns mainGlobals mg) (c : He.SaysD H75.fa H75.fn K) : DefOk K mg "built" "built" H75.sBuilt := by
  obtain ⟨fd, F⟩ := c.def_ 29 (d := H75.dBuilt) rfl
  exact ⟨_, fd, F, He.glo_ok X G (c.fact 29 (f := .glo "built") rfl)⟩
theorem df_dMachineOver (X : K.In h) (G : h.Ns mainGlobals mg) (c : He.SaysD H75.fa H75.fn K) : DefOk K mg "machine_over" "machine_over" H75.sMachineOver := by
  obtain ⟨fd, F⟩ := c.def_ 30 (d := H75.dMachineOver) rfl
  exact ⟨_, fd, F, He.glo_ok X G (c.fact 30 (f := .glo "machine_over") rfl)⟩
theorem df_dMachineOf (X : K.In h) (G : h.Ns mainGlobals mg) (c : He.SaysD H75.fa H75.fn K) : DefOk K mg "machine_of" "machine_of" H75.sMachineOf := by
  obtain ⟨fd, F⟩ := c.def_ 31 (d := H75.dMachineOf) rfl
  exact ⟨_, fd, F, He.glo_ok X G (c.fact 31 (f := .glo "machine_of") rfl)⟩
theorem df_dLMixed (X : K.In h) (G : h.Ns mainGlobals mg) (c : He.SaysD H75.fa H75.fn K) : DefOk K mg "_law_mixed" "_law_mixed" H75.sLMixed := by
  obtain ⟨fd, F⟩ := c.def_ 32 (d := H75.dLMixed) rfl
  exact ⟨_, fd, F, He.glo_ok X G (c.fact 32 (f := .glo "_law_mixed") rfl)⟩
theorem df_dLBegin (X : K.In h) (G : h.Ns mainGlobals mg) (c : He.SaysD H75.fa H75.fn K) : DefOk K mg "_law_begin" "_law_begin" H75.sLBegin := by
  obtain ⟨fd, F⟩ := c.def_ 33 (d := H75.dLBegin) rfl
  exact ⟨_, fd, F, He.glo_ok X G (c.fact 33 (f := .glo "_law_begin") rfl)⟩
theorem df_dLDraw (X : K.In h) (G : h.Ns mainGlobals mg) (c : He.SaysD H75.fa H75.fn K) : DefOk K mg "_law_draw" "_law_draw" H75.sLDraw := by
  obtain ⟨fd, F⟩ := c.def_ 34 (d := H75.dLDraw) rfl
  exact ⟨_, fd, F, He.glo_ok X G (c.fact 34 (f := .glo "_law_draw") rfl)⟩
theorem df_dLTerm (X : K.In h) (G : h.Ns mainGlobals mg) (c : He.SaysD H75.fa H75.fn K) : DefOk K mg "_law_term" "_law_term" H75.sLTerm := by
  obtain ⟨fd, F⟩ := c.def_ 35 (d := H75.dLTerm) rfl
  exact ⟨_, fd, F, He.glo_ok X G (c.fact 35 (f := .glo "_law_term") rfl)⟩
theorem df_dLPlain (X : K.In h) (G : h.Ns mainGlobals mg) (c : He.SaysD H75.fa H75.fn K) : DefOk K mg "_law_plain" "_law_plain" H75.sLPlain := by
  obtain ⟨fd, F⟩ := c.def_ 36 (d := H75.dLPlain) rfl
  exact ⟨_, fd, F, He.glo_ok X G (c.fact 36 (f := .glo "_law_plain") rfl)⟩
theorem df_dLAtoms (X : K.In h) (G : h.Ns mainGlobals mg) (c : He.SaysD H75.fa H75.fn K) : DefOk K mg "_law_atoms" "_law_atoms" H75.sLAtoms := by
  obtain ⟨fd, F⟩ := c.def_ 37 (d := H75.dLAtoms) rfl
  exact ⟨_, fd, F, He.glo_ok X G (c.fact 37 (f := .glo "_law_atoms") rfl)⟩
theorem df_dLWidth (X : K.In h) (G : h.Ns mainGlobals mg) (c : He.SaysD H75.fa H75.fn K) : DefOk K mg "_law_width" "_law_width" H75.sLWidth := by
  obtain ⟨fd, F⟩ := c.def_ 38 (d := H75.dLWidth) rfl
  exact ⟨_, fd, F, He.glo_ok X G (c.fact 38 (f := .glo "_law_width") rfl)⟩
theorem df_dLAtom (X : K.In h) (G : h.Ns mainGlobals mg) (c : He.SaysD H75.fa H75.fn K) : DefOk K mg "_law_atom" "_law_atom" H75.sLAtom := by
  obtain ⟨fd, F⟩ := c.def_ 39 (d := H75.dLAtom) rfl
  exact ⟨_, fd, F, He.glo_ok X G (c.fact 39 (f := .glo "_law_atom") rfl)⟩
theorem df_dLStart (X : K.In h) (G : h.Ns mainGlobals mg) (c : He.SaysD H75.fa H75.fn K) : DefOk K mg "_law_start" "_law_start" H75.sLStart := by
  obtain ⟨fd, F⟩ := c.def_ 40 (d := H75.dLStart) rfl
  exact ⟨_, fd, F, He.glo_ok X G (c.fact 40 (f := .glo "_law_start") rfl)⟩
theorem df_dLMore (X : K.In h) (G : h.Ns mainGlobals mg) (c : He.SaysD H75.fa H75.fn K) : DefOk K mg "_law_more" "_law_more" H75.sLMore := by
  obtain ⟨fd, F⟩ := c.def_ 41 (d := H75.dLMore) rfl
  exact ⟨_, fd, F, He.glo_ok X G (c.fact 41 (f := .glo "_law_more") rfl)⟩
theorem df_dLLeft (X : K.In h) (G : h.Ns mainGlobals mg) (c : He.SaysD H75.fa H75.fn K) : DefOk K mg "_law_left" "_law_left" H75.sLLeft := by
  obtain ⟨fd, F⟩ := c.def_ 42 (d := H75.dLLeft) rfl
  exact ⟨_, fd, F, He.glo_ok X G (c.fact 42 (f := .glo "_law_left") rfl)⟩
theorem df_dLRests (X : K.In h) (G : h.Ns mainGlobals mg) (c : He.SaysD H75.fa H75.fn K) : DefOk K mg "_law_rests" "_law_rests" H75.sLRests := by
  obtain ⟨fd, F⟩ := c.def_ 43 (d := H75.dLRests) rfl
  exact ⟨_, fd, F, He.glo_ok X G (c.fact 43 (f := .glo "_law_rests") rfl)⟩
theorem df_dLTrueThere (X : K.In h) (G : h.Ns mainGlobals mg) (c : He.SaysD H75.fa H75.fn K) : DefOk K mg "_law_true_there" "_law_true_there" H75.sLTrueThere := by
  obtain ⟨fd, F⟩ := c.def_ 44 (d := H75.dLTrueThere) rfl
  exact ⟨_, fd, F, He.glo_ok X G (c.fact 44 (f := .glo "_law_true_there") rfl)⟩
theorem df_dLBy (X : K.In h) (G : h.Ns mainGlobals mg) (c : He.SaysD H75.fa H75.fn K) : DefOk K mg "_law_by" "_law_by" H75.sLBy := by
  obtain ⟨fd, F⟩ := c.def_ 45 (d := H75.dLBy) rfl
  exact ⟨_, fd, F, He.glo_ok X G (c.fact 45 (f := .glo "_law_by") rfl)⟩
theorem df_dLAgrees (X : K.In h) (G : h.Ns mainGlobals mg) (c : He.SaysD H75.fa H75.fn K) : DefOk K mg "_law_agrees" "_law_agrees" H75.sLAgrees := by
  obtain ⟨fd, F⟩ := c.def_ 46 (d := H75.dLAgrees) rfl
  exact ⟨_, fd, F, He.glo_ok X G (c.fact 46 (f := .glo "_law_agrees") rfl)⟩
theorem df_dLaw (X : K.In h) (G : h.Ns mainGlobals mg) (c : He.SaysD H75.fa H75.fn K) : DefOk K mg "law" "law" H75.sLaw := by
  obtain ⟨fd, F⟩ := c.def_ 47 (d := H75.dLaw) rfl
  exact ⟨_, fd, F, He.glo_ok X G (c.fact 47 (f := .glo "law") rfl)⟩
theorem cst_of (X : K.In h) (G : h.Ns mainGlobals mg) (c : H75.Says K) : Cst K mg :=
  ⟨⟨He.free_ok X G (c.d.fact 48 (f := .free "len") rfl), He.free_ok X G (c.d.fact 49 (f := .free "int") rfl), He.free_ok X G (c.d.fact 50 (f := .free "bool") rfl), He.free_ok X G (c.d.fact 51 (f := .free "str") rfl), He.free_ok X G (c.d.fact 52 (f := .free "list") rfl), He.free_ok X G (c.d.fact 53 (f := .free "tuple") rfl), He.free_ok X G (c.d.fact 54 (f := .free "set") rfl), He.free_ok X G (c.d.fact 55 (f := .free "sorted") rfl), He.free_ok X G (c.d.fact 56 (f := .free "sum") rfl), He.free_ok X G (c.d.fact 57 (f := .free "enumerate") rfl), He.free_ok X G (c.d.fact 58 (f := .free "zip") rfl), He.free_ok X G (c.d.fact 59 (f := .free "range") rfl), He.free_ok X G (c.d.fact 60 (f := .free "isinstance") rfl)⟩, He.int_ok X G (c.d.fact 61 (f := .int "WIDEST" 4) rfl), He.int_ok X G (c.d.fact 62 (f := .int "NAMES" 10) rfl), He.int_ok X G (c.d.fact 63 (f := .int "GREATEST" 1000000000) rfl), He.int_ok X G (c.d.fact 64 (f := .int "MOST_PARTS" 2000) rfl), He.int_ok X G (c.d.fact 65 (f := .int "MOST_DEEP" 20) rfl), He.int_ok X G (c.d.fact 66 (f := .int "MOST_MODULUS" 1000000) rfl), He.int_ok X G (c.d.fact 67 (f := .int "MOST_REACHED" 300) rfl), He.int_ok X G (c.d.fact 68 (f := .int "MOST_NAMES" 6) rfl), ⟨_, He.glo_ok X G (c.d.fact 69 (f := .glo "POWERS") rfl), ex_tup c.x⟩⟩
theorem law_ok (X : K.In h) (G : h.Ns mainGlobals mg) (C : Cst K mg) (c : He.SaysD H75.fa H75.fn K) {f : Addr} {fd : FuncData} (F : FunD K "law" "law" (defArgs H75.sLaw) (defBody H75.sLaw) (defScope H75.sLaw) [] [] f fd) : FnOk P w K mg base CX0 27 f fd ["_law_script"] (spLaw K) := by
  have gXdigits_of := ok_digits_of (P := P) (w := w) (base := base) C (df_dDigitsOf X G c) 
  have gXcolumns_for := ok_columns_for (P := P) (w := w) (base := base) C (df_dColumnsFor X G c) gXdigits_of
  have gXreached_of := ok_reached_of (P := P) (w := w) (base := base) C (df_dReachedOf X G c) 
  have gXkinds_of := ok_kinds_of (P := P) (w := w) (base := base) C (df_dKindsOf X G c) 
  have gXleast_of := ok_least_of (P := P) (w := w) (base := base) C (df_dLeastOf X G c) gXreached_of gXkinds_of
  have gColumns : GColumns P w K mg base := gXcolumns_for
  have gLeast : GLeast P w K mg base := gXleast_of
  have gSpread := ok_spread (P := P) (w := w) (base := base) C (df_dSpread X G c) gColumns gLeast
  have gXopposite := ok_opposite (P := P) (w := w) (base := base) C (df_dOpposite X G c) 
  have gPairs := ok_pairs_of (P := P) (w := w) (base := base) C (df_dPairsOf X G c) 
  have gEndBy := ok_end_by (P := P) (w := w) (base := base) (df_dEndBy X G c) 
  have gPaired := ok_paired (P := P) (w := w) (base := base) C (df_dPaired X G c) gPairs gEndBy
  have gIsFrom := ok_is_from (P := P) (w := w) (base := base) C (df_dIsFrom X G c) 
  have gNeedMany := ok_need_many (P := P) (w := w) (base := base) C (df_dNeedMany X G c) gIsFrom
  have gArePairs := ok_are_pairs (P := P) (w := w) (base := base) C (df_dArePairs X G c) gIsFrom
  have gIsTerm := ok_is_term (P := P) (w := w) (base := base) C (df_dIsTerm X G c) gIsFrom gArePairs
  have gHasForm := ok_has_form (P := P) (w := w) (base := base) C (df_dHasForm X G c) gIsFrom gIsTerm
  have gInner := ok_inner (P := P) (w := w) (base := base) C (df_dInner X G c) 
  have gPlace := ok_place_of (P := P) (w := w) (base := base) C (df_dPlaceOf X G c) 
  have gWalked := ok_walked (P := P) (w := w) (base := base) C (df_dWalked X G c) gHasForm gInner gPlace
  have gNeedFormula := ok_need_formula (P := P) (w := w) (base := base) C (df_dNeedFormula X G c) (gWalked 8)
  have gListed := ok_listed (P := P) (w := w) (base := base) C (df_dListed X G c) gInner gPlace
  have gFree := ok_free_in (P := P) (w := w) (base := base) C (df_dFreeIn X G c) gInner
  have gNeedWide := ok_need_wide (P := P) (w := w) (base := base) C (df_dNeedWide X G c) gNeedMany gNeedFormula (gFree 8)
  have gSums := ok_column_sums (P := P) (w := w) (base := base) C (df_dColumnSums X G c) 
  have gNext := ok_next_carry (P := P) (w := w) (base := base) C (df_dNextCarry X G c) 
  have gFirst := ok_first_carry (P := P) (w := w) (base := base) C (df_dFirstCarry X G c) 
  have gCarries := ok_carries_of (P := P) (w := w) (base := base) C (df_dCarriesOf X G c) gSums gNext gFirst
  have gAtom := ok_atom_machine (P := P) (w := w) (base := base) C (df_dAtomMachine X G c) gCarries gLeast
  have gOver := ok_over (P := P) (w := w) (base := base) C (df_dOver X G c) gSpread
  have gBuiltRow := fun n => ok_built_row (P := P) (w := w) (base := base) C (df_dBuiltRow X G c) gPaired gOver gLeast n
  have gBuilt := ok_built (P := P) (w := w) (base := base) C (df_dBuilt X G c) gBuiltRow gXopposite gAtom
  have gMachineOver := ok_machine_over (P := P) (w := w) (base := base) C (df_dMachineOver X G c) (gListed 8) (gFree 8) (gBuilt 8)
  have gMachineOf := ok_machine_of (P := P) (w := w) (base := base) C (df_dMachineOf X G c) gNeedWide gMachineOver gSpread
  have gWidth := ok_width (P := P) (w := w) (base := base) (df_dLWidth X G c) 
  have gStart := ok_start (P := P) (w := w) (base := base) C (df_dLStart X G c) 
  have gMore := ok_more (P := P) (w := w) (base := base) C (df_dLMore X G c) 
  have gLeft := ok_left (P := P) (w := w) (base := base) C (df_dLLeft X G c) gMore
  have gTrue := ok_true (P := P) (w := w) (base := base) (df_dLTrueThere X G c) 
  have gAtoms := ok_atoms (P := P) (w := w) (base := base) C (df_dLAtoms X G c) 
  have gBy := ok_by (P := P) (w := w) (base := base) (df_dLBy X G c) 
  have gRests := ok_rests (P := P) (w := w) (base := base) C (df_dLRests X G c) gStart gLeft gWidth
  have gAgrees := ok_agrees (P := P) (w := w) (base := base) C (df_dLAgrees X G c) gStart gLeft gWidth (gAtoms 8) gTrue (gBy 8)
  have gMixed := ok_mixed (P := P) (w := w) (base := base) C (df_dLMixed X G c) 
  have gDraw := ok_draw (P := P) (w := w) (base := base) C (df_dLDraw X G c) gMixed
  have gTerm := ok_term (P := P) (w := w) (base := base) C (df_dLTerm X G c) gDraw
  have gAtomL := ok_atomL (P := P) (w := w) (base := base) C (df_dLAtom X G c) gDraw gTerm
  have gPlain := ok_plain (P := P) (w := w) (base := base) C (df_dLPlain X G c) gDraw gAtomL
  have gBegin := ok_begin (P := P) (w := w) (base := base) C (df_dLBegin X G c) 
  exact ok_law C F gBegin gDraw (gPlain 3) (gAtoms 8) gRests gMachineOf gAgrees
end
end K75
set_option maxHeartbeats 0
open PySem PySem.W PySem.Calls PyProof.Rows
theorem PySem.Challenge.cw_wholesay_k75_whole_machines_and_carries_holds : PySem.Challenge.rw_wholesay_k75_whole_machines_and_carries.Holds := by
  w_on; o_law
  refine HandSHeadRun.head_any (r := OpenLaw.row PySem.Challenge.rw_wholesay_k75_whole_machines_and_carries) (q := view (OpenLaw.row PySem.Challenge.rw_wholesay_k75_whole_machines_and_carries).prog [73]) (H := H75.hk) (ob := H75.ob) (M := 3000) (loose := H75.loose) (d := HandSHeadRun.topDef (OpenLaw.row PySem.Challenge.rw_wholesay_k75_whole_machines_and_carries).prog 73) (kwd := []) H75.ob_eq
    (by kernel_rfl) (fun s => by kernel_rfl) H75.run (by kernel_rfl) (by kernel_rfl) (by kernel_rfl) (by rfl) (by first | assumption | decide +kernel) (by decide +kernel) ⟨rfl, rfl, rfl, rfl, rfl, by decide +kernel⟩ ?hw ?hc
  case hw => w_witness2
  case hc =>
    refine L2.walk_ofE (l := PySem.Challenge.rw_wholesay_k75_whole_machines_and_carries) (n := 63) (k := 27) (x := "_law_script") (CX := L2.CX0) rfl (by decide) (by kernel_rfl) ⟨rfl, by decide, by decide⟩ ?F (fun _ _ _ _ z => z)
    intro w mg fa h Y G hmg0
    obtain ⟨K, KX, c⟩ := Y
    have hmg : mg ("law" : PySem.Str) = some (.ref fa) := by
      have e : (HandSHeadRun.topDef (OpenLaw.row PySem.Challenge.rw_wholesay_k75_whole_machines_and_carries).prog 73).name = ("law" : PySem.Str) := by kernel_rfl
      rw [← e]
      exact hmg0
    obtain ⟨fd, F⟩ := c.d.def_ 47 (d := H75.dLaw) rfl
    have e := hmg.symm.trans (He.glo_ok KX G (c.d.fact 47 (f := .glo "law") rfl))
    cases e
    have b := L2.FunD.bindsA (ps := ["_law_script"]) F fun _ _ _ _ _ _ us hl => match us, hl with | [_], _ => rfl
    have C := K75.cst_of KX G c
    exact ⟨K, fd, K75.spLaw K, KX, fun s v => b s [v] rfl, fun H a ns hl _ hS => ⟨a, ns, rfl, hS, Nat.le_trans hl (by decide), fun _ => rfl⟩, fun base _ _ => K75.law_ok (P := (PySem.Challenge.rw_wholesay_k75_whole_machines_and_carries).prog) KX G C c.d F⟩
