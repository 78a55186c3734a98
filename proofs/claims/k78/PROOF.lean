import PyProof.Rows.All
import Wide.All
import OpenK.AllK
import Wide.FinOn
import HandS.Comp
import HandS.Words
import HandS.Iter
import HandS.Ends
import HandS.List
import HandS.Style
import HandS.Wide
import HandS.WideBits
import HandS.TupAny
import HandS.IsInst
import HandS.Zip
import HandS.Deep
import HandS.Text
import KE.KDictKeyed
import KE.LtData
import KE.SortData
import KE.KDictCopyH
import HandS.CallLocal
import HandS.Flow
import HandS.Conv
import HandS.TupMul
import KE.KRevSl
import HandS.SortInts
import KE.KDictPairs
import HandS.Dict
import HandS.Rev
import KE.KDictWalk
import KE.KDictSum
import HandS.ExcValue
import PyProof.SeqIndex
import HandS.RaiseMore
import KE.GoesMore
import HandS.NoneIn
import HandS.TupSets
import HandS.SetTxt0
import HandS.SetFor
import HandS.Strs
import HandS.EndBits
import HandS.Defaults
import PySem.Challenge.RW_firetogether_k78_desk_reckons
set_option Elab.async false
set_option linter.all false
set_option maxRecDepth 100000
set_option maxHeartbeats 4000000
namespace Ab
open PySem PySem.Spec PyProof.Rows L2

/-! abstract data: what never changes is a value, what changes lies in a store -/
inductive D where
  | non | bl (b : Bool) | int (i : Int) | str (x : Str) | tup (xs : List D) | ro (xs : List D) | loc (n : Nat) | ty (n : String)
  | dic (ks vs : List D) | dloc (n : Nat) | obj (C : Str) (ns : List Str) (fs : List D) | fn (n : Str)
inductive Ob where
  | lst (xs : List D)
  | dic (ks vs : List D)
  | ins (C : Str) (ns : List Str) (fs : List D)
  | gone (d : D)
abbrev Mu := List Ob
abbrev Sl := List (Option D)

/-- what a reading leans on: the module's part, the world, the program -/
structure Kx where
  k : PySem.W.Frag
  w : World
  P : Program
instance : CoeOut Kx PySem.W.Frag := ⟨Kx.k⟩
/-- where the module's def or class of this name stands -/
def glA (K : Kx) (x : Str) : Option Addr := match PySem.W.nsIn K.k mainGlobals x with
  | some (some (.ref a)) => some a
  | _ => none

/-! keys -/
mutual
def nk : D → Option NestedKey
  | .non => some .none
  | .bl b => some (.num (if b = true then 1 else 0))
  | .int i => some (.num i)
  | .str x => some (.text x)
  | .tup xs => (nks xs).map .tup
  | _ => none
def nks : List D → Option (List NestedKey)
  | [] => some []
  | x :: xs => match nk x, nks xs with
    | some a, some r => some (a :: r)
    | _, _ => none
end
def isTup : D → Bool
  | .tup _ => true | _ => false
def isLeaf : D → Bool
  | .int _ => true | .str _ => true | _ => false
/-- the entries of a dict's object: its keys (kvs), what stands at them (us) -/
def DicS (K : Kx) (o : Obj) (ks : List D) (kvs us : List V) : Prop :=
  o.ExactDict ∧ ∃ (es : Array DictEntry) (ep : Nat) (ns : List NestedKey) (ys ws : List Value), o.data = .dict es ep ∧ nks ks = some ns ∧ ns.Nodup ∧ (∀ n ∈ ns, n.depth ≤ 8) ∧ (ks.all isTup = true ∨ ks.all isLeaf = true) ∧
    Vals kvs ys ∧ Vals us ws ∧ ns.length = ys.length ∧ ns.length = ws.length ∧ ns.length ≤ sizeLine ∧ es.toList = (ns.zip (ys.zip ws)).map fun x => ⟨x.1.hash K.w, x.2.1, x.2.2⟩
/-- a dict, by its object -/
def dicO (a : Addr) (o : Obj) : HO := .ext fun h => h.get? a = some o

/-- the object at a is o for good -/
def FzD (K : Kx) (H : Hp) (a : Addr) (o : Obj) : Prop := (∃ u, H a = some (.frz o u)) ∨ K.k.lookup a = some o
/-- a list that never changes -/
def SqF (K : Kx) (H : Hp) (a : Addr) (xs : List V) : Prop :=
  (∃ o, H a = some (.frz o (.lst xs))) ∨
    ∃ (o : Obj) (its : Array Value) (n : Nat), K.k.lookup a = some o ∧ o.cls = .type "list" ∧ o.dict = none ∧ o.data = .seq its n ∧ its.size ≤ sizeLine ∧ Vals xs its.toList
theorem SqF.sq {K : Kx} {H : Hp} {a : Addr} {xs : List V} (h : SqF K H a xs) : SqL K H a xs := by
  rcases h with h | h
  · exact .inl (.inr h)
  · exact .inr h

mutual
def Rp (K : Kx) (H : Hp) (r : List Addr) : D → V → Prop
  | .non, v => v = .non
  | .bl b, v => v = .bl b
  | .int i, v => v = .int i
  | .str x, v => v = .str x
  | .tup xs, v => ∃ a vs, v = .ref a ∧ SqT K H a vs ∧ RpL K H r xs vs
  | .ro xs, v => ∃ a vs, v = .ref a ∧ SqF K H a vs ∧ RpL K H r xs vs
  | .loc n, v => ∃ a, r[n]? = some a ∧ v = .ref a
  | .ty n, v => v = .ty n
  | .dic ks vs, v => ∃ a o kvs us, v = .ref a ∧ FzD K H a o ∧ (a == sysModules) = false ∧ DicS K o ks kvs us ∧ RpL K H r ks kvs ∧ RpL K H r vs us
  | .dloc n, v => ∃ a, r[n]? = some a ∧ v = .ref a
  | .obj C ns fs, v => ∃ a o c dx us, v = .ref a ∧ glA K C = some c ∧ H a = some (.frz o (.ins c dx (ns.zip us))) ∧ H dx = some (.own a) ∧ ns.length = us.length ∧ RpL K H r fs us
  | .fn n, v => ∃ a, v = .ref a ∧ glA K n = some a
def RpL (K : Kx) (H : Hp) (r : List Addr) : List D → List V → Prop
  | [], vs => vs = []
  | x :: xs, vs => ∃ v t, vs = v :: t ∧ Rp K H r x v ∧ RpL K H r xs t
end

/-- what is laid for good stays -/
structure Ext (H H' : Hp) : Prop where
  tup : ∀ a xs, H a = some (.tup xs) → H' a = some (.tup xs)
  frz : ∀ a o u, H a = some (.frz o u) → H' a = some (.frz o u)
  own : ∀ a x, H a = some (.own x) → H' a = some (.own x)
def Pre (r r' : List Addr) : Prop := ∀ (i : Nat) (a : Addr), r[i]? = some a → r'[i]? = some a
theorem Ext.refl (H : Hp) : Ext H H := ⟨fun _ _ h => h, fun _ _ _ h => h, fun _ _ h => h⟩
theorem Ext.trans {H H1 H2 : Hp} (a : Ext H H1) (b : Ext H1 H2) : Ext H H2 := ⟨fun x y h => b.tup x y (a.tup x y h), fun x y z h => b.frz x y z (a.frz x y z h), fun x y h => b.own x y (a.own x y h)⟩
theorem Ext.same {H H' : Hp} (e : Same H H') : Ext H H' := ⟨fun a xs h => e _ _ h, fun a o u h => e _ _ h, fun a x h => e _ _ h⟩
theorem Pre.refl (r : List Addr) : Pre r r := fun _ _ h => h
theorem Pre.trans {r r1 r2 : List Addr} (a : Pre r r1) (b : Pre r1 r2) : Pre r r2 := fun i x h => b i x (a i x h)
theorem Pre.app (r s : List Addr) : Pre r (r ++ s) := fun i a h => by
  rw [List.getElem?_append_left (List.getElem?_eq_some_iff.mp h).1]; exact h
theorem Pre.len {r r' : List Addr} (h : Pre r r') : r.length ≤ r'.length := by
  by_cases hz : r.length = 0
  · omega
  · have h1 : r.length - 1 < r.length := by omega
    have h2 := h (r.length - 1) _ (List.getElem?_eq_getElem h1)
    have h3 := (List.getElem?_eq_some_iff.mp h2).1
    omega
theorem sqT_ext {K : Kx} {H H' : Hp} {a : Addr} {xs : List V} (e : Ext H H') (h : SqT K H a xs) : SqT K H' a xs := by
  rcases h with (h | ⟨o, h⟩) | h
  · exact .inl (.inl (e.tup _ _ h))
  · exact .inl (.inr ⟨o, e.frz _ _ _ h⟩)
  · exact .inr h
theorem sqF_ext {K : Kx} {H H' : Hp} {a : Addr} {xs : List V} (e : Ext H H') (h : SqF K H a xs) : SqF K H' a xs := by
  rcases h with ⟨o, h⟩ | h
  · exact .inl ⟨o, e.frz _ _ _ h⟩
  · exact .inr h
mutual
theorem Rp.ext {K : Kx} {H H' : Hp} {r r' : List Addr} (e : Ext H H') (p : Pre r r') : ∀ (d : D) (v : V), Rp K H r d v → Rp K H' r' d v
  | .non, v, h => h
  | .bl b, v, h => h
  | .int i, v, h => h
  | .str x, v, h => h
  | .tup xs, v, h => by
    obtain ⟨a, vs, h1, h2, h3⟩ := h
    exact ⟨a, vs, h1, sqT_ext e h2, RpL.ext e p xs vs h3⟩
  | .ro xs, v, h => by
    obtain ⟨a, vs, h1, h2, h3⟩ := h
    exact ⟨a, vs, h1, sqF_ext e h2, RpL.ext e p xs vs h3⟩
  | .loc n, v, h => by
    obtain ⟨a, h1, h2⟩ := h
    exact ⟨a, p _ _ h1, h2⟩
  | .ty n, v, h => h
  | .dic ks vs, v, h => by
    obtain ⟨a, o, kvs, us, h1, h2, h3, h4, h5, h6⟩ := h
    exact ⟨a, o, kvs, us, h1, h2.imp (fun ⟨u, z⟩ => ⟨u, e.frz _ _ _ z⟩) id, h3, h4, RpL.ext e p ks kvs h5, RpL.ext e p vs us h6⟩
  | .dloc n, v, h => by
    obtain ⟨a, h1, h2⟩ := h
    exact ⟨a, p _ _ h1, h2⟩
  | .obj C ns fs, v, h => by
    obtain ⟨a, o, c, dx, us, h1, hc, h2, h3, h4, h5⟩ := h
    exact ⟨a, o, c, dx, us, h1, hc, e.frz _ _ _ h2, e.own _ _ h3, h4, RpL.ext e p fs us h5⟩
  | .fn n, v, h => h
theorem RpL.ext {K : Kx} {H H' : Hp} {r r' : List Addr} (e : Ext H H') (p : Pre r r') : ∀ (xs : List D) (vs : List V), RpL K H r xs vs → RpL K H' r' xs vs
  | [], vs, h => h
  | x :: xs, vs, h => by
    obtain ⟨v, t, h1, h2, h3⟩ := h
    exact ⟨v, t, h1, Rp.ext e p x v h2, RpL.ext e p xs t h3⟩
end
section
variable {K : Kx} {H H' : Hp} {r r' : List Addr}
theorem RpL.length : ∀ {xs : List D} {vs : List V}, RpL K H r xs vs → xs.length = vs.length
  | [], vs, h => by have h' : vs = [] := h; rw [h']; rfl
  | x :: xs, vs, h => by
    obtain ⟨v, t, rfl, h2, h3⟩ := h
    rw [List.length_cons, List.length_cons, RpL.length h3]
theorem RpL.get : ∀ {xs : List D} {vs : List V} {i : Nat} {d : D}, RpL K H r xs vs → xs[i]? = some d → ∃ v, vs[i]? = some v ∧ Rp K H r d v
  | [], vs, i, d, h, e => by simp at e
  | x :: xs, vs, i, d, h, e => by
    obtain ⟨v, t, rfl, h2, h3⟩ := h
    cases i with
    | zero => simp at e; subst e; exact ⟨v, rfl, h2⟩
    | succ i =>
      obtain ⟨u, hu, hr⟩ := RpL.get (i := i) h3 (by simpa using e)
      exact ⟨u, by simpa using hu, hr⟩
theorem RpL.get' : ∀ {xs : List D} {vs : List V} {i : Nat} {v : V}, RpL K H r xs vs → vs[i]? = some v → ∃ d, xs[i]? = some d ∧ Rp K H r d v := by
  intro xs vs i v h e
  have hl := h.length
  have hi : i < xs.length := by have := (List.getElem?_eq_some_iff.mp e).1; omega
  obtain ⟨u, hu, hr⟩ := h.get (List.getElem?_eq_getElem hi)
  rw [e] at hu; cases hu
  exact ⟨_, List.getElem?_eq_getElem hi, hr⟩
theorem RpL.append : ∀ {xs ys : List D} {vs ws : List V}, RpL K H r xs vs → RpL K H r ys ws → RpL K H r (xs ++ ys) (vs ++ ws)
  | [], ys, vs, ws, h, g => by have h' : vs = [] := h; rw [h']; exact g
  | x :: xs, ys, vs, ws, h, g => by
    obtain ⟨v, t, rfl, h2, h3⟩ := h
    exact ⟨v, t ++ ws, rfl, h2, RpL.append h3 g⟩
theorem RpL.set : ∀ {xs : List D} {vs : List V} (i : Nat) {d : D} {v : V}, RpL K H r xs vs → Rp K H r d v → RpL K H r (xs.set i d) (vs.set i v)
  | [], vs, i, d, v, h, g => by have h' : vs = [] := h; rw [h']; rfl
  | x :: xs, vs, i, d, v, h, g => by
    obtain ⟨v0, t, rfl, h2, h3⟩ := h
    cases i with
    | zero => exact ⟨v, t, rfl, g, h3⟩
    | succ i => exact ⟨v0, t.set i v, rfl, h2, RpL.set i h3 g⟩
theorem RpL.take : ∀ {xs : List D} {vs : List V} (n : Nat), RpL K H r xs vs → RpL K H r (xs.take n) (vs.take n)
  | xs, vs, 0, h => by rw [List.take_zero, List.take_zero]; rfl
  | [], vs, n + 1, h => by have h' : vs = [] := h; rw [h']; rfl
  | x :: xs, vs, n + 1, h => by
    obtain ⟨v, t, rfl, h2, h3⟩ := h
    exact ⟨v, t.take n, rfl, h2, RpL.take n h3⟩
theorem RpL.drop : ∀ {xs : List D} {vs : List V} (n : Nat), RpL K H r xs vs → RpL K H r (xs.drop n) (vs.drop n)
  | xs, vs, 0, h => by rw [List.drop_zero, List.drop_zero]; exact h
  | [], vs, n + 1, h => by have h' : vs = [] := h; rw [h']; rfl
  | x :: xs, vs, n + 1, h => by
    obtain ⟨v, t, rfl, h2, h3⟩ := h
    exact RpL.drop n h3
theorem RpL.one {d : D} {v : V} (h : Rp K H r d v) : RpL K H r [d] [v] := ⟨v, [], rfl, h, rfl⟩
theorem RpL.reverse : ∀ {xs : List D} {vs : List V}, RpL K H r xs vs → RpL K H r xs.reverse vs.reverse
  | [], vs, h => by have h' : vs = [] := h; rw [h']; rfl
  | x :: xs, vs, h => by
    obtain ⟨v, t, rfl, h2, h3⟩ := h
    rw [List.reverse_cons, List.reverse_cons]
    exact RpL.append (RpL.reverse h3) (RpL.one h2)
theorem RpL.replicate {d : D} {v : V} (h : Rp K H r d v) : ∀ n, RpL K H r (List.replicate n d) (List.replicate n v)
  | 0 => rfl
  | n + 1 => ⟨v, List.replicate n v, rfl, h, RpL.replicate h n⟩
theorem RpL.ints : ∀ (ns : List Int), RpL K H r (ns.map D.int) (ns.map V.int)
  | [] => rfl
  | n :: ns => ⟨.int n, ns.map V.int, rfl, rfl, RpL.ints ns⟩
end

def ObR (K : Kx) (H : Hp) (r : List Addr) (a : Addr) : Ob → Prop
  | .lst xs => ∃ vs, H a = some (.lst vs) ∧ RpL K H r xs vs
  | .dic ks vs => ∃ o kvs us, H a = some (dicO a o) ∧ (a == sysModules) = false ∧ DicS K o ks kvs us ∧ RpL K H r ks kvs ∧ RpL K H r vs us
  | .ins C ns fs => ∃ c dx us, glA K C = some c ∧ H a = some (.ins c dx (ns.zip us)) ∧ H dx = some (.own a) ∧ ns.length = us.length ∧ RpL K H r fs us
  | .gone d => Rp K H r d (.ref a) ∧ ∃ o, H a = some o
/-- it may be written, and is no list, no dict, no instance other than it -/
def ObK (H : Hp) (a : Addr) : Prop := (∃ vs, H a = some (.lst vs)) ∨ (∃ φ, H a = some (.ext φ)) ∨ ∃ C dx fs, H a = some (.ins C dx fs)
def isGone : Ob → Bool
  | .gone _ => true | _ => false
theorem ObR.k {K : Kx} {H : Hp} {r : List Addr} {a : Addr} : ∀ {o : Ob}, isGone o = false → ObR K H r a o → ObK H a
  | .lst _, _, ⟨vs, h, _⟩ => .inl ⟨vs, h⟩
  | .dic _ _, _, ⟨_, _, _, h, _⟩ => .inr (.inl ⟨_, h⟩)
  | .ins _ _ _, _, ⟨_, _, _, _, h, _⟩ => .inr (.inr ⟨_, _, _, h⟩)
theorem ObK.some_ {H : Hp} {a : Addr} (h : ObK H a) : ∃ o, H a = some o := by
  rcases h with ⟨_, h⟩ | ⟨_, h⟩ | ⟨_, _, _, h⟩ <;> exact ⟨_, h⟩
theorem ObR.some_ {K : Kx} {H : Hp} {r : List Addr} {a : Addr} : ∀ {o : Ob}, ObR K H r a o → ∃ u, H a = some u
  | .lst _, ⟨vs, h, _⟩ => ⟨_, h⟩
  | .dic _ _, ⟨_, _, _, h, _⟩ => ⟨_, h⟩
  | .ins _ _ _, ⟨_, _, _, _, h, _⟩ => ⟨_, h⟩
  | .gone _, ⟨_, h⟩ => h
structure RMu (K : Kx) (H : Hp) (r : List Addr) (m : Mu) : Prop where
  len : r.length = m.length
  nd : r.Nodup
  ob : ∀ (i : Nat) (a : Addr) (o : Ob), r[i]? = some a → m[i]? = some o → ObR K H r a o
/-- known slots -/
structure RSl (K : Kx) (H : Hp) (r : List Addr) (sl : Sl) (σ : L2.St) : Prop where
  len : sl.length = σ.length
  at_ : ∀ (i : Nat) (d : D), sl[i]? = some (some d) → ∃ v, σ[i]? = some (some v) ∧ Rp K H r d v
section
variable {K : Kx} {H H' : Hp} {r r' : List Addr} {m m' : Mu} {sl : Sl} {σ : L2.St}
theorem RSl.ext (e : Ext H H') (p : Pre r r') (h : RSl K H r sl σ) : RSl K H' r' sl σ := ⟨h.len, fun i d q => by
  obtain ⟨v, h1, h2⟩ := h.at_ i d q
  exact ⟨v, h1, Rp.ext e p d v h2⟩⟩
theorem RSl.set (h : RSl K H r sl σ) {i : Nat} {d : D} {v : V} (g : Rp K H r d v) : RSl K H r (sl.set i (some d)) (σ.set i (some v)) := by
  refine ⟨by rw [List.length_set, List.length_set]; exact h.len, fun j x q => ?_⟩
  by_cases hj : i = j
  · subst hj
    have hi : i < sl.length := by
      have := (List.getElem?_eq_some_iff.mp q).1
      rw [List.length_set] at this; exact this
    rw [List.getElem?_set_self hi] at q
    cases q
    exact ⟨v, List.getElem?_set_self (by rw [← h.len]; exact hi), g⟩
  · rw [List.getElem?_set_ne hj] at q
    obtain ⟨u, h1, h2⟩ := h.at_ j x q
    exact ⟨u, by rw [List.getElem?_set_ne hj]; exact h1, h2⟩
theorem RSl.unset (h : RSl K H r sl σ) {i : Nat} {o : Option V} : RSl K H r (sl.set i none) (σ.set i o) := by
  refine ⟨by rw [List.length_set, List.length_set]; exact h.len, fun j x q => ?_⟩
  by_cases hj : i = j
  · subst hj
    have hi : i < sl.length := by
      have := (List.getElem?_eq_some_iff.mp q).1
      rw [List.length_set] at this; exact this
    rw [List.getElem?_set_self hi] at q
    cases q
  · rw [List.getElem?_set_ne hj] at q
    obtain ⟨u, h1, h2⟩ := h.at_ j x q
    exact ⟨u, by rw [List.getElem?_set_ne hj]; exact h1, h2⟩
theorem RMu.at_lst (h : RMu K H r m) {i : Nat} {xs : List D} (e : m[i]? = some (.lst xs)) : ∃ a vs, r[i]? = some a ∧ H a = some (.lst vs) ∧ RpL K H r xs vs := by
  have hi := (List.getElem?_eq_some_iff.mp e).1
  have hr : i < r.length := by rw [h.len]; exact hi
  obtain ⟨vs, h1, h2⟩ := h.ob i _ _ (List.getElem?_eq_getElem hr) e
  exact ⟨_, vs, List.getElem?_eq_getElem hr, h1, h2⟩
theorem RMu.trk (h : RMu K H r m) {i : Nat} {a : Addr} (e : r[i]? = some a) : ∃ u, H a = some u := by
  have hi := (List.getElem?_eq_some_iff.mp e).1
  have hm : i < m.length := by rw [← h.len]; exact hi
  exact (h.ob i a _ e (List.getElem?_eq_getElem hm)).some_
/-- what was tracked stays as it was: the store stays -/
theorem ObR.same {a : Addr} (e : Same H H') (p : Pre r r') : ∀ {o : Ob}, ObR K H r a o → ObR K H' r' a o
  | .lst xs, ⟨vs, h1, h2⟩ => ⟨vs, e _ _ h1, RpL.ext (Ext.same e) p xs vs h2⟩
  | .dic ks vs, ⟨o, kvs, us, h1, h2, h3, h4, h5⟩ => ⟨o, kvs, us, e _ _ h1, h2, h3, RpL.ext (Ext.same e) p ks kvs h4, RpL.ext (Ext.same e) p vs us h5⟩
  | .ins C ns fs, ⟨c, dx, us, hc, h1, h2, h3, h4⟩ => ⟨c, dx, us, hc, e _ _ h1, e _ _ h2, h3, RpL.ext (Ext.same e) p fs us h4⟩
  | .gone d, ⟨h1, o, h2⟩ => ⟨Rp.ext (Ext.same e) p d _ h1, o, e _ _ h2⟩
theorem RMu.same (e : Same H H') (h : RMu K H r m) : RMu K H' r m := ⟨h.len, h.nd, fun i a o q1 q2 => ObR.same e (Pre.refl r) (h.ob i a o q1 q2)⟩
theorem same_new {p : Addr} {o : HO} (h : H p = none) : Same H (upd H p o) := fun b x e => by rw [upd_ne (ne_of_none e h)]; exact e
/-- a new object joins the store -/
theorem RMu.newO (h : RMu K H r m) {p : Addr} {ho : HO} {ob : Ob} (hp : H p = none) (g : ObR K (upd H p ho) (r ++ [p]) p ob) : RMu K (upd H p ho) (r ++ [p]) (m ++ [ob]) := by
  have sm : Same H (upd H p ho) := same_new hp
  refine ⟨by rw [List.length_append, List.length_append, h.len]; rfl, ?_, fun i a o q1 q2 => ?_⟩
  · rw [List.nodup_append]
    refine ⟨h.nd, by simp, fun x hx y hy e => ?_⟩
    have ey : y = p := by simpa using hy
    obtain ⟨i, hi, hx'⟩ := List.getElem_of_mem hx
    obtain ⟨us, hu⟩ := h.trk (i := i) (a := x) (by rw [List.getElem?_eq_getElem hi, hx'])
    rw [e, ey, hp] at hu; cases hu
  · by_cases hi : i < r.length
    · rw [List.getElem?_append_left hi] at q1
      rw [List.getElem?_append_left (by rw [← h.len]; exact hi)] at q2
      exact ObR.same sm (Pre.app r [p]) (h.ob i a o q1 q2)
    · have hi2 : i = r.length := by
        have := (List.getElem?_eq_some_iff.mp q1).1
        rw [List.length_append] at this
        have h1 : ([p] : List Addr).length = 1 := rfl
        omega
      subst hi2
      rw [List.getElem?_append_right (Nat.le_refl _), Nat.sub_self] at q1
      rw [List.getElem?_append_right (by rw [h.len]; exact Nat.le_refl _), h.len, Nat.sub_self] at q2
      cases q1; cases q2
      exact g
/-- a new list joins the store -/
theorem RMu.new (h : RMu K H r m) {p : Addr} {xs : List D} {vs : List V} (hp : H p = none) (g : RpL K H r xs vs) : RMu K (upd H p (.lst vs)) (r ++ [p]) (m ++ [.lst xs]) :=
  h.newO hp ⟨vs, upd_same, RpL.ext (Ext.same (same_new hp)) (Pre.app r [p]) _ _ g⟩
theorem ext_writeO {a : Addr} {o : HO} (ha : ObK H a) : Ext H (upd H a o) := by
  refine ⟨fun b xs h => ?_, fun b o u h => ?_, fun b x h => ?_⟩ <;> rcases ha with ⟨_, ha⟩ | ⟨_, ha⟩ | ⟨_, _, _, ha⟩ <;> (rw [upd_ne (ne_of h ha (by simp))]; exact h)
theorem ext_write {a : Addr} {vs ws : List V} (ha : H a = some (.lst vs)) : Ext H (upd H a (.lst ws)) := ext_writeO (.inl ⟨_, ha⟩)
/-- an object is written -/
theorem RMu.writeO (h : RMu K H r m) {i : Nat} {a : Addr} {ho : HO} {ob : Ob} (ha : r[i]? = some a) (hk : ObK H a) (g : ObR K (upd H a ho) r a ob) : RMu K (upd H a ho) r (m.set i ob) := by
  have ex : Ext H (upd H a ho) := ext_writeO hk
  refine ⟨by rw [List.length_set]; exact h.len, h.nd, fun j b o q1 q2 => ?_⟩
  by_cases hj : i = j
  · subst hj
    rw [ha] at q1; cases q1
    have hi : i < m.length := by rw [← h.len]; exact (List.getElem?_eq_some_iff.mp ha).1
    rw [List.getElem?_set_self hi] at q2; cases q2
    exact g
  · rw [List.getElem?_set_ne hj] at q2
    have hne : b ≠ a := by
      intro e
      subst e
      have h1 := (List.getElem?_eq_some_iff.mp ha)
      have h2 := (List.getElem?_eq_some_iff.mp q1)
      obtain ⟨l1, e1⟩ := h1
      obtain ⟨l2, e2⟩ := h2
      exact hj ((List.getElem_inj h.nd).mp (e1.trans e2.symm))
    have q := h.ob j b o q1 q2
    revert q
    cases o with
    | lst xs =>
      rintro ⟨ws, h1, h2⟩
      exact ⟨ws, by rw [upd_ne hne]; exact h1, RpL.ext ex (Pre.refl r) _ _ h2⟩
    | dic ks vs =>
      rintro ⟨o, kvs, us, h1, h2, h3, h4, h5⟩
      exact ⟨o, kvs, us, by rw [upd_ne hne]; exact h1, h2, h3, RpL.ext ex (Pre.refl r) _ _ h4, RpL.ext ex (Pre.refl r) _ _ h5⟩
    | ins C ns fs =>
      rintro ⟨c, dx, us, hc, h1, h2, h3, h4⟩
      exact ⟨c, dx, us, hc, by rw [upd_ne hne]; exact h1, ex.own _ _ h2, h3, RpL.ext ex (Pre.refl r) _ _ h4⟩
    | gone d =>
      rintro ⟨h1, o, h2⟩
      exact ⟨Rp.ext ex (Pre.refl r) _ _ h1, o, by rw [upd_ne hne]; exact h2⟩
/-- a list is written -/
theorem RMu.write (h : RMu K H r m) {i : Nat} {a : Addr} {ys : List D} {us vs : List V} (ha : r[i]? = some a) (hv : H a = some (.lst vs)) (g : RpL K H r ys us) : RMu K (upd H a (.lst us)) r (m.set i (.lst ys)) :=
  h.writeO ha (.inl ⟨_, hv⟩) ⟨us, upd_same, RpL.ext (ext_write hv) (Pre.refl r) _ _ g⟩
end
end Ab

namespace L2
/-- what a reading leans on -/
abbrev Cx.kx (X : Cx) : Ab.Kx := ⟨X.K, X.w, X.prog⟩
end L2

namespace AbSrt
/-- one text before another -/
def sLt (a b : PySem.Str) : Bool := decide (a.cps.toList < b.cps.toList)
/-- .. one list of texts before another -/
def lexS : List PySem.Str → List PySem.Str → Bool
  | x :: xs, y :: ys => if x = y then lexS xs ys else sLt x y
  | _, _ => false
end AbSrt
namespace Ab
open PySem PySem.Spec PyProof.Rows L2

inductive O2 where
  | add | sub | mul | fdiv | mod | pow | shl | shr | band
inductive Cm where
  | eq | ne | lt | le | gt | ge | isN | notN | isin | notin
inductive Bi where
  | len | abs | max | min | int | divmod | tuple | list | all | any | minL | maxL | sum | sorted | dict | str
inductive Mt where
  | append | extend | pop | clear | index | popAt | rev
/-- methods of texts, of dicts -/
inductive Sm where
  | split | join
inductive Dm where
  | get

/-- the program's form, by slots and without places -/
inductive I where
  | var (i : Nat) | int (i : Int) | str (x : Str) | bl (b : Bool) | non | con (k : Nat)
  | nil | cons (a r : I) | tup (a : I) | lst (a : I)
  | bin (o : O2) (a b : I) | neg (a : I) | cmp (c : Cm) (a b : I) | chn (c c' : Cm) (a b d : I)
  | and (a r : I) | or (a r : I) | one (a : I) | not (a : I) | ite (c a b : I) | tru (a : I)
  | ix (a b : I) | sl (a lo hi : I) | pt (a : I) | dr (a : I) | bi (f : Bi) (a : I) | mt (f : Mt) (o a : I) | isi (T : String) (a : I)
  | call (k : Nat) (a : I) | comp (e g it c : I) (own : List (Str × Nat))
  | fld (a : I) (f : Str) | mth (n : Str) (k : Nat) (o a : I) | cv (i : Nat) (a : I) | orv (a b : I) | ss (a : I)
  | fz (a : I) | dnew | dis (x : Str) (i : Nat) | dii (a b : Int) | ce (f a : I) | ce0 (f : I) | rvl (a : I) | lrg (a : I) | lval (a : I) | itm (a : I) | rvi (a : I) | lset (a : I) | sm (f : Sm) (o a : I) | dm (f : Dm) (o a : I) | isT (Ts : List String) (a : I)
  | seq (a : I) | rng (a : I) | enm (a : I) | zip (a : I)
  | tn (i : Nat) | tt (ts : I)
  | skip | blk (s r : I) | asg (g e : I) | asgl (g e : I) | asgc (i : Nat) (e g it c : I) (own : List (Str × Nat)) | par (i j : Nat) (a : I) | par3 (i j k : Nat) (a : I) | aug (i : Nat) (o : O2) (e : I) | sset (o i e : I) | swp (o i j e : I) | ex (e : I) | ret (e : I) | retn
  | sfld (o : I) (f : Str) (e : I) | ghf (i : Nat) (f : Str) (r : I) | ghl (i : Nat) (r : I)
  | sif (c a b : I) | whl (c b : I) | for_ (g it b : I) | brk | cnt | gc (s : I) | nev

/-- what a function promises: arguments, store, what is wanted of its end -/
abbrev ASp := List D → Mu → (D → Mu → Prop) → Prop
structure Gm where
  fns : List (Str × ASp)
  cs : List (Str × D)
  ms : List ((Str × Str) × ASp)
structure AE where
  nx : Sl → Mu → Prop
  rt : D → Mu → Prop
  bk : Sl → Mu → Prop
  ct : Sl → Mu → Prop

def seqOf (m : Mu) : D → Option (List D)
  | .tup xs => some xs
  | .ro xs => some xs
  | .loc n => match m[n]? with
    | some (.lst xs) => some xs
    | _ => none
  | _ => none
/-- a dict, as it stands -/
def dicOf (m : Mu) : D → Option (List D × List D)
  | .dic ks vs => some (ks, vs)
  | .dloc n => match m[n]? with
    | some (.dic ks vs) => some (ks, vs)
    | _ => none
  | _ => none
/-- what stands at a key -/
def valD : List D → List D → D → Option D
  | k :: ks, v :: vs, x => if nk k = nk x then some v else valD ks vs x
  | _, _, _ => none
/-- .. stored: at a key that is there, or behind -/
def putV : List D → List D → D → D → List D
  | k :: ks, v :: vs, x, y => if nk k = nk x then y :: vs else v :: putV ks vs x y
  | _, _, _, y => [y]
def putK : List D → D → List D
  | k :: ks, x => if nk k = nk x then k :: ks else k :: putK ks x
  | [], x => [x]
/-- pairs stored one after another -/
def putsD : List D → List D → List D × List D → List D × List D
  | k :: ks, v :: vs, acc => putsD ks vs (putK acc.1 k, putV acc.1 acc.2 k v)
  | _, _, acc => acc
/-- it may be a key beside these, all tuples -/
def keyT (ks : List D) (k : D) : Prop := isTup k = true ∧ ks.all isTup = true ∧ ∃ n, nk k = some n ∧ n.depth ≤ 8
/-- .. all whole numbers and texts -/
def keyL (ks : List D) (k : D) : Prop := isLeaf k = true ∧ ks.all isLeaf = true
def keyK (ks : List D) (k : D) : Prop := keyT ks k ∨ keyL ks k
/-- an instance, as it stands -/
def insOf (m : Mu) : D → Option (Str × List Str × List D)
  | .obj C ns fs => some (C, ns, fs)
  | .loc n => match m[n]? with
    | some (.ins C ns fs) => some (C, ns, fs)
    | _ => none
  | _ => none
/-- what its field holds -/
def fldV : List Str → List D → Str → Option D
  | n :: ns, d :: ds, f => if n = f then some d else fldV ns ds f
  | _, _, _ => none
/-- .. once it is stored -/
def putN (f : Str) : List Str → List Str
  | [] => [f]
  | n :: ns => if n = f then n :: ns else n :: putN f ns
def putFd (f : Str) (v : D) : List Str → List D → List D
  | n :: ns, d :: ds => if n = f then v :: ds else d :: putFd f v ns ds
  | _, _ => [v]
/-- the program's classes and their fields -/
def clsTab : List (Str × List Str) := [("Works", ["machine", "word", "parts", "news", "names"]), ("Desk", ["kept"])]
def hasFld (C f : Str) : Bool := clsTab.any fun p => decide (p.1 = C) && p.2.contains f
def clsN (n : Str) : Bool := clsTab.any fun p => decide (p.1 = n)
/-- the signs of a text, each as a text -/
def sgn (x : Str) : List D := x.cps.toList.map fun c => D.str ⟨#[c]⟩
/-- it leans on no place -/
def noP (_ : Nat) : Bool := false
def pairD (ks vs : List D) : List D := List.zipWith (fun k v => .tup [k, v]) ks vs
/-- a tuple of texts -/
def strT (t : List Str) : D := .tup (t.map D.str)
/-- what is told of a thing once it stays as it is -/
def fzO : Ob → D
  | .lst xs => .ro xs
  | .dic ks vs => .dic ks vs
  | .ins C ns fs => .obj C ns fs
  | .gone d => d
def fzOk : D → Ob → Bool
  | .loc _, .lst _ => true
  | .loc _, .ins _ _ _ => true
  | .dloc _, .dic _ _ => true
  | _, _ => false
def plc : D → Option Nat
  | .loc n => some n
  | .dloc n => some n
  | _ => none
def kitL (a : String) : List String → Option Bool
  | [] => some false
  | T :: Ts => match kitB a T with
    | some true => some true
    | some false => kitL a Ts
    | none => none
/-- what stays as it is while a sequence is gone through -/
def guard (d : D) (xs : List D) (m : Mu) : Prop := match d with
  | .loc n => m[n]? = some (.lst xs)
  | _ => True
def tyD : D → String
  | .non => "NoneType" | .bl _ => "bool" | .int _ => "int" | .str _ => "str" | .tup _ => "tuple" | .ro _ => "list" | .loc _ => "list" | .ty _ => "type" | .dic _ _ => "dict" | .dloc _ => "dict" | .obj _ _ _ => "object" | .fn _ => "function"
def isNon : D → Bool
  | .non => true | _ => false
def notTy : D → Bool
  | .ty _ => false | .obj _ _ _ => false | .fn _ => false | _ => true
/-- a place holds what its word says -/
def locOk (m : Mu) : D → Prop
  | .loc n => ∃ xs, m[n]? = some (.lst xs)
  | .dloc n => ∃ ks vs, m[n]? = some (.dic ks vs)
  | _ => True
mutual
def toP (m : Mu) : D → Option PyData
  | .non => some .none
  | .bl b => some (.bool b)
  | .int i => some (.int i)
  | .str x => some (.str x)
  | .tup xs => (toPs m xs).map .tuple
  | .ro xs => (toPs m xs).map .list
  | .loc _ => none
  | .ty _ => none
  | .dic _ _ => none
  | .dloc _ => none
  | .obj _ _ _ => none
  | .fn _ => none
def toPs (m : Mu) : List D → Option (List PyData)
  | [] => some []
  | x :: xs => match toP m x, toPs m xs with
    | some a, some r => some (a :: r)
    | _, _ => none
end
/-- data, a list of such data outermost -/
def toPD (m : Mu) : D → Option PyData
  | .loc n => match m[n]? with
    | some (.lst xs) => (toPs m xs).map .list
    | _ => none
  | d => toP m d
def truD (m : Mu) : D → Option Bool
  | .non => some false
  | .bl b => some b
  | .int i => some (i != 0)
  | .str x => if x.length ≤ sizeLine then some (x.length != 0) else none
  | .tup xs => some (!xs.isEmpty)
  | .ro xs => some (!xs.isEmpty)
  | .loc n => match m[n]? with
    | some (.lst xs) => some (!xs.isEmpty)
    | _ => none
  | _ => none
def flatD : D → Bool
  | .non => true | .bl _ => true | .int _ => true | .str _ => true | _ => false
def eqF : D → D → Bool
  | .non, .non => true
  | .bl a, .bl b => a == b
  | .bl a, .int b => (if a then 1 else 0) == b
  | .int a, .bl b => a == (if b then 1 else 0)
  | .int a, .int b => a == b
  | .str a, .str b => a == b
  | _, _ => false
def inF (x : D) (xs : List D) : Bool := xs.any fun y => eqF y x
/-- what == tells: of numbers, texts, truths; else of data of any depth -/
def eqD (m : Mu) (x y : D) (b : Bool) : Prop := match x, y with
  | .int i, .int j => b = decide (i = j)
  | .str i, .str j => b = decide (i = j)
  | .bl i, .bl j => b = decide (i = j)
  | x, y => ∃ p q, toPD m x = some p ∧ toPD m y = some q ∧ SeqAt.shaped p = true ∧ SeqAt.shaped q = true ∧ b = PyData.eqv p q

def CPowX (i j : Int) : Prop := 0 ≤ j ∧ (Builtin.Int.intBits i : Int) * j ≤ 2 ^ 27
def op2 (o : O2) (x y : D) (m : Mu) (Q : D → Mu → Prop) : Prop := match o with
  | .add => match x, y with
    | .int i, .int j => Q (.int (i + j)) m
    | .str a, .str b => a.length + b.length ≤ sizeLine ∧ Q (.str (a ++ b)) m
    | .tup a, .tup b => a.length + b.length ≤ sizeLine ∧ Q (.tup (a ++ b)) m
    | .loc a, .loc b => ∃ xs ys, m[a]? = some (.lst xs) ∧ m[b]? = some (.lst ys) ∧ xs.length + ys.length ≤ sizeLine ∧ Q (.loc m.length) (m ++ [.lst (xs ++ ys)])
    | _, _ => False
  | .sub => ∃ i j, x = .int i ∧ y = .int j ∧ Q (.int (i - j)) m
  | .mul => match x, y with
    | .int i, .int j => CMulW i j ∧ Q (.int (i * j)) m
    | .str z, .int k => k = 1 ∧ Q (.str z) m
    | .tup xs, .int k => -1000 ≤ k ∧ k ≤ 1000 ∧ xs.length ≤ 1000 ∧ Q (.tup (List.replicate k.toNat xs).flatten) m
    | .loc a, .int k => ∃ xs, m[a]? = some (.lst xs) ∧ -(2 ^ 63) ≤ k ∧ k < 2 ^ 63 ∧ xs.length * k.toNat ≤ sizeLine ∧ Q (.loc m.length) (m ++ [.lst (List.replicate k.toNat xs).flatten])
    | _, _ => False
  | .fdiv => ∃ i j, x = .int i ∧ y = .int j ∧ CDivW i j ∧ Q (.int (i / j)) m
  | .mod => ∃ i j, x = .int i ∧ y = .int j ∧ 0 < j ∧ Q (.int (i % j)) m
  | .pow => ∃ i j, x = .int i ∧ y = .int j ∧ CPowX i j ∧ Q (.int (i ^ j.toNat)) m
  | .shl => ∃ i j, x = .int i ∧ y = .int j ∧ CShl i j ∧ Q (.int (i * 2 ^ j.toNat)) m
  | .shr => ∃ i j, x = .int i ∧ y = .int j ∧ 0 ≤ j ∧ Q (.int (i / 2 ^ j.toNat)) m
  | .band => ∃ i j, x = .int i ∧ y = .int j ∧ Q (.int (Builtin.bitAnd i j)) m
def aug2 (o : O2) (x y : D) (Q : D → Prop) : Prop := match o with
  | .add => ∃ i j, x = .int i ∧ y = .int j ∧ Q (.int (i + j))
  | .sub => ∃ i j, x = .int i ∧ y = .int j ∧ Q (.int (i - j))
  | _ => False
def cm2 (c : Cm) (x y : D) (m : Mu) (Q : Bool → Prop) : Prop := match c with
  | .eq => ∃ b, eqD m x y b ∧ Q b
  | .ne => ∃ b, eqD m x y b ∧ Q (!b)
  | .lt => (∃ i j, x = .int i ∧ y = .int j ∧ Q (decide (i < j))) ∨ ∃ p q, toPD m x = some p ∧ toPD m y = some q ∧ PySem.W.alike p q = true ∧ p ≠ .none ∧ p.depth ≤ 60 ∧ Q (PySem.W.dataLt p q)
  | .le => ∃ i j, x = .int i ∧ y = .int j ∧ Q (decide (i ≤ j))
  | .gt => ∃ i j, x = .int i ∧ y = .int j ∧ Q (decide (j < i))
  | .ge => ∃ i j, x = .int i ∧ y = .int j ∧ Q (decide (j ≤ i))
  | .isN => (y = .non ∧ Q (isNon x)) ∨ ∃ t u : Bool, x = .bl t ∧ y = .bl u ∧ Q (decide (t = u))
  | .notN => (y = .non ∧ Q (!isNon x)) ∨ ∃ t u : Bool, x = .bl t ∧ y = .bl u ∧ Q (!decide (t = u))
  | .isin => (∃ xs, seqOf m y = some xs ∧ flatD x = true ∧ xs.all flatD = true ∧ Q (inF x xs)) ∨ (∃ ks vs, dicOf m y = some (ks, vs) ∧ keyK ks x ∧ Q (valD ks vs x).isSome) ∨ (∃ (c : Nat) (z : Str), x = .str ⟨#[c]⟩ ∧ y = .str z ∧ Q (decide (c ∈ z.cps.toList))) ∨ ∃ d ds c, toPD m x = some d ∧ toPD m y = some c ∧ (c = .list ds ∨ c = .tuple ds) ∧ SeqAt.shaped d = true ∧ SeqAt.shaped c = true ∧ d.depth ≤ 60 ∧ Q (ds.any fun z => PyData.eqv z d)
  | .notin => (∃ xs, seqOf m y = some xs ∧ flatD x = true ∧ xs.all flatD = true ∧ Q (!inF x xs)) ∨ (∃ ks vs, dicOf m y = some (ks, vs) ∧ keyK ks x ∧ Q (!(valD ks vs x).isSome)) ∨ (∃ (c : Nat) (z : Str), x = .str ⟨#[c]⟩ ∧ y = .str z ∧ Q (!decide (c ∈ z.cps.toList))) ∨ ∃ d ds c, toPD m x = some d ∧ toPD m y = some c ∧ (c = .list ds ∨ c = .tuple ds) ∧ SeqAt.shaped d = true ∧ SeqAt.shaped c = true ∧ d.depth ≤ 60 ∧ Q (!ds.any fun z => PyData.eqv z d)
def ixD (m : Mu) (x y : D) (Q : D → Prop) : Prop := (∃ xs i d, seqOf m x = some xs ∧ y = .int i ∧ atI xs i = some d ∧ Q d) ∨ (∃ ks vs d, dicOf m x = some (ks, vs) ∧ keyK ks y ∧ valD ks vs y = some d ∧ Q d) ∨
  ∃ z i c, x = .str z ∧ y = .int i ∧ z.length ≤ sizeLine ∧ atI z.cps.toList i = some c ∧ Q (.str ⟨#[c]⟩)
def part : D → Option (Option Int)
  | .non => some none
  | .int i => some (some i)
  | _ => none
def cutD (xs : List D) (lo hi : Option Int) : List D := (xs.drop (HT.sIx xs.length 0 lo)).take (HT.sIx xs.length xs.length hi - HT.sIx xs.length 0 lo)
def slD (m : Mu) (x : D) (lo hi : Option Int) (Q : D → Mu → Prop) : Prop := match x with
  | .tup xs => Q (.tup (cutD xs lo hi)) m
  | .ro xs => Q (.loc m.length) (m ++ [.lst (cutD xs lo hi)])
  | .loc n => ∃ xs, m[n]? = some (.lst xs) ∧ Q (.loc m.length) (m ++ [.lst (cutD xs lo hi)])
  | .str z => z.length ≤ sizeLine ∧ Q (.str (cutS z lo hi)) m
  | _ => False
def biD (f : Bi) (ds : List D) (m : Mu) (Q : D → Mu → Prop) : Prop := match f with
  | .len => (∃ d xs, ds = [d] ∧ seqOf m d = some xs ∧ Q (.int xs.length) m) ∨ (∃ x : Str, ds = [.str x] ∧ x.length ≤ sizeLine ∧ Q (.int x.length) m) ∨ ∃ d ks vs, ds = [d] ∧ dicOf m d = some (ks, vs) ∧ Q (.int ks.length) m
  | .abs => ∃ i, ds = [.int i] ∧ Q (.int (if i < 0 then -i else i)) m
  | .max => ∃ i j, ds = [.int i, .int j] ∧ Q (.int (if j > i then j else i)) m
  | .min => ∃ i j, ds = [.int i, .int j] ∧ Q (.int (if j < i then j else i)) m
  | .int => match ds with
    | [.int i] => Q (.int i) m
    | [.bl b] => Q (.int (if b then 1 else 0)) m
    | [.str z] => ∃ n, PySem.intText? z = some n ∧ z.length ≤ 640 ∧ Q (.int n) m
    | _ => False
  | .divmod => ∃ i j, ds = [.int i, .int j] ∧ CDivP i j ∧ Q (.tup [.int (i / j), .int (i % j)]) m
  | .tuple => ∃ d xs, ds = [d] ∧ seqOf m d = some xs ∧ Q (.tup xs) m
  | .list => (∃ d xs, ds = [d] ∧ seqOf m d = some xs ∧ Q (.loc m.length) (m ++ [.lst xs])) ∨ ∃ d ks vs, ds = [d] ∧ dicOf m d = some (ks, vs) ∧ Q (.loc m.length) (m ++ [.lst ks])
  | .all => ∃ (n : Nat) (bs : List Bool), ds = [.loc n] ∧ m[n]? = some (.lst (bs.map D.bl)) ∧ Q (.bl (bs.all id)) m
  | .any => ∃ (n : Nat) (bs : List Bool), ds = [.loc n] ∧ m[n]? = some (.lst (bs.map D.bl)) ∧ Q (.bl (bs.any id)) m
  | .minL => ∃ (d : D) (ns : List Int), ds = [d] ∧ seqOf m d = some (ns.map D.int) ∧ (∀ ys, d ≠ .tup ys) ∧ 0 < ns.length ∧ ∀ x, x ∈ ns → (∀ y, y ∈ ns → x ≤ y) → Q (.int x) m
  | .maxL => ∃ (d : D) (ns : List Int), ds = [d] ∧ seqOf m d = some (ns.map D.int) ∧ 0 < ns.length ∧ ∀ x, x ∈ ns → (∀ y, y ∈ ns → y ≤ x) → Q (.int x) m
  | .sum => ∃ (d : D) (ns : List Int), ds = [d] ∧ seqOf m d = some (ns.map D.int) ∧ (∀ ys, d ≠ .tup ys) ∧ Q (.int ns.sum) m
  | .sorted => (∃ (d : D) (xs : List D), ds = [d] ∧ seqOf m d = some xs ∧ (∀ ys, d ≠ .tup ys) ∧
    ((∃ ns : List Int, xs = ns.map D.int ∧ ∀ ns' : List Int, ns'.Perm ns → ns'.Pairwise (· ≤ ·) → Q (.loc m.length) (m ++ [.lst (ns'.map D.int)])) ∨
     (∃ zs : List Str, xs = zs.map D.str ∧ zs.length < 64 ∧ ∀ ys : List Str, ys.Perm zs → sortedS ys = true → Q (.loc m.length) (m ++ [.lst (ys.map D.str)])) ∨
     (∃ (n : Nat) (ts : List (List Str)), 1 ≤ n ∧ xs = ts.map strT ∧ (∀ t ∈ ts, t.length = n) ∧ ∀ ts' : List (List Str), ts'.Perm ts → ts'.Pairwise (fun a b => AbSrt.lexS b a = false) → Q (.loc m.length) (m ++ [.lst (ts'.map strT)])))) ∨
    ∃ (d : D) (ks vs : List D) (n : Nat) (ts : List (List Str)), ds = [d] ∧ dicOf m d = some (ks, vs) ∧ 1 ≤ n ∧ ks = ts.map strT ∧ (∀ t ∈ ts, t.length = n) ∧ ∀ ts' : List (List Str), ts'.Perm ts → ts'.Pairwise (fun a b => AbSrt.lexS b a = false) → Q (.loc m.length) (m ++ [.lst (ts'.map strT)])
  | .dict => (∃ (d : D) (ks vs : List D) (ns : List NestedKey), ds = [d] ∧ seqOf m d = some (pairD ks vs) ∧ (∀ ys, d ≠ .tup ys) ∧ ks.length = vs.length ∧ nks ks = some ns ∧ ns.Nodup ∧ (∀ n ∈ ns, n.depth ≤ 8) ∧ ks.all isTup = true ∧ Q (.dloc m.length) (m ++ [.dic ks vs])) ∨ ∃ (d : D) (ks vs : List D), ds = [d] ∧ seqOf m d = some (pairD ks vs) ∧ (∀ ys, d ≠ .tup ys) ∧ ks.length = vs.length ∧ ks.all isLeaf = true ∧ Q (.dloc m.length) (m ++ [.dic (putsD ks vs ([], [])).1 (putsD ks vs ([], [])).2])
  | .str => (∃ i : Int, ds = [.int i] ∧ i.natAbs.log2 < 1920 ∧ Q (.str (toString i)) m) ∨ ∃ z : Str, ds = [.str z] ∧ Q (.str z) m
def smD (f : Sm) (o : D) (ds : List D) (m : Mu) (Q : D → Mu → Prop) : Prop := match f with
  | .split => ∃ x y : Str, o = .str x ∧ ds = [.str y] ∧ (y.length == 0) = false ∧ x.length + 2 ≤ sizeLine ∧ Q (.loc m.length) (m ++ [.lst ((Txt.split x y).map D.str)])
  | .join => ∃ (x : Str) (d : D) (ys : List Str), o = .str x ∧ ds = [d] ∧ seqOf m d = some (ys.map D.str) ∧ (ys.map (·.length)).sum + ys.length * x.length ≤ 16777216 ∧ Q (.str (Txt.join x ys)) m
def dmD (f : Dm) (o : D) (ds : List D) (m : Mu) (Q : D → Mu → Prop) : Prop := match f with
  | .get => ∃ ks vs k dv, dicOf m o = some (ks, vs) ∧ ds = [k, dv] ∧ keyK ks k ∧ Q ((valD ks vs k).getD dv) m
def mtD (f : Mt) (o : D) (ds : List D) (m : Mu) (Q : D → Mu → Prop) : Prop := match f with
  | .append => ∃ n xs d, o = .loc n ∧ ds = [d] ∧ m[n]? = some (.lst xs) ∧ xs.length < sizeLine ∧ Q .non (m.set n (.lst (xs ++ [d])))
  | .extend => ∃ n k xs ys, o = .loc n ∧ ds = [.loc k] ∧ m[n]? = some (.lst xs) ∧ m[k]? = some (.lst ys) ∧ xs.length + ys.length ≤ sizeLine ∧ Q .non (m.set n (.lst (xs ++ ys)))
  | .pop => ∃ n xs d, o = .loc n ∧ ds = [] ∧ m[n]? = some (.lst xs) ∧ xs[xs.length - 1]? = some d ∧ Q d (m.set n (.lst xs.dropLast))
  | .clear => ∃ n xs, o = .loc n ∧ ds = [] ∧ m[n]? = some (.lst xs) ∧ Q .non (m.set n (.lst []))
  | .popAt => ∃ (n : Nat) (xs : List D) (j : Nat) (d : D), o = .loc n ∧ ds = [.int (j : Int)] ∧ (j : Int) < 2 ^ 62 ∧ m[n]? = some (.lst xs) ∧ xs[j]? = some d ∧ Q d (m.set n (.lst (xs.eraseIdx j)))
  | .rev => ∃ n xs, o = .loc n ∧ ds = [] ∧ m[n]? = some (.lst xs) ∧ Q .non (m.set n (.lst xs.reverse))
  | .index => (∃ (n : Nat) (ns : List Int) (v : Int) (j : Nat), o = .loc n ∧ ds = [.int v] ∧ m[n]? = some (.lst (ns.map D.int)) ∧ ns[j]? = some v ∧ (∀ i, i < j → ns[i]? ≠ some v) ∧ Q (.int j) m) ∨
    (∃ (n : Nat) (zs : List Str) (v : Str) (j : Nat), o = .loc n ∧ ds = [.str v] ∧ m[n]? = some (.lst (zs.map D.str)) ∧ zs[j]? = some v ∧ (∀ i, i < j → zs[i]? ≠ some v) ∧ Q (.int j) m) ∨
    ∃ (n : Nat) (zs : List Str) (v : Str) (k j : Nat), o = .loc n ∧ ds = [.str v, .int (k : Int)] ∧ m[n]? = some (.lst (zs.map D.str)) ∧ k ≤ j ∧ zs[j]? = some v ∧ (∀ i, k ≤ i → i < j → zs[i]? ≠ some v) ∧ Q (.int j) m

/-! what is left of the store behind a block -/
mutual
def okD (p : Nat → Bool) : D → Bool
  | .tup xs => okDs p xs
  | .ro xs => okDs p xs
  | .loc n => p n
  | .dic ks vs => okDs p ks && okDs p vs
  | .dloc n => p n
  | .obj _ _ fs => okDs p fs
  | _ => true
def okDs (p : Nat → Bool) : List D → Bool
  | [] => true
  | x :: xs => okD p x && okDs p xs
end
def okO (p : Nat → Bool) : Ob → Bool
  | .lst xs => okDs p xs
  | .dic ks vs => okDs p ks && okDs p vs
  | .ins _ _ fs => okDs p fs
  | .gone d => okD p d
mutual
def ren (f : Nat → Nat) : D → D
  | .tup xs => .tup (rens f xs)
  | .ro xs => .ro (rens f xs)
  | .loc n => .loc (f n)
  | .non => .non
  | .bl b => .bl b
  | .int i => .int i
  | .str x => .str x
  | .ty n => .ty n
  | .dic ks vs => .dic (rens f ks) (rens f vs)
  | .dloc n => .dloc (f n)
  | .obj C ns fs => .obj C ns (rens f fs)
  | .fn n => .fn n
def rens (f : Nat → Nat) : List D → List D
  | [] => []
  | x :: xs => ren f x :: rens f xs
end
def renO (f : Nat → Nat) : Ob → Ob
  | .lst xs => .lst (rens f xs)
  | .dic ks vs => .dic (rens f ks) (rens f vs)
  | .ins C ns fs => .ins C ns (rens f fs)
  | .gone d => .gone (ren f d)
/-- below n, or among ks -/
def kept (n : Nat) (ks : List Nat) (k : Nat) : Bool := decide (k < n) || ks.contains k
def moved (n : Nat) (ks : List Nat) (k : Nat) : Nat := if k < n then k else n + ks.idxOf k
/-- the objects below n stand as in m0 or lean on none but these; ks are kept behind them -/
structure Cut (m0 : Mu) (m : Mu) (ks : List Nat) : Prop where
  le : m0.length ≤ m.length
  mem : ∀ k ∈ ks, m0.length ≤ k ∧ k < m.length
  nd : ks.Nodup
  old : ∀ i, i < m0.length → m[i]? = m0[i]? ∨ ∃ o, m[i]? = some o ∧ okO (fun k => decide (k < m0.length)) o = true
  new : ∀ k ∈ ks, ∀ o, m[k]? = some o → okO (kept m0.length ks) o = true
def cutM (m0 m : Mu) (ks : List Nat) : Mu := m.take m0.length ++ ks.map fun k => renO (moved m0.length ks) ((m[k]?).getD (.lst []))
def Drop (m0 : Mu) (Q : D → Mu → Prop) (d : D) (m : Mu) : Prop := ∃ ks, Cut m0 m ks ∧ okD (kept m0.length ks) d = true ∧ Q (ren (moved m0.length ks) d) (cutM m0 m ks)
def okS (p : Nat → Bool) : Option D → Bool
  | none => true
  | some d => okD p d
def DropS (m0 : Mu) (Q : Sl → Mu → Prop) (sl : Sl) (m : Mu) : Prop := ∃ (ks : List Nat) (sl' : Sl), Cut m0 m ks ∧ sl'.length = sl.length ∧ (∀ (i : Nat) (d : D), sl'[i]? = some (some d) → sl[i]? = some (some d) ∧ okD (kept m0.length ks) d = true) ∧
  Q (sl'.map (Option.map (ren (moved m0.length ks)))) (cutM m0 m ks)

def wipeS (sl : Sl) : List Nat → Sl
  | [] => sl
  | v :: vs => (wipeS sl vs).set v none
def tlen : I → Nat
  | .cons _ r => tlen r + 1
  | _ => 0
/-- targets -/
def wG : I → D → Sl → (Sl → Prop) → Prop
  | .tn i, d, sl, Q => Q (sl.set i (some d))
  | .tt ts, d, sl, Q => ∃ xs, d = .tup xs ∧ xs.length = tlen ts ∧ wG ts (.tup xs) sl Q
  | .nil, d, sl, Q => d = .tup [] ∧ Q sl
  | .cons a r, d, sl, Q => ∃ x xs, d = .tup (x :: xs) ∧ wG a x sl fun sl' => wG r (.tup xs) sl' Q
  | _, _, _, _ => False
/-- a comprehension's turns, by a word of one's own; n: the place of the new list -/
def compW (g : D → Sl → (Sl → Prop) → Prop) (c : Sl → Mu → (D → Mu → Prop) → Prop) (e : Sl → Mu → (D → Mu → Prop) → Prop) (n : Nat) (Gd : Mu → Prop) (sl : Sl) (Q : Mu → Prop) (ys : List D) (m : Mu) : Prop :=
  ∃ Inv : Nat → Mu → Prop, Inv 0 m ∧ ∀ (i : Nat) (m' : Mu), i ≤ ys.length → Inv i m' → Gd m' ∧ ((i = ys.length → Q m') ∧ ∀ x, ys[i]? = some x → g x sl fun sl2 => c sl2 m' fun b m1 => ∃ t, b = .bl t ∧ if t = true then
      e sl2 m1 fun d m2 => ∃ acc, m2[n]? = some (.lst acc) ∧ acc.length < sizeLine ∧ Inv (i + 1) (m2.set n (.lst (acc ++ [d])))
    else Inv (i + 1) m1)
def rngD (i c : Int) (n : Nat) : List D := (List.range n).map fun (k : Nat) => D.int (i + k * c)
/-- what range is asked for -/
def lrgD : I → D → Int → Int → Prop
  | .cons _ .nil, d, i, j => d = .tup [.int j] ∧ i = 0
  | .cons _ (.cons _ .nil), d, i, j => d = .tup [.int i, .int j]
  | _, _, _, _ => False
def itD : I → List D → Mu → (List D → (Mu → Prop) → Prop) → Prop
  | .seq _, ds, m, R => ∃ d, ds = [d] ∧ ((∃ xs, seqOf m d = some xs ∧ R xs (guard d xs)) ∨ (∃ x, d = .str x ∧ R (sgn x) fun _ => True) ∨ ∃ ks vs, d = .dic ks vs ∧ R ks fun _ => True)
  | .rng (.cons _ .nil), ds, _, R => ∃ j, ds = [.int j] ∧ -(2 ^ 62) ≤ j ∧ j < 2 ^ 62 ∧ R (rngD 0 1 j.toNat) fun _ => True
  | .rng (.cons _ (.cons _ .nil)), ds, _, R => ∃ i j, ds = [.int i, .int j] ∧ (-(2 ^ 62) ≤ i ∧ i < 2 ^ 62 ∧ -(2 ^ 62) ≤ j ∧ j < 2 ^ 62) ∧ R (rngD i 1 (j - i).toNat) fun _ => True
  | .rng (.cons _ (.cons _ (.cons _ .nil))), ds, _, R => ∃ i j c n, ds = [.int i, .int j, .int c] ∧ RgC i j c n ∧ R (rngD i c n) fun _ => True
  | .itm _, ds, _, R => ∃ ks vs, ds = [.dic ks vs] ∧ R (pairD ks vs) fun _ => True
  | .rvi _, ds, m, R => ∃ d xs, ds = [d] ∧ seqOf m d = some xs ∧ (∀ ys, d ≠ .tup ys) ∧ R xs.reverse (guard d xs)
  | .enm _, ds, m, R => ∃ d xs, ds = [d] ∧ seqOf m d = some xs ∧ R (xs.mapIdx fun i x => .tup [.int i, x]) (guard d xs)
  | .zip _, ds, m, R => ∃ d e xs ys, ds = [d, e] ∧ seqOf m d = some xs ∧ seqOf m e = some ys ∧ R (xs.zipWith (fun x y => .tup [x, y]) ys) fun m => guard d xs m ∧ guard e ys m
  | _, _, _, _ => False
/-- expressions; a list of arguments is told as a tuple -/
def wE (G : Gm) : I → Sl → Mu → (D → Mu → Prop) → Prop
  | .var i, sl, m, Q => ∃ d, sl[i]? = some (some d) ∧ Q d m
  | .int i, _, m, Q => Q (.int i) m
  | .str x, _, m, Q => Q (.str x) m
  | .bl b, _, m, Q => Q (.bl b) m
  | .non, _, m, Q => Q .non m
  | .con k, _, m, Q => ∃ x d, G.cs[k]? = some (x, d) ∧ Q d m
  | .nil, _, m, Q => Q (.tup []) m
  | .cons a r, sl, m, Q => wE G a sl m fun x m1 => wE G r sl m1 fun y m2 => ∃ ys, y = .tup ys ∧ Q (.tup (x :: ys)) m2
  | .tup a, sl, m, Q => wE G a sl m fun x m1 => ∃ xs, x = .tup xs ∧ xs.length ≤ sizeLine ∧ Q (.tup xs) m1
  | .lst a, sl, m, Q => wE G a sl m fun x m1 => ∃ xs, x = .tup xs ∧ xs.length ≤ sizeLine ∧ Q (.loc m1.length) (m1 ++ [.lst xs])
  | .bin o a b, sl, m, Q => wE G a sl m fun x m1 => wE G b sl m1 fun y m2 => op2 o x y m2 Q
  | .neg a, sl, m, Q => wE G a sl m fun x m1 => ∃ i, x = .int i ∧ Q (.int (-i)) m1
  | .cmp c a b, sl, m, Q => wE G a sl m fun x m1 => wE G b sl m1 fun y m2 => cm2 c x y m2 fun t => Q (.bl t) m2
  | .chn c c' a b d, sl, m, Q => wE G a sl m fun x m1 => wE G b sl m1 fun y m2 => cm2 c x y m2 fun t => if t = true then wE G d sl m2 fun z m3 => cm2 c' y z m3 fun t' => Q (.bl t') m3 else Q (.bl false) m2
  | .and a r, sl, m, Q => wE G a sl m fun x m1 => ∃ t, x = .bl t ∧ if t = true then wE G r sl m1 fun y m2 => ∃ t', y = .bl t' ∧ Q (.bl t') m2 else Q (.bl false) m1
  | .or a r, sl, m, Q => wE G a sl m fun x m1 => ∃ t, x = .bl t ∧ if t = true then Q (.bl true) m1 else wE G r sl m1 fun y m2 => ∃ t', y = .bl t' ∧ Q (.bl t') m2
  | .one a, sl, m, Q => wE G a sl m Q
  | .not a, sl, m, Q => wE G a sl m fun x m1 => ∃ t, x = .bl t ∧ Q (.bl (!t)) m1
  | .ite c a b, sl, m, Q => wE G c sl m fun x m1 => ∃ t, x = .bl t ∧ if t = true then wE G a sl m1 Q else wE G b sl m1 Q
  | .tru a, sl, m, Q => wE G a sl m fun x m1 => ∃ t, truD m1 x = some t ∧ Q (.bl t) m1
  | .ix a b, sl, m, Q => wE G a sl m fun x m1 => wE G b sl m1 fun y m2 => ixD m2 x y fun d => Q d m2
  | .sl a lo hi, sl, m, Q => wE G a sl m fun x m1 => wE G lo sl m1 fun y m2 => ∃ l, part y = some l ∧ wE G hi sl m2 fun z m3 => ∃ h, part z = some h ∧ slD m3 x l h Q
  | .pt a, sl, m, Q => wE G a sl m fun x m1 => ∃ i, x = .int i ∧ Q x m1
  | .dr a, sl, m, Q => ∃ R : D → Mu → Prop, wE G a sl m (Drop m R) ∧ ∀ d m', R d m' → Q d m'
  | .bi f a, sl, m, Q => wE G a sl m fun x m1 => ∃ xs, x = .tup xs ∧ biD f xs m1 Q
  | .mt f o a, sl, m, Q => wE G o sl m fun x m1 => (∃ n xs, x = .loc n ∧ m1[n]? = some (.lst xs)) ∧ wE G a sl m1 fun y m2 => ∃ ys, y = .tup ys ∧ mtD f x ys m2 Q
  | .isi T a, sl, m, Q => wE G a sl m fun x m1 => ∃ b, notTy x = true ∧ locOk m1 x ∧ kitB (tyD x) T = some b ∧ Q (.bl b) m1
  | .rvl a, sl, m, Q => wE G a sl m fun x m1 => (∃ xs, seqOf m1 x = some xs ∧ (∀ ys, x ≠ .tup ys) ∧ Q (.loc m1.length) (m1 ++ [.lst xs.reverse])) ∨ ∃ xs, x = .tup xs ∧ Q (.tup xs.reverse) m1
  | .isT Ts a, sl, m, Q => wE G a sl m fun x m1 => ∃ b, notTy x = true ∧ locOk m1 x ∧ kitL (tyD x) Ts = some b ∧ Q (.bl b) m1
  | .fld a f, sl, m, Q => wE G a sl m fun x m1 => ∃ C ns fs d, insOf m1 x = some (C, ns, fs) ∧ hasFld C f = true ∧ fldV ns fs f = some d ∧ Q d m1
  | .mth n k o a, sl, m, Q => ∃ (C : Str) (sp : ASp), G.ms[k]? = some ((C, n), sp) ∧ wE G o sl m fun x m1 => ∃ ns fs, insOf m1 x = some (C, ns, fs) ∧ ns.contains n = false ∧ wE G a sl m1 fun y m2 => ∃ ys, y = .tup ys ∧ sp (x :: ys) m2 Q
  | .cv i a, sl, m, Q => ∃ (n : Str) (k : Nat) (sp : ASp), sl[i]? = some (some (.fn n)) ∧ clsN n = false ∧ G.fns[k]? = some (n, sp) ∧ wE G a sl m fun y m1 => ∃ ys, y = .tup ys ∧ sp ys m1 Q
  | .orv a b, sl, m, Q => wE G a sl m fun x m1 => ∃ t, truD m1 x = some t ∧ if t = true then Q x m1 else wE G b sl m1 Q
  | .ss a, sl, m, Q => wE G a sl m fun x m1 => ∃ (xs : List Str), seqOf m1 x = some (xs.map D.str) ∧ (∀ zs, x ≠ .tup zs) ∧ xs.length < 4000 ∧ (∀ l : List Str, l.Nodup → (∀ y ∈ l, y ∈ xs) → l.length < 64) ∧ ∀ ys : List Str, ys.Pairwise (fun a b => AbSrt.sLt a b = true) → (∀ y, y ∈ ys ↔ y ∈ xs) → Q (.loc m1.length) (m1 ++ [.lst (ys.map D.str)])
  | .fz a, sl, m, Q => wE G a sl m fun x m1 => ∃ n ob, plc x = some n ∧ m1[n]? = some ob ∧ fzOk x ob = true ∧ Q (fzO ob) (m1.set n (.gone (fzO ob)))
  | .dnew, _, m, Q => Q (.dloc m.length) (m ++ [.dic [] []])
  | .ce f a, sl, m, Q => wE G f sl m fun x m1 => ∃ (n : Str) (k : Nat) (sp : ASp), x = .fn n ∧ clsN n = false ∧ G.fns[k]? = some (n, sp) ∧ wE G a sl m1 fun y m2 => ∃ ys, y = .tup ys ∧ sp ys m2 Q
  | .ce0 f, sl, m, Q => wE G f sl m fun x m1 => ∃ (n : Str) (k : Nat) (sp : ASp), x = .fn n ∧ clsN n = false ∧ G.fns[k]? = some (n, sp) ∧ sp [] m1 Q
  | .dii a b, _, m, Q => Q (.dloc m.length) (m ++ [.dic [.int a] [.int b]])
  | .dis x i, sl, m, Q => ∃ d, sl[i]? = some (some d) ∧ Q (.dloc m.length) (m ++ [.dic [.str x] [d]])
  | .sm f o a, sl, m, Q => wE G o sl m fun x m1 => (∃ t, x = .str t) ∧ wE G a sl m1 fun y m2 => ∃ ys, y = .tup ys ∧ smD f x ys m2 Q
  | .dm f o a, sl, m, Q => wE G o sl m fun x m1 => (∃ p, dicOf m1 x = some p) ∧ wE G a sl m1 fun y m2 => ∃ ys, y = .tup ys ∧ dmD f x ys m2 Q
  | .call k a, sl, m, Q => wE G a sl m fun x m1 => ∃ xs n sp, x = .tup xs ∧ G.fns[k]? = some (n, sp) ∧ sp xs m1 Q
  | .comp e g it c own, sl, m, Q => wE G it sl m fun x m1 => ∃ xs, x = .tup xs ∧ itD it xs m1 fun ys Gd =>
      compW (wG g) (wE G c) (wE G e) m1.length Gd (wipeS sl (own.map (·.2))) (fun m2 => Q (.loc m1.length) m2) ys (m1 ++ [.lst []])
  | .seq a, sl, m, Q => wE G a sl m fun x m1 => Q (.tup [x]) m1
  | .itm a, sl, m, Q => wE G a sl m fun x m1 => Q (.tup [x]) m1
  | .rvi a, sl, m, Q => wE G a sl m fun x m1 => Q (.tup [x]) m1
  | .lrg a, sl, m, Q => wE G a sl m fun x m1 => ∃ i j : Int, lrgD a x i j ∧ RgOk i j ∧ Q (.loc m1.length) (m1 ++ [.lst (rngD i 1 (j - i).toNat)])
  | .lset a, sl, m, Q => wE G a sl m fun x m1 => ∃ (c : Int) (k : Nat), seqOf m1 x = some (List.replicate (k + 1) (.int c)) ∧ (∀ ys, x ≠ .tup ys) ∧ k < 63 ∧ Q (.int 1) m1
  | .lval a, sl, m, Q => wE G a sl m fun x m1 => ∃ ks vs, x = .dic ks vs ∧ Q (.loc m1.length) (m1 ++ [.lst vs])
  | .rng a, sl, m, Q => wE G a sl m Q
  | .enm a, sl, m, Q => wE G a sl m Q
  | .zip a, sl, m, Q => wE G a sl m Q
  | _, _, _, _ => False
/-- a for's turns, by a word of one's own -/
def loopW (g : D → Sl → (Sl → Prop) → Prop) (b : AE → Sl → Mu → Prop) (A : AE) (Gd : Mu → Prop) (ys : List D) (sl : Sl) (m : Mu) : Prop :=
  ∃ Inv : Nat → Sl → Mu → Prop, Inv 0 sl m ∧ ∀ (i : Nat) (sl' : Sl) (m' : Mu), i ≤ ys.length → Inv i sl' m' → Gd m' ∧ ((i = ys.length → A.nx sl' m') ∧
    ∀ x, ys[i]? = some x → g x sl' fun sl2 => b { A with nx := Inv (i + 1), ct := Inv (i + 1), bk := A.nx } sl2 m')
/-- statements; m0: the store at the def's entry -/
def wS (G : Gm) (m0 : Mu) : I → AE → Sl → Mu → Prop
  | .skip, A, sl, m => A.nx sl m
  | .blk s r, A, sl, m => wS G m0 s { A with nx := fun sl' m' => wS G m0 r A sl' m' } sl m
  | .asg g e, A, sl, m => wE G e sl m fun d m1 => wG g d sl fun sl' => A.nx sl' m1
  | .asgl g e, A, sl, m => wE G e sl m fun d m1 => ∃ n xs, d = .loc n ∧ m1[n]? = some (.lst xs) ∧ xs.length = tlen g ∧ wG g (.tup xs) sl fun sl' => A.nx sl' m1
  | .asgc i e g it c own, A, sl, m => wE G it sl m fun x m1 => ∃ xs, x = .tup xs ∧ itD it xs m1 fun ys Gd =>
      compW (wG g) (wE G c) (wE G e) m1.length Gd (wipeS sl (own.map (·.2))) (fun m2 => A.nx (sl.set i (some (.loc m1.length))) m2) ys (m1 ++ [.lst []])
  | .par i j a, A, sl, m => wE G a sl m fun x m1 => ∃ d e, x = .tup [d, e] ∧ A.nx ((sl.set i (some d)).set j (some e)) m1
  | .par3 i j k a, A, sl, m => wE G a sl m fun x m1 => ∃ d e f, x = .tup [d, e, f] ∧ A.nx (((sl.set i (some d)).set j (some e)).set k (some f)) m1
  | .aug i o e, A, sl, m => ∃ d, sl[i]? = some (some d) ∧ wE G e sl m fun y m1 => aug2 o d y fun z => A.nx (sl.set i (some z)) m1
  | .swp o i j e, A, sl, m => wE G e sl m fun d m1 => ∃ d1 d2, d = .tup [d1, d2] ∧ wE G o sl m1 fun x m2 => wE G i sl m2 fun y m3 => ∃ n xs k p, x = .loc n ∧ y = .int k ∧ m3[n]? = some (.lst xs) ∧ ixN xs.length k = some p ∧
      wE G o sl (m3.set n (.lst (xs.set p d1))) fun x2 m4 => wE G j sl m4 fun y2 m5 => ∃ n2 ys k2 p2, x2 = .loc n2 ∧ y2 = .int k2 ∧ m5[n2]? = some (.lst ys) ∧ ixN ys.length k2 = some p2 ∧ A.nx sl (m5.set n2 (.lst (ys.set p2 d2)))
  | .sset o i e, A, sl, m => wE G e sl m fun d m1 => wE G o sl m1 fun x m2 => wE G i sl m2 fun y m3 => (∃ n xs k j, x = .loc n ∧ y = .int k ∧ m3[n]? = some (.lst xs) ∧ ixN xs.length k = some j ∧ A.nx sl (m3.set n (.lst (xs.set j d)))) ∨
      ∃ n ks vs, x = .dloc n ∧ m3[n]? = some (.dic ks vs) ∧ keyK ks y ∧ ks.length < sizeLine ∧ A.nx sl (m3.set n (.dic (putK ks y) (putV ks vs y d)))
  | .sfld o f e, A, sl, m => wE G e sl m fun d m1 => wE G o sl m1 fun x m2 => ∃ n C ns fs, x = .loc n ∧ m2[n]? = some (.ins C ns fs) ∧ hasFld C f = true ∧ ns.length < 900 ∧ A.nx sl (m2.set n (.ins C (putN f ns) (putFd f d ns fs)))
  | .ghf i f r, A, sl, m => ∃ n C ns fs d k ob, sl[i]? = some (some (.loc n)) ∧ m[n]? = some (.ins C ns fs) ∧ fldV ns fs f = some d ∧ plc d = some k ∧ k ≠ n ∧ m[k]? = some ob ∧ fzOk d ob = true ∧ wS G m0 r A sl ((m.set k (.gone (fzO ob))).set n (.ins C ns (putFd f (fzO ob) ns fs)))
  | .ghl i r, A, sl, m => ∃ d n ob, sl[i]? = some (some d) ∧ plc d = some n ∧ m[n]? = some ob ∧ fzOk d ob = true ∧ wS G m0 r A (sl.set i (some (fzO ob))) (m.set n (.gone (fzO ob)))
  | .ex e, A, sl, m => wE G e sl m fun _ m1 => A.nx sl m1
  | .ret e, A, sl, m => wE G e sl m A.rt
  | .retn, A, _, m => A.rt .non m
  | .sif c a b, A, sl, m => wE G c sl m fun x m1 => ∃ t, x = .bl t ∧ if t = true then wS G m0 a A sl m1 else wS G m0 b A sl m1
  | .whl c b, A, sl, m => ∃ W : Nat → Sl → Mu → Prop, (∃ k, W k sl m) ∧ ∀ k sl' m', W k sl' m' → wE G c sl' m' fun x m1 => ∃ t, x = .bl t ∧
      if t = true then wS G m b { A with nx := fun sl' m' => ∃ k', k' < k ∧ W k' sl' m', ct := fun sl' m' => ∃ k', k' < k ∧ W k' sl' m', bk := A.nx } sl' m1 else A.nx sl' m1
  | .for_ g it b, A, sl, m => wE G it sl m fun x m1 => ∃ xs, x = .tup xs ∧ itD it xs m1 fun ys Gd => loopW (wG g) (wS G m1 b) A Gd ys sl m1
  | .brk, A, sl, m => A.bk sl m
  | .cnt, A, sl, m => A.ct sl m
  | .gc s, A, sl, m => wS G m0 s { A with nx := DropS m0 A.nx, ct := DropS m0 A.ct } sl m
  | _, _, _, _ => False
end Ab

namespace Ab
open PySem PySem.Spec PyProof.Rows L2

/-! ### tuple * int, any count -/
def rRepTA (K : PySem.W.Frag) : R2 := fun x y H Q => ∃ l k xs, x = .ref l ∧ y = .int k ∧ SqT K H l xs ∧ -1000 ≤ k ∧ k ≤ 1000 ∧ xs.length ≤ 1000 ∧ ((k = 1 ∨ xs = []) → Q (.ref l) H) ∧ ∀ p, H p = none → Q (.ref p) (upd H p (.tup (List.replicate k.toNat xs).flatten))
theorem tuple_mul_same (l : Addr) (items : Array Value) (n : Nat) (dd : Option Addr) (sl : Array (Option Value)) (x : Int) (u : Tok) (c0 : (decide (x < -(2 ^ 63)) || decide (x ≥ 2 ^ 63)) = false) (c1 : (items.isEmpty || x == 1) = true) :
    Meets (Builtin.«tuple.__mul__» ⟨[.ref l, .int x u], []⟩) (fun _ R s => s.heap.get? l = some { cls := .type "tuple", dict := dd, data := .seq items n, slots := sl } ∧ R (.ok (.ret (Value.ref l))) s) :=
  .of_wp fun prog w A R s h => by
    obtain ⟨hp, g, d, tk, os⟩ := s
    obtain ⟨hl, h⟩ := h
    have f1 := AutoSeq1.idx_int
    wp_walk using wpAny_loadPart' hl
    repeat (first
      | (refine wpAny_ite_false (decide_eq_false (by rw [c0]; exact Bool.false_ne_true)) ?_; wp_walk using wpAny_loadPart' hl)
      | (refine wpAny_ite_true (decide_eq_true (by rw [c1])) ?_; wp_walk using wpAny_loadPart' hl))
    exact ⟨_, rfl, h⟩
theorem tuple_mul_none (l : Addr) (items : Array Value) (n : Nat) (dd : Option Addr) (sl : Array (Option Value)) (x : Int) (u : Tok) (c0 : (decide (x < -(2 ^ 63)) || decide (x ≥ 2 ^ 63)) = false) (c1 : (items.isEmpty || x == 1) = false) (c2 : (decide (x ≤ 0) || items.isEmpty) = true) :
    Meets (Builtin.«tuple.__mul__» ⟨[.ref l, .int x u], []⟩) (fun _ R s => s.heap.get? l = some { cls := .type "tuple", dict := dd, data := .seq items n, slots := sl } ∧
      R (.ok (.ret (Value.ref s.heap.objs.size))) { s with heap := s.heap.push { cls := Value.type "tuple", data := Data.seq #[] }, toks := s.toks }) :=
  .of_wp fun prog w A R s h => by
    obtain ⟨hp, g, d, tk, os⟩ := s
    obtain ⟨hl, h⟩ := h
    have f1 := AutoSeq1.idx_int
    wp_walk using wpAny_loadPart' hl
    repeat (first
      | (refine wpAny_ite_false (decide_eq_false (by rw [c0]; exact Bool.false_ne_true)) ?_; wp_walk using wpAny_loadPart' hl)
      | (refine wpAny_ite_false (decide_eq_false (by rw [c1]; exact Bool.false_ne_true)) ?_; wp_walk using wpAny_loadPart' hl)
      | (refine wpAny_ite_true (decide_eq_true (by rw [c2])) ?_; wp_walk using wpAny_loadPart' hl))
    exact ⟨_, rfl, h⟩
section
variable {X : Cx}
theorem op_repTA : OpR X (binaryOp .Mult) (rRepTA X.K) := by
  intro pins s σ H x y v u Q I rx ry h
  obtain ⟨l, k, xs, rfl, rfl, hT, h1, h2, hz, qs, q⟩ := h
  cases rx
  by_cases c : xs = [] ∨ k = 1
  · obtain ⟨t, rfl⟩ := ry
    obtain ⟨its, r, ⟨⟨cls, dd, data, sl⟩, ho, hc, n, hd⟩, hs⟩ := I.tuple hT
    simp only at hc hd
    subst hc hd
    have c0 : (decide (k < -(2 ^ 63)) || decide (k ≥ 2 ^ 63)) = false := by
      rw [decide_eq_false (by omega), decide_eq_false (by omega)] <;> rfl
    have c1 : (its.toArray.isEmpty || k == 1) = true := by
      rcases c with c | c
      · have : its = [] := List.eq_nil_of_length_eq_zero (by rw [← r.length, c]; rfl)
        rw [this]; rfl
      · rw [c]; simp
    refine wpAny_binaryOp_repeat_ref (T := "tuple") (U := "int") (by decide) ⟨_, ho, rfl⟩ (fun s' => typeIs_int s' k t) noFill_tuple_mul F.fills_int_mul F.slot_int_rmul repeat_tuple F.slot_int_index.lookup
      (call_meets F.slot_int_rmul (typeIs_int s k t) F.entry_int_rmul (F.args_int_rmul_2 _ _) (int_rmul_tuple k t l its.toArray n dd sl)
        ⟨ho, rfl, ⟨_, ho, rfl⟩, call_meets F.slot_tuple_mul ⟨_, ho, rfl⟩ F.entry_tuple_mul (F.args_tuple_mul_2 _ _) (tuple_mul_same l its.toArray n dd sl k t c0 c1) ⟨ho, ?_⟩⟩)
    exact ⟨.ref l, H, I, rfl, qs c.symm⟩
  · by_cases c2 : k ≤ 0
    · obtain ⟨t, rfl⟩ := ry
      obtain ⟨its, r, ⟨⟨cls, dd, data, sl⟩, ho, hc, n, hd⟩, hs⟩ := I.tuple hT
      simp only at hc hd
      subst hc hd
      have c0 : (decide (k < -(2 ^ 63)) || decide (k ≥ 2 ^ 63)) = false := by
        rw [decide_eq_false (by omega), decide_eq_false (by omega)] <;> rfl
      have hi : its.toArray.isEmpty = false := by
        cases its with
        | nil => exact absurd (.inl (List.eq_nil_of_length_eq_zero (by rw [r.length]; rfl))) c
        | cons a b => rfl
      have c1 : (its.toArray.isEmpty || k == 1) = false := by
        rw [hi, Bool.false_or]
        exact beq_eq_false_iff_ne.mpr (by omega)
      have c3 : (decide (k ≤ 0) || its.toArray.isEmpty) = true := by rw [decide_eq_true c2]; rfl
      refine wpAny_binaryOp_repeat_ref (T := "tuple") (U := "int") (by decide) ⟨_, ho, rfl⟩ (fun s' => typeIs_int s' k t) noFill_tuple_mul F.fills_int_mul F.slot_int_rmul repeat_tuple F.slot_int_index.lookup
        (call_meets F.slot_int_rmul (typeIs_int s k t) F.entry_int_rmul (F.args_int_rmul_2 _ _) (int_rmul_tuple k t l its.toArray n dd sl)
          ⟨ho, rfl, ⟨_, ho, rfl⟩, call_meets F.slot_tuple_mul ⟨_, ho, rfl⟩ F.entry_tuple_mul (F.args_tuple_mul_2 _ _) (tuple_mul_none l its.toArray n dd sl k t c0 c1 c3) ⟨ho, ?_⟩⟩)
      have e0 : (List.replicate k.toNat xs).flatten = [] := by rw [show k.toNat = 0 by omega]; rfl
      have q' := fun p hp => q p hp
      rw [e0] at q'
      refine ⟨.ref s.heap.objs.size, _, I.laid (t' := s.toks) (o := .tup []) (fun b ob q => Heap.get?_push_of_some _ q) (Nat.le_refl _) ?_, rfl, q' _ (I.hok.fresh (Nat.le_refl _))⟩
      exact ⟨Nat.zero_le _, [], .nil, IsTup.new _ _⟩
    · exact op_repT pins s σ H (.ref l) (.int k) _ _ Q I rfl ry ⟨l, k, xs, rfl, rfl, hT, fun e => c (.inl e), by omega, h2, hz, q⟩
end
end Ab

namespace Ab
open PySem PySem.Spec PyProof.Rows L2 HT

/-! ### xs[::-1] of a list or of a tuple -/
section
variable {prog : Program} {w : World} {A : Around} {E : Value → Shared → Prop} {s : Shared}
theorem sliceApplied_back {sl : Addr} {vl vu vs : Value} {n : Nat} {Q : Int × Int × Nat → Shared → Prop} (hs : s.heap.IsSliceOf sl vl vu vs) (pl : IsPart vl none) (pu : IsPart vu none) (ps : IsPart vs (some (-1)))
    (h : Q ((n : Int) - 1, -1, n) s) : wpAny (model prog w) A (Builtin.Slice.sliceApplied (.ref sl) (pure (n : Int))) Q E s := by
  obtain ⟨os, hos, hcs, hds⟩ := id hs
  unfold Builtin.Slice.sliceApplied Builtin.Slice.sliceFields
  refine wpAny_bind (wpAny_bind (wpAny_field hos hds (x := vl) rfl (wpAny_bind (wpAny_field hos hds (x := vu) rfl (wpAny_bind (wpAny_field hos hds (x := vs) rfl (wpAny_pure ?_)))))))
  refine wpAny_bind (slicePart_ ps ?_)
  show wpAny _ _ (if ((-1 : Int) == 0) = true then _ else _) _ _ s
  rw [if_neg (by decide)]
  refine wpAny_bind (slicePart_ pl (wpAny_bind (slicePart_ pu (wpAny_bind (wpAny_pure ?_)))))
  show wpAny _ _ (pure ((n : Int) - 1, (-1 : Int), Builtin.Slice.slicePlaces ((n : Int) - 1) (-1) (-1))) _ _ s
  have e : Builtin.Slice.slicePlaces ((n : Int) - 1) (-1) (-1) = n := by
    unfold Builtin.Slice.slicePlaces
    rw [if_neg (by decide)]
    by_cases c : (n : Int) - 1 > -1
    · rw [if_pos c]
      have : ((n : Int) - 1 - -1 - 1) / (- -1) + 1 = n := by
        rw [show (- -1 : Int) = 1 by decide, Int.ediv_one]; omega
      rw [this]; rfl
    · rw [if_neg c]
      omega
  rw [e]
  exact wpAny_pure h
theorem fm_congr {α β : Type} {f g : α → Option β} : ∀ {l : List α}, (∀ x ∈ l, f x = g x) → l.filterMap f = l.filterMap g
  | [], _ => rfl
  | x :: l, h => by
    rw [List.filterMap_cons, List.filterMap_cons, h x (List.mem_cons_self ..), fm_congr fun y hy => h y (List.mem_cons_of_mem _ hy)]
theorem pick_back (xs : Array Value) : ((List.range xs.size).filterMap fun (k : Nat) => xs[((xs.size : Int) - 1 + (k : Int) * -1).toNat]?).toArray = xs.toList.reverse.toArray := by
  have e : ((List.range xs.size).filterMap fun (k : Nat) => xs[((xs.size : Int) - 1 + (k : Int) * -1).toNat]?) = (List.range xs.size).filterMap ((fun j => xs[j]?) ∘ fun k => xs.size - 1 - k) := by
    apply fm_congr
    intro k hk
    have := List.mem_range.mp hk
    show _ = xs[xs.size - 1 - k]?
    rw [show ((xs.size : Int) - 1 + (k : Int) * -1).toNat = xs.size - 1 - k by omega]
  rw [e, ← List.filterMap_map, PySem.W.krv_range, List.filterMap_reverse, PySem.W.krv_all]
theorem getItem_tuple_back {t sl : Addr} {items : Array Value} {vl vu vs : Value} {Q : Value → Shared → Prop} (ht : IsTup s.heap t items) (hs : s.heap.IsSliceOf sl vl vu vs) (pl : IsPart vl none) (pu : IsPart vu none) (ps : IsPart vs (some (-1)))
    (h : Q (.ref s.heap.objs.size) { s with heap := s.heap.push { cls := .type "tuple", data := .seq items.toList.reverse.toArray } })
    (hsz : items.size ≤ sizeLine) : wpAny (model prog w) A (getItem (.ref t) (.ref sl)) Q E s := by
  have htake : sizeOk (.seq items.toList.reverse.toArray) := by
    show items.toList.reverse.toArray.size ≤ sizeLine
    rw [List.size_toArray, List.length_reverse, Array.length_toList]
    exact hsz
  obtain ⟨os, hos, hcs, hds⟩ := id hs
  have hTs : s.TypeIs (.ref sl) "slice" := ⟨os, hos, hcs⟩
  unfold getItem
  try with_reducible refine wpAny_holding ?_
  first | refine wpAny_bind (wpAny_pure ?_) | skip
  refine wpAny_bind (wpAny_sequenceKey ht.typeIs (by decide) ?_)
  refine wpAny_bind (wpAny_callSpecial?_slot (name := Str.ofString "__getitem__") ht.typeIs PyProof.Rows.slot_tuple_getitem
    (wpAny_call_entry PyProof.Rows.slot_tuple_getitem ht.typeIs entry_tuple_getitem ?_ (args_tuple_getitem _ _)))
  show wpAny _ _ (Builtin.Tuple.tupleItemsOf (.ref t) >>= _) _ _ s
  refine wpAny_bind (tupleItemsOf_ ht ?_)
  refine wpAny_bind (wpAny_typeOf hTs ?_)
  rw [if_pos (by decide)]
  refine wpAny_bind (sliceApplied_back hs pl pu ps ?_)
  have hno : ¬ ((((items.size : Int) - 1) == 0 && (-1 : Int) == 1 && items.size == items.size) = true) := by
    rw [show ((-1 : Int) == 1) = false from rfl, Bool.and_false, Bool.false_and]
    exact Bool.false_ne_true
  show wpAny _ _ (if (((items.size : Int) - 1) == 0 && (-1 : Int) == 1 && items.size == items.size) = true then _ else _) _ _ s
  rw [if_neg hno, pick_back]
  first
    | exact wpAny_bind (m := Builtin.Tuple.tupleExact _) (wpAny_newObj_type (wpAny_pure ⟨_, rfl, wpAny_pure h⟩) htake)
    | exact wpAny_bind (m := Builtin.Tuple.tupleExact _) (wpAny_newObj_type (wpAny_bind (wpAny_pure (wpAny_pure ⟨_, rfl, wpAny_pure h⟩))) htake)
    | exact wpAny_bind (wpAny_bind (m := Builtin.Tuple.tupleExact _) (wpAny_newObj_type (wpAny_pure (wpAny_pure ⟨_, rfl, wpAny_pure h⟩)) htake))
    | exact wpAny_bind (wpAny_bind (m := Builtin.Tuple.tupleExact _) (wpAny_newObj_type (wpAny_pure ⟨_, rfl, wpAny_pure h⟩) htake))
end
section
variable {X : Cx}
def tRevA (K : PySem.W.Frag) (te : TE) : TE := fun σ H Q => te σ H fun x H1 => ∃ a xs, x = .ref a ∧ ((SqL K H1 a xs ∧ ∀ p, H1 p = none → Q (.ref p) (upd H1 p (.lst xs.reverse))) ∨ (SqT K H1 a xs ∧ ∀ p, H1 p = none → Q (.ref p) (upd H1 p (.tup xs.reverse))))
theorem pe_revA {e : Expr} {te : TE} {k : Nat} {p1 p2 p3 pos : Pos} (he : PE X e te) : PE X (.Subscript e (.Slice none none (some (.UnaryOp .USub (.Constant (.int 1) k p1) p2)) p3) pos) (tRevA X.K te) := by
  refine ⟨fun pins s σ H Q I h => ?_⟩
  refine Subscript_ (thn (he.run pins s σ H _ I h) fun v s1 ⟨x, H1, I1, r1, q1⟩ => ?_)
  obtain ⟨a, xs, ex, q1⟩ := q1
  subst ex
  cases r1
  have hst : PO X (some (.UnaryOp .USub (.Constant (.int 1) k p1) p2)) (tPart (tUn (rU fun i => .int (-i)) (tC (.int 1)))) := po_some (pe_un un_neg pe_int)
  refine wpAny_Slice (thn (po_none.run pins s1 σ H1 (fun o H2 => o = none ∧ H2 = H1) I1 ⟨rfl, rfl⟩) fun vl s2 ⟨l, H2, I2, pl, el, e2⟩ => ?_)
  subst el e2
  refine thn (po_none.run pins s2 σ H2 (fun o H3 => o = none ∧ H3 = H2) I2 ⟨rfl, rfl⟩) fun vu s3 ⟨u, H3, I3, pu, eu, e3⟩ => ?_
  subst eu e3
  refine thn (hst.run pins s3 σ H3 (fun o H4 => o = some (-1) ∧ H4 = H3) I3 ⟨1, rfl, -1, rfl, rfl, rfl⟩) fun vs s4 ⟨o, H4, I4, ps, eo, e4⟩ => ?_
  subst eo e4
  have I5 : Inv X pins σ H4 { s4 with heap := s4.heap.push { cls := .type "slice", data := .fields #[vl, vu, vs] } } := I4.kept (t' := s4.toks) fun b ob q => Heap.get?_push_of_some _ q
  show wpAny (model X.prog X.w) X.A (subscriptTail e (.Slice none none (some (.UnaryOp .USub (.Constant (.int 1) k p1) p2)) p3) (.ref a) (.ref s4.heap.objs.size)) (EP X pins σ Q) X.xe { s4 with heap := s4.heap.push { cls := .type "slice", data := .fields #[vl, vu, vs] } }
  rcases q1 with ⟨hx, q⟩ | ⟨hx, q⟩
  · obtain ⟨its, r, ht, hz⟩ := I5.list hx
    have hlen := r.length
    refine tail_any (ops := [.ref a, .ref s4.heap.objs.size]) ht.isList.typeIs (PySem.slot_list_getitem.lookup) ?_ (by with_unfolding_all rfl)
    refine wpAny_getItem_list_slice ht.isList (Heap.IsSliceOf.new _ vl vu vs) pl pu ps (by decide) ?_ (by rw [List.size_toArray]; omega)
    rw [PySem.W.krv_pick]
    refine ⟨.ref _, _, I5.laid (t' := s4.toks) (o := .lst xs.reverse) (fun b ob q => Heap.get?_push_of_some _ q) (Nat.le_refl _) ?_, rfl, q _ (I5.hok.fresh (Nat.le_refl _))⟩
    exact ⟨by rw [List.length_reverse]; exact hz, _, 0, r.reverse, Heap.get?_push_size _ rfl⟩
  · obtain ⟨its, r, ht, hz⟩ := I5.tuple hx
    have hlen := r.length
    refine tail_any (ops := [.ref a, .ref s4.heap.objs.size]) ht.typeIs (PyProof.Rows.slot_tuple_getitem.lookup) ?_ (by with_unfolding_all rfl)
    refine getItem_tuple_back ht (Heap.IsSliceOf.new _ vl vu vs) pl pu ps ?_ (by rw [List.size_toArray]; omega)
    refine ⟨.ref _, _, I5.laid (t' := s4.toks) (o := .tup xs.reverse) (fun b ob q => Heap.get?_push_of_some _ q) (Nat.le_refl _) ?_, rfl, q _ (I5.hok.fresh (Nat.le_refl _))⟩
    exact ⟨by rw [List.length_reverse]; exact hz, _, r.reverse, IsTup.new _ _⟩
end
end Ab

namespace Ab
open PySem PySem.Spec PyProof.Rows L2

/-! readings of abstract words -/
abbrev WE := Sl → Mu → (D → Mu → Prop) → Prop
/-- what follows is true of all that stands for the end -/
def Fin (K : Kx) (H : Hp) (r : List Addr) (Q : VK) (d : D) (m : Mu) : Prop := ∀ v r' H', Ext H H' → Pre r r' → Rp K H' r' d v → RMu K H' r' m → Q v H'
def FinB (K : Kx) (H : Hp) (r : List Addr) (Q : Bool → Hp → Prop) (d : D) (m : Mu) : Prop := ∃ t, d = .bl t ∧ ∀ r' H', Ext H H' → Pre r r' → RMu K H' r' m → Q t H'
def FinA (K : Kx) (H : Hp) (r : List Addr) (Q : List V → Hp → Prop) (d : D) (m : Mu) : Prop := ∃ xs, d = .tup xs ∧ ∀ vs r' H', Ext H H' → Pre r r' → RpL K H' r' xs vs → RMu K H' r' m → Q vs H'
def LE (K : Kx) (w : WE) : TE := fun σ H Q => ∃ sl r m P, RSl K H r sl σ ∧ RMu K H r m ∧ w sl m P ∧ ∀ d m', P d m' → Fin K H r Q d m'
def LT (K : Kx) (w : WE) : TT := fun σ H Q => ∃ sl r m P, RSl K H r sl σ ∧ RMu K H r m ∧ w sl m P ∧ ∀ d m', P d m' → FinB K H r Q d m'
def LA (K : Kx) (w : WE) : TA := fun σ H Q => ∃ sl r m P, RSl K H r sl σ ∧ RMu K H r m ∧ w sl m P ∧ ∀ d m', P d m' → FinA K H r Q d m'
theorem PEm {X : Cx} {e : Expr} {t t' : TE} (h : PE X e t) (g : ∀ σ H Q, t' σ H Q → t σ H Q) : PE X e t' := ⟨fun pins s σ H Q I q => h.run pins s σ H Q I (g σ H Q q)⟩
theorem PTm {X : Cx} {e : Expr} {t t' : TT} (h : PT X e t) (g : ∀ σ H Q, t' σ H Q → t σ H Q) : PT X e t' := ⟨fun pins s σ H Q I q => h.run pins s σ H Q I (g σ H Q q)⟩
theorem PWm {X : Cx} {e : Expr} {t t' : TT} (h : PW X e t) (g : ∀ σ H Q, t' σ H Q → t σ H Q) : PW X e t' := ⟨fun wh pins s σ H Q I q => h.run wh pins s σ H Q I (g σ H Q q)⟩
theorem PAm {X : Cx} {e : List Expr} {t t' : TA} (h : PA X e t) (g : ∀ σ H Q, t' σ H Q → t σ H Q) : PA X e t' := ⟨fun pos pins s σ H Q I q => h.run pos pins s σ H Q I (g σ H Q q)⟩
theorem PSm {X : Cx} {e : Stmt} {t t' : TS} (h : PS X e t) (g : ∀ Q σ H, t' Q σ H → t Q σ H) : PS X e t' := ⟨fun pins s σ H Q I q => h.run pins s σ H Q I (g Q σ H q)⟩
theorem PSsm {X : Cx} {e : List Stmt} {t t' : TS} (h : PSs X e t) (g : ∀ Q σ H, t' Q σ H → t Q σ H) : PSs X e t' := ⟨fun pins s σ H Q I q => h.run pins s σ H Q I (g Q σ H q)⟩
theorem PGm {X : Cx} {e : Expr} {t t' : TG} (h : PG X e t) (g : ∀ v σ H Q, t' v σ H Q → t v σ H Q) : PG X e t' := ⟨fun pins s σ H v u Q I r q => h.run pins s σ H v u Q I r (g v σ H Q q)⟩
theorem PGsm {X : Cx} {e : List Expr} {t t' : TGs} (h : PGs X e t) (g : ∀ v σ H Q, t' v σ H Q → t v σ H Q) : PGs X e t' := ⟨fun pins s σ H v u Q I r q => h.run pins s σ H v u Q I r (g v σ H Q q)⟩

section
variable {K : Kx} {H H1 H2 : Hp} {r r1 r2 : List Addr} {m m1 m2 : Mu}
theorem Fin.mono {Q : VK} {d : D} (h : Fin K H r Q d m) (e : Ext H H1) (p : Pre r r1) : Fin K H1 r1 Q d m := fun v r' H' e' p' => h v r' H' (e.trans e') (p.trans p')
theorem FinB.mono {Q : Bool → Hp → Prop} {d : D} (h : FinB K H r Q d m) (e : Ext H H1) (p : Pre r r1) : FinB K H1 r1 Q d m := by
  obtain ⟨t, h1, h2⟩ := h
  exact ⟨t, h1, fun r' H' e' p' => h2 r' H' (e.trans e') (p.trans p')⟩
theorem FinA.mono {Q : List V → Hp → Prop} {d : D} (h : FinA K H r Q d m) (e : Ext H H1) (p : Pre r r1) : FinA K H1 r1 Q d m := by
  obtain ⟨t, h1, h2⟩ := h
  exact ⟨t, h1, fun v r' H' e' p' => h2 v r' H' (e.trans e') (p.trans p')⟩
/-- the end as it stands -/
theorem Fin.here {Q : VK} {d : D} {v : V} (h : Fin K H r Q d m) (g : Rp K H r d v) (hm : RMu K H r m) : Q v H := h v r H (Ext.refl H) (Pre.refl r) g hm
/-- .. with a new tuple -/
theorem Fin.tupNew {Q : VK} {xs : List D} {vs : List V} {p : Addr} (h : Fin K H r Q (.tup xs) m) (g : RpL K H r xs vs) (hm : RMu K H r m) (hp : H p = none) : Q (.ref p) (upd H p (.tup vs)) := by
  have sm : Same H (upd H p (.tup vs)) := same_new hp
  exact h _ r _ (Ext.same sm) (Pre.refl r) ⟨p, vs, rfl, SqT.of upd_same, RpL.ext (Ext.same sm) (Pre.refl r) _ _ g⟩ (hm.same sm)
/-- .. with a new list -/
theorem Fin.lstNew {Q : VK} {xs : List D} {vs : List V} {p : Addr} (h : Fin K H r Q (.loc m.length) (m ++ [.lst xs])) (g : RpL K H r xs vs) (hm : RMu K H r m) (hp : H p = none) : Q (.ref p) (upd H p (.lst vs)) := by
  refine h _ (r ++ [p]) _ (Ext.same (same_new hp)) (Pre.app r [p]) ⟨p, ?_, rfl⟩ (hm.new hp g)
  rw [← hm.len, List.getElem?_append_right (Nat.le_refl _), Nat.sub_self]; rfl
end

/-! operations on two -/
def Op2R (K : Kx) (rr : R2) (s : D → D → Mu → (D → Mu → Prop) → Prop) : Prop :=
  ∀ H r m x y vx vy P Q, Rp K H r x vx → Rp K H r y vy → RMu K H r m → s x y m P → (∀ d m', P d m' → Fin K H r Q d m') → rr vx vy H Q
/-- from the parts to the whole -/
theorem bin_le {K : Kx} {rr : R2} {s : D → D → Mu → (D → Mu → Prop) → Prop} (h : Op2R K rr s) {wa wb : WE} {σ : L2.St} {H : Hp} {Q : VK}
    (q : LE K (fun sl m P => wa sl m fun x m1 => wb sl m1 fun y m2 => s x y m2 P) σ H Q) : tOp rr (LE K wa) (LE K wb) σ H Q := by
  obtain ⟨sl, r, m, P, hs, hm, hw, hP⟩ := q
  refine ⟨sl, r, m, _, hs, hm, hw, fun x m1 q1 vx r1 H1 e1 p1 rx hm1 => ?_⟩
  refine ⟨sl, r1, m1, _, hs.ext e1 p1, hm1, q1, fun y m2 q2 vy r2 H2 e2 p2 ry hm2 => ?_⟩
  exact h H2 r2 m2 x y vx vy P Q (Rp.ext e2 p2 _ _ rx) ry hm2 q2 fun d m' hp => (hP d m' hp).mono (e1.trans e2) (p1.trans p2)

section
variable {K : Kx}
theorem o2_add : Op2R K (fun x y H Q => rI0 (fun i j => .int (i + j)) x y H Q ∨ rCatA K x y H Q ∨ (∃ i j, x = .str i ∧ y = .str j ∧ i.length + j.length ≤ sizeLine ∧ Q (.str (i ++ j)) H) ∨ rCat x y H Q) (op2 .add) := by
  intro H r m x y vx vy P Q rx ry hm h hP
  cases x <;> cases y <;> try exact h.elim
  · rename_i i j
    cases rx; cases ry
    exact .inl ⟨i, j, rfl, rfl, (hP _ _ h).here rfl hm⟩
  · rename_i i j
    cases rx; cases ry
    exact .inr (.inr (.inl ⟨i, j, rfl, rfl, h.1, (hP _ _ h.2).here rfl hm⟩))
  · rename_i xs ys
    obtain ⟨a, vs, rfl, h1, h2⟩ := rx
    obtain ⟨b, ws, rfl, g1, g2⟩ := ry
    have l1 := h2.length
    have l2 := g2.length
    refine .inr (.inl ⟨a, b, vs, ws, rfl, rfl, h1, g1, by have := h.1; omega, fun e => ?_, fun e1 e2 => ?_, fun e1 e2 p hp => ?_⟩)
    · subst e
      have e3 : xs = [] := List.eq_nil_of_length_eq_zero (by rw [l1]; rfl)
      subst e3
      exact (hP _ _ h.2).here ⟨b, ws, rfl, g1, g2⟩ hm
    · subst e2
      have e3 : ys = [] := List.eq_nil_of_length_eq_zero (by rw [l2]; rfl)
      subst e3
      have q := h.2
      rw [List.append_nil] at q
      exact (hP _ _ q).here ⟨a, vs, rfl, h1, h2⟩ hm
    · exact (hP _ _ h.2).tupNew (h2.append g2) hm hp
  · rename_i a b
    obtain ⟨xs, ys, e1, e2, hz, q⟩ := h
    obtain ⟨a', h1, rfl⟩ := rx
    obtain ⟨b', g1, rfl⟩ := ry
    obtain ⟨a2, vs, k1, k2, k3⟩ := hm.at_lst e1
    obtain ⟨b2, ws, j1, j2, j3⟩ := hm.at_lst e2
    rw [h1] at k1; cases k1
    rw [g1] at j1; cases j1
    have l1 := k3.length
    have l2 := j3.length
    exact .inr (.inr (.inr ⟨a', b', vs, ws, rfl, rfl, k2, j2, by omega, fun p hp => (hP _ _ q).lstNew (k3.append j3) hm hp⟩))
theorem RpL.rep {H : Hp} {r : List Addr} {xs : List D} {vs : List V} (h : RpL K H r xs vs) : ∀ k : Nat, RpL K H r (List.replicate k xs).flatten (List.replicate k vs).flatten
  | 0 => by simp only [List.replicate_zero, List.flatten_nil]; rfl
  | k + 1 => by
    rw [List.replicate_succ, List.replicate_succ, List.flatten_cons, List.flatten_cons]
    exact h.append (RpL.rep h k)
theorem o2_sub : Op2R K (rI0 fun i j => .int (i - j)) (op2 .sub) := by
  intro H r m x y vx vy P Q rx ry hm h hP
  obtain ⟨i, j, rfl, rfl, q⟩ := h
  cases rx; cases ry
  exact ⟨i, j, rfl, rfl, (hP _ _ q).here rfl hm⟩
def rRepS : R2 := fun x y H Q => ∃ z : Str, x = .str z ∧ y = .int 1 ∧ Q (.str z) H
theorem o2_mul : Op2R K (fun x y H Q => rI CMulW (fun i j => .int (i * j)) x y H Q ∨ rRep x y H Q ∨ (rRepS x y H Q ∨ rRepTA K.k x y H Q)) (op2 .mul) := by
  intro H r m x y vx vy P Q rx ry hm h hP
  cases x <;> cases y <;> try exact h.elim
  · rename_i i j
    cases rx; cases ry
    exact .inl ⟨i, j, rfl, rfl, h.1, (hP _ _ h.2).here rfl hm⟩
  · rename_i z k
    obtain ⟨rfl, q⟩ := h
    cases rx; cases ry
    exact .inr (.inr (.inl ⟨z, rfl, rfl, (hP _ _ q).here rfl hm⟩))
  · rename_i xs k
    obtain ⟨k0, k1, hz, q⟩ := h
    obtain ⟨a, vs, rfl, h1, h2⟩ := rx
    cases ry
    have l1 := h2.length
    refine .inr (.inr (.inr ⟨a, k, vs, rfl, rfl, h1, k0, k1, by omega, fun e => ?_, fun p hp => (hP _ _ q).tupNew (RpL.rep h2 _) hm hp⟩))
    have e2 : (List.replicate k.toNat xs).flatten = xs := by
      rcases e with e | e
      · rw [e]; show (List.replicate 1 xs).flatten = xs; simp
      · have e3 : xs = [] := List.eq_nil_of_length_eq_zero (by rw [l1, e]; rfl)
        rw [e3]; simp
    rw [e2] at q
    exact (hP _ _ q).here ⟨a, vs, rfl, h1, h2⟩ hm
  · rename_i k a
    obtain ⟨xs, e1, k0, k1, hz, q⟩ := h
    obtain ⟨a', h1, rfl⟩ := rx
    cases ry
    obtain ⟨a2, vs, j1, j2, j3⟩ := hm.at_lst e1
    rw [h1] at j1; cases j1
    have l1 := j3.length
    exact .inr (.inl ⟨a', _, vs, rfl, rfl, j2, k0, k1, by rw [← l1]; exact hz, fun p hp => (hP _ _ q).lstNew (RpL.rep j3 _) hm hp⟩)
theorem o2_fdiv : Op2R K (rI CDivW fun i j => .int (i / j)) (op2 .fdiv) := by
  intro H r m x y vx vy P Q rx ry hm h hP
  obtain ⟨i, j, rfl, rfl, c, q⟩ := h
  cases rx; cases ry
  exact ⟨i, j, rfl, rfl, c, (hP _ _ q).here rfl hm⟩
theorem o2_mod : Op2R K (rI (fun _ j => 0 < j) fun i j => .int (i % j)) (op2 .mod) := by
  intro H r m x y vx vy P Q rx ry hm h hP
  obtain ⟨i, j, rfl, rfl, c, q⟩ := h
  cases rx; cases ry
  exact ⟨i, j, rfl, rfl, c, (hP _ _ q).here rfl hm⟩
theorem o2_pow : Op2R K (rI CPowX fun i j => .int (i ^ j.toNat)) (op2 .pow) := by
  intro H r m x y vx vy P Q rx ry hm h hP
  obtain ⟨i, j, rfl, rfl, c, q⟩ := h
  cases rx; cases ry
  exact ⟨i, j, rfl, rfl, c, (hP _ _ q).here rfl hm⟩
theorem o2_shl : Op2R K (rI CShl fun i j => .int (i * 2 ^ j.toNat)) (op2 .shl) := by
  intro H r m x y vx vy P Q rx ry hm h hP
  obtain ⟨i, j, rfl, rfl, c, q⟩ := h
  cases rx; cases ry
  exact ⟨i, j, rfl, rfl, c, (hP _ _ q).here rfl hm⟩
theorem o2_shr : Op2R K (rI (fun _ j => 0 ≤ j) fun i j => .int (i / 2 ^ j.toNat)) (op2 .shr) := by
  intro H r m x y vx vy P Q rx ry hm h hP
  obtain ⟨i, j, rfl, rfl, c, q⟩ := h
  cases rx; cases ry
  exact ⟨i, j, rfl, rfl, c, (hP _ _ q).here rfl hm⟩
theorem o2_band : Op2R K (rI0 fun i j => .int (Builtin.bitAnd i j)) (op2 .band) := by
  intro H r m x y vx vy P Q rx ry hm h hP
  obtain ⟨i, j, rfl, rfl, q⟩ := h
  cases rx; cases ry
  exact ⟨i, j, rfl, rfl, (hP _ _ q).here rfl hm⟩
end

/-! == of data -/
mutual
theorem dp_of {K : Kx} {H : Hp} {r : List Addr} {m : Mu} : ∀ (d : D) (p : PyData) (v : V), toP m d = some p → Rp K H r d v → Dp K H v p
  | .non, p, v, e, h => by cases h; cases e; exact .non
  | .bl b, p, v, e, h => by cases h; cases e; exact .bl b
  | .int i, p, v, e, h => by cases h; cases e; exact .int i
  | .str x, p, v, e, h => by cases h; cases e; exact .str x
  | .tup xs, p, v, e, h => by
    obtain ⟨a, vs, rfl, h1, h2⟩ := h
    unfold toP at e
    cases q : toPs m xs with
    | none => rw [q] at e; cases e
    | some ps =>
      rw [q] at e
      cases e
      exact .tup h1 (dps_of xs ps vs q h2)
  | .ro xs, p, v, e, h => by
    obtain ⟨a, vs, rfl, h1, h2⟩ := h
    unfold toP at e
    cases q : toPs m xs with
    | none => rw [q] at e; cases e
    | some ps =>
      rw [q] at e
      cases e
      exact .lst h1.sq (dps_of xs ps vs q h2)
  | .loc n, p, v, e, h => by cases e
  | .ty n, p, v, e, h => by cases e
  | .dic _ _, p, v, e, h => by cases e
  | .dloc n, p, v, e, h => by cases e
  | .obj _ _ _, p, v, e, h => by cases e
theorem dps_of {K : Kx} {H : Hp} {r : List Addr} {m : Mu} : ∀ (xs : List D) (ps : List PyData) (vs : List V), toPs m xs = some ps → RpL K H r xs vs → DpAll K H vs ps
  | [], ps, vs, e, h => by
    have h' : vs = [] := h
    subst h'
    cases e
    exact .nil
  | x :: xs, ps, vs, e, h => by
    obtain ⟨v, t, rfl, h2, h3⟩ := h
    unfold toPs at e
    cases q1 : toP m x with
    | none => rw [q1] at e; cases e
    | some p =>
      cases q2 : toPs m xs with
      | none => rw [q1, q2] at e; cases e
      | some qs =>
        rw [q1, q2] at e
        cases e
        exact .cons (dp_of x p v q1 h2) (dps_of xs qs t q2 h3)
end
theorem dpD_of {K : Kx} {H : Hp} {r : List Addr} {m : Mu} {d : D} {p : PyData} {v : V} (hm : RMu K H r m) (e : toPD m d = some p) (h : Rp K H r d v) : Dp K H v p := by
  cases d with
  | loc n =>
    unfold toPD at e
    simp only at e
    cases q : m[n]? with
    | none => rw [q] at e; cases e
    | some o =>
      rw [q] at e
      cases o with
      | lst xs =>
        obtain ⟨a, vs, h1, h2, h3⟩ := hm.at_lst q
        obtain ⟨b, g1, rfl⟩ := h
        rw [h1] at g1; cases g1
        simp only at e
        cases q2 : toPs m xs with
        | none => rw [q2] at e; cases e
        | some ps =>
          rw [q2] at e
          cases e
          exact .lst (SqL.of h2) (dps_of xs ps vs q2 h3)
      | _ => cases e
  | _ => exact dp_of _ _ _ e h
theorem rp_flat {K : Kx} {H : Hp} {r : List Addr} {d : D} {v : V} (h : Rp K H r d v) (f : flatD d = true) : flatV v = true := by
  cases d <;> first | (cases h; rfl) | (exact absurd (show false = true from f) Bool.false_ne_true)
theorem rp_eqF {K : Kx} {H : Hp} {r : List Addr} {d e : D} {v u : V} (h : Rp K H r d v) (g : Rp K H r e u) (f1 : flatD d = true) (f2 : flatD e = true) : eqV v u = eqF d e := by
  cases d <;> cases e <;> first | (cases h; cases g; rfl) | (exact absurd (show false = true from f1) Bool.false_ne_true) | (exact absurd (show false = true from f2) Bool.false_ne_true)
theorem rpl_flat {K : Kx} {H : Hp} {r : List Addr} : ∀ {xs : List D} {vs : List V}, RpL K H r xs vs → xs.all flatD = true → vs.all flatV = true
  | [], vs, h, f => by have h' : vs = [] := h; rw [h']; rfl
  | x :: xs, vs, h, f => by
    obtain ⟨v, t, rfl, h2, h3⟩ := h
    rw [List.all_cons, Bool.and_eq_true] at f ⊢
    exact ⟨rp_flat h2 f.1, rpl_flat h3 f.2⟩
theorem rpl_in {K : Kx} {H : Hp} {r : List Addr} {x : D} {v : V} (hx : Rp K H r x v) (fx : flatD x = true) : ∀ {xs : List D} {vs : List V}, RpL K H r xs vs → xs.all flatD = true → inV v vs = inF x xs
  | [], vs, h, f => by have h' : vs = [] := h; rw [h']; rfl
  | y :: xs, vs, h, f => by
    obtain ⟨u, t, rfl, h2, h3⟩ := h
    rw [List.all_cons, Bool.and_eq_true] at f
    have ih := rpl_in hx fx h3 f.2
    unfold inV inF at ih ⊢
    rw [List.any_cons, List.any_cons, ih, rp_eqF h2 hx f.1 fx]
/-- a sequence, as it stands -/
theorem seq_of {K : Kx} {H : Hp} {r : List Addr} {m : Mu} {d : D} {xs : List D} {v : V} (hm : RMu K H r m) (e : seqOf m d = some xs) (h : Rp K H r d v) :
    ∃ a vs, v = .ref a ∧ RpL K H r xs vs ∧ ((SqT K H a vs ∧ d = .tup xs) ∨ (SqL K H a vs ∧ ∀ ys, d ≠ .tup ys)) := by
  cases d with
  | tup ys =>
    obtain ⟨a, vs, rfl, h1, h2⟩ := h
    cases e
    exact ⟨a, vs, rfl, h2, .inl ⟨h1, rfl⟩⟩
  | ro ys =>
    obtain ⟨a, vs, rfl, h1, h2⟩ := h
    cases e
    exact ⟨a, vs, rfl, h2, .inr ⟨h1.sq, fun _ z => nomatch z⟩⟩
  | loc n =>
    unfold seqOf at e
    simp only at e
    cases q : m[n]? with
    | none => rw [q] at e; cases e
    | some o =>
      rw [q] at e
      cases o with
      | lst ys =>
        cases e
        obtain ⟨a, vs, h1, h2, h3⟩ := hm.at_lst q
        obtain ⟨b, g1, rfl⟩ := h
        rw [h1] at g1; cases g1
        exact ⟨a, vs, rfl, h3, .inr ⟨SqL.of h2, fun _ z => nomatch z⟩⟩
      | _ => cases e
  | _ => cases e
theorem seq_or {K : Kx} {H : Hp} {r : List Addr} {m : Mu} {d : D} {xs : List D} {v : V} (hm : RMu K H r m) (e : seqOf m d = some xs) (h : Rp K H r d v) :
    ∃ a vs, v = .ref a ∧ RpL K H r xs vs ∧ (SqL K H a vs ∨ SqT K H a vs) := by
  obtain ⟨a, vs, h1, h2, h3⟩ := seq_of hm e h
  exact ⟨a, vs, h1, h2, h3.elim (fun z => .inr z.1) fun z => .inl z.1⟩

/-! dicts -/
/-- at a stands the dict that is the object o -/
def DicAt (K : Kx) (H : Hp) (a : Addr) (o : Obj) : Prop := H a = some (dicO a o) ∨ FzD K H a o
theorem DicAt.get {X : Cx} {pins : List (Addr × Obj)} {σ : L2.St} {H : Hp} {s : Shared} {a : Addr} {o : Obj} (d : DicAt X.kx H a o) (I : Inv X pins σ H s) : s.heap.get? a = some o := by
  rcases d with d | ⟨u, d⟩ | d
  · exact (show ObjOk X.prog X.w H s.heap a (.ext fun h => h.get? a = some o) from I.hok a _ d).1
  · exact (show ObjOk X.prog X.w H s.heap a (.frz o u) from I.hok a _ d).1
  · exact I.kIn a o d
theorem dic_of {K : Kx} {H : Hp} {r : List Addr} {m : Mu} {d : D} {ks vs : List D} {v : V} (hm : RMu K H r m) (e : dicOf m d = some (ks, vs)) (h : Rp K H r d v) :
    ∃ a o kvs us, v = .ref a ∧ DicAt K H a o ∧ (a == sysModules) = false ∧ DicS K o ks kvs us ∧ RpL K H r ks kvs ∧ RpL K H r vs us := by
  cases d with
  | dic ks' vs' =>
    cases e
    obtain ⟨a, o, kvs, us, h1, h2, h3, h4, h5, h6⟩ := h
    exact ⟨a, o, kvs, us, h1, .inr h2, h3, h4, h5, h6⟩
  | dloc n =>
    unfold dicOf at e
    simp only at e
    cases q : m[n]? with
    | none => rw [q] at e; cases e
    | some ob =>
      rw [q] at e
      cases ob with
      | dic ks' vs' =>
        cases e
        obtain ⟨a, h1, rfl⟩ := h
        obtain ⟨o, kvs, us, g1, g2, g3, g4, g5⟩ := hm.ob n a _ h1 q
        exact ⟨a, o, kvs, us, rfl, .inl g1, g2, g3, g4, g5⟩
      | _ => cases e
  | _ => cases e
/-! comparisons -/
def cmR (c : Cm) (x y : D) (m : Mu) (P : D → Mu → Prop) : Prop := cm2 c x y m fun t => P (.bl t) m
section
variable {K : Kx}
theorem c2_eqv {b : Bool} {H : Hp} {r : List Addr} {m : Mu} {x y : D} {vx vy : V} (rx : Rp K H r x vx) (ry : Rp K H r y vy) (hm : RMu K H r m) (h : eqD m x y b) :
    (scal vx vy = true ∧ decide (vx = vy) = b) ∨ ∃ d e, Dp K H vx d ∧ Dp K H vy e ∧ SeqAt.shaped d = true ∧ SeqAt.shaped e = true ∧ PyData.eqv d e = b := by
  have gen : (∃ p q, toPD m x = some p ∧ toPD m y = some q ∧ SeqAt.shaped p = true ∧ SeqAt.shaped q = true ∧ b = PyData.eqv p q) →
      ∃ d e, Dp K H vx d ∧ Dp K H vy e ∧ SeqAt.shaped d = true ∧ SeqAt.shaped e = true ∧ PyData.eqv d e = b := by
    rintro ⟨p, q, h1, h2, h3, h4, rfl⟩
    exact ⟨p, q, dpD_of hm h1 rx, dpD_of hm h2 ry, h3, h4, rfl⟩
  cases x <;> cases y <;> first
    | exact .inr (gen h)
    | (cases rx; cases ry
       have h' : b = _ := h
       subst h'
       exact .inl ⟨rfl, by simp⟩)
theorem c2_eq : Op2R K (fun x y H Q => rEq x y H Q ∨ rEqD K x y H Q) (cmR .eq) := by
  intro H r m x y vx vy P Q rx ry hm h hP
  obtain ⟨b, h1, h2⟩ := h
  have fin := (hP _ _ h2).here (v := .bl b) rfl hm
  rcases c2_eqv rx ry hm h1 with ⟨e1, e2⟩ | ⟨d, e, g1, g2, g3, g4, g5⟩
  · exact .inl ⟨e1, by rw [e2]; exact fin⟩
  · exact .inr ⟨d, e, g1, g2, g3, g4, by rw [g5]; exact fin⟩
theorem c2_ne : Op2R K (fun x y H Q => rNe x y H Q ∨ rNeD K x y H Q) (cmR .ne) := by
  intro H r m x y vx vy P Q rx ry hm h hP
  obtain ⟨b, h1, h2⟩ := h
  have fin := (hP _ _ h2).here (v := .bl (!b)) rfl hm
  rcases c2_eqv rx ry hm h1 with ⟨e1, e2⟩ | ⟨d, e, g1, g2, g3, g4, g5⟩
  · exact .inl ⟨e1, by rw [e2]; exact fin⟩
  · exact .inr ⟨d, e, g1, g2, g3, g4, by rw [g5]; exact fin⟩
/-- x in xs, of data of any depth -/
def rInP (K : PySem.W.Frag) (neg : Bool) : R2 := fun x y H Q => ∃ d ds c, Dp K H x d ∧ Dp K H y c ∧ (c = .list ds ∨ c = .tuple ds) ∧ SeqAt.shaped d = true ∧ SeqAt.shaped c = true ∧ d.depth ≤ 60 ∧ Q (.bl (if neg = true then !ds.any fun z => PyData.eqv z d else ds.any fun z => PyData.eqv z d)) H
theorem room_inP {A : Around} {xs : List PyData} {d : PyData} (hd : d.depth ≤ 60) (hu : A.units + 64 < cLine) : A.units + 1 + min (PyData.depthAll xs) d.depth < cLine := by
  have h2 : min (PyData.depthAll xs) d.depth ≤ d.depth := Nat.min_le_right _ _
  omega
theorem op_inP {X : Cx} (hu : X.A.units + 64 < cLine) : OpR X (compareOp .In) (rInP X.K false) := by
  intro pins s σ H x y v u Q I rx ry h
  obtain ⟨d, ds, c, hd, he, hc, sd, se, dp, q⟩ := h
  obtain ⟨as, r1⟩ := Dp.reads I d x v hd rx
  obtain ⟨bs, r2⟩ := Dp.reads I c y u he ry
  rcases hc with rfl | rfl
  · exact SeqAt.in_list_reads r2 r1 (SeqAt.canLay_of_shaped se) (SeqAt.canLay_of_shaped sd) (room_inP dp hu) ⟨.bl _, H, I, rfl, q⟩
  · exact SeqAt.in_tuple_reads r2 r1 (SeqAt.canLay_of_shaped se) (SeqAt.canLay_of_shaped sd) (room_inP dp hu) ⟨.bl _, H, I, rfl, q⟩
theorem op_notInP {X : Cx} (hu : X.A.units + 64 < cLine) : OpR X (compareOp .NotIn) (rInP X.K true) := by
  intro pins s σ H x y v u Q I rx ry h
  obtain ⟨d, ds, c, hd, he, hc, sd, se, dp, q⟩ := h
  obtain ⟨as, r1⟩ := Dp.reads I d x v hd rx
  obtain ⟨bs, r2⟩ := Dp.reads I c y u he ry
  rcases hc with rfl | rfl
  · exact SeqAt.notIn_list_reads r2 r1 (SeqAt.canLay_of_shaped se) (SeqAt.canLay_of_shaped sd) (room_inP dp hu) ⟨.bl _, H, I, rfl, q⟩
  · exact SeqAt.notIn_tuple_reads r2 r1 (SeqAt.canLay_of_shaped se) (SeqAt.canLay_of_shaped sd) (room_inP dp hu) ⟨.bl _, H, I, rfl, q⟩
def rLtD (K : PySem.W.Frag) : R2 := fun x y H Q => ∃ d e, Dp K H x d ∧ Dp K H y e ∧ PySem.W.alike d e = true ∧ d ≠ .none ∧ d.depth ≤ 60 ∧ Q (.bl (PySem.W.dataLt d e)) H
theorem op_ltD {X : Cx} (hu : X.A.units + 64 < cLine) : OpR X (compareOp .Lt) (rLtD X.K) := by
  intro pins s σ H x y v u Q I rx ry h
  obtain ⟨d, e, hd, he, al, nn, dp, q⟩ := h
  obtain ⟨as, r1⟩ := Dp.reads I d x v hd rx
  obtain ⟨bs, r2⟩ := Dp.reads I e y u he ry
  exact PySem.W.rcLt_alike d e X.A s v u as bs r1 r2 al nn (by have := Nat.min_le_left d.depth e.depth; omega) X.prog X.w X.xe _ ⟨.bl _, H, I, rfl, q⟩
theorem c2_lt : Op2R K (fun x y H Q => rI0 (fun i j => .bl (decide (i < j))) x y H Q ∨ rLtD K x y H Q) (cmR .lt) := by
  intro H r m x y vx vy P Q rx ry hm h hP
  rcases h with ⟨i, j, rfl, rfl, q⟩ | ⟨p, q, h1, h2, h3, h4, h5, h6⟩
  · cases rx; cases ry
    exact .inl ⟨i, j, rfl, rfl, (hP _ _ q).here rfl hm⟩
  · exact .inr ⟨p, q, dpD_of hm h1 rx, dpD_of hm h2 ry, h3, h4, h5, (hP _ _ h6).here rfl hm⟩
theorem c2_le : Op2R K (rI0 fun i j => .bl (decide (i ≤ j))) (cmR .le) := by
  intro H r m x y vx vy P Q rx ry hm h hP
  obtain ⟨i, j, rfl, rfl, q⟩ := h
  cases rx; cases ry
  exact ⟨i, j, rfl, rfl, (hP _ _ q).here rfl hm⟩
theorem c2_gt : Op2R K (rI0 fun i j => .bl (decide (j < i))) (cmR .gt) := by
  intro H r m x y vx vy P Q rx ry hm h hP
  obtain ⟨i, j, rfl, rfl, q⟩ := h
  cases rx; cases ry
  exact ⟨i, j, rfl, rfl, (hP _ _ q).here rfl hm⟩
theorem c2_ge : Op2R K (rI0 fun i j => .bl (decide (j ≤ i))) (cmR .ge) := by
  intro H r m x y vx vy P Q rx ry hm h hP
  obtain ⟨i, j, rfl, rfl, q⟩ := h
  cases rx; cases ry
  exact ⟨i, j, rfl, rfl, (hP _ _ q).here rfl hm⟩
theorem rp_non {H : Hp} {r : List Addr} {x : D} {v : V} (h : Rp K H r x v) : decide (v = .non) = isNon x := by
  cases x with
  | tup xs => obtain ⟨a, vs, rfl, _⟩ := h; rfl
  | ro xs => obtain ⟨a, vs, rfl, _⟩ := h; rfl
  | loc n => obtain ⟨a, _, rfl⟩ := h; rfl
  | dic ks vs => obtain ⟨a, o, kvs, us, rfl, _⟩ := h; rfl
  | dloc n => obtain ⟨a, _, rfl⟩ := h; rfl
  | obj C ns fs => obtain ⟨a, o, c, dx, us, rfl, _⟩ := h; rfl
  | fn n => obtain ⟨a, rfl, _⟩ := h; rfl
  | _ => cases h; first | rfl | simp
theorem c2_isN : Op2R K (fun x y H Q => (y = .non ∧ Q (.bl (decide (x = .non))) H) ∨ rIsB x y H Q) (cmR .isN) := by
  intro H r m x y vx vy P Q rx ry hm h hP
  rcases h with ⟨rfl, q⟩ | ⟨t, u, rfl, rfl, q⟩
  rotate_left
  · cases rx
    cases ry
    exact .inr ⟨t, u, rfl, rfl, (hP _ _ q).here rfl hm⟩
  refine .inl ?_
  cases ry
  refine ⟨rfl, ?_⟩
  rw [rp_non rx]
  exact (hP _ _ q).here rfl hm
theorem c2_notN : Op2R K (fun x y H Q => (y = .non ∧ Q (.bl (!decide (x = .non))) H) ∨ rNotB x y H Q) (cmR .notN) := by
  intro H r m x y vx vy P Q rx ry hm h hP
  rcases h with ⟨rfl, q⟩ | ⟨t, u, rfl, rfl, q⟩
  rotate_left
  · cases rx
    cases ry
    exact .inr ⟨t, u, rfl, rfl, (hP _ _ q).here rfl hm⟩
  refine .inl ?_
  cases ry
  refine ⟨rfl, ?_⟩
  rw [rp_non rx]
  exact (hP _ _ q).here rfl hm
end
end Ab

set_option maxHeartbeats 4000000
/-! sorted lists of tuples of texts, all of one length -/
namespace AbSrt
open PySem PyProof.Rows Srt SrtO
theorem str_ext {a b : PySem.Str} (h : a.cps.toList = b.cps.toList) : a = b := by
  cases a; cases b
  simp only [PySem.Str.mk.injEq]
  exact Array.toList_inj.mp h
theorem sLt_irr (a : PySem.Str) : sLt a a = false := decide_eq_false (List.lt_irrefl _)
theorem sLt_asym {a b : PySem.Str} (h : sLt a b = true) : sLt b a = false := decide_eq_false (List.lt_asymm (of_decide_eq_true h))
theorem sLt_trans {a b c : PySem.Str} (h : sLt a b = true) (h2 : sLt b c = true) : sLt a c = true := decide_eq_true (List.lt_trans (of_decide_eq_true h) (of_decide_eq_true h2))
theorem sLt_tri {a b : PySem.Str} (h1 : sLt a b = false) (h2 : sLt b a = false) : a = b := by
  have h1' := of_decide_eq_false h1
  have h2' := of_decide_eq_false h2
  exact str_ext (List.le_antisymm (List.not_lt.mp h2') (List.not_lt.mp h1'))
theorem lexS_asym : ∀ {x y : List PySem.Str}, lexS x y = true → lexS y x = false
  | [], _, h => by cases h
  | _ :: _, [], h => by cases h
  | x :: xs, y :: ys, h => by
    unfold lexS at h ⊢
    by_cases e : x = y
    · rw [if_pos e] at h
      rw [if_pos e.symm]
      exact lexS_asym h
    · rw [if_neg e] at h
      rw [if_neg (fun z => e z.symm)]
      exact sLt_asym h
theorem lexS_tr : ∀ {x y z : List PySem.Str}, x.length = y.length → y.length = z.length → lexS y x = false → lexS z y = false → lexS z x = false
  | [], [], [], _, _, _, _ => rfl
  | x :: xs, y :: ys, z :: zs, h1, h2, h3, h4 => by
    unfold lexS at h3 h4 ⊢
    have l1 : xs.length = ys.length := Nat.succ.inj h1
    have l2 : ys.length = zs.length := Nat.succ.inj h2
    by_cases e : y = x
    · by_cases f : z = y
      · subst e; subst f
        rw [if_pos rfl] at h3 h4 ⊢
        exact lexS_tr l1 l2 h3 h4
      · subst e
        rw [if_neg f] at h4 ⊢
        exact h4
    · by_cases f : z = y
      · subst f
        rw [if_neg e] at h3 ⊢
        exact h3
      · rw [if_neg e] at h3
        rw [if_neg f] at h4
        by_cases g : z = x
        · subst g
          exact absurd (sLt_tri h4 h3) f
        · rw [if_neg g]
          cases q : sLt z x with
          | false => rfl
          | true =>
            -- y not below x, z not below y, z below x
            cases p : sLt y z with
            | true => rw [sLt_trans p q] at h3; cases h3
            | false => exact absurd (sLt_tri h4 p) f
  | [], [], _ :: _, _, h2, _, _ => by cases h2
  | [], _ :: _, _, h1, _, _, _ => by cases h1
  | _ :: _, [], _, h1, _, _, _ => by cases h1
  | _ :: _, _ :: _, [], _, h2, _, _ => by cases h2
theorem lexS_tri : ∀ {x y : List PySem.Str}, x.length = y.length → lexS x y = false → lexS y x = false → x = y
  | [], [], _, _, _ => rfl
  | x :: xs, y :: ys, h, h1, h2 => by
    unfold lexS at h1 h2
    by_cases e : x = y
    · subst e
      rw [if_pos rfl] at h1 h2
      rw [lexS_tri (Nat.succ.inj h) h1 h2]
    · rw [if_neg e] at h1
      rw [if_neg (fun z => e z.symm)] at h2
      exact absurd (sLt_tri h1 h2) e
  | [], _ :: _, h, _, _ => by cases h
  | _ :: _, [], h, _, _ => by cases h
/-- .. those of a length alone -/
def lexN (n : Nat) (x y : List PySem.Str) : Bool := if x.length = n then (if y.length = n then lexS x y else true) else false
theorem swo_lexN (n : Nat) {α : Type} (k : α → List PySem.Str) : Swo fun u v => lexN n (k u) (k v) := by
  refine ⟨fun x y h => ?_, fun x y z h1 h2 => ?_⟩
  · unfold lexN at h ⊢
    by_cases a : (k x).length = n
    · by_cases b : (k y).length = n
      · rw [if_pos a, if_pos b] at h
        rw [if_pos b, if_pos a]
        exact lexS_asym h
      · rw [if_neg b]
    · rw [if_neg a] at h; cases h
  · unfold lexN at h1 h2 ⊢
    by_cases a : (k x).length = n
    · by_cases b : (k y).length = n
      · by_cases c : (k z).length = n
        · rw [if_pos b, if_pos a] at h1
          rw [if_pos c, if_pos b] at h2
          rw [if_pos c, if_pos a]
          exact lexS_tr (a.trans b.symm) (b.trans c.symm) h1 h2
        · rw [if_neg c]
      · by_cases c : (k z).length = n
        · rw [if_pos c, if_neg b] at h2; cases h2
        · rw [if_neg c]
    · by_cases b : (k y).length = n
      · rw [if_pos b, if_neg a] at h1; cases h1
      · by_cases c : (k z).length = n
        · rw [if_pos c, if_neg b] at h2; cases h2
        · rw [if_neg c]
inductive StrsAre : List Value → List PySem.Str → Prop
  | nil : StrsAre [] []
  | cons (x : PySem.Str) (t : Tok) {vs : List Value} {xs : List PySem.Str} (r : StrsAre vs xs) : StrsAre (.str x t :: vs) (x :: xs)
theorem StrsAre.length : ∀ {vs : List Value} {xs : List PySem.Str}, StrsAre vs xs → vs.length = xs.length
  | _, _, .nil => rfl
  | _, _, .cons _ _ r => congrArg (· + 1) r.length
def TupS (h : Heap) (v : Value) (xs : List PySem.Str) : Prop := ∃ a o its n, v = .ref a ∧ h.get? a = some o ∧ o.cls = .type "tuple" ∧ o.data = .seq its n ∧ StrsAre its.toList xs
theorem TupS.keeps {h h' : Heap} {v : Value} {xs : List PySem.Str} (p : TupS h v xs) (k : ∀ b o, h.get? b = some o → o.cls = .type "tuple" → h'.get? b = some o) : TupS h' v xs := by
  obtain ⟨a, o, its, n, e, ho, hc, hd⟩ := p
  exact ⟨a, o, its, n, e, k _ _ ho hc, hc, hd⟩
section
variable {prog : Program} {w : World} {A : Around} {E : Value → Shared → Prop} {s : Shared}
theorem kat_strs {fin : Bool} (hf : fin = false) {b : Bool} : ∀ {us vs : List Value} {xs ys : List PySem.Str} (i : Nat), (b = true ∨ b = false) → StrsAre us xs → StrsAre vs ys → xs.length = ys.length →
    PySem.W.KatLex prog w A b fin (fun r s' => s' = s ∧ r = lexS xs ys) (us.zip vs) i s
  | _, _, _, _, i, hb, .nil, .nil, _ => PySem.W.kat_nil ⟨rfl, hf⟩
  | _, _, _, _, i, hb, .cons x t r, .cons y u r', hl => by
    rw [List.zip_cons_cons]
    refine PySem.W.kat_cons (SeqAt.EqAt.str_str x t y u prog w _ _ ?_)
    refine PySem.W.kat_go (fun e1 => ?_) (fun e1 => ?_)
    · have ex : x = y := by simpa using e1
      subst ex
      refine PySem.W.kat_yes ?_
      have e3 : ∀ xs ys, lexS (x :: xs) (x :: ys) = lexS xs ys := fun xs ys => if_pos rfl
      rw [e3]
      exact kat_strs hf (i + 1) hb r r' (Nat.succ.inj hl)
    · have ex : ¬ x = y := by simpa using e1
      have e3 : ∀ xs ys, lexS (x :: xs) (y :: ys) = sLt x y := fun xs ys => if_neg ex
      rw [e3]
      refine PySem.W.kat_no ?_
      cases b && i == 0 with
      | true => exact oneLt_str ⟨rfl, rfl⟩
      | false => exact PySem.W.kat_one _ _ (PyProof.Rows.lt_str (show s = s ∧ decide (x.cps.toList < y.cps.toList) = sLt x y from ⟨rfl, rfl⟩))
  | _, _, _, _, _, _, .nil, .cons _ _ _, h => by cases h
  | _, _, _, _, _, _, .cons _ _ _, .nil, h => by cases h
theorem tup_cmp {n : Nat} {vs : List Value} {k : Value → List PySem.Str} (hp : ∀ v ∈ vs, TupS s.heap v (k v) ∧ (k v).length = n) : Cmp prog w A s (tuples' true) (fun p => p.1 ∈ vs) (lt2 fun v u => lexN n (k v) (k u)) := by
  intro p q hm hm'
  obtain ⟨h1, l1⟩ := hp _ hm
  obtain ⟨h2, l2⟩ := hp _ hm'
  show wpAny (model prog w) A (keyLt' (tuples' true) p.1 q.1) (fun r s' => s' = s ∧ r = lexN n (k p.1) (k q.1)) (fun _ _ => False) s
  have e0 : lexN n (k p.1) (k q.1) = lexS (k p.1) (k q.1) := by unfold lexN; rw [if_pos l1, if_pos l2]
  rw [e0]
  generalize k p.1 = x at h1 l1 ⊢
  generalize k q.1 = y at h2 l2 ⊢
  obtain ⟨a, o, its, m, e, ho, hc, hd, hs⟩ := h1
  obtain ⟨a', o', its', m', e', ho', hc', hd', hs'⟩ := h2
  rw [e, e']
  refine PySem.W.kat_lt ho hd ho' hd' ?_
  have hz : decide (its.size < its'.size) = false := by
    have g1 := hs.length
    have g2 := hs'.length
    simp only [Array.length_toList] at g1 g2
    exact decide_eq_false (by omega)
  exact kat_strs hz 0 (.inl rfl) hs hs' (l1.trans l2.symm)
theorem firsts_of {n : Nat} (hn : 1 ≤ n) {h : Heap} {k : Value → List PySem.Str} : ∀ {vs : List Value}, (∀ v ∈ vs, TupS h v (k v) ∧ (k v).length = n) → ∃ fs : List Value, PySem.W.KatTups h vs fs ∧ fs.length = vs.length ∧ ∀ f ∈ fs, ∃ x t, f = Value.str x t
  | [], _ => ⟨[], PySem.W.KatTups.nil, rfl, fun _ hm => by simp at hm⟩
  | v :: vs, hp => by
    obtain ⟨fs, h1, h2, h3⟩ := firsts_of hn (vs := vs) fun v' hm => hp v' (List.mem_cons_of_mem _ hm)
    obtain ⟨⟨a, o, its, m, e, ho, hc, hd, hs⟩, hl⟩ := hp v List.mem_cons_self
    have : ∃ x t r, its.toList = Value.str x t :: r := by
      generalize its.toList = l at hs
      generalize k v = ks at hs hl
      cases hs with
      | nil => simp at hl; omega
      | cons x t r => exact ⟨x, t, _, rfl⟩
    obtain ⟨x, t, r, e2⟩ := this
    have e3 : its[0]? = some (Value.str x t) := by rw [← Array.getElem?_toList, e2]; rfl
    subst e
    refine ⟨.str x t :: fs, PySem.W.KatTups.cons ho hc hd e3 h1, by rw [List.length_cons, List.length_cons, h2], fun f hm => ?_⟩
    rcases List.mem_cons.mp hm with rfl | hm
    · exact ⟨x, t, rfl⟩
    · exact h3 f hm
theorem tups_sortable {n : Nat} (hn : 1 ≤ n) {a : Addr} {vs : List Value} {k : Value → List PySem.Str} (h0 : 0 < vs.length) (hp : ∀ v ∈ vs, TupS s.heap v (k v) ∧ (k v).length = n) (ha : ∀ o, s.heap.get? a = some o → o.cls ≠ .type "tuple") : SortableO prog w A s a vs fun v u => lexN n (k v) (k u) := by
  intro h' keep
  have hp' : ∀ v ∈ vs, TupS h' v (k v) ∧ (k v).length = n := fun v hm => ⟨(hp v hm).1.keeps fun b o e c => keep b o (fun z => by subst z; exact ha o e c) e, (hp v hm).2⟩
  obtain ⟨fs, h1, h2, h3⟩ := firsts_of hn hp'
  refine ⟨tuples' true, fun Q E hq => ?_, tup_cmp hp'⟩
  refine PySem.W.kat_kind (T := .type "str") h1 (by omega) (fun f hm => ?_) (by rfl) ?_
  · obtain ⟨x, t, rfl⟩ := h3 f hm
    exact PySem.W.Looks.now
  · have e : (Value.type "str" != Value.type "tuple") = true := by first | decide +kernel | rfl | decide
    rw [e]
    exact hq
theorem sorted_tupS {n : Nat} (hn : 1 ≤ n) {l : Addr} {vs : List Value} {k : Value → List PySem.Str} {Q : Value → Shared → Prop} (hl : s.heap.IsList l vs.toArray) (hz : vs.length ≤ sizeLine) (hp : ∀ v ∈ vs, TupS s.heap v (k v) ∧ (k v).length = n)
    (h : ∀ (h' : Heap) (d : Addr) (out : List Value), Srtd (fun v u => lexN n (k v) (k u)) out → out.Perm vs → (∀ b o, s.heap.get? b = some o → h'.get? b = some o) → s.heap.objs.size ≤ d → (∃ n, h'.get? d = some (seqObj "list" out.toArray n)) → Q (.ref d) { s with heap := h' }) :
    wpAny (model prog w) A (call (.builtin "sorted") [.ref l]) Q E s := by
  refine sorted_ord (swo_lexN n k) hl hz (fun h2 h₁ a ha kk => ?_) fun out hs hb => ?_
  · refine tups_sortable hn (s := { s with heap := h₁ }) (by omega) (fun v hm => ⟨(hp v hm).1.keeps fun b o e _ => (kk b o e).2, (hp v hm).2⟩) fun o e => ?_
    have e' : some o = some (seqObj "list" vs.toArray 0) := e.symm.trans ha
    cases e'
    intro c
    exact absurd (Value.type.inj c) (by decide)
  · exact h _ _ out hs hb.perm (fun b o e => sortedAll_old e) (Nat.le_succ _) (sortedAll_at s.heap vs out.toArray)
end
end AbSrt

namespace Ab
open PySem PySem.Spec PyProof.Rows L2
/-- sorted(xs) of tuples of texts, all of one length -/
abbrev TxtP (K : PySem.W.Frag) (H : Hp) : List (List Str) → List V → Prop := Paired fun t v => ∃ b, v = V.ref b ∧ SqT K H b (t.map V.str)
def rSortT (K : PySem.W.Frag) : List V → Hp → VK → Prop := fun xs H Q => ∃ (a : Addr) (vs : List V) (n : Nat) (ts : List (List Str)), xs = [.ref a] ∧ SqL K H a vs ∧ 1 ≤ n ∧ TxtP K H ts vs ∧ (∀ t ∈ ts, t.length = n) ∧
  ∀ ys ts' p, TxtP K H ts' ys → (∀ y ∈ ys, y ∈ vs) → ts'.Perm ts → ts'.Pairwise (fun u v => AbSrt.lexS v u = false) → H p = none → Q (.ref p) (upd H p (.lst ys))
theorem strs_are : ∀ {xs : List Str} {us : List Value}, Vals (xs.map V.str) us → AbSrt.StrsAre us xs
  | [], _, .nil => .nil
  | x :: xs, _, .cons r t => by
    obtain ⟨tk, rfl⟩ := r
    exact .cons x tk (strs_are t)
theorem paired_map {α β γ : Type} {F : α → β → Prop} {f : γ → α} {g : γ → β} : ∀ {l : List γ}, (∀ x ∈ l, F (f x) (g x)) → Paired F (l.map f) (l.map g)
  | [], _ => .nil
  | x :: l, h => .cons (h x List.mem_cons_self) (paired_map fun y hy => h y (List.mem_cons_of_mem _ hy))
theorem paired_mem {α β : Type} {F : α → β → Prop} : ∀ {l : List α} {m : List β} {y : β}, Paired F l m → y ∈ m → ∃ x ∈ l, F x y
  | _, _, _, .nil, h => by simp at h
  | _, _, y, .cons r t, h => by
    rcases List.mem_cons.mp h with e | h
    · subst e
      exact ⟨_, List.mem_cons_self, r⟩
    · obtain ⟨x, h1, h2⟩ := paired_mem t h
      exact ⟨x, List.mem_cons_of_mem _ h1, h2⟩
theorem paired_fun {α β : Type} {F : α → β → Prop} {k : β → α} : ∀ {l : List α} {m : List β}, Paired F l m → (∀ x y, F x y → k y = x) → m.map k = l
  | _, _, .nil, _ => rfl
  | _, _, .cons r t, h => by rw [List.map_cons, h _ _ r, paired_fun t h]
theorem map_str_inj : ∀ {a b : List Str}, a.map V.str = b.map V.str → a = b
  | [], [], _ => rfl
  | x :: xs, y :: ys, h => by
    rw [List.map_cons, List.map_cons] at h
    injection h with h1 h2
    injection h1 with h1
    rw [h1, map_str_inj h2]
  | [], _ :: _, h => by cases h
  | _ :: _, [], h => by cases h
open Classical in
noncomputable def txt (K : PySem.W.Frag) (H : Hp) (v : V) : List Str := if h : ∃ t : List Str, ∃ a, v = .ref a ∧ SqT K H a (t.map V.str) then h.choose else []
theorem txt_eq {X : Cx} {pins : List (Addr × Obj)} {σ : L2.St} {H : Hp} {s : Shared} (I : Inv X pins σ H s) {t : List Str} {b : Addr} (h : SqT X.K H b (t.map V.str)) : txt X.K H (.ref b) = t := by
  have e : ∃ t : List Str, ∃ a, V.ref b = .ref a ∧ SqT X.K H a (t.map V.str) := ⟨t, b, rfl, h⟩
  unfold txt
  rw [dif_pos e]
  obtain ⟨a, ea, h2⟩ := e.choose_spec
  cases ea
  exact map_str_inj (I.tuple_inj h2 h)
theorem cr_sortT {X : Cx} : CallR X (.builtin "sorted") (rSortT X.K) := by
  intro pins s σ H xs us Q I r h
  obtain ⟨a, vs, n, ts, rfl, hs, hn, hp, hlen, q⟩ := h
  obtain ⟨its, rv, hl, hz⟩ := I.list hs
  obtain ⟨u, rfl, ru⟩ := vals1 r
  obtain rfl : u = Value.ref a := ru
  obtain ⟨e1, e2⟩ := refs_back rv fun x m => by
    obtain ⟨_, _, t, e, _⟩ := paired_mem hp m
    exact ⟨t, e⟩
  have hx : ∀ x ∈ vs, (txt X.K H x).length = n ∧ ∃ t, x = .ref t ∧ SqT X.K H t ((txt X.K H x).map V.str) := fun x m => by
    obtain ⟨t, ht, b, rfl, hb⟩ := paired_mem hp m
    rw [txt_eq I hb]
    exact ⟨hlen t ht, b, rfl, hb⟩
  refine AbSrt.sorted_tupS hn (k := fun u => txt X.K H (backV u)) hl.isList (by rw [← rv.length]; exact hz) (fun v hv => ?_) fun h' d out h1 h2 kp hd hn' => ?_
  · obtain ⟨t, rfl⟩ := e2 v hv
    have hm : V.ref t ∈ vs := by rw [e1]; exact List.mem_map.mpr ⟨_, hv, rfl⟩
    obtain ⟨hl', t', e, ht⟩ := hx _ hm
    cases e
    obtain ⟨its2, r2, ⟨o, ho, hc, m, hd⟩, _⟩ := I.tuple ht
    exact ⟨⟨t, o, _, m, rfl, ho, hc, hd, strs_are r2⟩, hl'⟩
  · have h3 : ∀ u ∈ out, ∃ a, u = Value.ref a := fun u hu => e2 u (h2.mem_iff.mp hu)
    obtain ⟨m, hm⟩ := hn'
    have hb : (out.map backV).Perm vs := by
      rw [e1]
      exact h2.map backV
    have hts : vs.map (txt X.K H) = ts := paired_fun hp fun x y ⟨b, e, hy⟩ => by
      subst e
      exact txt_eq I hy
    refine ⟨.ref d, upd H d (.lst (out.map backV)), I.laid (t' := s.toks) kp hd ⟨?_, out, m, vals_back h3, hm⟩, rfl, q _ ((out.map backV).map (txt X.K H)) d ?_ (fun y hy => hb.mem_iff.mp hy) ?_ ?_ (I.hok.fresh hd)⟩
    · rw [hb.length_eq]
      exact hz
    · have e3 : out.map backV = (out.map backV).map id := (List.map_id _).symm
      rw [show TxtP X.K H ((out.map backV).map (txt X.K H)) (out.map backV) = TxtP X.K H ((out.map backV).map (txt X.K H)) ((out.map backV).map id) from congrArg _ e3]
      exact paired_map fun x hx' => (hx x (hb.mem_iff.mp hx')).2
    · rw [← hts]
      exact hb.map _
    · rw [List.map_map, List.pairwise_map]
      refine List.Pairwise.imp_of_mem (fun {u v} hu hv h => ?_) h1
      have g1 := (hx _ (hb.mem_iff.mp (List.mem_map.mpr ⟨u, hu, rfl⟩))).1
      have g2 := (hx _ (hb.mem_iff.mp (List.mem_map.mpr ⟨v, hv, rfl⟩))).1
      have h' : AbSrt.lexN n (txt X.K H (backV v)) (txt X.K H (backV u)) = false := h
      unfold AbSrt.lexN at h'
      rw [if_pos g2, if_pos g1] at h'
      exact h'
end Ab

namespace Ab
open PySem PySem.Spec PyProof.Rows L2

section
variable {X : Cx} {pins : List (Addr × Obj)} {σ : L2.St} {H : Hp} {s : Shared} {r : List Addr}
mutual
theorem nk_is (I : Inv X pins σ H s) : ∀ (d : D) (n : NestedKey) (v : V) (u : Value), nk d = some n → Rp X.kx H r d v → RelV v u → NestedIs s.heap n u
  | .non, n, v, u, e, h, ru => by
    cases h; cases e; cases ru; exact .none
  | .bl b, n, v, u, e, h, ru => by
    cases h; cases e; cases ru; exact .bool rfl
  | .int i, n, v, u, e, h, ru => by
    cases h; cases e; obtain ⟨t, rfl⟩ := ru; exact .int i t
  | .str x, n, v, u, e, h, ru => by
    cases h; cases e; obtain ⟨t, rfl⟩ := ru; exact .text x t
  | .tup xs, n, v, u, e, h, ru => by
    obtain ⟨a, vs, rfl, h1, h2⟩ := h
    cases ru
    have e' : (nks xs).map NestedKey.tup = some n := e
    cases q : nks xs with
    | none => rw [q] at e'; cases e'
    | some ns =>
      rw [q] at e'
      cases e'
      obtain ⟨its, rv, ⟨o, g1, g2, k, g3⟩, _⟩ := I.tuple h1
      exact .tup g1 g2 g3 (nks_is I xs ns vs its q h2 rv)
  | .ro _, n, v, u, e, h, ru => by cases e
  | .loc _, n, v, u, e, h, ru => by cases e
  | .ty _, n, v, u, e, h, ru => by cases e
  | .dic _ _, n, v, u, e, h, ru => by cases e
  | .dloc _, n, v, u, e, h, ru => by cases e
  | .obj _ _ _, n, v, u, e, h, ru => by cases e
theorem nks_is (I : Inv X pins σ H s) : ∀ (xs : List D) (ns : List NestedKey) (vs : List V) (us : List Value), nks xs = some ns → RpL X.kx H r xs vs → Vals vs us → NestedAll s.heap ns us
  | [], ns, vs, us, e, h, rv => by
    have h' : vs = [] := h
    subst h'
    cases e; cases rv; exact .nil
  | x :: xs, ns, vs, us, e, h, rv => by
    obtain ⟨v, t, rfl, h2, h3⟩ := h
    unfold nks at e
    cases q1 : nk x with
    | none => rw [q1] at e; cases e
    | some n1 =>
      cases q2 : nks xs with
      | none => rw [q1, q2] at e; cases e
      | some ns1 =>
        rw [q1, q2] at e
        cases e
        cases rv with
        | cons r1 r2 => exact .cons (nk_is I x n1 v _ q1 h2 r1) (nks_is I xs ns1 t _ q2 h3 r2)
end
/-- the entries as the library tells them -/
inductive EnT (K : Kx) (H : Hp) (r : List Addr) : List D → List D → List V → List V → List (NestedKey × Addr × Value) → Prop
  | nil : EnT K H r [] [] [] [] []
  | cons {k v : D} {ks vs : List D} {kv u : V} {kvs us : List V} {n : NestedKey} {a : Addr} {w : Value} {xs : List (NestedKey × Addr × Value)} (h1 : nk k = some n) (h2 : n.depth ≤ 8) (h3 : kv = .ref a) (h4 : Rp K H r k (.ref a)) (h5 : RelV u w) (h6 : Rp K H r v u)
      (t : EnT K H r ks vs kvs us xs) : EnT K H r (k :: ks) (v :: vs) (kv :: kvs) (u :: us) ((n, a, w) :: xs)
theorem enT_of {K : Kx} {H : Hp} {r : List Addr} : ∀ {ks vs : List D} {kvs us : List V} {ns : List NestedKey} {ys ws : List Value}, ks.all isTup = true → nks ks = some ns → (∀ n ∈ ns, n.depth ≤ 8) → Vals kvs ys → Vals us ws → ns.length = ys.length → ns.length = ws.length →
    RpL K H r ks kvs → RpL K H r vs us → ∃ xs : List (NestedKey × Addr × Value), EnT K H r ks vs kvs us xs ∧ xs.map (·.1) = ns ∧ ((ns.zip (ys.zip ws)).map fun x => (⟨x.1.hash K.w, x.2.1, x.2.2⟩ : DictEntry)) = xs.map (entryOfKey (nestedKind K.P K.w))
  | [], vs, kvs, us, ns, ys, ws, ht, hn, hd, r1, r2, l1, l2, rk, rv => by
    cases hn
    have hk : kvs = [] := rk
    subst hk
    cases r1
    cases ws with
    | cons _ _ => cases l2
    | nil =>
      cases r2
      have hv : vs = [] := by cases vs with | nil => rfl | cons => obtain ⟨_, _, e, _⟩ := rv; cases e
      subst hv
      exact ⟨[], .nil, rfl, rfl⟩
  | k :: ks, vs, kvs, us, ns, ys, ws, ht, hn, hd, r1, r2, l1, l2, rk, rv => by
    unfold nks at hn
    cases q1 : nk k with
    | none => rw [q1] at hn; cases hn
    | some n1 =>
      cases q2 : nks ks with
      | none => rw [q1, q2] at hn; cases hn
      | some ns1 =>
        rw [q1, q2] at hn
        cases hn
        obtain ⟨kv, kt, rfl, hk1, hk2⟩ := rk
        cases r1 with
        | cons ra rb =>
          cases ws with
          | nil => cases l2
          | cons w ws =>
            cases r2 with
            | cons rc rd =>
              cases vs with
              | nil => have : _ :: _ = [] := rv; cases this
              | cons v vs =>
                obtain ⟨u0, ut, e, hv1, hv2⟩ := rv
                cases e
                rw [List.all_cons, Bool.and_eq_true] at ht
                obtain ⟨xs, g1, g2, g3⟩ := enT_of ht.2 q2 (fun n hn => hd n (List.mem_cons_of_mem _ hn)) rb rd (Nat.succ.inj l1) (Nat.succ.inj l2) hk2 hv2
                have tk : ∃ zs, k = .tup zs := by
                  cases k <;> first | exact ⟨_, rfl⟩ | exact absurd (show false = true from ht.1) Bool.false_ne_true
                obtain ⟨zs, rfl⟩ := tk
                obtain ⟨a, us', rfl, h1, h2⟩ := id hk1
                cases ra
                refine ⟨(n1, a, w) :: xs, .cons q1 (hd n1 List.mem_cons_self) rfl hk1 rc hv1 g1, by rw [List.map_cons, g2], ?_⟩
                rw [List.zip_cons_cons, List.zip_cons_cons, List.map_cons, List.map_cons, g3]
                rfl
theorem EnT.is {K : Kx} {xs : List (NestedKey × Addr × Value)} (I : Inv X pins σ H s) : ∀ {ks vs : List D} {kvs us : List V}, EnT X.kx H r ks vs kvs us xs → ∀ x ∈ xs, (nestedKind X.prog X.w).is s.heap x.1 x.2.1 := by
  induction xs with
  | nil => exact fun _ x hx => by simp at hx
  | cons y xs ih =>
    intro ks vs kvs us h x hx
    cases h with
    | cons h1 h2 h3 h4 h5 h6 t =>
      rcases List.mem_cons.mp hx with rfl | hx
      · exact ⟨nk_is I _ _ _ _ h1 h4 rfl, h2⟩
      · exact ih t x hx
theorem EnT.at {K : Kx} {n : NestedKey} {x : D} (hx : nk x = some n) {xs : List (NestedKey × Addr × Value)} : ∀ {ks vs : List D} {kvs us : List V}, EnT K H r ks vs kvs us xs →
    (valD ks vs x = none ∧ atKey xs n = none) ∨ ∃ d v a w, valD ks vs x = some d ∧ atKey xs n = some (a, w) ∧ RelV v w ∧ Rp K H r d v := by
  induction xs with
  | nil =>
    intro ks vs kvs us h
    cases h
    exact .inl ⟨rfl, rfl⟩
  | cons y xs ih =>
    intro ks vs kvs us h
    cases h with
    | @cons k v ks vs kv u kvs us n' a w xs h1 h2 h3 h4 h5 h6 t =>
      by_cases he : n' = n
      · refine .inr ⟨v, u, a, w, ?_, ?_, h5, h6⟩
        · show (if nk k = nk x then some v else _) = _
          rw [if_pos (by rw [h1, hx, he])]
        · simp [atKey, he]
      · have h7 : valD (k :: ks) (v :: vs) x = valD ks vs x := by
          show (if nk k = nk x then some v else _) = _
          rw [if_neg (fun e => he (by rw [h1, hx] at e; exact Option.some.inj e))]
        have h8 : atKey ((n', a, w) :: xs) n = atKey xs n := by simp [atKey, he]
        rw [h7, h8]
        exact ih t
/-- the dict as the library tells it -/
theorem dicS_of {a : Addr} {o : Obj} {ks vs : List D} {kvs us : List V} (I : Inv X pins σ H s) (d : DicAt X.kx H a o) (S : DicS X.kx o ks kvs us) (ht : ks.all isTup = true) (rk : RpL X.kx H r ks kvs) (rv : RpL X.kx H r vs us) :
    ∃ xs, EnT X.kx H r ks vs kvs us xs ∧ s.heap.DictOfH (nestedKind X.prog X.w) a xs ∧ xs.length ≤ sizeLine := by
  obtain ⟨h1, es, ep, ns, ys, ws, h2, h3, h4, h5, h6, h7, h8, h9, h10, h11, h12⟩ := S
  obtain ⟨xs, g1, g2, g3⟩ := enT_of ht h3 h5 h7 h8 h9 h10 rk rv
  refine ⟨xs, g1, ⟨o, es, ep, d.get I, h1, h2, h12.trans g3, fun x hx => EnT.is (K := X.kx) I g1 x hx, by rw [g2]; exact h4⟩, ?_⟩
  have := congrArg List.length g2
  rw [List.length_map] at this
  omega
theorem EnT.keys {K : Kx} {xs : List (NestedKey × Addr × Value)} : ∀ {ks vs : List D} {kvs us : List V}, EnT K H r ks vs kvs us xs → nks ks = some (xs.map (·.1)) ∧ ks.all isTup = ks.all isTup ∧ Vals kvs (xs.map fun x => .ref x.2.1) ∧ Vals us (xs.map (·.2.2)) ∧ RpL K H r ks kvs ∧ RpL K H r vs us ∧ (∀ x ∈ xs, x.1.depth ≤ 8) := by
  induction xs with
  | nil =>
    intro ks vs kvs us h
    cases h
    exact ⟨rfl, rfl, .nil, .nil, rfl, rfl, fun x hx => by simp at hx⟩
  | cons y xs ih =>
    intro ks vs kvs us h
    cases h with
    | cons h1 h2 h3 h4 h5 h6 t =>
      obtain ⟨g1, g2, g3, g4, g5, g6, g7⟩ := ih t
      subst h3
      refine ⟨?_, rfl, .cons rfl g3, .cons h5 g4, ⟨_, _, rfl, h4, g5⟩, ⟨_, _, rfl, h6, g6⟩, fun x hx => ?_⟩
      · unfold nks
        rw [h1, g1]
        rfl
      · rcases List.mem_cons.mp hx with rfl | hx
        · exact h2
        · exact g7 x hx
/-- .. and back -/
theorem dicS_back {a : Addr} {h' : Heap} {ks vs : List D} {kvs us : List V} {xs : List (NestedKey × Addr × Value)} {P : Program} {w : World} {F : PySem.W.Frag} (e : EnT ⟨F, w, P⟩ H r ks vs kvs us xs) (ht : ks.all isTup = true) (hd : h'.DictOfH (nestedKind P w) a xs) (hz : xs.length ≤ sizeLine) :
    ∃ o, h'.get? a = some o ∧ DicS ⟨F, w, P⟩ o ks kvs us := by
  obtain ⟨o, es, ep, h1, h2, h3, h4, h5, h6⟩ := hd
  obtain ⟨g1, _, g3, g4, _, _, g7⟩ := e.keys
  refine ⟨o, h1, h2, es, ep, xs.map (·.1), _, _, h3, g1, h6, fun n hn => ?_, .inl ht, g3, g4, by simp, by simp, by simpa using hz, ?_⟩
  · obtain ⟨x, hx, rfl⟩ := List.mem_map.mp hn
    exact g7 x hx
  · rw [h4]
    apply List.ext_getElem?
    intro i
    simp only [List.getElem?_map, List.getElem?_zip_eq_some, List.zip_map, List.zip_map_left, List.zip_map_right]
    rw [List.zip_eq_zipWith, List.zip_eq_zipWith]
    simp only [List.getElem?_zipWith, List.getElem?_map]
    cases xs[i]? <;> rfl
theorem EnT.put {K : Kx} {n : NestedKey} {x y : D} {b : Addr} {yv : V} {yw : Value} (hx : nk x = some n) (hd : n.depth ≤ 8) (rx : Rp K H r x (.ref b)) (rw' : RelV yv yw) (ry : Rp K H r y yv) {xs : List (NestedKey × Addr × Value)} : (xs.map (·.1)).Nodup → ∀ {ks vs : List D} {kvs us : List V}, EnT K H r ks vs kvs us xs →
    ∃ kvs' us', EnT K H r (putK ks x) (putV ks vs x y) kvs' us' (storedH xs n b yw) := by
  have gen : ∀ {xs : List (NestedKey × Addr × Value)}, (xs.map (·.1)).Nodup → ∀ {ks vs : List D} {kvs us : List V}, EnT K H r ks vs kvs us xs →
      ∃ kvs' us', EnT K H r (putK ks x) (putV ks vs x y) kvs' us' (if (atKey xs n).isSome then xs.map (putAt n yw) else xs ++ [(n, b, yw)]) := by
    intro xs
    induction xs with
    | nil =>
      intro _ ks vs kvs us h
      cases h
      exact ⟨[_], [_], .cons hx hd rfl rx rw' ry .nil⟩
    | cons z xs ih =>
      intro nd ks vs kvs us h
      cases h with
      | @cons k v ks vs kv u kvs us n' a w xs h1 h2 h3 h4 h5 h6 t =>
        rw [List.map_cons, List.nodup_cons] at nd
        by_cases he : n' = n
        · subst he
          have e1 : nk k = nk x := h1.trans hx.symm
          have e2 : putK (k :: ks) x = k :: ks := if_pos e1
          have e3 : putV (k :: ks) (v :: vs) x y = y :: vs := if_pos e1
          have e4 : (atKey ((n', a, w) :: xs) n').isSome = true := by simp [atKey]
          have e5 : xs.map (putAt n' yw) = xs := by
            refine (List.map_congr_left fun p hp => ?_).trans (List.map_id _)
            show putAt n' yw p = id p
            have hne : p.1 ≠ n' := fun e => nd.1 (List.mem_map.mpr ⟨p, hp, e⟩)
            simp [putAt, hne]
          rw [e2, e3, if_pos e4, List.map_cons, e5]
          refine ⟨kv :: kvs, yv :: us, ?_⟩
          have e6 : putAt n' yw (n', a, w) = (n', a, yw) := by simp [putAt]
          rw [e6]
          exact .cons h1 h2 h3 h4 rw' ry t
        · have e1 : ¬ nk k = nk x := fun e => he (by rw [h1, hx] at e; exact Option.some.inj e)
          have e2 : putK (k :: ks) x = k :: putK ks x := if_neg e1
          have e3 : putV (k :: ks) (v :: vs) x y = v :: putV ks vs x y := if_neg e1
          have e4 : atKey ((n', a, w) :: xs) n = atKey xs n := by simp [atKey, he]
          obtain ⟨kvs', us', g⟩ := ih nd.2 t
          rw [e2, e3, e4]
          refine ⟨kv :: kvs', u :: us', ?_⟩
          have e6 : putAt n yw (n', a, w) = (n', a, w) := by simp [putAt, he]
          split
          · rename_i hs
            rw [if_pos hs] at g
            rw [List.map_cons, e6]
            exact .cons h1 h2 h3 h4 h5 h6 g
          · rename_i hs
            rw [if_neg hs] at g
            exact .cons h1 h2 h3 h4 h5 h6 g
  intro nd ks vs kvs us h
  exact gen nd h
end
theorem all_putK {x : D} (hx : isTup x = true) : ∀ {ks : List D}, ks.all isTup = true → (putK ks x).all isTup = true
  | [], _ => by simp [putK, hx]
  | k :: ks, h => by
    rw [List.all_cons, Bool.and_eq_true] at h
    unfold putK
    split
    · rw [List.all_cons, h.1, h.2]; rfl
    · rw [List.all_cons, h.1, all_putK hx h.2]; rfl

/-! ### rules -/
theorem nest_room {P : Program} {w : World} {A : Around} (hu : A.units + 64 < cLine) : (nestedKind P w).room A.in1 := by
  show A.units + 1 + 8 < cLine
  omega
/-- d.get(k, x) -/
def rDGet (K : Kx) : V → List V → Hp → VK → Prop := fun x xs H Q => ∃ (r : List Addr) (k : D) (ks vs : List D) (a : Addr) (o : Obj) (kvs us : List V) (kv dv : V), x = .ref a ∧ xs = [kv, dv] ∧ DicAt K H a o ∧ (a == sysModules) = false ∧ DicS K o ks kvs us ∧ RpL K H r ks kvs ∧ RpL K H r vs us ∧ Rp K H r k kv ∧ keyT ks k ∧
  (∀ d v, valD ks vs k = some d → Rp K H r d v → Q v H) ∧ (valD ks vs k = none → Q dv H)
theorem key_ref {K : Kx} {H : Hp} {r : List Addr} {k : D} {kv : V} (h : isTup k = true) (rk : Rp K H r k kv) : ∃ b, kv = .ref b := by
  cases k <;> first | (obtain ⟨b, _, rfl, _⟩ := rk; exact ⟨b, rfl⟩) | exact absurd (show false = true from h) Bool.false_ne_true
theorem mt_dget {X : Cx} (hu : X.A.units + 64 < cLine) : MtR X "dict.get" (rDGet X.kx) := by
  intro pins s σ H x xs v us Q I rx rxs h
  obtain ⟨r, k, ks, vs, a, o, kvs, us', kv, dv, rfl, rfl, hd, hs, S, rk, rv, rkey, ⟨t1, t2, n, hn, hdp⟩, q1, q2⟩ := h
  cases rx
  obtain ⟨u1, u2, rfl, r1, r2⟩ := vals2 rxs
  obtain ⟨b, rfl⟩ := key_ref t1 rkey
  cases r1
  obtain ⟨ents, e1, e2, e3⟩ := dicS_of I hd S t2 rk rv
  have key : (nestedKind X.prog X.w).is s.heap n b := ⟨nk_is I _ _ _ _ hn rkey rfl, hdp⟩
  refine call_meetsIn PySem.F.slot_dict_get e2.typeIs PySem.F.entry_dict_get (PySem.F.args_dict_get_3 _ _ _) (meetsH_dict_get_default (nestedKind X.prog X.w) a b hs u2) ⟨?_, n, ents, key, e2, ?_⟩
  · exact nest_room hu
  · rcases EnT.at hn e1 with ⟨z1, z2⟩ | ⟨d, v, a', w, z1, z2, z3, z4⟩
    · rw [z2]
      exact ⟨dv, H, I.tok _, r2, q2 z1⟩
    · rw [z2]
      exact ⟨v, H, I.tok _, z3, q1 d v z1 z4⟩

/-- the dict at a -/
def DicR (K : Kx) (H : Hp) (r : List Addr) (a : Addr) (ks vs : List D) : Prop := ∃ o kvs us, DicAt K H a o ∧ (a == sysModules) = false ∧ DicS K o ks kvs us ∧ RpL K H r ks kvs ∧ RpL K H r vs us
theorem dicR_of {K : Kx} {H : Hp} {r : List Addr} {m : Mu} {d : D} {ks vs : List D} {v : V} (hm : RMu K H r m) (e : dicOf m d = some (ks, vs)) (h : Rp K H r d v) : ∃ a, v = .ref a ∧ DicR K H r a ks vs := by
  obtain ⟨a, o, kvs, us, h1, h2, h3, h4, h5, h6⟩ := dic_of hm e h
  exact ⟨a, h1, o, kvs, us, h2, h3, h4, h5, h6⟩
/-- d[k] -/
def rIxD (K : Kx) : R2 := fun x y H Q => ∃ (r : List Addr) (k d : D) (ks vs : List D) (a : Addr), x = .ref a ∧ DicR K H r a ks vs ∧ Rp K H r k y ∧ keyT ks k ∧ valD ks vs k = some d ∧ ∀ v, Rp K H r d v → Q v H
theorem ix_dict {X : Cx} (hu : X.A.units + 64 < cLine) : IxR X (rIxD X.kx) := by
  intro value slice pins s σ H x y v u Q I rx ry h hs
  obtain ⟨r, k, d, ks, vs, a, rfl, ⟨o, kvs, us, hd, hsy, S, rk, rv⟩, rkey, ⟨t1, t2, n, hn, hdp⟩, hv, q⟩ := h
  cases rx
  obtain ⟨b, rfl⟩ := key_ref t1 rkey
  cases ry
  obtain ⟨ents, e1, e2, e3⟩ := dicS_of I hd S t2 rk rv
  have key : (nestedKind X.prog X.w).is s.heap n b := ⟨nk_is I _ _ _ _ hn rkey rfl, hdp⟩
  rcases EnT.at hn e1 with ⟨z1, z2⟩ | ⟨d', v, a', w, z1, z2, z3, z4⟩
  · rw [hv] at z1; cases z1
  · rw [hv] at z1; cases z1
    exact subscriptTail_builtinR (x := w) e2.typeIs PySem.F.slot_dict_getitem.lookup
      (wpAny_getItem_heap (Q := fun r s' => r = w ∧ EP X pins σ Q r s') (nest_room hu) key e2 z2 ⟨rfl, v, H, I.tok _, z3, q v z4⟩) hs
/-- k in d -/
def rInD (K : Kx) (neg : Bool) : R2 := fun y x H Q => ∃ (r : List Addr) (k : D) (ks vs : List D) (a : Addr), x = .ref a ∧ DicR K H r a ks vs ∧ Rp K H r k y ∧ keyT ks k ∧ Q (.bl (if neg = true then !(valD ks vs k).isSome else (valD ks vs k).isSome)) H
theorem op_inD {X : Cx} (hu : X.A.units + 64 < cLine) : OpR X (compareOp .In) (rInD X.kx false) := by
  intro pins s σ H y x v u Q I ry rx h
  obtain ⟨r, k, ks, vs, a, rfl, ⟨o, kvs, us, hd, hsy, S, rk, rv⟩, rkey, ⟨t1, t2, n, hn, hdp⟩, q⟩ := h
  cases rx
  obtain ⟨b, rfl⟩ := key_ref t1 rkey
  cases ry
  obtain ⟨ents, e1, e2, e3⟩ := dicS_of I hd S t2 rk rv
  have key : (nestedKind X.prog X.w).is s.heap n b := ⟨nk_is I _ _ _ _ hn rkey rfl, hdp⟩
  refine wpAny_in_heap (nest_room hu) key hsy e2 ⟨.bl (atKey ents n).isSome, H, I.tok _, rfl, ?_⟩
  rw [if_neg Bool.false_ne_true] at q
  rcases EnT.at hn e1 with ⟨z1, z2⟩ | ⟨d', v, a', w, z1, z2, z3, z4⟩
  · rw [z2]; rw [z1] at q; exact q
  · rw [z2]; rw [z1] at q; exact q
theorem op_notInD {X : Cx} (hu : X.A.units + 64 < cLine) : OpR X (compareOp .NotIn) (rInD X.kx true) := by
  intro pins s σ H y x v u Q I ry rx h
  obtain ⟨r, k, ks, vs, a, rfl, ⟨o, kvs, us, hd, hsy, S, rk, rv⟩, rkey, ⟨t1, t2, n, hn, hdp⟩, q⟩ := h
  cases rx
  obtain ⟨b, rfl⟩ := key_ref t1 rkey
  cases ry
  obtain ⟨ents, e1, e2, e3⟩ := dicS_of I hd S t2 rk rv
  have key : (nestedKind X.prog X.w).is s.heap n b := ⟨nk_is I _ _ _ _ hn rkey rfl, hdp⟩
  refine wpAny_notIn_heap (nest_room hu) key hsy e2 ⟨.bl (!(atKey ents n).isSome), H, I.tok _, rfl, ?_⟩
  rw [if_pos rfl] at q
  rcases EnT.at hn e1 with ⟨z1, z2⟩ | ⟨d', v, a', w, z1, z2, z3, z4⟩
  · rw [z2]; rw [z1] at q; exact q
  · rw [z2]; rw [z1] at q; exact q
theorem dicO_ok {P : Program} {w : World} {H : Hp} {h : Heap} {a : Addr} {o : Obj} (e : h.get? a = some o) : ObjOk P w H h a (dicO a o) :=
  ⟨e, ⟨o, e⟩, fun _ _ h1 k => k o h1⟩
/-- d[k] = v -/
def rSetD (K : Kx) : V → V → V → Hp → (Hp → Prop) → Prop := fun o i v H Q => ∃ (r : List Addr) (k x : D) (ks vs : List D) (a : Addr) (ob : Obj) (kvs us : List V), o = .ref a ∧ H a = some (dicO a ob) ∧ DicS K ob ks kvs us ∧ RpL K H r ks kvs ∧ RpL K H r vs us ∧
  Rp K H r k i ∧ Rp K H r x v ∧ keyT ks k ∧ ks.length < sizeLine ∧ ∀ ob' kvs' us', DicS K ob' (putK ks k) kvs' us' → RpL K H r (putK ks k) kvs' → RpL K H r (putV ks vs k x) us' → Q (upd H a (dicO a ob'))
theorem EnT.len {K : Kx} {H : Hp} {r : List Addr} : ∀ {ks vs : List D} {kvs us : List V} {xs : List (NestedKey × Addr × Value)}, EnT K H r ks vs kvs us xs → xs.length = ks.length
  | _, _, _, _, _, .nil => rfl
  | _, _, _, _, _, .cons _ _ _ _ _ _ t => congrArg (· + 1) t.len
theorem set_dict {X : Cx} (hu : X.A.units + 64 < cLine) : PSet X (rSetD X.kx) := by
  intro pins s σ H o i v ov iv u Q I ro ri rv' h
  obtain ⟨r, k, x, ks, vs, a, ob, kvs, us, rfl, hd, S, rk, rv, rkey, rx, ⟨t1, t2, n, hn, hdp⟩, hz, q⟩ := h
  cases ro
  obtain ⟨b, rfl⟩ := key_ref t1 rkey
  cases ri
  obtain ⟨ents, e1, e2, e3⟩ := dicS_of I (.inl hd) S t2 rk rv
  have key : (nestedKind X.prog X.w).is s.heap n b := ⟨nk_is I _ _ _ _ hn rkey rfl, hdp⟩
  refine wpAny_setItem_heap (nest_room hu) key e2 (fun h' hd' hs => ?_) e3
  obtain ⟨_, _, _, _, _, _, _, _, nd⟩ := id e2
  obtain ⟨kvs', us', g⟩ := EnT.put (b := b) hn hdp rkey rv' rx nd e1
  have hl : (storedH ents n b u).length ≤ sizeLine := by
    have := storedH_length ents n b u
    have := e1.len
    omega
  obtain ⟨ob', g1, g2⟩ := dicS_back (F := X.K) g (all_putK t1 t2) hd' hl
  obtain ⟨_, _, _, _, g5, g6, _⟩ := g.keys
  exact ⟨_, I.write (x := a) (e := a) (by rw [hd]; trivial) (.inl rfl) (fun c w hc e => (hs.2 c hc).trans e) ⟨_, g1⟩ (dicO_ok g1), q ob' kvs' us' g2 g5 g6⟩
/-- {} -/
def tDNew (K : Kx) : TE := fun _ H Q => ∀ p o, H p = none → (p == sysModules) = false → DicS K o [] [] [] → Q (.ref p) (upd H p (dicO p o))
theorem pe_dnew {X : Cx} {pos : Pos} : PE X (.Dict [] [] pos) (tDNew X.kx) := ⟨fun pins s σ H Q I h => by
  have e := Heap.get?_push_size s.heap (o := { cls := .type "dict", data := .dict #[] }) rfl
  refine wpAny_Dict_empty ⟨.ref s.heap.objs.size, _, I.laid (a := s.heap.objs.size) (o := dicO s.heap.objs.size { cls := .type "dict", data := .dict #[] }) (t' := s.toks) (fun _ _ q => Heap.get?_push_of_some _ q) (Nat.le_refl _) (dicO_ok e), rfl, h _ _ (I.hok.fresh (Nat.le_refl _)) ?_ ?_⟩
  · exact beq_eq_false_iff_ne.mpr (Ne.symm (Nat.ne_of_lt I.big))
  · exact ⟨⟨rfl, rfl, rfl⟩, #[], 0, [], [], [], rfl, rfl, List.nodup_nil, fun n hn => by simp at hn, .inl rfl, .nil, .nil, rfl, rfl, Nat.zero_le _, rfl⟩⟩
/-! ### dict(pairs) -/
theorem pairs_of {X : Cx} {pins : List (Addr × Obj)} {σ : L2.St} {H : Hp} {s : Shared} {r : List Addr} (I : Inv X pins σ H s) : ∀ {ks vs : List D} {pvs : List V} {its : List Value} {ns : List NestedKey}, ks.length = vs.length → nks ks = some ns → (∀ n ∈ ns, n.depth ≤ 8) → ks.all isTup = true →
    RpL X.kx H r (pairD ks vs) pvs → Vals pvs its → ∃ (kvs us : List V) (xs : List (NestedKey × Addr × Value)) (Ts : List Addr), EnT X.kx H r ks vs kvs us xs ∧ xs.map (·.1) = ns ∧ its = Ts.map Value.ref ∧ Ts.length = xs.length ∧
      ∀ (j : Nat) x, xs[j]? = some x → ∃ T, Ts[j]? = some T ∧ IsTup s.heap T #[.ref x.2.1, x.2.2]
  | [], vs, pvs, its, ns, hl, hn, hd, ht, rp, rv => by
    cases vs with
    | cons => cases hl
    | nil =>
      cases hn
      have h' : pvs = [] := rp
      subst h'
      cases rv
      exact ⟨[], [], [], [], .nil, rfl, rfl, rfl, fun j x e => by simp at e⟩
  | k :: ks, vs, pvs, its, ns, hl, hn, hd, ht, rp, rv => by
    cases vs with
    | nil => cases hl
    | cons v vs =>
      unfold nks at hn
      cases q1 : nk k with
      | none => rw [q1] at hn; cases hn
      | some n1 =>
        cases q2 : nks ks with
        | none => rw [q1, q2] at hn; cases hn
        | some ns1 =>
          rw [q1, q2] at hn
          cases hn
          rw [List.all_cons, Bool.and_eq_true] at ht
          obtain ⟨p, pt, rfl, hp1, hp2⟩ := rp
          cases rv with
          | cons ra rb =>
            obtain ⟨kvs, us, xs, Ts, g1, g2, g3, g4, g5⟩ := pairs_of I (Nat.succ.inj hl) q2 (fun n hn => hd n (List.mem_cons_of_mem _ hn)) ht.2 hp2 rb
            obtain ⟨T, tv, rfl, h1, h2⟩ := hp1
            obtain ⟨kv, t1, rfl, hk, h3⟩ := h2
            obtain ⟨u, t2, rfl, hu, h4⟩ := h3
            have h4' : t2 = [] := h4
            subst h4'
            obtain ⟨b, rfl⟩ := key_ref ht.1 hk
            cases ra
            obtain ⟨tits, rt, tp, _⟩ := I.tuple h1
            obtain ⟨w1, w2, rfl, r1, r2⟩ := vals2 rt
            cases r1
            refine ⟨.ref b :: kvs, u :: us, (n1, b, w2) :: xs, T :: Ts, .cons q1 (hd n1 List.mem_cons_self) rfl hk r2 hu g1, by rw [List.map_cons, g2], by rw [List.map_cons, g3], by rw [List.length_cons, List.length_cons, g4], fun j x e => ?_⟩
            cases j with
            | zero => cases e; exact ⟨T, rfl, tp⟩
            | succ j => exact g5 j x e
theorem storedAll_nodup : ∀ (ps xs : List (NestedKey × Addr × Value)), ((xs ++ ps).map (·.1)).Nodup → storedAllH xs ps = xs ++ ps
  | [], xs, _ => by simp [storedAllH]
  | p :: ps, xs, h => by
    have e : storedH xs p.1 p.2.1 p.2.2 = xs ++ [p] := by
      refine storedH_new ?_ _ _
      unfold atKey
      have : xs.find? (fun x => decide (x.1 = p.1)) = none := by
        rw [List.find?_eq_none]
        intro x hx
        rw [decide_eq_true_eq]
        intro e
        rw [List.map_append, List.nodup_append] at h
        exact h.2.2 x.1 (List.mem_map.mpr ⟨x, hx, rfl⟩) p.1 (by simp) e
      rw [this]; rfl
    show storedAllH (storedH xs p.1 p.2.1 p.2.2) ps = _
    rw [e, storedAll_nodup ps (xs ++ [p]) (by rw [List.append_assoc]; exact h), List.append_assoc]; rfl
def rDictP (K : Kx) : List V → Hp → VK → Prop := fun xs H Q => ∃ (r : List Addr) (a : Addr) (pvs : List V) (ks vs : List D) (ns : List NestedKey), xs = [.ref a] ∧ SqL K H a pvs ∧ RpL K H r (pairD ks vs) pvs ∧ ks.length = vs.length ∧ nks ks = some ns ∧ ns.Nodup ∧ (∀ n ∈ ns, n.depth ≤ 8) ∧ ks.all isTup = true ∧
  ∀ p o kvs us, H p = none → (p == sysModules) = false → DicS K o ks kvs us → RpL K H r ks kvs → RpL K H r vs us → Q (.ref p) (upd H p (dicO p o))
theorem call_dictP {X : Cx} (hc : X.calm = true) (hu : X.A.units + 64 < cLine) : CallR X (.type "dict") (rDictP X.kx) := by
  intro pins s σ H xs us Q I rr h
  obtain ⟨r, a, pvs, ks, vs, ns, rfl, hs, rp, hl, hn, hnd, hdp, ht, q⟩ := h
  obtain ⟨its, rv, pl, hz⟩ := I.list hs
  rw [Vals.ref1 rr]
  obtain ⟨kvs, us', ents, Ts, g1, g2, g3, g4, g5⟩ := pairs_of I hl hn hdp ht rp rv
  subst g3
  have hlen : pvs.length = ents.length := by rw [rv.length, List.length_map, g4]
  have ok : PlainSeq "list" s.heap a (Ts.map Value.ref).toArray ∧ PairItems s.heap (Ts.map Value.ref).toArray (fun j => (Ts[j]?).getD 0) (ents.map fun x => (Value.ref x.2.1, x.2.2)) := by
    refine ⟨pl, by simp [g4], fun j k v e => ?_⟩
    rw [List.getElem?_map] at e
    cases z : ents[j]? with
    | none => rw [z] at e; cases e
    | some x =>
      rw [z] at e
      cases e
      obtain ⟨T, hT, hp⟩ := g5 j x z
      refine ⟨by simp [hT], .inl ?_⟩
      show s.heap.IsTuple ((Ts[j]?).getD 0) _
      rw [hT]
      exact hp
  refine call_dict_pairsH (knd := nestedKind X.prog X.w) (ps := ents) (PairArg.list a _ _ _) (I.ok.hd hc) ?_ ok ⟨by simp, fun i key v e => ?_⟩ (fun h' hk x hx => ?_) (by simp only [List.length_map]; omega) fun h' tk hd' hk => ?_
  · show X.A.units + 1 + 1 + 8 < cLine
    omega
  · have e' : (ents.map fun x => (Value.ref x.2.1, x.2.2))[i]? = some (key, v) := e
    rw [List.getElem?_map] at e'
    cases z : ents[i]? with
    | none => rw [z] at e'; cases e'
    | some x =>
      rw [z] at e'
      cases e'
      exact ⟨x.1, x.2.1, rfl, rfl⟩
  · exact nestedKind_stays.stays (fun b o vs n e _ => hk b o (Nat.ne_of_lt (Heap.lt_size e)) (fun z => nomatch z) e) (EnT.is (K := X.kx) I g1 x hx)
  · have e0 : storedAllH [] ents = ents := storedAll_nodup ents [] (by rw [List.nil_append, g2]; exact hnd)
    rw [e0] at hd'
    obtain ⟨ob, w1, w2⟩ := dicS_back (F := X.K) g1 ht hd' (by omega)
    obtain ⟨_, _, _, _, g6, g7, _⟩ := g1.keys
    have hk' : ∀ b o, s.heap.get? b = some o → h'.get? b = some o := fun b o e => hk b o (fun z => nomatch z) e
    exact ⟨.ref s.heap.objs.size, _, I.laid (a := s.heap.objs.size) hk' (Nat.le_refl _) (dicO_ok w1), rfl, q _ ob kvs us' (I.hok.fresh (Nat.le_refl _)) (beq_eq_false_iff_ne.mpr (Ne.symm (Nat.ne_of_lt I.big))) w2 g6 g7⟩
/-! ### what is told stays as it is -/
def tFz (t : TE) : TE := fun σ H Q => t σ H fun v H1 => ∃ a u, v = .ref a ∧ H1 a = some u ∧ Mut (some u) ∧ ∀ od, (∀ o, u = dicO a o → od = o) → Q v (upd H1 a (.frz od u))
theorem pe_fz {X : Cx} {e : Expr} {t : TE} (h : PE X e t) : PE X e (tFz t) := ⟨fun pins s σ H Q I q => thn (h.run pins s σ H _ I q) fun w s1 ⟨v, H1, I1, rv, a, u, ev, hu, mu, q1⟩ => by
  obtain ⟨od, I2⟩ := I1.lock hu mu
  refine ⟨v, _, I2, rv, q1 od fun o e => ?_⟩
  subst e
  have h1 : s1.heap.get? a = some o := (show ObjOk X.prog X.w H1 s1.heap a (.ext fun h => h.get? a = some o) from I1.hok a _ hu).1
  have h2 : s1.heap.get? a = some od := (show ObjOk X.prog X.w _ s1.heap a (.frz od (dicO a o)) from I2.hok a _ upd_same).1
  rw [h1] at h2
  exact (Option.some.inj h2).symm⟩
end Ab

namespace Ab
open PySem PySem.Spec PyProof.Rows L2
/-! dicts whose keys are whole numbers and texts -/
def leafKey : D → Key
  | .int i => .inl i
  | .str x => .inr x
  | _ => .inl 0
def leafV : D → V
  | .int i => .int i
  | .str x => .str x
  | _ => .non
def keyNk : Key → NestedKey
  | .inl i => .num i
  | .inr x => .text x
theorem keyNk_inj : ∀ {a b : Key}, keyNk a = keyNk b → a = b
  | .inl i, .inl j, h => by injection h with h; rw [h]
  | .inr x, .inr y, h => by injection h with h; rw [h]
  | .inl _, .inr _, h => nomatch h
  | .inr _, .inl _, h => nomatch h
theorem nk_leaf : ∀ {d : D}, isLeaf d = true → nk d = some (keyNk (leafKey d))
  | .int i, _ => rfl
  | .str x, _ => rfl
theorem nks_leaf : ∀ {ds : List D}, ds.all isLeaf = true → nks ds = some (ds.map fun d => keyNk (leafKey d))
  | [], _ => rfl
  | d :: ds, h => by
    rw [List.all_cons, Bool.and_eq_true] at h
    unfold nks
    rw [nk_leaf h.1, nks_leaf h.2]; rfl
theorem rp_leaf {K : Kx} {H : Hp} {r : List Addr} : ∀ {d : D} {v : V}, isLeaf d = true → Rp K H r d v → v = kV (leafKey d)
  | .int i, v, _, h => h
  | .str x, v, _, h => h
theorem leaf_rp {K : Kx} {H : Hp} {r : List Addr} : ∀ {d : D}, isLeaf d = true → Rp K H r d (kV (leafKey d))
  | .int i, _ => rfl
  | .str x, _ => rfl
theorem rpl_leaf {K : Kx} {H : Hp} {r : List Addr} : ∀ {ds : List D} {vs : List V}, ds.all isLeaf = true → RpL K H r ds vs → vs = ds.map fun d => kV (leafKey d)
  | [], vs, _, h => h
  | d :: ds, vs, e, h => by
    rw [List.all_cons, Bool.and_eq_true] at e
    obtain ⟨v, t, rfl, h1, h2⟩ := h
    rw [rp_leaf e.1 h1, rpl_leaf e.2 h2]; rfl
theorem leaf_rpl {K : Kx} {H : Hp} {r : List Addr} : ∀ {ds : List D}, ds.all isLeaf = true → RpL K H r ds (ds.map fun d => kV (leafKey d))
  | [], _ => rfl
  | d :: ds, e => by
    rw [List.all_cons, Bool.and_eq_true] at e
    exact ⟨_, _, rfl, leaf_rp e.1, leaf_rpl e.2⟩
theorem hash_leaf (w : World) : ∀ k : Key, (keyNk k).hash w = keyH w k
  | .inl _ => rfl
  | .inr _ => rfl
theorem depth_leaf : ∀ k : Key, (keyNk k).depth ≤ 8
  | .inl _ => by show 0 ≤ 8; omega
  | .inr _ => by show 0 ≤ 8; omega
theorem keyIs_of {k : Key} {u : Value} (h : RelV (kV k) u) : keyIs k u = true := by
  cases k with
  | inl i => obtain ⟨t, rfl⟩ := h; show Value.isInt i (.int i t) = true; simp [Value.isInt]
  | inr x => obtain ⟨t, rfl⟩ := h; show Value.isStrOf x (.str x t) = true; simp [Value.isStrOf]
/-- the pairs that the dict holds -/
def pairsOf (ks : List D) (ws : List Value) : List (Key × Value) := (ks.map leafKey).zip ws
theorem pairsOf_len {ks : List D} {ws : List Value} (h : ks.length = ws.length) : (pairsOf ks ws).length = ks.length := by
  unfold pairsOf; rw [List.length_zip, List.length_map, ← h, Nat.min_self]
theorem pairsOf_fst {ks : List D} {ws : List Value} (h : ks.length = ws.length) : (pairsOf ks ws).map (·.1) = ks.map leafKey := by
  unfold pairsOf; exact List.map_fst_zip (by rw [List.length_map]; omega)
theorem pairsOf_snd {ks : List D} {ws : List Value} (h : ks.length = ws.length) : (pairsOf ks ws).map (·.2) = ws := by
  unfold pairsOf; exact List.map_snd_zip (by rw [List.length_map]; omega)
section
variable {P : Program} {w : World} {F : PySem.W.Frag}
theorem leaf_pairs : ∀ {ks : List D} {ys ws : List Value}, Vals (ks.map fun d => kV (leafKey d)) ys → ks.length = ws.length →
    let es := ((ks.map fun d => keyNk (leafKey d)).zip (ys.zip ws)).map fun x => (⟨x.1.hash w, x.2.1, x.2.2⟩ : DictEntry)
    Pairs (mixKind P w) es (pairsOf ks ws) ∧ ∀ e ∈ es, ∃ k, (mixKind P w).is k e.key = true ∧ e.hash = (mixKind P w).hash k
  | [], ys, ws, r, l => by
    cases r
    cases ws with
    | nil => exact ⟨.nil, fun e he => by simp at he⟩
    | cons _ _ => cases l
  | k :: ks, ys, ws, r, l => by
    cases r with
    | @cons _ y _ ys r1 r2 =>
      cases ws with
      | nil => cases l
      | cons x ws =>
        obtain ⟨h1, h2⟩ := leaf_pairs r2 (Nat.succ.inj l)
        refine ⟨.cons (keyIs_of r1) rfl h1, fun e he => ?_⟩
        have he' : e = ⟨(keyNk (leafKey k)).hash w, y, x⟩ ∨ e ∈ ((ks.map fun d => keyNk (leafKey d)).zip (ys.zip ws)).map fun x => (⟨x.1.hash w, x.2.1, x.2.2⟩ : DictEntry) := by
          simpa using he
        rcases he' with rfl | he'
        · exact ⟨leafKey k, keyIs_of r1, hash_leaf w _⟩
        · exact h2 e he'
theorem nodup_leaf {ks : List D} (h : (ks.map fun d => keyNk (leafKey d)).Nodup) : (ks.map leafKey).Nodup := by
  have e : (ks.map fun d => keyNk (leafKey d)) = (ks.map leafKey).map keyNk := by rw [List.map_map]; rfl
  rw [e] at h
  exact List.Pairwise.of_map _ (fun a b hab z => hab (by rw [z])) h
/-- the dict as the library tells it -/
theorem dicS_mix {a : Addr} {o : Obj} {h : Heap} {ks : List D} {kvs us : List V} {H : Hp} {r : List Addr} (g : h.get? a = some o) (S : DicS ⟨F, w, P⟩ o ks kvs us) (hl : ks.all isLeaf = true) (rk : RpL ⟨F, w, P⟩ H r ks kvs) :
    ∃ ws, Vals us ws ∧ ks.length = ws.length ∧ ks.length ≤ sizeLine ∧ h.DictOf (mixKind P w) a (pairsOf ks ws) := by
  obtain ⟨h1, es, ep, ns, ys, ws, h2, h3, h4, h5, h6, h7, h8, h9, h10, h11, h12⟩ := S
  rw [nks_leaf hl] at h3
  cases h3
  rw [rpl_leaf hl rk] at h7
  rw [List.length_map] at h9 h10 h11
  obtain ⟨p1, p2⟩ := leaf_pairs (P := P) (w := w) h7 h10
  refine ⟨ws, h8, h10, h11, o, es, ep, g, h1, h2, ?_, ?_, ?_⟩
  · intro e he
    have he' : e ∈ es.toList := by simpa using he
    rw [h12] at he'
    exact p2 e he'
  · rw [h12]; exact p1
  · rw [pairsOf_fst h10]; exact nodup_leaf h4
theorem pairs_back : ∀ {es : List DictEntry} {xs : List (Key × Value)}, Pairs (mixKind P w) es xs → (∀ e ∈ es, ∃ k, (mixKind P w).is k e.key = true ∧ e.hash = (mixKind P w).hash k) →
    es = ((xs.map fun x => keyNk x.1).zip ((es.map (·.key)).zip (xs.map (·.2)))).map (fun x => (⟨x.1.hash w, x.2.1, x.2.2⟩ : DictEntry)) ∧ Vals (xs.map fun x => kV x.1) (es.map (·.key)) ∧ es.length = xs.length
  | [], [], .nil, _ => ⟨rfl, .nil, rfl⟩
  | e :: es, x :: xs, .cons h1 h2 h3, hk => by
    obtain ⟨g1, g2, g3⟩ := pairs_back h3 fun e he => hk e (List.mem_cons_of_mem _ he)
    obtain ⟨k, k1, k2⟩ := hk e List.mem_cons_self
    have ek : k = x.1 := (mixKind P w).inj _ _ _ k1 h1
    subst ek
    have hh : e.hash = (keyNk x.1).hash w := k2.trans (hash_leaf w _).symm
    refine ⟨?_, .cons (relV_key h1) g2, by rw [List.length_cons, List.length_cons, g3]⟩
    rw [List.map_cons, List.map_cons, List.map_cons, List.zip_cons_cons, List.zip_cons_cons, List.map_cons]
    rw [← g1]
    congr 1
    rw [← hh, ← h2]
/-- .. and back -/
theorem mix_back {a : Addr} {h : Heap} {ks : List D} {us : List V} {ws : List Value} (hl : ks.all isLeaf = true) (e : ks.length = ws.length) (hv : Vals us ws) (hz : ks.length ≤ sizeLine) (hd : h.DictOf (mixKind P w) a (pairsOf ks ws)) :
    ∃ o, h.get? a = some o ∧ DicS ⟨F, w, P⟩ o ks (ks.map fun d => kV (leafKey d)) us := by
  obtain ⟨o, es, ep, g, h1, h2, h3, h4, h5⟩ := hd
  obtain ⟨p1, p2, p3⟩ := pairs_back h4 fun e he => h3 e (by simpa using he)
  have e1 : (pairsOf ks ws).map (fun x => keyNk x.1) = ks.map fun d => keyNk (leafKey d) := by
    rw [show (pairsOf ks ws).map (fun x => keyNk x.1) = ((pairsOf ks ws).map (·.1)).map keyNk by rw [List.map_map]; rfl, pairsOf_fst e, List.map_map]; rfl
  have e2 : (pairsOf ks ws).map (fun x => kV x.1) = ks.map fun d => kV (leafKey d) := by
    rw [show (pairsOf ks ws).map (fun x => kV x.1) = ((pairsOf ks ws).map (·.1)).map kV by rw [List.map_map]; rfl, pairsOf_fst e, List.map_map]; rfl
  rw [pairsOf_len e] at p3
  rw [e2] at p2
  rw [e1, pairsOf_snd e] at p1
  refine ⟨o, g, h1, es, ep, _, es.toList.map (·.key), ws, h2, nks_leaf hl, ?_, ?_, .inr hl, p2, hv, ?_, ?_, ?_, p1⟩
  · rw [show (ks.map fun d => keyNk (leafKey d)) = (ks.map leafKey).map keyNk by rw [List.map_map]; rfl]
    rw [pairsOf_fst e] at h5
    exact List.Pairwise.map _ (fun a b hab z => hab (keyNk_inj z)) h5
  · intro n hn
    obtain ⟨d, _, rfl⟩ := List.mem_map.mp hn
    exact depth_leaf _
  · rw [List.length_map, List.length_map]; omega
  · rw [List.length_map]; omega
  · rw [List.length_map]; exact hz
end
theorem key_eq {a b : D} (ha : isLeaf a = true) (hb : isLeaf b = true) : (nk a = nk b) ↔ leafKey a = leafKey b := by
  rw [nk_leaf ha, nk_leaf hb]
  exact ⟨fun h => keyNk_inj (Option.some.inj h), fun h => by rw [h]⟩
theorem vals_at {K : Kx} {H : Hp} {r : List Addr} {k : D} (hk : isLeaf k = true) : ∀ {ks vs : List D} {us : List V} {ws : List Value}, ks.all isLeaf = true → ks.length = ws.length → Vals us ws → RpL K H r vs us →
    (valD ks vs k = none ∧ valueAt (pairsOf ks ws) (leafKey k) = none) ∨ ∃ d v w, valD ks vs k = some d ∧ valueAt (pairsOf ks ws) (leafKey k) = some w ∧ RelV v w ∧ Rp K H r d v
  | [], vs, us, ws, _, l, r1, r2 => .inl ⟨by unfold valD; rfl, rfl⟩
  | c :: ks, vs, us, ws, hl, l, r1, r2 => by
    cases ws with
    | nil => cases l
    | cons x ws =>
      cases r1 with
      | @cons u _ us _ ra rb =>
        cases vs with
        | nil => have : u :: us = [] := r2; cases this
        | cons v vs =>
          obtain ⟨u', t, e, g1, g2⟩ := r2
          cases e
          rw [List.all_cons, Bool.and_eq_true] at hl
          have e1 : valD (c :: ks) (v :: vs) k = if nk c = nk k then some v else valD ks vs k := rfl
          have e2 : valueAt (pairsOf (c :: ks) (x :: ws)) (leafKey k) = if leafKey c = leafKey k then some x else valueAt (pairsOf ks ws) (leafKey k) := by
            unfold valueAt pairsOf
            rw [List.map_cons, List.zip_cons_cons, List.find?_cons]
            by_cases h : leafKey c = leafKey k
            · simp [h]
            · simp [h]
          rw [e1, e2]
          by_cases h : leafKey c = leafKey k
          · rw [if_pos ((key_eq hl.1 hk).mpr h), if_pos h]
            exact .inr ⟨v, u, x, rfl, rfl, ra, g1⟩
          · rw [if_neg (fun z => h ((key_eq hl.1 hk).mp z)), if_neg h]
            exact vals_at hk hl.2 (Nat.succ.inj l) rb g2
/-- what is stored -/
theorem put_leaf {k : D} (hk : isLeaf k = true) : ∀ {ks : List D}, ks.all isLeaf = true → (putK ks k).all isLeaf = true
  | [], _ => by simp [putK, hk]
  | c :: ks, h => by
    rw [List.all_cons, Bool.and_eq_true] at h
    unfold putK
    split
    · rw [List.all_cons, h.1, h.2]; rfl
    · rw [List.all_cons, h.1, put_leaf hk h.2]; rfl
theorem put_pairs {K : Kx} {H : Hp} {r : List Addr} {k x : D} {xv : V} {xw : Value} (hk : isLeaf k = true) (rx : Rp K H r x xv) (rw' : RelV xv xw) : ∀ {ks vs : List D} {us : List V} {ws : List Value}, ks.all isLeaf = true → ks.length = ws.length → Vals us ws → RpL K H r vs us → (ks.map leafKey).Nodup →
    ∃ ws' us', stored (pairsOf ks ws) (leafKey k) xw = pairsOf (putK ks k) ws' ∧ (putK ks k).length = ws'.length ∧ Vals us' ws' ∧ RpL K H r (putV ks vs k x) us' := by
  have gen : ∀ {ks vs : List D} {us : List V} {ws : List Value}, ks.all isLeaf = true → ks.length = ws.length → Vals us ws → RpL K H r vs us → (ks.map leafKey).Nodup →
      ∃ ws' us', (if (valueAt (pairsOf ks ws) (leafKey k)).isSome then (pairsOf ks ws).map (fun p => if p.1 = leafKey k then (p.1, xw) else p) else pairsOf ks ws ++ [(leafKey k, xw)]) = pairsOf (putK ks k) ws' ∧ (putK ks k).length = ws'.length ∧ Vals us' ws' ∧ RpL K H r (putV ks vs k x) us' := by
    intro ks
    induction ks with
    | nil =>
      intro vs us ws _ l r1 r2 _
      cases ws with
      | cons _ _ => cases l
      | nil =>
        cases r1
        have e : vs = [] := by cases vs with | nil => rfl | cons y t => obtain ⟨_, _, z, _⟩ := r2; cases z
        subst e
        exact ⟨[xw], [xv], rfl, rfl, .cons rw' .nil, ⟨xv, [], rfl, rx, rfl⟩⟩
    | cons c ks ih =>
      intro vs us ws hl l r1 r2 nd
      cases ws with
      | nil => cases l
      | cons y ws =>
        cases r1 with
        | @cons u _ us _ ra rb =>
          cases vs with
          | nil => have : u :: us = [] := r2; cases this
          | cons v vs =>
            obtain ⟨u', t, e, g1, g2⟩ := r2
            cases e
            rw [List.all_cons, Bool.and_eq_true] at hl
            rw [List.map_cons, List.nodup_cons] at nd
            have e2 : valueAt (pairsOf (c :: ks) (y :: ws)) (leafKey k) = if leafKey c = leafKey k then some y else valueAt (pairsOf ks ws) (leafKey k) := by
              unfold valueAt pairsOf
              rw [List.map_cons, List.zip_cons_cons, List.find?_cons]
              by_cases h : leafKey c = leafKey k
              · simp [h]
              · simp [h]
            have e3 : pairsOf (c :: ks) (y :: ws) = (leafKey c, y) :: pairsOf ks ws := rfl
            rw [e2, e3]
            by_cases h : leafKey c = leafKey k
            · have hn := (key_eq hl.1 hk).mpr h
              have p1 : putK (c :: ks) k = c :: ks := if_pos hn
              have p2 : putV (c :: ks) (v :: vs) k x = x :: vs := if_pos hn
              rw [p1, p2, if_pos h]
              refine ⟨xw :: ws, xv :: us, ?_, by rw [List.length_cons, List.length_cons, Nat.succ.inj l], .cons rw' rb, ⟨xv, us, rfl, rx, g2⟩⟩
              rw [if_pos (by rfl), List.map_cons, if_pos h]
              refine congrArg (_ :: ·) ((List.map_congr_left fun p hp => ?_).trans (List.map_id _))
              have hne : ¬ p.1 = leafKey k := fun z => nd.1 (by
                rw [h, ← z, ← pairsOf_fst (ws := ws) (Nat.succ.inj l)]
                exact List.mem_map.mpr ⟨p, hp, rfl⟩)
              rw [if_neg hne]; rfl
            · have hn : ¬ nk c = nk k := fun z => h ((key_eq hl.1 hk).mp z)
              have p1 : putK (c :: ks) k = c :: putK ks k := if_neg hn
              have p2 : putV (c :: ks) (v :: vs) k x = v :: putV ks vs k x := if_neg hn
              obtain ⟨ws', us', i1, i2, i3, i4⟩ := ih hl.2 (Nat.succ.inj l) rb g2 nd.2
              rw [p1, p2, if_neg h]
              refine ⟨y :: ws', u :: us', ?_, by rw [List.length_cons, List.length_cons, i2], .cons ra i3, ⟨u, us', rfl, g1, i4⟩⟩
              rw [show pairsOf (c :: putK ks k) (y :: ws') = (leafKey c, y) :: pairsOf (putK ks k) ws' from rfl, ← i1]
              split
              · rw [List.map_cons, if_neg h]
              · rfl
  intro ks vs us ws hl l r1 r2 nd
  obtain ⟨ws', us', g1, g2, g3, g4⟩ := gen hl l r1 r2 nd
  refine ⟨ws', us', ?_, g2, g3, g4⟩
  rw [← g1]
  unfold stored
  have e : (pairsOf ks ws).any (fun kv => decide (kv.1 = leafKey k)) = (valueAt (pairsOf ks ws) (leafKey k)).isSome := by
    unfold valueAt
    rw [Option.isSome_map, Bool.eq_iff_iff, List.find?_isSome, List.any_eq_true]
  rw [e]
/-! ### the rules -/
def rDGetL (K : Kx) : V → List V → Hp → VK → Prop := fun x xs H Q => ∃ (r : List Addr) (k : D) (ks vs : List D) (a : Addr) (kv dv : V), x = .ref a ∧ xs = [kv, dv] ∧ DicR K H r a ks vs ∧ Rp K H r k kv ∧ keyL ks k ∧ (∀ d v, valD ks vs k = some d → Rp K H r d v → Q v H) ∧ (valD ks vs k = none → Q dv H)
theorem mt_dgetL {X : Cx} : MtR X "dict.get" (rDGetL X.kx) := by
  intro pins s σ H x xs v us Q I rx rxs h
  obtain ⟨r, k, ks, vs, a, kv, dv, rfl, rfl, ⟨o, kvs, us', hd, hs, S, rk, rv⟩, rkey, ⟨t1, t2⟩, q1, q2⟩ := h
  cases rx
  obtain ⟨u1, u2, rfl, r1, r2⟩ := vals2 rxs
  rw [rp_leaf t1 rkey] at r1
  obtain ⟨ws, g1, g2, g3, g4⟩ := dicS_mix (hd.get I) S t2 rk
  refine call_meetsIn PySem.F.slot_dict_get g4.typeIs PySem.F.entry_dict_get (PySem.F.args_dict_get_3 _ _ _) (meets_dict_get_default (mixKind X.prog X.w) a (keyIs_of r1) hs u2) ⟨_, g4.mapOf, ?_⟩
  rcases vals_at t1 t2 g2 g1 rv with ⟨z1, z2⟩ | ⟨d, v, w, z1, z2, z3, z4⟩
  · rw [z2]; exact ⟨dv, H, I.tok _, r2, q2 z1⟩
  · rw [z2]; exact ⟨v, H, I.tok _, z3, q1 d v z1 z4⟩
def rIxDL (K : Kx) : R2 := fun x y H Q => ∃ (r : List Addr) (k d : D) (ks vs : List D) (a : Addr), x = .ref a ∧ DicR K H r a ks vs ∧ Rp K H r k y ∧ keyL ks k ∧ valD ks vs k = some d ∧ ∀ v, Rp K H r d v → Q v H
theorem ix_dictL {X : Cx} : IxR X (rIxDL X.kx) := by
  intro value slice pins s σ H x y v u Q I rx ry h hs
  obtain ⟨r, k, d, ks, vs, a, rfl, ⟨o, kvs, us, hd, hsy, S, rk, rv⟩, rkey, ⟨t1, t2⟩, hv, q⟩ := h
  cases rx
  rw [rp_leaf t1 rkey] at ry
  obtain ⟨ws, g1, g2, g3, g4⟩ := dicS_mix (hd.get I) S t2 rk
  rcases vals_at t1 t2 g2 g1 rv with ⟨z1, z2⟩ | ⟨d', v, w, z1, z2, z3, z4⟩
  · rw [hv] at z1; cases z1
  · rw [hv] at z1; cases z1
    exact subscriptTail_builtinR (x := w) g4.typeIs PySem.F.slot_dict_getitem.lookup
      (wpAny_getItem_of (Q := fun r s' => r = w ∧ EP X pins σ Q r s') (keyIs_of ry) g4.mapOf z2 ⟨rfl, v, H, I.tok _, z3, q v z4⟩) hs
def rInDL (K : Kx) (neg : Bool) : R2 := fun y x H Q => ∃ (r : List Addr) (k : D) (ks vs : List D) (a : Addr), x = .ref a ∧ DicR K H r a ks vs ∧ Rp K H r k y ∧ keyL ks k ∧ Q (.bl (if neg = true then !(valD ks vs k).isSome else (valD ks vs k).isSome)) H
theorem op_inDL {X : Cx} : OpR X (compareOp .In) (rInDL X.kx false) := by
  intro pins s σ H y x v u Q I ry rx h
  obtain ⟨r, k, ks, vs, a, rfl, ⟨o, kvs, us, hd, hsy, S, rk, rv⟩, rkey, ⟨t1, t2⟩, q⟩ := h
  cases rx
  rw [rp_leaf t1 rkey] at ry
  obtain ⟨ws, g1, g2, g3, g4⟩ := dicS_mix (hd.get I) S t2 rk
  refine wpAny_in_of (keyIs_of ry) hsy g4.mapOf ⟨.bl (valueAt (pairsOf ks ws) (leafKey k)).isSome, H, I.tok _, rfl, ?_⟩
  rw [if_neg Bool.false_ne_true] at q
  rcases vals_at t1 t2 g2 g1 rv with ⟨z1, z2⟩ | ⟨d', v, w, z1, z2, z3, z4⟩
  · rw [z2]; rw [z1] at q; exact q
  · rw [z2]; rw [z1] at q; exact q
theorem op_notInDL {X : Cx} : OpR X (compareOp .NotIn) (rInDL X.kx true) := by
  intro pins s σ H y x v u Q I ry rx h
  obtain ⟨r, k, ks, vs, a, rfl, ⟨o, kvs, us, hd, hsy, S, rk, rv⟩, rkey, ⟨t1, t2⟩, q⟩ := h
  cases rx
  rw [rp_leaf t1 rkey] at ry
  obtain ⟨ws, g1, g2, g3, g4⟩ := dicS_mix (hd.get I) S t2 rk
  refine wpAny_notIn_of (keyIs_of ry) hsy g4.mapOf ⟨.bl (!(valueAt (pairsOf ks ws) (leafKey k)).isSome), H, I.tok _, rfl, ?_⟩
  rw [if_pos rfl] at q
  rcases vals_at t1 t2 g2 g1 rv with ⟨z1, z2⟩ | ⟨d', v, w, z1, z2, z3, z4⟩
  · rw [z2]; rw [z1] at q; exact q
  · rw [z2]; rw [z1] at q; exact q
def rSetDL (K : Kx) : V → V → V → Hp → (Hp → Prop) → Prop := fun o i v H Q => ∃ (r : List Addr) (k x : D) (ks vs : List D) (a : Addr) (ob : Obj) (kvs us : List V), o = .ref a ∧ H a = some (dicO a ob) ∧ DicS K ob ks kvs us ∧ RpL K H r ks kvs ∧ RpL K H r vs us ∧
  Rp K H r k i ∧ Rp K H r x v ∧ keyL ks k ∧ ks.length < sizeLine ∧ ∀ ob' kvs' us', DicS K ob' (putK ks k) kvs' us' → RpL K H r (putK ks k) kvs' → RpL K H r (putV ks vs k x) us' → Q (upd H a (dicO a ob'))
theorem putK_len (k : D) : ∀ ks : List D, (putK ks k).length ≤ ks.length + 1
  | [] => Nat.le_refl _
  | c :: ks => by
    unfold putK
    split
    · exact Nat.le_succ _
    · rw [List.length_cons, List.length_cons]
      have := putK_len k ks
      omega
theorem set_dictL {X : Cx} : PSet X (rSetDL X.kx) := by
  intro pins s σ H o i v ov iv u Q I ro ri rv' h
  obtain ⟨r, k, x, ks, vs, a, ob, kvs, us, rfl, hd, S, rk, rv, rkey, rx, ⟨t1, t2⟩, hz, q⟩ := h
  cases ro
  rw [rp_leaf t1 rkey] at ri
  have hg : s.heap.get? a = some ob := DicAt.get (X := X) (.inl hd) I
  obtain ⟨ws, g1, g2, g3, g4⟩ := dicS_mix hg S t2 rk
  refine wpAny_setItem_pairs (hsz := by rw [pairsOf_len g2]; exact g3) (keyIs_of ri) g4 fun h' hd' hs => ?_
  have nd : (ks.map leafKey).Nodup := by
    obtain ⟨_, _, _, _, _, _, _, _, n⟩ := g4
    rw [pairsOf_fst g2] at n
    exact n
  obtain ⟨ws', us', e1, e2, e3, e4⟩ := put_pairs t1 rx rv' t2 g2 g1 rv nd
  rw [e1] at hd'
  obtain ⟨ob', w1, w2⟩ := mix_back (F := X.K) (put_leaf t1 t2) e2 e3 (by have := putK_len k ks; omega) hd'
  exact ⟨_, I.write (x := a) (e := a) (by rw [hd]; trivial) (.inl rfl) (fun c w hc e => (hs.2 c hc).trans e) ⟨_, w1⟩ (dicO_ok w1), q ob' _ us' w2 (leaf_rpl (put_leaf t1 t2)) e4⟩
/-! dict(pairs): keys whole numbers and texts -/
theorem mem_putK {k x : D} : ∀ {ks : List D}, x ∈ putK ks k → x ∈ ks ∨ x = k
  | [], h => by
    have h : x ∈ [k] := h
    exact .inr (List.mem_singleton.mp h)
  | c :: ks, h => by
    unfold putK at h
    split at h
    · exact .inl h
    · rcases List.mem_cons.mp h with h | h
      · exact .inl (by rw [h]; exact List.mem_cons_self ..)
      · exact (mem_putK h).imp (List.mem_cons_of_mem _) id
theorem putK_nodup {k : D} (hk : isLeaf k = true) : ∀ {ks : List D}, ks.all isLeaf = true → (ks.map leafKey).Nodup → ((putK ks k).map leafKey).Nodup
  | [], _, _ => by
    show ([leafKey k]).Nodup
    simp
  | c :: ks, hl, hn => by
    rw [List.all_cons, Bool.and_eq_true] at hl
    rw [List.map_cons, List.nodup_cons] at hn
    unfold putK
    split
    · rw [List.map_cons, List.nodup_cons]; exact hn
    · rename_i hne
      rw [List.map_cons, List.nodup_cons]
      refine ⟨fun z => ?_, putK_nodup hk hl.2 hn.2⟩
      obtain ⟨x, hx, ex⟩ := List.mem_map.mp z
      rcases mem_putK hx with hx | rfl
      · exact hn.1 (by rw [← ex]; exact List.mem_map.mpr ⟨x, hx, rfl⟩)
      · exact hne ((key_eq hl.1 hk).mpr ex.symm)
theorem puts_pairs {K : Kx} {H : Hp} {r : List Addr} : ∀ {ks vs : List D} {us : List V} {ws : List Value}, ks.all isLeaf = true → ks.length = ws.length → ks.length = vs.length → Vals us ws → RpL K H r vs us →
    ∀ {ks0 vs0 : List D} {us0 : List V} {ws0 : List Value}, ks0.all isLeaf = true → ks0.length = ws0.length → Vals us0 ws0 → RpL K H r vs0 us0 → (ks0.map leafKey).Nodup →
    ∃ ws' us', merged (pairsOf ks0 ws0) (pairsOf ks ws) = pairsOf (putsD ks vs (ks0, vs0)).1 ws' ∧ (putsD ks vs (ks0, vs0)).1.length = ws'.length ∧ Vals us' ws' ∧ RpL K H r (putsD ks vs (ks0, vs0)).2 us' ∧ (putsD ks vs (ks0, vs0)).1.all isLeaf = true ∧ (putsD ks vs (ks0, vs0)).1.length ≤ ks0.length + ks.length := by
  intro ks
  induction ks with
  | nil =>
    intro vs us ws _ l lv r1 r2 ks0 vs0 us0 ws0 a1 a2 a3 a4 a5
    have e : putsD [] vs (ks0, vs0) = (ks0, vs0) := by cases vs <;> rfl
    rw [e]
    refine ⟨ws0, us0, ?_, a2, a3, a4, a1, Nat.le_add_right _ _⟩
    cases ws with
    | nil => rfl
    | cons => cases l
  | cons k ks ih =>
    intro vs us ws hl l lv r1 r2 ks0 vs0 us0 ws0 a1 a2 a3 a4 a5
    cases ws with
    | nil => cases l
    | cons w ws =>
      cases vs with
      | nil => cases lv
      | cons v vs =>
        cases r1 with
        | @cons u _ us _ ra rb =>
          obtain ⟨u', t, e, g1, g2⟩ := r2
          cases e
          rw [List.all_cons, Bool.and_eq_true] at hl
          obtain ⟨ws1, us1, b1, b2, b3, b4⟩ := put_pairs hl.1 g1 ra a1 a2 a3 a4 a5
          obtain ⟨ws', us', c1, c2, c3, c4, c5, c6⟩ := ih hl.2 (Nat.succ.inj l) (Nat.succ.inj lv) rb g2 (put_leaf hl.1 a1) b2 b3 b4 (putK_nodup hl.1 a1 a5)
          refine ⟨ws', us', ?_, c2, c3, c4, c5, ?_⟩
          · show merged (stored (pairsOf ks0 ws0) (leafKey k) w) (pairsOf ks ws) = _
            rw [b1]; exact c1
          · have := putK_len k ks0
            have c6 : (putsD (k :: ks) (v :: vs) (ks0, vs0)).1.length ≤ (putK ks0 k).length + ks.length := c6
            rw [List.length_cons]
            omega
theorem pairsL_of {X : Cx} {pins : List (Addr × Obj)} {σ : L2.St} {H : Hp} {s : Shared} {r : List Addr} (I : Inv X pins σ H s) : ∀ {ks vs : List D} {pvs : List V} {its : List Value}, ks.length = vs.length → ks.all isLeaf = true →
    RpL X.kx H r (pairD ks vs) pvs → Vals pvs its → ∃ (us : List V) (ws : List Value), RpL X.kx H r vs us ∧ Vals us ws ∧ ks.length = ws.length ∧ its.length = ks.length ∧
      ∀ (j : Nat) (q : Key × Value), (pairsOf ks ws)[j]? = some q → ∃ (b : Addr) (u : Value), its[j]? = some (.ref b) ∧ IsTup s.heap b #[u, q.2] ∧ keyIs q.1 u = true
  | [], vs, pvs, its, hl, _, rp, rv => by
    cases vs with
    | cons => cases hl
    | nil =>
      have h' : pvs = [] := rp
      subst h'
      cases rv
      exact ⟨[], [], rfl, .nil, rfl, rfl, fun j q e => by simp [pairsOf] at e⟩
  | k :: ks, vs, pvs, its, hl, ht, rp, rv => by
    cases vs with
    | nil => cases hl
    | cons v vs =>
      rw [List.all_cons, Bool.and_eq_true] at ht
      obtain ⟨p, pt, rfl, hp1, hp2⟩ := rp
      cases rv with
      | cons ra rb =>
        obtain ⟨us, ws, g1, g2, g3, g4, g5⟩ := pairsL_of I (Nat.succ.inj hl) ht.2 hp2 rb
        obtain ⟨T, tv, rfl, h1, h2⟩ := hp1
        obtain ⟨kv, t1, rfl, hk, h3⟩ := h2
        obtain ⟨u, t2, rfl, hu, h4⟩ := h3
        have h4' : t2 = [] := h4
        subst h4'
        have ek := rp_leaf ht.1 hk
        subst ek
        cases ra
        obtain ⟨tits, rt, tp, _⟩ := I.tuple h1
        obtain ⟨w1, w2, rfl, r1, r2⟩ := vals2 rt
        refine ⟨u :: us, w2 :: ws, ⟨u, us, rfl, hu, g1⟩, .cons r2 g2, by rw [List.length_cons, List.length_cons, g3], by rw [List.length_cons, List.length_cons, g4], fun j q e => ?_⟩
        cases j with
        | zero => cases e; exact ⟨T, w1, rfl, tp, keyIs_of r1⟩
        | succ j => exact g5 j q e
def rDictL (K : Kx) : List V → Hp → VK → Prop := fun xs H Q => ∃ (r : List Addr) (a : Addr) (pvs : List V) (ks vs : List D), xs = [.ref a] ∧ SqL K H a pvs ∧ RpL K H r (pairD ks vs) pvs ∧ ks.length = vs.length ∧ ks.all isLeaf = true ∧
  ∀ p o kvs us, H p = none → (p == sysModules) = false → DicS K o (putsD ks vs ([], [])).1 kvs us → RpL K H r (putsD ks vs ([], [])).1 kvs → RpL K H r (putsD ks vs ([], [])).2 us → Q (.ref p) (upd H p (dicO p o))
theorem call_dictL {X : Cx} (hc : X.calm = true) : CallR X (.type "dict") (rDictL X.kx) := by
  intro pins s σ H xs us Q I rr h
  obtain ⟨r, a, pvs, ks, vs, rfl, hs, rp, hl, ht, q⟩ := h
  obtain ⟨its, rv, ⟨o, n, ho, hcl, hdn, hdt⟩, hz⟩ := I.list hs
  rw [Vals.ref1 rr]
  obtain ⟨us1, ws, g1, g2, g3, g4, g5⟩ := pairsL_of I hl ht rp rv
  have hlen : pvs.length = its.length := rv.length
  have hp := pairsOf_len g3
  refine L2.call_dict_pairs (prs := pairsOf ks ws) (I.ok.hd hc) ho hcl hdn hdt (by rw [hp]; simpa using g4) (by rw [hp]; omega) (fun j q e => by
    obtain ⟨b, u, e1, e2, e3⟩ := g5 j q e
    exact ⟨b, u, by simpa using e1, e2, e3⟩) fun h' tk hd' hk => ?_
  obtain ⟨ws', us', c1, c2, c3, c4, c5, c6⟩ := puts_pairs (K := X.kx) (H := H) (r := r) ht g3 hl g2 g1 (ks0 := []) (vs0 := []) (us0 := []) (ws0 := []) rfl rfl .nil rfl (by simp)
  have c1 : merged [] (pairsOf ks ws) = _ := c1
  rw [c1] at hd'
  obtain ⟨ob, w1, w2⟩ := mix_back (F := X.K) c5 c2 c3 (by have c6 : _ ≤ 0 + ks.length := c6; omega) hd'
  exact ⟨.ref s.heap.objs.size, _, I.laid (a := s.heap.objs.size) hk (Nat.le_refl _) (dicO_ok w1), rfl, q _ ob _ us' (I.hok.fresh (Nat.le_refl _)) (beq_eq_false_iff_ne.mpr (Ne.symm (Nat.ne_of_lt I.big))) w2 (leaf_rpl c5) c4⟩
/-! {"x": a name} -/
def tDis (K : Kx) (x : Str) (i : Nat) : TE := fun σ H Q => ∃ v, σ[i]? = some (some v) ∧ ∀ p o, H p = none → (p == sysModules) = false → DicS K o [.str x] [.str x] [v] → Q (.ref p) (upd H p (dicO p o))
theorem pe_dis {X : Cx} {i : Nat} {n x : Str} {j} {kp vp pos : Pos} (hN : X.N[i]? = some n) (hv : Vis X.env.scope n) (hd : (n == ("__debug__" : Str)) = false) (hcd : (n == ("__classdict__" : Str)) = false) :
    PE X (.Dict [some (.Constant (.str x) j kp)] [.Name n vp] pos) (tDis X.kx x i) := by
  refine ⟨fun pins s σ H Q I q => ?_⟩
  obtain ⟨v, hs, q⟩ := q
  have hn := I.hok.fresh (Nat.le_refl s.heap.objs.size)
  have hb : (s.heap.objs.size == sysModules) = false := beq_eq_false_iff_ne.mpr (Ne.symm (Nat.ne_of_lt I.big))
  have I1 := I.laid (a := s.heap.objs.size) (o := .dK []) (h' := s.heap.push { cls := .type "dict", data := .dict #[] }) (t' := s.toks) (fun _ _ q => Heap.get?_push_of_some _ q) (Nat.le_refl _) (dk_empty s.heap I.big)
  refine wpAny_Dict_walk (knd := mixKind X.prog X.w) rfl rfl (by simp) (by simp) (thn ((pps_cons pe_str (pe_var hN hv hd hcd) pps_nil).run pins _ σ _ (fun ps H' => ps = [(V.str x, v)] ∧ H' = upd H s.heap.objs.size (.dK [])) I1 ⟨v, hs, rfl, rfl⟩) fun ws s2 ⟨ps, H2, I2, rel, ep, eH⟩ => ?_)
  subst ep eH
  obtain ⟨rs, c, rk⟩ := carries_of (P := X.prog) (w := X.w) (kvs := [((Sum.inr x : Key), v)]) rel
  obtain ⟨z, hd', vs0, r0, dd⟩ := dk_of I2.hok upd_same
  cases r0
  refine ⟨rs, c, dd, fun h' dd' hs' => ?_⟩
  cases rk with
  | @cons p qq ps qs hpq t =>
    cases t
    obtain ⟨e1, e2⟩ := hpq
    obtain ⟨k', w'⟩ := qq
    have e1 : (Sum.inr x : Key) = k' := e1
    subst e1
    obtain ⟨ob, w1, w2⟩ := mix_back (F := X.K) (ks := [D.str x]) (us := [v]) (ws := [w']) rfl rfl (.cons e2 .nil) (by rw [sizeLine_eq]; show 1 ≤ 16777216; decide) dd'
    have I3 := I2.write (x := s.heap.objs.size) (e := s.heap.objs.size) (o := dicO s.heap.objs.size ob) (t' := s2.toks + ws.length) (by rw [upd_same]; trivial) (.inl rfl) (fun b u hb z => (hs'.2 b hb).trans z) ⟨_, w1⟩ (dicO_ok w1)
    rw [upd_upd] at I3
    exact ⟨.ref s.heap.objs.size, _, I3, rfl, q _ ob hn hb w2⟩
def tDii (K : Kx) (x z : Int) : TE := fun _ H Q => ∀ p o, H p = none → (p == sysModules) = false → DicS K o [.int x] [.int x] [.int z] → Q (.ref p) (upd H p (dicO p o))
theorem pe_dii {X : Cx} {x zz : Int} {j j2} {kp vp pos : Pos} :
    PE X (.Dict [some (.Constant (.int x) j kp)] [.Constant (.int zz) j2 vp] pos) (tDii X.kx x zz) := by
  refine ⟨fun pins s σ H Q I q => ?_⟩
  have hn := I.hok.fresh (Nat.le_refl s.heap.objs.size)
  have hb : (s.heap.objs.size == sysModules) = false := beq_eq_false_iff_ne.mpr (Ne.symm (Nat.ne_of_lt I.big))
  have I1 := I.laid (a := s.heap.objs.size) (o := .dK []) (h' := s.heap.push { cls := .type "dict", data := .dict #[] }) (t' := s.toks) (fun _ _ q => Heap.get?_push_of_some _ q) (Nat.le_refl _) (dk_empty s.heap I.big)
  refine wpAny_Dict_walk (knd := mixKind X.prog X.w) rfl rfl (by simp) (by simp) (thn ((pps_cons pe_int pe_int pps_nil).run pins _ σ _ (fun ps H' => ps = [(V.int x, V.int zz)] ∧ H' = upd H s.heap.objs.size (.dK [])) I1 ⟨rfl, rfl⟩) fun ws s2 ⟨ps, H2, I2, rel, ep, eH⟩ => ?_)
  subst ep eH
  obtain ⟨rs, c, rk⟩ := carries_of (P := X.prog) (w := X.w) (kvs := [((Sum.inl x : Key), V.int zz)]) rel
  obtain ⟨z, hd', vs0, r0, dd⟩ := dk_of I2.hok upd_same
  cases r0
  refine ⟨rs, c, dd, fun h' dd' hs' => ?_⟩
  cases rk with
  | @cons p qq ps qs hpq t =>
    cases t
    obtain ⟨e1, e2⟩ := hpq
    obtain ⟨k', w'⟩ := qq
    have e1 : (Sum.inl x : Key) = k' := e1
    subst e1
    obtain ⟨ob, w1, w2⟩ := mix_back (F := X.K) (ks := [D.int x]) (us := [V.int zz]) (ws := [w']) rfl rfl (.cons e2 .nil) (by rw [sizeLine_eq]; show 1 ≤ 16777216; decide) dd'
    have I3 := I2.write (x := s.heap.objs.size) (e := s.heap.objs.size) (o := dicO s.heap.objs.size ob) (t' := s2.toks + ws.length) (by rw [upd_same]; trivial) (.inl rfl) (fun b u hb z => (hs'.2 b hb).trans z) ⟨_, w1⟩ (dicO_ok w1)
    rw [upd_upd] at I3
    exact ⟨.ref s.heap.objs.size, _, I3, rfl, q _ ob hn hb w2⟩
end Ab

namespace Ab
open PySem PySem.Spec PyProof.Rows L2

/-! ### instances that may be known for good -/
/-- an instance stands at a, to be read -/
def InsAt (H : Hp) (a C dx : Addr) (fs : List (Str × V)) : Prop := Rd H a (.ins C dx fs)
theorem InsAt.obj {P : Program} {w : World} {H : Hp} {h : Heap} {a C dx : Addr} {fs : List (Str × V)} (i : InsAt H a C dx fs) (ok : HOk P w H h) : ∃ mA, ObjM h a dx C mA ∧ ∀ f, RelO (fs.lookup f) (mA f) := by
  obtain ⟨_, _, ne, ob, mA, n, r, _⟩ := (show ObjOk P w H h a (.ins C dx fs) from Rd.ok i ok)
  exact ⟨mA, ⟨ob, n, ne⟩, r⟩
section
variable {X : Cx} {pins : List (Addr × Obj)} {σ : L2.St} {H : Hp} {s : Shared} {a C dx : Addr} {fs : List (Str × V)} {A : Around} {E : Value → Shared → Prop}
theorem attr_read {f : Str} {v : V} {b : Bool} {Q : Value → Shared → Prop} (I : Inv X pins σ H s) (i : InsAt H a C dx fs) (c : Cls X.K C) (n : NoAttr X.K C f) (l : fs.lookup f = some v)
    (h : ∀ u s', Inv X pins σ H s' → RelV v u → Q u s') : wpAny (model X.prog X.w) A (getAttr (.ref a) f b) Q E s := by
  obtain ⟨mA, O, r⟩ := i.obj I.hok
  have rf := r f
  rw [l] at rf
  obtain ⟨u, hu, ru⟩ := RelO.some_of rf
  exact get_map I.kIn O (c.get f) c.hd n hu (handed_of ru) (h u _ (I.tok _) ru)
theorem meth_read {m : Str} {g : Addr} {pl : Sem Bool} {Q : Value × List Value → Shared → Prop} (I : Inv X pins σ H s) (i : InsAt H a C dx fs) (c : Cls X.K C) (k : Meth X.K C m g) (l : fs.lookup m = none)
    (h : Q (.ref g, [.ref a]) s) : wpAny (model X.prog X.w) A (getMethod (.ref a) m pl) Q E s := by
  obtain ⟨mA, O, r⟩ := i.obj I.hok
  have rm := r m
  rw [l] at rm
  exact get_meth I.kIn O (c.get m) k.at_ k.fn (RelO.none_of rm) h
end
def tFldA (K : PySem.W.Frag) (ta : TE) (f : Str) : TE := fun σ H Q => ta σ H fun x H1 => ∃ a C dx fs v, x = .ref a ∧ InsAt H1 a C dx fs ∧ Cls K C ∧ NoAttr K C f ∧ fs.lookup f = some v ∧ Q v H1
def tMethA (C : Addr) (m : Str) (sp : Sp) (ta : TE) (t : TA) : TE := fun σ H Q => ta σ H fun x H1 => ∃ a dx fs, x = .ref a ∧ InsAt H1 a C dx fs ∧ fs.lookup m = none ∧ t σ H1 fun vs H2 => sp (x :: vs) H2 Q fun _ _ _ => False
section
variable {X : Cx} {o e : Expr} {es : List Expr} {f m : Str} {pos apos : Pos} {ta : TE} {t : TA} {k : Nat} {C g : Addr} {fd : FuncData} {ps : List Str} {sp : Sp}
theorem pe_fldA (he : PE X e ta) (hb : attributeBase e f X.env (eval e X.env) = eval e X.env) : PE X (.Attribute e f pos) (tFldA X.K ta f) := by
  refine ⟨fun pins s σ H Q I h => attr_of hb (thn (he.run pins s σ H _ I h) fun u s1 ⟨x, H1, I1, rx, a, C, dx, fs, v, ex, ea, c, n, l, q⟩ => ?_)⟩
  subst ex
  cases rx
  exact attr_read I1 ea c n l fun u' s2 I2 ru => ⟨v, H1, I2, ru, q⟩
theorem wp_meth {M : Model} {A : Around} {E : Value → Shared → Prop} {s : Shared} {env : Env} {args : List Expr} {Q : Value → Shared → Prop} (hbase : attributeBase o m env (eval o env) = eval o env)
    (hfew : ((backTo pos (starEach args env)).all (fun x => !x.1) && (backToKw pos (keywordEach [] env)).all (fun x => x.1.isSome) && decide (args.length + ([] : List Keyword).length + (if ([] : List Keyword).isEmpty then 0 else 1) < 30)) = true)
    (hline : (apos.endLine == pos.line) = true)
    (h : wpAny M A (eval o env) (fun ov s₁ => ∀ pl : Sem Bool, wpAny M A (getMethod ov m pl) (fun fx s₂ => wpAny M A (callWith pos fx.1 fx.2 (backTo pos (starEach args env)) (backToKw pos (keywordEach [] env))) Q E s₂) E s₁) E s) :
    wpAny M A (eval (.Call (.Attribute o m apos) args [] pos) env) Q E s := by
  rw [arm_eval_Call, hbase]
  refine wpAny_bind (wpAny_mono h (fun ov s₁ h₁ => ?_) fun _ _ e => e)
  refine wpAny_bind (wpAny_standAt ?_)
  have form : methodCallForm (args.length + ([] : List Keyword).length) (backTo pos (starEach args env)) (backToKw pos (keywordEach [] env)) = true := hfew
  have place : methodCallPos true o env apos pos = pure pos := by unfold methodCallPos; simp [hline]
  unfold methodCall
  rw [form]
  refine wpAny_bind (wpAny_holding (wpAny_mono (h₁ _) (fun fx s₂ h₂ => ?_) fun _ _ x => x))
  exact wpAny_bind (wpAny_of_eq place h₂)
theorem pe_methA (he : PE X o ta) (hbase : attributeBase o m X.env (eval o X.env) = eval o X.env)
    (hfew : ((backTo pos (starEach (e :: es) X.env)).all (fun x => !x.1) && (backToKw pos (keywordEach [] X.env)).all (fun x => x.1.isSome) && decide ((e :: es).length + ([] : List Keyword).length + (if ([] : List Keyword).isEmpty then 0 else 1) < 30)) = true)
    (hline : (apos.endLine == pos.line) = true) (c : Cls X.K C) (hm : Meth X.K C m g) (F : FnOk X.prog X.w X.K X.mg X.base CX0 k g fd ps sp) (hr : Room k X.A) (hb : Binds X.K fd ps []) (ha : PA X (e :: es) t)
    (hst : starEach (e :: es) X.env = (false, eval e X.env) :: starEach es X.env) (hpl : (backTo pos (starEach es X.env)).any (·.1) = false) :
    PE X (.Call (.Attribute o m apos) (e :: es) [] pos) (tMethA C m sp ta t) := by
  refine ⟨fun pins s σ H Q I h => wp_meth hbase hfew hline (thn (he.run pins s σ H _ I h) fun u s1 ⟨x, H1, I1, rx, a, dx, fs, ex, ea, l, q⟩ pl => ?_)⟩
  subst ex
  cases rx
  refine meth_read I1 ea c hm l ?_
  refine PySem.W.callWith_K (first := [.ref a]) (h₀ := X.base) I1.ok.mod.kin hm.kp (thn (ha.run pos pins s1 σ H1 _ I1 q) fun us s2 ⟨vs, H2, I2, r, q2⟩ => ⟨I2.kIn, ?_⟩) hst hpl
  exact run_fn (dvs := []) (us := .ref a :: us) (vs := .ref a :: vs) F hr hb .nil (fun _ _ _ _ _ _ _ z => z.elim) I2 (.cons rfl r) (by rw [List.append_nil]; exact q2)
theorem pe_methA0 (he : PE X o ta) (hbase : attributeBase o m X.env (eval o X.env) = eval o X.env) (hline : (apos.endLine == pos.line) = true) (c : Cls X.K C) (hm : Meth X.K C m g) (F : FnOk X.prog X.w X.K X.mg X.base CX0 k g fd ps sp) (hr : Room k X.A) (hb : Binds X.K fd ps []) :
    PE X (.Call (.Attribute o m apos) [] [] pos) (tMethA C m sp ta tNil) := by
  refine ⟨fun pins s σ H Q I h => wp_meth hbase rfl hline (thn (he.run pins s σ H _ I h) fun u s1 ⟨x, H1, I1, rx, a, dx, fs, ex, ea, l, q⟩ pl => ?_)⟩
  subst ex
  cases rx
  refine meth_read I1 ea c hm l ?_
  exact PySem.W.callWith_K0 (first := [.ref a]) I1.kIn hm.kp (run_fn (dvs := []) (us := [.ref a]) (vs := [.ref a]) F hr hb .nil (fun _ _ _ _ _ _ _ z => z.elim) I1 (.cons rfl .nil) q)
end
/-- the attributes, as the abstract instance tells them -/
theorem fld_look {K : Kx} {H : Hp} {r : List Addr} {f : Str} : ∀ {ns : List Str} {fs : List D} {us : List V}, ns.length = us.length → RpL K H r fs us → (fldV ns fs f = none ∧ (ns.contains f = false → (ns.zip us).lookup f = none)) ∨ ∃ d v, fldV ns fs f = some d ∧ (ns.zip us).lookup f = some v ∧ Rp K H r d v
  | [], fs, us, _, _ => .inl ⟨rfl, fun _ => rfl⟩
  | n :: ns, fs, us, hl, h => by
    cases us with
    | nil => cases hl
    | cons u us =>
      cases fs with
      | nil => have : u :: us = [] := h; cases this
      | cons d fs =>
        obtain ⟨v, t, e, h1, h2⟩ := h
        cases e
        by_cases hn : n = f
        · refine .inr ⟨d, u, by unfold fldV; rw [if_pos hn], ?_, h1⟩
          rw [List.zip_cons_cons]
          have hb : (f == n) = true := beq_iff_eq.mpr hn.symm
          simp only [List.lookup, hb]
        · have hb : (f == n) = false := beq_eq_false_iff_ne.mpr fun z => hn z.symm
          have e1 : fldV (n :: ns) (d :: fs) f = fldV ns fs f := by
            show (if n = f then some d else fldV ns fs f) = _
            rw [if_neg hn]
          have e2 : ((n :: ns).zip (u :: us)).lookup f = (ns.zip us).lookup f := by
            rw [List.zip_cons_cons]
            simp only [List.lookup, hb]
          rw [e1, e2]
          rcases fld_look (f := f) (Nat.succ.inj hl) h2 with ⟨g1, g2⟩ | g
          · refine .inl ⟨g1, fun z => g2 ?_⟩
            rw [List.contains_cons, Bool.or_eq_false_iff] at z
            exact z.2
          · exact .inr g
theorem no_look {f : Str} : ∀ {ns : List Str} {us : List V}, ns.contains f = false → (ns.zip us).lookup f = none
  | [], us, _ => rfl
  | n :: ns, [], _ => rfl
  | n :: ns, u :: us, h => by
    rw [List.contains_cons, Bool.or_eq_false_iff] at h
    rw [List.zip_cons_cons]
    have hb : (f == n) = false := h.1
    simp only [List.lookup, hb]
    exact no_look h.2
/-- .. stored -/
theorem putF_zip {f : Str} {v : V} : ∀ {ns : List Str} {us : List V}, ns.length = us.length → ∃ us', putF f v (ns.zip us) = (putN f ns).zip us' ∧ (putN f ns).length = us'.length ∧
    ∀ (K : Kx) (H : Hp) (r : List Addr) (d : D) (fs : List D), RpL K H r fs us → Rp K H r d v → RpL K H r (putFd f d ns fs) us'
  | [], us, hl => by
    have e : us = [] := List.eq_nil_of_length_eq_zero hl.symm
    subst e
    refine ⟨[v], rfl, rfl, fun K H r d fs h g => ?_⟩
    have e : fs = [] := by cases fs with | nil => rfl | cons x t => obtain ⟨_, _, z, _⟩ := h; cases z
    subst e
    exact ⟨v, [], rfl, g, rfl⟩
  | n :: ns, us, hl => by
    cases us with
    | nil => cases hl
    | cons u us =>
      obtain ⟨us', e1, e2, e3⟩ := putF_zip (f := f) (v := v) (ns := ns) (us := us) (Nat.succ.inj hl)
      by_cases hn : n = f
      · refine ⟨v :: us, ?_, ?_, fun K H r d fs h g => ?_⟩
        · show (if n = f then (n, v) :: ns.zip us else _) = _
          rw [if_pos hn]
          show _ = ((if n = f then n :: ns else n :: putN f ns)).zip (v :: us)
          rw [if_pos hn]; rfl
        · show (if n = f then n :: ns else n :: putN f ns).length = _
          rw [if_pos hn]; exact hl
        · cases fs with
          | nil => have : u :: us = [] := h; cases this
          | cons x fs =>
            obtain ⟨w, t, e, h1, h2⟩ := h
            cases e
            show RpL K H r (if n = f then d :: fs else x :: putFd f d ns fs) _
            rw [if_pos hn]
            exact ⟨v, us, rfl, g, h2⟩
      · refine ⟨u :: us', ?_, ?_, fun K H r d fs h g => ?_⟩
        · show (if n = f then (n, v) :: ns.zip us else (n, u) :: putF f v (ns.zip us)) = _
          rw [if_neg hn, e1]
          show _ = ((if n = f then n :: ns else n :: putN f ns)).zip (u :: us')
          rw [if_neg hn]; rfl
        · show (if n = f then n :: ns else n :: putN f ns).length = _
          rw [if_neg hn, List.length_cons, List.length_cons, e2]
        · cases fs with
          | nil => have : u :: us = [] := h; cases this
          | cons x fs =>
            obtain ⟨w, t, e, h1, h2⟩ := h
            cases e
            show RpL K H r (if n = f then d :: fs else x :: putFd f d ns fs) _
            rw [if_neg hn]
            exact ⟨u, us', rfl, h1, e3 K H r d fs h2 g⟩
/-- an instance as the store tells it -/
theorem ins_of {K : Kx} {H : Hp} {r : List Addr} {m : Mu} {d : D} {C : Str} {ns : List Str} {fs : List D} {v : V} (hm : RMu K H r m) (e : insOf m d = some (C, ns, fs)) (h : Rp K H r d v) :
    ∃ a c dx us, v = .ref a ∧ glA K C = some c ∧ InsAt H a c dx (ns.zip us) ∧ ns.length = us.length ∧ RpL K H r fs us := by
  cases d with
  | obj C' ns' fs' =>
    cases e
    obtain ⟨a, o, c, dx, us, rfl, hc, h1, h2, h3, h4⟩ := h
    exact ⟨a, c, dx, us, rfl, hc, .inr ⟨o, h1⟩, h3, h4⟩
  | loc n =>
    have e' : (match m[n]? with | some (.ins C ns fs) => some (C, ns, fs) | _ => none) = some (C, ns, fs) := e
    cases q : m[n]? with
    | none => rw [q] at e'; cases e'
    | some ob =>
      rw [q] at e'
      cases ob with
      | ins C' ns' fs' =>
        cases e'
        obtain ⟨a, h1, rfl⟩ := h
        obtain ⟨c, dx, us, hc, g1, g2, g3, g4⟩ := hm.ob n a _ h1 q
        exact ⟨a, c, dx, us, rfl, hc, .inl g1, g3, g4⟩
      | _ => cases e'
  | _ => cases e

/-! ### the keys of any dict, in their order -/
def ItKA (K : Kx) (d : Addr) (o : Obj) (kvs : List V) : It :=
  ⟨fun i H => DicAt K H d o ∧ i < kvs.length, fun i H x H' => H' = H ∧ kvs[i]? = some x, fun i H => DicAt K H d o ∧ kvs.length ≤ i⟩
/-- what the keys of the object are -/
def KeysO (o : Obj) (es : Array DictEntry) (ep : Nat) (kvs : List V) : Prop := o.data = .dict es ep ∧ Vals kvs (es.toList.map (·.key))
theorem KeysO.at {o : Obj} {es : Array DictEntry} {ep : Nat} {kvs : List V} (k : KeysO o es ep kvs) {i : Nat} (h : i < kvs.length) : ∃ en x, es[i]? = some en ∧ kvs[i]? = some x ∧ RelV x en.key := by
  have l := k.2.length
  rw [List.length_map] at l
  have hi : i < es.toList.length := by omega
  obtain ⟨u, hu, ru⟩ := k.2.get (List.getElem?_eq_getElem h)
  rw [List.getElem?_map, List.getElem?_eq_getElem hi] at hu
  cases hu
  exact ⟨es.toList[i], kvs[i], by rw [← Array.getElem?_toList, List.getElem?_eq_getElem hi], List.getElem?_eq_getElem h, ru⟩
theorem KeysO.size {o : Obj} {es : Array DictEntry} {ep : Nat} {kvs : List V} (k : KeysO o es ep kvs) : es.size = kvs.length := by
  have l : kvs.length = (es.toList.map (·.key)).length := k.2.length
  simpa using l.symm
theorem dicS_keys {K : Kx} {o : Obj} {ks : List D} {kvs us : List V} (S : DicS K o ks kvs us) : ∃ es ep, KeysO o es ep kvs := by
  obtain ⟨h1, es, ep, ns, ys, ws, h2, h3, h4, h5, h6, h7, h8, h9, h10, h11, h12⟩ := S
  refine ⟨es, ep, h2, ?_⟩
  have e : es.toList.map (·.key) = ys := by
    rw [h12, List.map_map]
    apply List.ext_getElem?
    intro i
    rw [List.getElem?_map]
    by_cases hi : i < ys.length
    · have a1 : i < ns.length := by omega
      have a2 : i < ws.length := by omega
      have a3 : i < (ns.zip (ys.zip ws)).length := by simp; omega
      rw [List.getElem?_eq_getElem a3, List.getElem?_eq_getElem hi]
      simp
    · rw [List.getElem?_eq_none (by simp; omega), List.getElem?_eq_none (by omega)]; rfl
  rw [e]; exact h7
theorem turn_keysA {P : Program} {w : World} {K : PySem.W.Frag} {tg : Expr} {d : Addr} {o : Obj} {es : Array DictEntry} {ep : Nat} {kvs : List V} (it : Addr) (k : KeysO o es ep kvs) :
    Turn P w K tg (ItKA ⟨K, w, P⟩ d o kvs) [it] it (fun i h => h.IsKeyIter it d i kvs.length ep) where
  mem := by simp
  obj := fun i h st b hb => by
    have e : b = it := by simpa using hb
    subst e
    obtain ⟨oi, e, c, dd⟩ := st
    exact ⟨oi, e, fun v z => by rw [dd] at z; cases z⟩
  keep := fun i h h' st q => st.at fun oi e => q it (by simp) oi e
  item := by
    intro X hP hw hK hc i pins s σ H E I hf st ⟨hd, hi⟩
    subst hP hw hK
    obtain ⟨f0, f1, f2, f3, f4, f5⟩ := hf it (by simp)
    obtain ⟨en, x, h1, h2, h3⟩ := k.at hi
    refine next_key_item st (hd.get I) k.1 k.size h1 fun h' st' sb => ?_
    obtain ⟨oi, e, c, dd⟩ := id st'
    exact ⟨en.key, rfl, go_of (s := { s with heap := h' }) e c dd (by decide) ⟨x, H, I.turned (t' := s.toks) (fun b ob hb e => (sb.2 b hb).trans e) f0 f1 f3 f4 f5, h3, ⟨rfl, h2⟩, st', fun b hb => (hf b hb).1⟩⟩
  done := by
    intro X hP hw hK hc i pins s σ H E I hf st ⟨hd, hi⟩
    subst hP hw hK
    obtain ⟨f0, f1, f2, f3, f4, f5⟩ := hf it (by simp)
    exact next_key_end (I.ok.hd hc) st (hd.get I) k.1 k.size hi fun h' eb => ⟨rfl, I.turned (t' := s.toks) (fun b ob hb e => eb b ob hb e) f0 f1 f3 f4 f5⟩
  self := fun A i s Q E st h => wpAny_pyIter_keyiter st h
/-- a sequence, a text, a dict -/
def iAny (K : Kx) (tl : TE) : TI := fun σ H R => tl σ H fun x H1 => (∃ a, x = .ref a ∧ (((∃ xs, SqL K H1 a xs) ∧ R (Itl K a) H1) ∨ ((∃ xs, SqT K H1 a xs) ∧ R (Itt K a) H1) ∨ ∃ o es ep kvs, DicAt K H1 a o ∧ (a == sysModules) = false ∧ o.ExactDict ∧ KeysO o es ep kvs ∧ R (ItKA K a o kvs) H1)) ∨
  ∃ z, x = .str z ∧ R (Its z) H1
theorem pi_any {X : Cx} {tg l : Expr} {tl : TE} (hl : PE X l tl) : PI X tg l (iAny X.kx tl) := by
  refine ⟨fun pins s σ H R I h => thn (hl.run pins s σ H _ I h) fun v s1 ⟨x, H1, I1, r1, q1⟩ => ?_⟩
  rcases q1 with ⟨a, rfl, q⟩ | ⟨z, rfl, q⟩
  · cases r1
    rcases q with ⟨⟨xs, hq⟩, q⟩ | ⟨⟨xs, hq⟩, q⟩ | ⟨o, es, ep, kvs, hd, hs, hx, k, q⟩
    · obtain ⟨its, rv, p, hz⟩ := I1.list hq
      exact wpAny_pyIter_list p.isList (pi_one (tk := s1.toks) I1 _ (turn_list a _) ⟨_, Heap.get?_push_size _ rfl, rfl, rfl⟩ q)
    · obtain ⟨its, rv, p, hz⟩ := I1.tuple hq
      exact wpAny_pyIter_tuple (show s1.heap.IsTuple a its.toArray from p) (pi_one (tk := s1.toks) I1 _ (turn_tuple a _) ⟨_, Heap.get?_push_size _ rfl, rfl, rfl⟩ q)
    · refine iter_keys hs (hd.get I1) hx k.1 (pi_one (tk := s1.toks) I1 _ (turn_keysA _ k) ⟨_, Heap.get?_push_size _ rfl, rfl, ?_⟩ q)
      rw [k.size] <;> rfl
  · obtain ⟨t, rfl⟩ := r1
    by_cases ha : z.cps.all (· < 128) = true
    · exact wpAny_pyIter_ascii ha (pi_one (tk := s1.toks) I1 _ (turn_str _ z t "str_ascii_iterator" (.inl rfl)) ⟨_, Heap.get?_push_size _ rfl, rfl, rfl⟩ q)
    · exact wpAny_pyIter_wide (by simpa using ha) (pi_one (tk := s1.toks) I1 _ (turn_str _ z t "str_iterator" (.inr rfl)) ⟨_, Heap.get?_push_size _ rfl, rfl, rfl⟩ q)
end Ab

namespace Ab
open PySem PySem.Spec PyProof.Rows L2

/-! ### d.items() of any dict that stays as it is -/
def EntsO (o : Obj) (es : Array DictEntry) (ep : Nat) (kvs us : List V) : Prop := o.data = .dict es ep ∧ Vals kvs (es.toList.map (·.key)) ∧ Vals us (es.toList.map (·.val))
def ItIA (K : Kx) (d : Addr) (o : Obj) (kvs us : List V) : It :=
  ⟨fun i H => DicAt K H d o ∧ i < kvs.length, fun i H x H' => ∃ T a b, x = .ref T ∧ kvs[i]? = some a ∧ us[i]? = some b ∧ H T = none ∧ H' = upd H T (.tup [a, b]), fun i H => DicAt K H d o ∧ kvs.length ≤ i⟩
theorem dicS_ents {K : Kx} {o : Obj} {ks : List D} {kvs us : List V} (S : DicS K o ks kvs us) : ∃ es ep, EntsO o es ep kvs us := by
  obtain ⟨h1, es, ep, ns, ys, ws, h2, h3, h4, h5, h6, h7, h8, h9, h10, h11, h12⟩ := S
  refine ⟨es, ep, h2, ?_, ?_⟩
  · have e : es.toList.map (·.key) = ys := by
      rw [h12, List.map_map]
      apply List.ext_getElem?
      intro i
      rw [List.getElem?_map]
      by_cases hi : i < ys.length
      · have a3 : i < (ns.zip (ys.zip ws)).length := by simp; omega
        rw [List.getElem?_eq_getElem a3, List.getElem?_eq_getElem hi]
        simp
      · rw [List.getElem?_eq_none (by simp; omega), List.getElem?_eq_none (by omega)]; rfl
    rw [e]; exact h7
  · have e : es.toList.map (·.val) = ws := by
      rw [h12, List.map_map]
      apply List.ext_getElem?
      intro i
      rw [List.getElem?_map]
      by_cases hi : i < ws.length
      · have a3 : i < (ns.zip (ys.zip ws)).length := by simp; omega
        rw [List.getElem?_eq_getElem a3, List.getElem?_eq_getElem hi]
        simp
      · rw [List.getElem?_eq_none (by simp; omega), List.getElem?_eq_none (by omega)]; rfl
    rw [e]; exact h8
theorem EntsO.size {o : Obj} {es : Array DictEntry} {ep : Nat} {kvs us : List V} (k : EntsO o es ep kvs us) : es.size = kvs.length := by
  have l : kvs.length = (es.toList.map (·.key)).length := k.2.1.length
  simpa using l.symm
theorem EntsO.at {o : Obj} {es : Array DictEntry} {ep : Nat} {kvs us : List V} (k : EntsO o es ep kvs us) {i : Nat} (h : i < es.size) : ∃ x y, kvs[i]? = some x ∧ us[i]? = some y ∧ RelV x es[i].key ∧ RelV y es[i].val := by
  have hi : i < es.toList.length := by simpa using h
  have l1 : kvs.length = (es.toList.map (·.key)).length := k.2.1.length
  have l2 : us.length = (es.toList.map (·.val)).length := k.2.2.length
  rw [List.length_map] at l1 l2
  have hk : i < kvs.length := by omega
  have hu : i < us.length := by omega
  obtain ⟨u, g1, r1⟩ := k.2.1.get (List.getElem?_eq_getElem hk)
  obtain ⟨v, g2, r2⟩ := k.2.2.get (List.getElem?_eq_getElem hu)
  rw [List.getElem?_map, List.getElem?_eq_getElem hi] at g1 g2
  cases g1; cases g2
  exact ⟨kvs[i], us[i], List.getElem?_eq_getElem hk, List.getElem?_eq_getElem hu, by simpa using r1, by simpa using r2⟩
theorem dic_raw {s : Shared} {d : Addr} {o : Obj} {es : Array DictEntry} {ep : Nat} (h1 : s.heap.get? d = some o) (h2 : o.ExactDict) (h3 : o.data = .dict es ep) : s.heap.DictRaw d es ep := ⟨o, h1, h2, h3⟩
theorem turn_itemsA {P : Program} {w : World} {K : PySem.W.Frag} {elts : List Expr} {kk : Nat} {tpos : Pos} {d : Addr} {o : Obj} {es : Array DictEntry} {ep : Nat} {kvs us : List V} (it : Addr) (hx : o.ExactDict) (k : EntsO o es ep kvs us) :
    Turn P w K (.Tuple elts kk tpos) (ItIA ⟨K, w, P⟩ d o kvs us) [it] it (fun i h => ∃ ok ov, IsItemIter h it d i es.size ep ok ov) where
  mem := by simp
  obj := fun i h st b hb => by
    have e : b = it := by simpa using hb
    subst e
    obtain ⟨ok, ov, e⟩ := st
    exact ⟨_, e, fun v z => nomatch z⟩
  keep := fun i h h' st k => let ⟨ok, ov, e⟩ := st; ⟨ok, ov, k it (by simp) _ e⟩
  item := by
    intro X hP hw hK hc i pins s σ H E I hf st hg
    subst hP hw hK
    obtain ⟨hd, hi⟩ := hg
    have hi2 : i < es.size := by rw [k.size]; exact hi
    obtain ⟨x, y, g1, g2, r1, r2⟩ := k.at hi2
    obtain ⟨ok, ov, he⟩ := st
    have hlt : it < s.heap.objs.size := Heap.lt_size he
    refine wpAny_pyNext_items_item_raw he (dic_raw (hd.get I) hx k.1) hi2 fun h' ho hT hz hk => ?_
    refine ⟨_, rfl, wpAny_letOwnedTupleGo_items (s := { s with heap := h' }) ho fun h'' he' sb => ?_⟩
    have hT2 : h''.get? s.heap.objs.size = some { cls := .type "tuple", data := .seq #[es[i].key, es[i].val] } := (sb.2 _ (Nat.ne_of_gt hlt)).trans hT
    have new : ObjOk X.prog X.w (upd H s.heap.objs.size (.tup [x, y])) h'' s.heap.objs.size (.tup [x, y]) :=
      ⟨by show 2 ≤ sizeLine; decide, [es[i].key, es[i].val], .cons r1 (.cons r2 .nil), ⟨_, hT2, rfl, _, rfl⟩⟩
    have I1 : Inv X pins σ (upd H s.heap.objs.size (.tup [x, y])) { s with heap := h'' } :=
      I.turnedNew (t' := s.toks) (ch := [it]) (fun b ob hb e => (sb.2 b (by simpa using hb)).trans (hk b ob (by simpa using hb) e)) hf (Nat.le_refl _) new
    refine ⟨.ref s.heap.objs.size, _, I1, rfl, ⟨_, x, y, rfl, g1, g2, I.hok.fresh (Nat.le_refl _), rfl⟩, ⟨es[i].key, es[i].val, he'⟩, fun b hb => ?_⟩
    have e : b = it := by simpa using hb
    rw [e, upd_ne (Nat.ne_of_lt hlt)]
    exact (hf it (by simp)).1
  done := by
    intro X hP hw hK hc i pins s σ H E I hf st hg
    subst hP hw hK
    obtain ⟨hd, hi⟩ := hg
    obtain ⟨f0, f1, f2, f3, f4, f5⟩ := hf it (by simp)
    obtain ⟨ok, ov, he⟩ := st
    exact wpAny_pyNext_items_end_raw (I.ok.hd hc) he (dic_raw (hd.get I) hx k.1) (by rw [k.size]; exact hi) fun h' eb => ⟨rfl, I.turned (t' := s.toks) (fun b ob hb e => eb b ob hb e) f0 f1 f3 f4 f5⟩
  self := fun A i s Q E st h => let ⟨_, _, e⟩ := st; PySem.W.kcp_self e h
def iItemsA (K : Kx) (td : TE) : TI := fun σ H R => td σ H fun x H1 => ∃ d o es ep kvs us, x = .ref d ∧ DicAt K H1 d o ∧ (d == sysModules) = false ∧ o.ExactDict ∧ EntsO o es ep kvs us ∧ R (ItIA K d o kvs us) H1
theorem pi_itemsA {X : Cx} {e : Expr} {td : TE} {apos cpos : Pos} {elts : List Expr} {kk : Nat} {tpos : Pos} (he : PE X e td) (hbase : attributeBase e "items" X.env (eval e X.env) = eval e X.env) (hline : (apos.endLine == cpos.line) = true) :
    PI X (.Tuple elts kk tpos) (.Call (.Attribute e "items" apos) [] [] cpos) (iItemsA X.kx td) := by
  refine ⟨fun pins s σ H R I h => ?_⟩
  refine wpAny_Call_method (T := "dict") (id := "dict.items") hbase rfl hline F.plainAttrs_dict F.slot_dict_items F.type_dict_items (thn (he.run pins s σ H _ I h) fun u s1 ⟨x, H1, I1, rx, d, o, es, ep, kvs, us, ex, hd, hs, hx, k, q⟩ => ?_)
  subst ex
  obtain rfl : u = Value.ref d := rx
  have raw := dic_raw (hd.get I1) hx k.1
  refine ⟨raw.typeIs, fun a ea => ⟨o, by cases ea; exact hd.get I1, hx.2.1⟩, ?_⟩
  have I2 : Inv X pins σ H1 { s1 with heap := s1.heap.push { cls := .type "dict_items", data := .fields #[.ref d] } } := I1.kept (t' := s1.toks) fun b ob q => Heap.get?_push_of_some _ q
  have fin : wpAny (model X.prog X.w) X.A (pyIter (.ref s1.heap.objs.size)) (PIE X pins σ (.Tuple elts kk tpos) R) X.xe { s1 with heap := s1.heap.push { cls := .type "dict_items", data := .fields #[.ref d] } } := by
    refine wpAny_pyIter_items_raw (d := d) (es := es) (ep := ep) ⟨_, Heap.get?_push_size _ rfl, rfl, rfl⟩ (raw.push _) (pi_one (tk := s1.toks) I2 _ (turn_itemsA _ hx k) ⟨.none, .none, Heap.get?_push_size _ rfl⟩ q)
  show wpAny _ _ (callWith cpos (.builtin "dict.items") [.ref d] [] []) _ X.xe s1
  exact method_meetsIn F.slot_dict_items F.entry_dict_items rfl (PySem.evalArgs_none ⟨rfl, raw.typeIs, F.args_dict_items_1 _, _, meets_dict_items_raw d hs, ⟨⟨es, ep, raw⟩, fin⟩⟩)

/-! ### len of a dict -/
section
variable {prog : Program} {w : World} {A : Around} {E : Value → Shared → Prop} {s : Shared} {d : Addr} {es : Array DictEntry} {ep : Nat}
theorem len_body_raw {Q : Value → Shared → Prop} (hd : (d == sysModules) = false) (hm : s.heap.DictRaw d es ep) (hfit : (es.size : Int) < 2 ^ 63) (h : Q (.int es.size (s.toks + 1)) { s with toks := s.toks + 1 + 1 }) :
    wpAny (model prog w) A (Builtin.«len» ⟨[.ref d], []⟩) (fun fin s' => ∃ r, fin = .done (.ret r) ∧ Q r s') E s := by
  unfold Builtin.«len»
  refine wpAny_bind (m := oneArg "len" _) (wpAny_pure ?_)
  refine wpAny_bind (m := callSpecial? (.ref d) (Str.ofString "__len__")) (wpAny_callSpecial?_slot (name := Str.ofString "__len__") hm.typeIs F.slot_dict_len (call_len_raw hd hm ?_))
  show wpAny _ _ _ _ _ { s with toks := s.toks + 1 }
  refine wpAny_bind (wpAny_holding (wpAny_pure ?_))
  refine wpAny_bind (wpAny_letGo ?_)
  show wpAny _ _ (if ((es.size : Nat) : Int) < 0 then _ else _) _ _ _
  rw [if_neg (by omega)]
  show wpAny _ _ (if ((es.size : Nat) : Int) ≥ 2 ^ 63 then _ else _) _ _ _
  rw [if_neg (by omega)]
  exact wpAny_bind (wpAny_mkInt (wpAny_pure ⟨_, rfl, h⟩))
end
def rLenD (K : Kx) : List V → Hp → VK → Prop := fun xs H Q => ∃ (a : Addr) (o : Obj) (ks : List D) (kvs us : List V), xs = [.ref a] ∧ DicAt K H a o ∧ (a == sysModules) = false ∧ DicS K o ks kvs us ∧ Q (.int ((kvs.length : Nat) : Int)) H
theorem call_len_dic {X : Cx} : CallR X (.builtin "len") (rLenD X.kx) := by
  intro pins s σ H xs us Q I r h
  obtain ⟨a, o, ks, kvs, us', rfl, hd, hs, S, q⟩ := h
  obtain ⟨u, rfl, rx⟩ := vals1 r
  obtain rfl : u = .ref a := rx
  obtain ⟨es, ep, k⟩ := dicS_ents S
  have hz : es.size ≤ sizeLine := by
    obtain ⟨h1, es', ep', ns, ys, ws, h2, h3, h4, h5, h6, h7, h8, h9, h10, h11, h12⟩ := S
    have e : es = es' := by
      have := k.1.symm.trans h2
      injection this
    subst e
    rw [← Array.length_toList, h12]
    simp
    omega
  refine Calls.call_function_entry kind_len plain_len entry_len (args_len1 _) (len_body_raw hs (dic_raw (hd.get I) S.1 k.1) (by rw [sizeLine_eq] at hz; omega) ?_)
  rw [k.size]
  exact ⟨.int ((kvs.length : Nat) : Int), H, I.tok _, ⟨_, rfl⟩, q⟩

/-! ### list(d), the keys of a dict -/
def rListDic (K : Kx) : List V → Hp → VK → Prop := fun xs H Q => ∃ (a : Addr) (o : Obj) (ks : List D) (kvs us : List V), xs = [.ref a] ∧ DicAt K H a o ∧ (a == sysModules) = false ∧ DicS K o ks kvs us ∧ ∀ p, H p = none → Q (.ref p) (upd H p (.lst kvs))
theorem call_list_dic {X : Cx} (hc : X.calm = true) : CallR X (.type "list") (rListDic X.kx) := by
  intro pins s σ H xs us Q I r h
  obtain ⟨a, o, ks, kvs, us', rfl, hd, hs, S, q⟩ := h
  obtain ⟨u, rfl, rx⟩ := vals1 r
  obtain rfl : u = .ref a := rx
  obtain ⟨es, ep, k⟩ := dicS_ents S
  have hz : es.size ≤ sizeLine := by
    obtain ⟨h1, es', ep', ns, ys, ws, h2, h3, h4, h5, h6, h7, h8, h9, h10, h11, h12⟩ := S
    have e : es = es' := by
      have := k.1.symm.trans h2
      injection this
    subst e
    rw [← Array.length_toList, h12]
    simp
    omega
  have hks := k.size
  refine PySem.W.kdl_call (kdl_raw hs S.1 k.1) (I.ok.hd hc) (hd.get I) (by omega) fun h' tk acc c' kp e it => ?_
  refine ⟨.ref _, upd H _ (.lst kvs), I.laid kp (Nat.le_refl _) (show ObjOk X.prog X.w _ _ _ (.lst kvs) from ⟨by omega, acc.toList, c', ?_, by rw [Array.toArray_toList]; exact e⟩), rfl, q _ (I.hok.fresh (Nat.le_refl _))⟩
  have hacc : acc.toList = es.toList.map (·.key) := by
    apply List.ext_getElem?
    intro i
    by_cases hi2 : i < es.size
    · have h1 : i < acc.size := by rw [it.1]; exact hi2
      obtain ⟨en, hen, hv⟩ := it.2 i acc[i] (by rw [Array.getElem?_eq_getElem h1])
      rw [Array.getElem?_eq_getElem hi2] at hen
      cases hen
      rw [List.getElem?_map, Array.getElem?_toList, Array.getElem?_eq_getElem h1, Array.getElem?_toList, Array.getElem?_eq_getElem hi2, hv]; rfl
    · rw [List.getElem?_eq_none (by rw [Array.length_toList, it.1]; omega), List.getElem?_eq_none (by rw [List.length_map, Array.length_toList]; omega)]
  rw [hacc]; exact k.2.1

/-! ### max(xs) of a tuple of ints -/
section
variable {prog : Program} {w : World} {A : Around} {E : Value → Shared → Prop} {s : Shared} {l : Addr}
theorem iter_anyTup {its : Array Value} {Q : Value → Shared → Prop} (hl : s.heap.IsTuple l its)
    (h : ∀ s₂ : Shared, s₂ = { s with heap := s.heap.push { cls := .type "tuple_iterator", data := .fields #[.ref l, .int 0 0] } } →
      (s₂.heap.IsTupleIter s.heap.objs.size l 0 ∧ s₂.heap.IsTuple l its) → (∀ b ∈ [s.heap.objs.size, l], b < s₂.heap.objs.size) → l ≠ s.heap.objs.size → Q (.ref s.heap.objs.size) s₂) :
    wpAny (model prog w) A (pyIter (.ref l)) Q E s := by
  have hlt : l < s.heap.objs.size := by obtain ⟨_, e, _⟩ := hl; exact Heap.lt_size e
  refine wpAny_pyIter_tuple hl (h _ rfl ⟨⟨_, Heap.get?_push_size _ rfl, rfl, rfl⟩, hl.push _⟩ (fun b hb => ?_) (Nat.ne_of_lt hlt))
  show b < (s.heap.push _).objs.size
  rw [Heap.size_push]
  rcases List.mem_cons.mp hb with rfl | hb
  · exact Nat.lt_succ_self _
  · rcases List.mem_cons.mp hb with rfl | hb
    · exact Nat.lt_succ_of_lt hlt
    · cases hb
theorem max_intTup {xs : Array (Int × Tok)} {Q : Value → Shared → Prop} (hh : A.handled = none) (hl : s.heap.IsTuple l (intItems xs)) (hne : 0 < xs.size)
    (h : ∀ v h' tk, (intItems xs)[argBest (fun i j => decide (numAt xs i > numAt xs j)) (xs.size - 1)]? = some v → (∀ b o, s.heap.get? b = some o → h'.get? b = some o) → Q v { s with heap := h', toks := tk }) :
    wpAny (model prog w) A (call (.builtin "max") [.ref l]) Q E s := by
  refine call_max_walk (iter_anyTup hl fun s₂ e st hfp hlI => ?_)
  subst e
  refine ⟨_, _, _, _, _, _, _, rfl, Walks.tuple (A := A.in1) hh _ l hlI (intItems xs), st, hfp, by simpa [intItems] using hne, CmpOf.ints_gt (numAt xs) (fun _ _ => intItems_at), fun v h' tk hP hk => ?_⟩
  exact h v h' tk (by simpa [intItems] using hP) fun b o e => hk b o (fun z => absurd (List.mem_singleton.mp z) (Nat.ne_of_lt (Heap.lt_size e))) (Heap.get?_push_of_some _ e)
theorem max_rawT {its : List Value} {ns : List Int} {Q : Value → Shared → Prop} (hh : A.handled = none) (hl : s.heap.IsTuple l its.toArray) (hi : IntsAre its ns) (hne : 0 < ns.length)
    (h : ∀ h' tk M t', (∀ b o, s.heap.get? b = some o → h'.get? b = some o) → M ∈ ns → (∀ a, a ∈ ns → a ≤ M) → Q (.int M t') { s with heap := h', toks := tk }) : wpAny (model prog w) A (call (.builtin "max") [.ref l]) Q E s := by
  obtain ⟨xs, e⟩ := hi.allInts.items
  have hn : numsOf (intItems xs).toList = ns := by rw [← e]; exact hi.numsOf
  rw [nums_intItems] at hn
  subst hn
  rw [e] at hl
  have hsz : 0 < xs.size := by simpa using hne
  refine max_intTup hh hl hsz fun v h' tk hv hk => ?_
  obtain ⟨t, rfl⟩ := intItems_at hv
  obtain ⟨h1, h2⟩ := argBest_gt (numAt xs) (xs.size - 1)
  refine h h' tk _ t hk ?_ fun a ha => ?_
  · rw [numAt_eq]; exact PySem.getD_mem (by rw [List.length_map, Array.length_toList]; omega)
  · obtain ⟨j, hj, rfl⟩ := mem_getD ha
    rw [List.length_map, Array.length_toList] at hj
    rw [← numAt_eq]; exact h2 j (by omega)
end
def rMaxT (K : PySem.W.Frag) : List V → Hp → VK → Prop := fun vs H Q => ∃ (a : Addr) (ns : List Int), vs = [V.ref a] ∧ SqT K H a (ns.map V.int) ∧ 0 < ns.length ∧ ∀ m, m ∈ ns → (∀ y, y ∈ ns → y ≤ m) → Q (.int m) H
theorem cr_maxT {X : Cx} (hc : X.calm = true) : CallR X (.builtin "max") (rMaxT X.K) := by
  intro pins s σ H vs us Q I r h
  obtain ⟨a, ns, rfl, hs, hne, q⟩ := h
  obtain ⟨its, rv, hl, _⟩ := I.tuple hs
  rw [Vals.ref1 r]
  exact max_rawT (I.ok.hd hc) hl rv.ints hne fun h' tk m t' hk h1 h2 => ⟨.int _, H, I.kept hk, ⟨_, rfl⟩, q m h1 h2⟩
end Ab

set_option maxHeartbeats 4000000
/-! sorted(d) of a dict whose keys are tuples of texts, all of one length -/
namespace AbSrt
open PySem PyProof.Rows Srt SrtO
section
variable {prog : Program} {w : World} {A : Around} {E : Value → Shared → Prop} {s : Shared}
theorem sorted_src_ord {T : String} {r d : Addr} {n : Nat} {P : Nat → Value → Prop} {OK : Heap → Prop} (K : PySem.W.KdlSrc prog w T r d n P OK) (hh : A.handled = none) (hok : OK s.heap) (hn : n ≤ sizeLine) {ltv : Value → Value → Bool} {Q : Value → Shared → Prop} (O : Swo ltv)
    (hS : ∀ (h₁ : Heap) (tk : Nat) (a : Addr) (vs : List Value), vs.length = n → (∀ (j : Nat) (v : Value), vs[j]? = some v → P j v) → h₁.get? a = some (seqObj "list" vs.toArray 0) → (∀ b o, s.heap.get? b = some o → b ≠ a ∧ h₁.get? b = some o) → 2 ≤ vs.length → SortableO prog w A.in1.in1 { s with heap := h₁, toks := tk } a vs ltv)
    (h : ∀ (h' : Heap) (dd : Addr) (tk : Nat) (vs out : List Value), vs.length = n → (∀ (j : Nat) (v : Value), vs[j]? = some v → P j v) → Srtd ltv out → Stb ltv out vs → (∀ b o, s.heap.get? b = some o → h'.get? b = some o) → (∃ hm : Heap, (∀ b o, s.heap.get? b = some o → hm.get? b = some o) ∧ dd = hm.objs.size) → (∃ n, h'.get? dd = some (seqObj "list" out.toArray n)) → Q (.ref dd) { s with heap := h', toks := tk }) :
    wpAny (model prog w) A (call (.builtin "sorted") [.ref r]) Q E s := by
  refine Calls.call_function_entry kind_sorted plain_sorted entry_sorted (args_sorted1 _) ?_
  unfold Builtin.«sorted»
  refine wpAny_bind (m := checkCount "sorted" 1 1 _) (wpAny_pure ?_)
  refine wpAny_bind (PySem.W.kdu_collect (A := A.in1) K hh hok hn fun h' tk acc hk hacc => ?_)
  have hl : acc.toList.length = n := by rw [Array.length_toList]; exact hacc.1
  have hP : ∀ (j : Nat) (v : Value), acc.toList[j]? = some v → P j v := fun j v e => hacc.2 j v (by rw [← Array.getElem?_toList]; exact e)
  have hz : acc.toList.length ≤ sizeLine := by rw [hl]; exact hn
  refine wpAny_bind (wpAny_newList ?_ hz)
  have hoL : (h'.push (seqObj "list" acc.toList.toArray 0)).get? h'.objs.size = some (seqObj "list" acc.toList.toArray 0) := Heap.get?_push_size _ rfl
  have keep : ∀ b o, s.heap.get? b = some o → b ≠ h'.objs.size ∧ (h'.push (seqObj "list" acc.toList.toArray 0)).get? b = some o := fun b o q => by
    have hlt : b < h'.objs.size := Heap.lt_size (hk b o q)
    exact ⟨Nat.ne_of_lt hlt, Heap.get?_push_of_some _ (hk b o q)⟩
  show wpAny _ _ _ _ _ { s with heap := h'.push (seqObj "list" acc.toList.toArray 0), toks := tk }
  refine wpAny_bind (wpAny_holding (wpAny_call_entry slot_list_sort ⟨_, hoL, rfl⟩ entry_list_sort (list_sort_ord O hoL hz (fun h2 => hS _ tk _ _ hl hP hoL keep h2) fun out hs hb => ⟨_, rfl, ?_⟩) (args_list_sort _)))
  refine wpAny_pure ⟨_, rfl, h _ _ tk acc.toList out hl hP hs hb (fun b o q => ?_) ⟨h', hk, rfl⟩ (sortedHeap_at hoL)⟩
  obtain ⟨h1, h2⟩ := keep b o q
  rw [sortedHeap_old h1 (Heap.lt_size h2)]
  exact h2
end
end AbSrt
namespace Ab
open PySem PySem.Spec PyProof.Rows L2
def rSortTD (K : Kx) : List V → Hp → VK → Prop := fun xs H Q => ∃ (a : Addr) (o : Obj) (ks : List D) (kvs us : List V) (n : Nat) (ts : List (List Str)), xs = [.ref a] ∧ DicAt K H a o ∧ (a == sysModules) = false ∧ DicS K o ks kvs us ∧ 1 ≤ n ∧ TxtP K H ts kvs ∧ (∀ t ∈ ts, t.length = n) ∧
  ∀ ys ts' p, TxtP K H ts' ys → (∀ y ∈ ys, y ∈ kvs) → ts'.Perm ts → ts'.Pairwise (fun u v => AbSrt.lexS v u = false) → H p = none → Q (.ref p) (upd H p (.lst ys))
theorem cr_sortTD {X : Cx} (hc : X.calm = true) : CallR X (.builtin "sorted") (rSortTD X.kx) := by
  intro pins s σ H xs us Q I r h
  obtain ⟨a, o, ks, kvs, us', n, ts, rfl, hd, hs, S, hn, hp, hlen, q⟩ := h
  obtain ⟨u, rfl, rx⟩ := vals1 r
  obtain rfl : u = Value.ref a := rx
  obtain ⟨es, ep, k⟩ := dicS_ents S
  have hz : es.size ≤ sizeLine := by
    obtain ⟨h1, es', ep', ns, ys, ws, h2, h3, h4, h5, h6, h7, h8, h9, h10, h11, h12⟩ := S
    have e : es = es' := by
      have := k.1.symm.trans h2
      injection this
    subst e
    rw [← Array.length_toList, h12]
    simp
    omega
  have rv : Vals kvs (es.toList.map (·.key)) := k.2.1
  obtain ⟨e1, e2⟩ := refs_back rv fun x m => by
    obtain ⟨_, _, t, e, _⟩ := paired_mem hp m
    exact ⟨t, e⟩
  have hx : ∀ x ∈ kvs, (txt X.kx H x).length = n ∧ ∃ t, x = .ref t ∧ SqT X.kx H t ((txt X.kx H x).map V.str) := fun x m => by
    obtain ⟨t, ht, b, rfl, hb⟩ := paired_mem hp m
    rw [txt_eq I hb]
    exact ⟨hlen t ht, b, rfl, hb⟩
  have same : ∀ vs : List Value, vs.length = es.size → (∀ (j : Nat) (v : Value), vs[j]? = some v → ∃ en, es[j]? = some en ∧ v = en.key) → vs = es.toList.map (·.key) := fun vs hl hv => by
    apply List.ext_getElem?
    intro i
    by_cases hi : i < vs.length
    · obtain ⟨en, hen, ev⟩ := hv i _ (List.getElem?_eq_getElem hi)
      rw [List.getElem?_eq_getElem hi, List.getElem?_map, Array.getElem?_toList, hen, ev]; rfl
    · rw [List.getElem?_eq_none (by omega), List.getElem?_eq_none (by rw [List.length_map, Array.length_toList]; omega)]
  refine AbSrt.sorted_src_ord (kdl_raw hs S.1 k.1) (I.ok.hd hc) (hd.get I) hz (AbSrt.swo_lexN n fun u => txt X.kx H (backV u)) (fun h₁ tk b vs hl hv ha kk h2 => ?_) fun h' dd tk vs out hl hv h1 h2 kp hdd hn' => ?_
  · obtain rfl := same vs hl hv
    refine AbSrt.tups_sortable hn (s := { s with heap := h₁, toks := tk }) (by omega) (fun v hm => ?_) fun o e => ?_
    · obtain ⟨t, rfl⟩ := e2 v hm
      have hm' : V.ref t ∈ kvs := by rw [e1]; exact List.mem_map.mpr ⟨_, hm, rfl⟩
      obtain ⟨hl', t', e, ht⟩ := hx _ hm'
      cases e
      obtain ⟨its2, r2, ⟨o, ho, hc, m, hd⟩, _⟩ := I.tuple ht
      exact ⟨⟨t, o, _, m, rfl, (kk _ _ ho).2, hc, hd, strs_are r2⟩, hl'⟩
    · have e' : some o = some (seqObj "list" _ 0) := e.symm.trans ha
      cases e'
      intro c
      exact absurd (Value.type.inj c) (by decide)
  · obtain rfl := same vs hl hv
    have h2 := h2.perm
    have h3 : ∀ u ∈ out, ∃ a, u = Value.ref a := fun u hu => e2 u (h2.mem_iff.mp hu)
    obtain ⟨m, hm⟩ := hn'
    obtain ⟨hm2, hk2, rfl⟩ := hdd
    have hb : (out.map backV).Perm kvs := by
      rw [e1]
      exact h2.map backV
    have hts : kvs.map (txt X.kx H) = ts := paired_fun hp fun x y ⟨b, e, hy⟩ => by
      subst e
      exact txt_eq I hy
    have hH : H hm2.objs.size = none := (I.hok.kept hk2).fresh (Nat.le_refl _)
    have hG : s.heap.get? hm2.objs.size = none := by
      cases e : s.heap.get? hm2.objs.size with
      | none => rfl
      | some o => exact absurd (Heap.lt_size (hk2 _ _ e)) (Nat.lt_irrefl _)
    refine ⟨.ref _, upd H _ (.lst (out.map backV)), Inv.laidN (t' := tk) I kp hG hH ⟨?_, out, m, vals_back h3, hm⟩, rfl, q _ ((out.map backV).map (txt X.kx H)) _ ?_ (fun y hy => hb.mem_iff.mp hy) ?_ ?_ hH⟩
    · rw [hb.length_eq, rv.length, List.length_map, Array.length_toList]
      exact hz
    · have e3 : out.map backV = (out.map backV).map id := (List.map_id _).symm
      rw [show TxtP X.kx H ((out.map backV).map (txt X.kx H)) (out.map backV) = TxtP X.kx H ((out.map backV).map (txt X.kx H)) ((out.map backV).map id) from congrArg _ e3]
      exact paired_map fun x hx' => (hx x (hb.mem_iff.mp hx')).2
    · rw [← hts]
      exact hb.map _
    · rw [List.map_map, List.pairwise_map]
      refine List.Pairwise.imp_of_mem (fun {u v} hu hv h => ?_) h1
      have g1 := (hx _ (hb.mem_iff.mp (List.mem_map.mpr ⟨u, hu, rfl⟩))).1
      have g2 := (hx _ (hb.mem_iff.mp (List.mem_map.mpr ⟨v, hv, rfl⟩))).1
      have h' : AbSrt.lexN n (txt X.kx H (backV v)) (txt X.kx H (backV u)) = false := h
      unfold AbSrt.lexN at h'
      rw [if_pos g2, if_pos g1] at h'
      exact h'
end Ab

/-! xs.index(y, k) -/
namespace Ab
open PySem PySem.Spec PyProof.Rows L2
section
variable {X : Cx}
def rIndexK (K : PySem.W.Frag) : V → List V → Hp → VK → Prop := fun x xs H Q => ∃ (a : Addr) (ys : List V) (y : V) (k j : Nat) (z : V), x = V.ref a ∧ xs = [y, .int (k : Int)] ∧ SqL K H a ys ∧ flatV y = true ∧ ys.all flatV = true ∧ ys[j]? = some z ∧ eqV z y = true ∧ k ≤ j ∧
  (∀ (m : Nat) (z' : V), k ≤ m → m < j → ys[m]? = some z' → eqV z' y = false) ∧ Q (.int (j : Nat)) H
theorem mt_indexK : MtR X "list.index" (rIndexK X.K) := by
  intro pp st σ0 H0 o as vo vs QQ I rx rxs hh
  obtain ⟨a, ys, y, k, j, z, rfl, rfl, hs, fy, fys, hz, hzj, hkj, hno, qq⟩ := hh
  cases rx
  obtain ⟨uy, uk, rfl, ry, rk⟩ := vals2 rxs
  obtain ⟨tk, rfl⟩ := rk
  obtain ⟨its, rv, ⟨ob, nn, h1, h2, h3, h4⟩, hle⟩ := I.list hs
  obtain ⟨cl, od, da, os⟩ := ob
  simp only at h2 h4
  subst h2 h4
  obtain ⟨u, hu, ru⟩ := rv.get hz
  obtain ⟨hjl2, he⟩ := List.getElem?_eq_some_iff.mp hu
  have hvl := rv.length
  have hsz := sizeLine_eq
  have hj' : j < its.toArray.size := by simpa using hjl2
  have el : ∀ (i : Nat) (hi : i < its.toArray.size), ((its.toArray[i]?).map (eqU y)).getD false = eqU y its.toArray[i] := fun i hi => by
    rw [Array.getElem?_eq_getElem hi]; rfl
  refine call_meets PySem.F.slot_list_index ⟨_, h1, rfl⟩ PySem.F.entry_list_index (PySem.F.args_list_index_3 _ _ _)
    (SeqAt.list_index3_found a its.toArray nn od os uy (fun i => ((its.toArray[i]?).map (eqU y)).getD false) k tk j hj' (by rw [SeqAt.searchFrom_nat]; exact hkj) (by omega) ?_ ?_) ⟨h1, fun i hi => ?_, ?_⟩
  · rw [el j hj', show its.toArray[j] = u by simpa using he, eqU_of ru (flat_at fys hz)]
    exact hzj
  · intro m hm h5 h6
    rw [SeqAt.searchFrom_nat] at h5
    have hml2 : m < its.length := by simpa using hm
    have hy' : ys[m]? = some ys[m] := List.getElem?_eq_getElem (by omega)
    obtain ⟨u2, hu2, ru2⟩ := rv.get hy'
    obtain ⟨_, hme2⟩ := List.getElem?_eq_some_iff.mp hu2
    rw [el m hm, show its.toArray[m] = u2 by simpa using hme2, eqU_of ru2 (flat_at fys hy')]
    exact hno m _ h5 h6 hy'
  · rw [el i hi]
    exact mem_eqAt ry fy rv fys _ (by simp)
  · exact ⟨.int (j : Nat), H0, I.tok _, ⟨_, rfl⟩, qq⟩
end
end Ab

namespace Ab
open PySem PySem.Spec PyProof.Rows L2

section
variable {K : Kx}
theorem dic_rp {H : Hp} {r : List Addr} {a : Addr} {ks vs : List D} {k d : D} {v : V} (h : valD ks vs k = some d) : valD ks vs k = some d := h
theorem c2_in : Op2R K (fun y x H Q => rIn K false y x H Q ∨ ((rInD K false y x H Q ∨ rInDL K false y x H Q) ∨ ((∃ (c : Nat) (z : Str), y = .str ⟨#[c]⟩ ∧ x = .str z ∧ Q (.bl (decide (c ∈ z.cps.toList))) H) ∨ rInP K false y x H Q))) (cmR .isin) := by
  intro H r m x y vx vy P Q rx ry hm h hP
  rcases h with ⟨xs, h1, h2, h3, q⟩ | ⟨ks, vs, h1, h2, q⟩ | ⟨c, z, rfl, rfl, q⟩ | ⟨d, ds, c, h1, h2, h3, h4, h5, h6, q⟩
  · obtain ⟨a, vs, rfl, g1, g2⟩ := seq_or hm h1 ry
    refine .inl ⟨a, vs, rfl, g2, rp_flat rx h2, rpl_flat g1 h3, ?_⟩
    rw [if_neg Bool.false_ne_true, rpl_in rx h2 g1 h3]
    exact (hP _ _ q).here rfl hm
  · obtain ⟨a, rfl, g⟩ := dicR_of hm h1 ry
    rcases h2 with h2 | h2
    · exact .inr (.inl (.inl ⟨r, x, ks, vs, a, rfl, g, rx, h2, by rw [if_neg Bool.false_ne_true]; exact (hP _ _ q).here rfl hm⟩))
    · exact .inr (.inl (.inr ⟨r, x, ks, vs, a, rfl, g, rx, h2, by rw [if_neg Bool.false_ne_true]; exact (hP _ _ q).here rfl hm⟩))
  · cases rx; cases ry
    exact .inr (.inr (.inl ⟨c, z, rfl, rfl, (hP _ _ q).here rfl hm⟩))
  · exact .inr (.inr (.inr ⟨d, ds, c, dpD_of hm h1 rx, dpD_of hm h2 ry, h3, h4, h5, h6, by rw [if_neg Bool.false_ne_true]; exact (hP _ _ q).here rfl hm⟩))
theorem c2_notin : Op2R K (fun y x H Q => rIn K true y x H Q ∨ ((rInD K true y x H Q ∨ rInDL K true y x H Q) ∨ ((∃ (c : Nat) (z : Str), y = .str ⟨#[c]⟩ ∧ x = .str z ∧ Q (.bl (!decide (c ∈ z.cps.toList))) H) ∨ rInP K true y x H Q))) (cmR .notin) := by
  intro H r m x y vx vy P Q rx ry hm h hP
  rcases h with ⟨xs, h1, h2, h3, q⟩ | ⟨ks, vs, h1, h2, q⟩ | ⟨c, z, rfl, rfl, q⟩ | ⟨d, ds, c, h1, h2, h3, h4, h5, h6, q⟩
  · obtain ⟨a, vs, rfl, g1, g2⟩ := seq_or hm h1 ry
    refine .inl ⟨a, vs, rfl, g2, rp_flat rx h2, rpl_flat g1 h3, ?_⟩
    rw [if_pos rfl, rpl_in rx h2 g1 h3]
    exact (hP _ _ q).here rfl hm
  · obtain ⟨a, rfl, g⟩ := dicR_of hm h1 ry
    rcases h2 with h2 | h2
    · exact .inr (.inl (.inl ⟨r, x, ks, vs, a, rfl, g, rx, h2, by rw [if_pos rfl]; exact (hP _ _ q).here rfl hm⟩))
    · exact .inr (.inl (.inr ⟨r, x, ks, vs, a, rfl, g, rx, h2, by rw [if_pos rfl]; exact (hP _ _ q).here rfl hm⟩))
  · cases rx; cases ry
    exact .inr (.inr (.inl ⟨c, z, rfl, rfl, (hP _ _ q).here rfl hm⟩))
  · exact .inr (.inr (.inr ⟨d, ds, c, dpD_of hm h1 rx, dpD_of hm h2 ry, h3, h4, h5, h6, by rw [if_pos rfl]; exact (hP _ _ q).here rfl hm⟩))
/-- a[i] -/
theorem i2_ix : Op2R K (fun x y H Q => rIxL K x y H Q ∨ (rIxT K x y H Q ∨ ((rIxD K x y H Q ∨ rIxDL K x y H Q) ∨ rIxS x y H Q))) (fun x y m P => ixD m x y fun d => P d m) := by
  intro H r m x y vx vy P Q rx ry hm h hP
  rcases h with ⟨xs, i, d, h1, rfl, h3, q⟩ | ⟨ks, vs, d, h1, h2, h3, q⟩ | ⟨z, i, c, rfl, rfl, hz, hc, q⟩
  · cases ry
    obtain ⟨a, vs, rfl, g1, g2⟩ := seq_or hm h1 rx
    have hl := g1.length
    have h3' : (ixN xs.length i).bind (fun j => xs[j]?) = some d := h3
    cases e : ixN xs.length i with
    | none => rw [e] at h3'; cases h3'
    | some j =>
      rw [e] at h3'
      obtain ⟨v, hv, rv⟩ := g1.get (show xs[j]? = some d from h3')
      have at_ : atI vs i = some v := by
        unfold atI
        rw [← hl, e]
        exact hv
      have fin := (hP _ _ q).here rv hm
      rcases g2 with g2 | g2
      · exact .inl ⟨a, vs, i, v, rfl, rfl, g2, at_, fin⟩
      · exact .inr (.inl ⟨a, vs, i, v, rfl, rfl, g2, at_, fin⟩)
  · obtain ⟨a, rfl, g⟩ := dicR_of hm h1 rx
    rcases h2 with h2 | h2
    · exact .inr (.inr (.inl (.inl ⟨r, y, d, ks, vs, a, rfl, g, ry, h2, h3, fun v hv => (hP _ _ q).here hv hm⟩)))
    · exact .inr (.inr (.inl (.inr ⟨r, y, d, ks, vs, a, rfl, g, ry, h2, h3, fun v hv => (hP _ _ q).here hv hm⟩)))
  · cases rx; cases ry
    exact .inr (.inr (.inr ⟨z, i, c, rfl, rfl, hz, hc, (hP _ _ q).here rfl hm⟩))
end
section
variable {K : Kx} {H : Hp} {r : List Addr} {m : Mu}
theorem rpl_cut {xs : List D} {vs : List V} (h : RpL K H r xs vs) (lo hi : Option Int) : RpL K H r (cutD xs lo hi) (cutV vs lo hi) := by
  unfold cutD cutV
  rw [h.length]
  exact (h.drop _).take _
/-- slices -/
theorem sl_ok {x : D} {vx : V} {lo hi : Option Int} {P : D → Mu → Prop} {Q : VK} (rx : Rp K H r x vx) (hm : RMu K H r m) (h : slD m x lo hi P) (hP : ∀ d m', P d m' → Fin K H r Q d m') :
    rSlA K vx lo hi H Q ∨ (rSlL K vx lo hi H Q ∨ rSlS vx lo hi H Q) := by
  cases x with
  | str z =>
    cases rx
    exact .inr (.inr ⟨z, rfl, h.1, (hP _ _ h.2).here rfl hm⟩)
  | tup xs =>
    obtain ⟨a, vs, rfl, h1, h2⟩ := rx
    have hl := h2.length
    refine .inl ⟨a, vs, rfl, h1, fun ⟨e1, e2⟩ => ?_, fun _ p hp => ?_⟩
    · have e : cutD xs lo hi = xs := by
        unfold cutD
        rw [hl, e1, e2, Nat.sub_zero, List.drop_zero, ← hl, List.take_length]
      have q : P (.tup (cutD xs lo hi)) m := h
      rw [e] at q
      exact (hP _ _ q).here ⟨a, vs, rfl, h1, h2⟩ hm
    · exact (hP _ _ (show P (.tup (cutD xs lo hi)) m from h)).tupNew (rpl_cut h2 lo hi) hm hp
  | ro xs =>
    obtain ⟨a, vs, rfl, h1, h2⟩ := rx
    exact .inr (.inl ⟨a, vs, rfl, h1.sq, fun p hp => (hP _ _ (show P (.loc m.length) (m ++ [.lst (cutD xs lo hi)]) from h)).lstNew (rpl_cut h2 lo hi) hm hp⟩)
  | loc n =>
    obtain ⟨xs, e, q⟩ := h
    obtain ⟨a, vs, h1, h2, h3⟩ := hm.at_lst e
    obtain ⟨b, g1, rfl⟩ := rx
    rw [h1] at g1; cases g1
    exact .inr (.inl ⟨a, vs, rfl, SqL.of h2, fun p hp => (hP _ _ q).lstNew (rpl_cut h3 lo hi) hm hp⟩)
  | _ => exact h.elim

theorem rpl1 {d : D} {vs : List V} (h : RpL K H r [d] vs) : ∃ v, vs = [v] ∧ Rp K H r d v := by
  obtain ⟨v, t, rfl, h2, h3⟩ := h
  have h3' : t = [] := h3
  subst h3'
  exact ⟨v, rfl, h2⟩
theorem rpl2 {d e : D} {vs : List V} (h : RpL K H r [d, e] vs) : ∃ v u, vs = [v, u] ∧ Rp K H r d v ∧ Rp K H r e u := by
  obtain ⟨v, t, rfl, h2, h3⟩ := h
  obtain ⟨u, rfl, h4⟩ := rpl1 h3
  exact ⟨v, u, rfl, h2, h4⟩
theorem rpl3 {d e f : D} {vs : List V} (h : RpL K H r [d, e, f] vs) : ∃ v u w, vs = [v, u, w] ∧ Rp K H r d v ∧ Rp K H r e u ∧ Rp K H r f w := by
  obtain ⟨v, t, rfl, h2, h3⟩ := h
  obtain ⟨u, w, rfl, h4, h5⟩ := rpl2 h3
  exact ⟨v, u, w, rfl, h2, h4, h5⟩
theorem rpl_bls : ∀ {bs : List Bool} {vs : List V}, RpL K H r (bs.map D.bl) vs → vs = bs.map V.bl
  | [], vs, h => h
  | b :: bs, vs, h => by
    obtain ⟨v, t, rfl, h2, h3⟩ := h
    cases h2
    rw [rpl_bls h3]; rfl
end

/-! built-in functions -/
def biN : Bi → Str
  | .len => "len" | .abs => "abs" | .max => "max" | .min => "min" | .int => "int" | .divmod => "divmod" | .tuple => "tuple" | .list => "list" | .all => "all" | .any => "any" | .minL => "min" | .maxL => "max" | .sum => "sum" | .sorted => "sorted" | .dict => "dict" | .str => "str"
def rBi (K : Kx) : Bi → List V → Hp → VK → Prop
  | .len => fun xs H Q => (∃ p ys, xs = [.ref p] ∧ (SqL K H p ys ∨ SqT K H p ys) ∧ Q (.int ys.length) H) ∨ (∃ z, xs = [.str z] ∧ z.length ≤ sizeLine ∧ Q (.int z.length) H) ∨ rLenD K xs H Q
  | .abs => fun xs H Q => ∃ i, xs = [.int i] ∧ Q (.int (if i < 0 then -i else i)) H
  | .max => fun xs H Q => ∃ i j, xs = [.int i, .int j] ∧ Q (.int (if j > i then j else i)) H
  | .min => fun xs H Q => ∃ i j, xs = [.int i, .int j] ∧ Q (.int (if j < i then j else i)) H
  | .int => fun xs H Q => ((∃ i, xs = [.int i] ∧ Q (.int i) H) ∨ ∃ k, xs = [.bl k] ∧ Q (.int (if k then 1 else 0)) H) ∨ ∃ a n, xs = [.str a] ∧ PySem.intText? a = some n ∧ a.length ≤ 640 ∧ Q (.int n) H
  | .divmod => fun xs H Q => ∃ i j, xs = [.int i, .int j] ∧ CDivP i j ∧ ∀ p, H p = none → Q (.ref p) (upd H p (.tup [.int (i / j), .int (i % j)]))
  | .tuple => fun xs H Q => ∃ p ys, xs = [.ref p] ∧ ((SqL K H p ys ∧ ∀ l, H l = none → Q (.ref l) (upd H l (.tup ys))) ∨ (SqT K H p ys ∧ Q (.ref p) H))
  | .list => fun xs H Q => (∃ p ys, xs = [.ref p] ∧ (SqL K H p ys ∨ SqT K H p ys) ∧ ∀ l, H l = none → Q (.ref l) (upd H l (.lst ys))) ∨ rListDic K xs H Q
  | .all => rAll K
  | .any => rAny K
  | .minL => rMin K
  | .maxL => fun xs H Q => rMax K xs H Q ∨ rMaxT K xs H Q
  | .sum => rSum K
  | .sorted => fun xs H Q => rSortedI K xs H Q ∨ (rSortedS K xs H Q ∨ (rSortT K xs H Q ∨ rSortTD K xs H Q))
  | .dict => fun xs H Q => rDictP K xs H Q ∨ rDictL K xs H Q
  | .str => fun xs H Q => (∃ i, xs = [.int i] ∧ i.natAbs.log2 < 1920 ∧ Q (.str (toString i)) H) ∨ ∃ a, xs = [.str a] ∧ Q (.str a) H
theorem rpl_strs {K : Kx} {H : Hp} {r : List Addr} : ∀ {ns : List Str} {vs : List V}, RpL K H r (ns.map D.str) vs → vs = ns.map V.str
  | [], vs, h => h
  | n :: ns, vs, h => by
    obtain ⟨v, t, rfl, h2, h3⟩ := h
    cases h2
    rw [rpl_strs h3]; rfl
theorem RpL.strs {K : Kx} {H : Hp} {r : List Addr} : ∀ (ns : List Str), RpL K H r (ns.map D.str) (ns.map V.str)
  | [] => rfl
  | n :: ns => ⟨.str n, ns.map V.str, rfl, rfl, RpL.strs ns⟩
/-- texts of a tuple of texts, told by a table of what is there -/
theorem strT_at {K : Kx} {H : Hp} {r : List Addr} {t : List Str} {v : V} (h : Rp K H r (strT t) v) : ∃ a, v = .ref a ∧ SqT K H a (t.map V.str) := by
  obtain ⟨a, vs, rfl, h1, h2⟩ := h
  rw [rpl_strs h2] at h1
  exact ⟨a, rfl, h1⟩
theorem strTs_at {K : Kx} {H : Hp} {r : List Addr} : ∀ {ts : List (List Str)} {vs : List V}, RpL K H r (ts.map strT) vs → TxtP K H ts vs
  | [], vs, h => by
    have h' : vs = [] := h
    subst h'
    exact .nil
  | t :: ts, vs, h => by
    obtain ⟨v, vt, rfl, h2, h3⟩ := h
    exact .cons (strT_at h2) (strTs_at h3)
theorem strTs_back {K : Kx} {H : Hp} {r : List Addr} : ∀ {ts : List (List Str)} {vs : List V}, TxtP K H ts vs → RpL K H r (ts.map strT) vs
  | _, _, .nil => rfl
  | _, _, .cons ⟨b, e, h2⟩ t => ⟨_, _, rfl, ⟨b, _, e, h2, RpL.strs _⟩, strTs_back t⟩
theorem Fin.dicNew {K : Kx} {H : Hp} {r : List Addr} {m : Mu} {Q : VK} {ks vs : List D} {kvs us : List V} {p : Addr} {o : Obj} (h : Fin K H r Q (.dloc m.length) (m ++ [.dic ks vs])) (S : DicS K o ks kvs us) (rk : RpL K H r ks kvs) (rv : RpL K H r vs us) (hm : RMu K H r m) (hp : H p = none) (hs : (p == sysModules) = false) : Q (.ref p) (upd H p (dicO p o)) := by
  have sm : Same H (upd H p (dicO p o)) := same_new hp
  refine h _ (r ++ [p]) _ (Ext.same sm) (Pre.app r [p]) ⟨p, ?_, rfl⟩ (hm.newO hp ⟨o, kvs, us, upd_same, hs, S, RpL.ext (Ext.same sm) (Pre.app r [p]) _ _ rk, RpL.ext (Ext.same sm) (Pre.app r [p]) _ _ rv⟩)
  rw [← hm.len, List.getElem?_append_right (Nat.le_refl _), Nat.sub_self]; rfl
theorem rpl_ints {K : Kx} {H : Hp} {r : List Addr} : ∀ {ns : List Int} {vs : List V}, RpL K H r (ns.map D.int) vs → vs = ns.map V.int
  | [], vs, h => h
  | n :: ns, vs, h => by
    obtain ⟨v, t, rfl, h2, h3⟩ := h
    cases h2
    rw [rpl_ints h3]; rfl
theorem seq_ints {K : Kx} {H : Hp} {r : List Addr} {m : Mu} {d : D} {ns : List Int} {v : V} (hm : RMu K H r m) (e : seqOf m d = some (ns.map D.int)) (hd : ∀ ys, d ≠ .tup ys) (h : Rp K H r d v) : ∃ a, v = .ref a ∧ SqL K H a (ns.map V.int) := by
  obtain ⟨a, us, rfl, g1, g2⟩ := seq_of hm e h
  cases rpl_ints g1
  rcases g2 with ⟨_, z⟩ | ⟨g2, _⟩
  · exact absurd z (hd _)
  · exact ⟨a, rfl, g2⟩
theorem bi_ok {K : Kx} {H : Hp} {r : List Addr} {m : Mu} : ∀ (f : Bi) {ds : List D} {vs : List V} {P : D → Mu → Prop} {Q : VK}, RpL K H r ds vs → RMu K H r m → biD f ds m P → (∀ d m', P d m' → Fin K H r Q d m') → rBi K f vs H Q
  | .len, ds, vs, P, Q, rs, hm, h, hP => by
    rcases h with ⟨d, xs, rfl, e, q⟩ | ⟨x, rfl, hz, q⟩ | ⟨d, ks, ws, rfl, e, q⟩
    rotate_left
    · obtain ⟨v, rfl, rv⟩ := rpl1 rs
      cases rv
      exact .inr (.inl ⟨x, rfl, hz, (hP _ _ q).here rfl hm⟩)
    · obtain ⟨v, rfl, rv⟩ := rpl1 rs
      obtain ⟨a, o, kvs, us, rfl, h2, h3, h4, h5, _⟩ := dic_of hm e rv
      refine .inr (.inr ⟨a, o, ks, kvs, us, rfl, h2, h3, h4, ?_⟩)
      rw [← h5.length]
      exact (hP _ _ q).here rfl hm
    obtain ⟨v, rfl, rv⟩ := rpl1 rs
    obtain ⟨a, us, rfl, g1, g2⟩ := seq_or hm e rv
    refine .inl ⟨a, us, rfl, g2, ?_⟩
    rw [← g1.length]
    exact (hP _ _ q).here rfl hm
  | .abs, ds, vs, P, Q, rs, hm, h, hP => by
    obtain ⟨i, rfl, q⟩ := h
    obtain ⟨v, rfl, rv⟩ := rpl1 rs
    cases rv
    exact ⟨i, rfl, (hP _ _ q).here rfl hm⟩
  | .max, ds, vs, P, Q, rs, hm, h, hP => by
    obtain ⟨i, j, rfl, q⟩ := h
    obtain ⟨v, u, rfl, rv, ru⟩ := rpl2 rs
    cases rv; cases ru
    exact ⟨i, j, rfl, (hP _ _ q).here rfl hm⟩
  | .min, ds, vs, P, Q, rs, hm, h, hP => by
    obtain ⟨i, j, rfl, q⟩ := h
    obtain ⟨v, u, rfl, rv, ru⟩ := rpl2 rs
    cases rv; cases ru
    exact ⟨i, j, rfl, (hP _ _ q).here rfl hm⟩
  | .int, ds, vs, P, Q, rs, hm, h, hP => by
    unfold biD at h
    simp only at h
    split at h
    · rename_i i
      obtain ⟨v, rfl, rv⟩ := rpl1 rs
      cases rv
      exact .inl (.inl ⟨i, rfl, (hP _ _ h).here rfl hm⟩)
    · rename_i b
      obtain ⟨v, rfl, rv⟩ := rpl1 rs
      cases rv
      exact .inl (.inr ⟨b, rfl, (hP _ _ h).here rfl hm⟩)
    · rename_i z
      obtain ⟨v, rfl, rv⟩ := rpl1 rs
      cases rv
      obtain ⟨n, h1, h2, h⟩ := h
      exact .inr ⟨z, n, rfl, h1, h2, (hP _ _ h).here rfl hm⟩
    · exact h.elim
  | .divmod, ds, vs, P, Q, rs, hm, h, hP => by
    obtain ⟨i, j, rfl, c, q⟩ := h
    obtain ⟨v, u, rfl, rv, ru⟩ := rpl2 rs
    cases rv; cases ru
    exact ⟨i, j, rfl, c, fun p hp => (hP _ _ q).tupNew ⟨_, _, rfl, rfl, _, _, rfl, rfl, rfl⟩ hm hp⟩
  | .tuple, ds, vs, P, Q, rs, hm, h, hP => by
    obtain ⟨d, xs, rfl, e, q⟩ := h
    obtain ⟨v, rfl, rv⟩ := rpl1 rs
    obtain ⟨a, us, rfl, g1, g2⟩ := seq_of hm e rv
    refine ⟨a, us, rfl, ?_⟩
    rcases g2 with ⟨g2, rfl⟩ | ⟨g2, _⟩
    · exact .inr ⟨g2, (hP _ _ q).here rv hm⟩
    · exact .inl ⟨g2, fun p hp => (hP _ _ q).tupNew g1 hm hp⟩
  | .list, ds, vs, P, Q, rs, hm, h, hP => by
    rcases h with ⟨d, xs, rfl, e, q⟩ | ⟨d, ks, ws, rfl, e, q⟩
    · obtain ⟨v, rfl, rv⟩ := rpl1 rs
      obtain ⟨a, us, rfl, g1, g2⟩ := seq_or hm e rv
      exact .inl ⟨a, us, rfl, g2, fun p hp => (hP _ _ q).lstNew g1 hm hp⟩
    · obtain ⟨v, rfl, rv⟩ := rpl1 rs
      obtain ⟨a, o, kvs, us, rfl, h2, h3, h4, h5, _⟩ := dic_of hm e rv
      exact .inr ⟨a, o, ks, kvs, us, rfl, h2, h3, h4, fun p hp => (hP _ _ q).lstNew h5 hm hp⟩
  | .all, ds, vs, P, Q, rs, hm, h, hP => by
    obtain ⟨n, bs, rfl, e, q⟩ := h
    obtain ⟨v, rfl, rv⟩ := rpl1 rs
    obtain ⟨a, us, h1, h2, h3⟩ := hm.at_lst e
    obtain ⟨b, g1, rfl⟩ := rv
    rw [h1] at g1; cases g1
    cases rpl_bls h3
    exact ⟨a, bs, rfl, SqL.of h2, (hP _ _ q).here rfl hm⟩
  | .any, ds, vs, P, Q, rs, hm, h, hP => by
    obtain ⟨n, bs, rfl, e, q⟩ := h
    obtain ⟨v, rfl, rv⟩ := rpl1 rs
    obtain ⟨a, us, h1, h2, h3⟩ := hm.at_lst e
    obtain ⟨b, g1, rfl⟩ := rv
    rw [h1] at g1; cases g1
    cases rpl_bls h3
    exact ⟨a, bs, rfl, SqL.of h2, (hP _ _ q).here rfl hm⟩
  | .minL, ds, vs, P, Q, rs, hm, h, hP => by
    obtain ⟨d, ns, rfl, e, hd, hz, q⟩ := h
    obtain ⟨v, rfl, rv⟩ := rpl1 rs
    obtain ⟨a, rfl, g⟩ := seq_ints hm e hd rv
    exact ⟨a, ns, rfl, g, hz, fun x h1 h2 => (hP _ _ (q x h1 h2)).here rfl hm⟩
  | .maxL, ds, vs, P, Q, rs, hm, h, hP => by
    obtain ⟨d, ns, rfl, e, hz, q⟩ := h
    obtain ⟨v, rfl, rv⟩ := rpl1 rs
    obtain ⟨a, us, rfl, g1, g2⟩ := seq_of hm e rv
    cases rpl_ints g1
    rcases g2 with ⟨g2, _⟩ | ⟨g2, _⟩
    · exact .inr ⟨a, ns, rfl, g2, hz, fun x h1 h2 => (hP _ _ (q x h1 h2)).here rfl hm⟩
    · exact .inl ⟨a, ns, rfl, g2, hz, fun x h1 h2 => (hP _ _ (q x h1 h2)).here rfl hm⟩
  | .sum, ds, vs, P, Q, rs, hm, h, hP => by
    obtain ⟨d, ns, rfl, e, hd, q⟩ := h
    obtain ⟨v, rfl, rv⟩ := rpl1 rs
    obtain ⟨a, rfl, g⟩ := seq_ints hm e hd rv
    exact ⟨a, ns, rfl, g, (hP _ _ q).here rfl hm⟩
  | .sorted, ds, vs, P, Q, rs, hm, h, hP => by
    rcases h with ⟨d, xs, rfl, e, hd, h⟩ | ⟨d, ks, ws, n, ts, rfl, e, hn, rfl, hl, q⟩
    rotate_left
    · obtain ⟨v, rfl, rv⟩ := rpl1 rs
      obtain ⟨a, o, kvs, us, rfl, h2, h3, h4, h5, _⟩ := dic_of hm e rv
      exact .inr (.inr (.inr ⟨a, o, _, kvs, us, n, ts, rfl, h2, h3, h4, hn, strTs_at h5, hl, fun ys ts' p h1 _ h2 h3 hp => (hP _ _ (q ts' h2 h3)).lstNew (strTs_back h1) hm hp⟩))
    obtain ⟨v, rfl, rv⟩ := rpl1 rs
    obtain ⟨a, us, rfl, g1, g2⟩ := seq_of hm e rv
    have g3 : SqL K H a us := by
      rcases g2 with ⟨_, z⟩ | ⟨g2, _⟩
      · exact absurd z (hd _)
      · exact g2
    rcases h with ⟨ns, rfl, q⟩ | ⟨zs, rfl, hz, q⟩ | ⟨n, ts, hn, rfl, hl, q⟩
    · cases rpl_ints g1
      exact .inl ⟨a, ns, rfl, g3, fun ns' p h1 h2 hp => (hP _ _ (q ns' h1 h2)).lstNew (RpL.ints ns') hm hp⟩
    · cases rpl_strs g1
      exact .inr (.inl ⟨a, zs, rfl, g3, hz, fun ys p h1 h2 hp => (hP _ _ (q ys h1 h2)).lstNew (RpL.strs ys) hm hp⟩)
    · exact .inr (.inr (.inl ⟨a, us, n, ts, rfl, g3, hn, strTs_at g1, hl, fun ys ts' p h1 _ h2 h3 hp => (hP _ _ (q ts' h2 h3)).lstNew (strTs_back h1) hm hp⟩))
  | .str, ds, vs, P, Q, rs, hm, h, hP => by
    rcases h with ⟨i, rfl, hz, q⟩ | ⟨z, rfl, q⟩
    · obtain ⟨v, rfl, rv⟩ := rpl1 rs
      cases rv
      exact .inl ⟨i, rfl, hz, (hP _ _ q).here rfl hm⟩
    · obtain ⟨v, rfl, rv⟩ := rpl1 rs
      cases rv
      exact .inr ⟨z, rfl, (hP _ _ q).here rfl hm⟩
  | .dict, ds, vs, P, Q, rs, hm, h, hP => by
    rcases h with h | h
    · obtain ⟨d, ks, ws, ns, rfl, e, hd, hl, hn, hnd, hdp, ht, q⟩ := h
      obtain ⟨v, rfl, rv⟩ := rpl1 rs
      obtain ⟨a, us, rfl, g1, g2⟩ := seq_of hm e rv
      have g3 : SqL K H a us := by
        rcases g2 with ⟨_, z⟩ | ⟨g2, _⟩
        · exact absurd z (hd _)
        · exact g2
      exact .inl ⟨r, a, us, ks, ws, ns, rfl, g3, g1, hl, hn, hnd, hdp, ht, fun p o kvs us' hp hs S rk rv' => (hP _ _ q).dicNew S rk rv' hm hp hs⟩
    · obtain ⟨d, ks, ws, rfl, e, hd, hl, ht, q⟩ := h
      obtain ⟨v, rfl, rv⟩ := rpl1 rs
      obtain ⟨a, us, rfl, g1, g2⟩ := seq_of hm e rv
      have g3 : SqL K H a us := by
        rcases g2 with ⟨_, z⟩ | ⟨g2, _⟩
        · exact absurd z (hd _)
        · exact g2
      exact .inr ⟨r, a, us, ks, ws, rfl, g3, g1, hl, ht, fun p o kvs us' hp hs S rk rv' => (hP _ _ q).dicNew S rk rv' hm hp hs⟩

/-! methods of lists -/
theorem rpl_erase {K : Kx} {H : Hp} {r : List Addr} : ∀ {xs : List D} {us : List V} (j : Nat), RpL K H r xs us → RpL K H r (xs.eraseIdx j) (us.eraseIdx j)
  | [], us, j, h => by
    have h : us = [] := h
    subst h
    exact rfl
  | x :: xs, us, 0, ⟨v, t, e, h1, h2⟩ => by subst e; exact h2
  | x :: xs, us, j + 1, ⟨v, t, e, h1, h2⟩ => by subst e; exact ⟨v, t.eraseIdx j, rfl, h1, rpl_erase j h2⟩
theorem rpl_getN {K : Kx} {H : Hp} {r : List Addr} : ∀ {xs : List D} {us : List V} {j : Nat} {d : D}, xs[j]? = some d → RpL K H r xs us → ∃ v, us[j]? = some v ∧ Rp K H r d v
  | [], _, _, _, h, _ => by simp at h
  | x :: xs, us, 0, d, h, ⟨v, t, e, h1, h2⟩ => by
    cases h
    exact ⟨v, by rw [e]; rfl, h1⟩
  | x :: xs, us, j + 1, d, h, ⟨v, t, e, h1, h2⟩ => by
    obtain ⟨w, hw, rw'⟩ := rpl_getN (j := j) h h2
    exact ⟨w, by rw [e]; exact hw, rw'⟩
theorem seqIx_nat {j n : Nat} (h : j < n) : seqIndex? (j : Int) n = some j := by
  unfold seqIndex?
  simp
  omega
def mtN : Mt → Str
  | .append => "append" | .extend => "extend" | .pop => "pop" | .clear => "clear" | .index => "index" | .popAt => "pop" | .rev => "reverse"
def rMt (K : PySem.W.Frag) : Mt → V → List V → Hp → VK → Prop
  | .append => rAppend
  | .extend => rExtend
  | .pop => rPop
  | .clear => rClear
  | .popAt => rPopAt
  | .rev => rReverse
  | .index => fun x xs H Q => rIndex K x xs H Q ∨ rIndexK K x xs H Q
theorem Fin.write {K : Kx} {H : Hp} {r : List Addr} {m : Mu} {Q : VK} {d : D} {v : V} {n : Nat} {a : Addr} {vs us : List V} {ys : List D} (h : Fin K H r Q d (m.set n (.lst ys))) (hm : RMu K H r m) (ha : r[n]? = some a) (hv : H a = some (.lst vs))
    (g : RpL K H r ys us) (gd : Rp K H r d v) : Q v (upd H a (.lst us)) :=
  h v r _ (ext_write hv) (Pre.refl r) (Rp.ext (ext_write hv) (Pre.refl r) _ _ gd) (hm.write ha hv g)
theorem mt_ok {K : Kx} {H : Hp} {r : List Addr} {m : Mu} : ∀ (f : Mt) {o : D} {vo : V} {ds : List D} {vs : List V} {P : D → Mu → Prop} {Q : VK}, Rp K H r o vo → RpL K H r ds vs → RMu K H r m → mtD f o ds m P → (∀ d m', P d m' → Fin K H r Q d m') → rMt K.k f vo vs H Q
  | .append, o, vo, ds, vs, P, Q, ro, rs, hm, h, hP => by
    obtain ⟨n, xs, d, rfl, rfl, e, hz, q⟩ := h
    obtain ⟨v, rfl, rv⟩ := rpl1 rs
    obtain ⟨a, us, h1, h2, h3⟩ := hm.at_lst e
    obtain ⟨b, g1, rfl⟩ := ro
    rw [h1] at g1; cases g1
    exact ⟨a, us, v, rfl, rfl, h2, by rw [← h3.length]; exact hz, (hP _ _ q).write hm h1 h2 (h3.append (RpL.one rv)) rfl⟩
  | .extend, o, vo, ds, vs, P, Q, ro, rs, hm, h, hP => by
    obtain ⟨n, k, xs, ys, rfl, rfl, e, e2, hz, q⟩ := h
    obtain ⟨v, rfl, rv⟩ := rpl1 rs
    obtain ⟨a, us, h1, h2, h3⟩ := hm.at_lst e
    obtain ⟨a2, us2, i1, i2, i3⟩ := hm.at_lst e2
    obtain ⟨b, g1, rfl⟩ := ro
    rw [h1] at g1; cases g1
    obtain ⟨b, g1, rfl⟩ := rv
    rw [i1] at g1; cases g1
    exact ⟨a, a2, us, us2, rfl, rfl, h2, i2, by rw [← h3.length, ← i3.length]; exact hz, (hP _ _ q).write hm h1 h2 (h3.append i3) rfl⟩
  | .pop, o, vo, ds, vs, P, Q, ro, rs, hm, h, hP => by
    obtain ⟨n, xs, d, rfl, rfl, e, hd, q⟩ := h
    have rs' : vs = [] := rs
    subst rs'
    obtain ⟨a, us, h1, h2, h3⟩ := hm.at_lst e
    obtain ⟨b, g1, rfl⟩ := ro
    rw [h1] at g1; cases g1
    obtain ⟨v, hv, rv⟩ := h3.get hd
    have hl := h3.length
    refine ⟨a, us, v, rfl, rfl, h2, by rw [← hl]; exact hv, (hP _ _ q).write hm h1 h2 ?_ rv⟩
    rw [List.dropLast_eq_take, List.dropLast_eq_take, hl]
    exact h3.take _
  | .clear, o, vo, ds, vs, P, Q, ro, rs, hm, h, hP => by
    obtain ⟨n, xs, rfl, rfl, e, q⟩ := h
    have rs' : vs = [] := rs
    subst rs'
    obtain ⟨a, us, h1, h2, h3⟩ := hm.at_lst e
    obtain ⟨b, g1, rfl⟩ := ro
    rw [h1] at g1; cases g1
    exact ⟨a, us, rfl, rfl, h2, (hP _ _ q).write hm h1 h2 rfl rfl⟩
  | .popAt, o, vo, ds, vs, P, Q, ro, rs, hm, h, hP => by
    obtain ⟨n, xs, j, d, rfl, rfl, hj, e, hd, q⟩ := h
    obtain ⟨v', rfl, rv'⟩ := rpl1 rs
    cases rv'
    obtain ⟨a, us, h1, h2, h3⟩ := hm.at_lst e
    obtain ⟨b, g1, rfl⟩ := ro
    rw [h1] at g1; cases g1
    obtain ⟨v, hv, rv⟩ := rpl_getN hd h3
    have hjl := (List.getElem?_eq_some_iff.mp hv).1
    exact ⟨a, us, (j : Int), j, v, rfl, rfl, h2, by omega, by omega, seqIx_nat hjl, hv, (hP _ _ q).write hm h1 h2 (rpl_erase j h3) rv⟩
  | .rev, o, vo, ds, vs, P, Q, ro, rs, hm, h, hP => by
    obtain ⟨n, xs, rfl, rfl, e, q⟩ := h
    have rs' : vs = [] := rs
    subst rs'
    obtain ⟨a, us, h1, h2, h3⟩ := hm.at_lst e
    obtain ⟨b, g1, rfl⟩ := ro
    rw [h1] at g1; cases g1
    exact ⟨a, us, rfl, rfl, h2, (hP _ _ q).write hm h1 h2 h3.reverse rfl⟩
  | .index, o, vo, ds, vs, P, Q, ro, rs, hm, h, hP => by
    rcases h with ⟨n, ns, v, j, rfl, rfl, e, hj, hno, q⟩ | ⟨n, zs, v, j, rfl, rfl, e, hj, hno, q⟩ | ⟨n, zs, v, k, j, rfl, rfl, e, hkj, hj, hno, q⟩
    · refine .inl ?_
      obtain ⟨v', rfl, rv⟩ := rpl1 rs
      cases rv
      obtain ⟨a, us, h1, h2, h3⟩ := hm.at_lst e
      obtain ⟨b, g1, rfl⟩ := ro
      rw [h1] at g1; cases g1
      have hu := rpl_ints h3
      subst hu
      refine ⟨a, ns.map V.int, .int v, j, .int v, rfl, rfl, SqL.of h2, rfl, ?_, by rw [List.getElem?_map, hj]; rfl, ?_, ?_, (hP _ _ q).here rfl hm⟩
      · rw [List.all_map, List.all_eq_true]
        intro x _; rfl
      · show (v == v) = true
        exact beq_self_eq_true v
      · intro i z hi hz
        rw [List.getElem?_map] at hz
        cases hx : ns[i]? with
        | none => rw [hx] at hz; cases hz
        | some x =>
          rw [hx] at hz
          cases hz
          show (x == v) = false
          refine beq_eq_false_iff_ne.mpr fun e => hno i hi ?_
          rw [hx, e]
    · refine .inl ?_
      obtain ⟨v', rfl, rv⟩ := rpl1 rs
      cases rv
      obtain ⟨a, us, h1, h2, h3⟩ := hm.at_lst e
      obtain ⟨b, g1, rfl⟩ := ro
      rw [h1] at g1; cases g1
      have hu := rpl_strs h3
      subst hu
      refine ⟨a, zs.map V.str, .str v, j, .str v, rfl, rfl, SqL.of h2, rfl, ?_, by rw [List.getElem?_map, hj]; rfl, ?_, ?_, (hP _ _ q).here rfl hm⟩
      · rw [List.all_map, List.all_eq_true]
        intro x _; rfl
      · show (v == v) = true
        exact beq_self_eq_true v
      · intro i z hi hz
        rw [List.getElem?_map] at hz
        cases hx : zs[i]? with
        | none => rw [hx] at hz; cases hz
        | some x =>
          rw [hx] at hz
          cases hz
          show (x == v) = false
          refine beq_eq_false_iff_ne.mpr fun e => hno i hi ?_
          rw [hx, e]
    · refine .inr ?_
      obtain ⟨v', u', rfl, rv, ru⟩ := rpl2 rs
      cases rv; cases ru
      obtain ⟨a, us, h1, h2, h3⟩ := hm.at_lst e
      obtain ⟨b, g1, rfl⟩ := ro
      rw [h1] at g1; cases g1
      have hu := rpl_strs h3
      subst hu
      refine ⟨a, zs.map V.str, .str v, k, j, .str v, rfl, rfl, SqL.of h2, rfl, ?_, by rw [List.getElem?_map, hj]; rfl, ?_, hkj, ?_, (hP _ _ q).here rfl hm⟩
      · rw [List.all_map, List.all_eq_true]
        intro x _; rfl
      · show (v == v) = true
        exact beq_self_eq_true v
      · intro i z h0 hi hz
        rw [List.getElem?_map] at hz
        cases hx : zs[i]? with
        | none => rw [hx] at hz; cases hz
        | some x =>
          rw [hx] at hz
          cases hz
          show (x == v) = false
          refine beq_eq_false_iff_ne.mpr fun e => hno i h0 hi ?_
          rw [hx, e]
/-- its type -/
def TyY (K : Kx) (H : Hp) (v : V) (t : Value) : Prop := TyX K H v t ∨ (t = .type "dict" ∧ ∃ a o, v = .ref a ∧ DicAt K H a o ∧ o.ExactDict)
theorem rp_ty {K : Kx} {H : Hp} {r : List Addr} {m : Mu} {x : D} {v : V} (hm : RMu K H r m) (h : Rp K H r x v) (hx : notTy x = true) (hl : locOk m x) : TyY K H v (.type (tyD x)) := by
  cases x with
  | non => cases h; exact .inl (.base .non)
  | bl b => cases h; exact .inl (.base (.bl b))
  | int i => cases h; exact .inl (.base (.int i))
  | str z => cases h; exact .inl (.base (.str z))
  | ty n => cases hx
  | obj C ns fs => cases hx
  | fn n => cases hx
  | tup xs =>
    obtain ⟨a, vs, rfl, h1, _⟩ := h
    rcases h1 with (h1 | ⟨o, h1⟩) | ⟨o, its, n, h1, h2, _⟩
    · exact .inl (.base (.tup h1))
    · exact .inl (.fTuple h1)
    · exact .inl (.kTuple h1 h2)
  | ro xs =>
    obtain ⟨a, vs, rfl, h1, _⟩ := h
    rcases h1 with ⟨o, h1⟩ | ⟨o, its, n, h1, h2, _⟩
    · exact .inl (.base (.frz h1))
    · exact .inl (.kList h1 h2)
  | loc n =>
    obtain ⟨xs, hl⟩ := hl
    obtain ⟨a, vs, h1, h2, h3⟩ := hm.at_lst hl
    obtain ⟨b, g1, rfl⟩ := h
    rw [h1] at g1; cases g1
    exact .inl (.base (.lst h2))
  | dic ks vs =>
    obtain ⟨a, o, kvs, us, rfl, h2, _, h4, _⟩ := dic_of (ks := ks) (vs := vs) hm rfl h
    exact .inr ⟨rfl, a, o, rfl, h2, h4.1⟩
  | dloc n =>
    obtain ⟨ks, vs, hl⟩ := hl
    obtain ⟨a, o, kvs, us, rfl, h2, _, h4, _⟩ := dic_of (ks := ks) (vs := vs) hm (d := .dloc n) (by unfold dicOf; simp only; rw [hl]) h
    exact .inr ⟨rfl, a, o, rfl, h2, h4.1⟩
theorem kit_ofY {X : Cx} {pins : List (Addr × Obj)} {σ : L2.St} {H : Hp} {s : Shared} {x : V} {u t : Value} (I : Inv X pins σ H s) (rx : RelV x u) (ty : TyY X.kx H x t) : ∃ P : Heap → Prop, PySem.W.KitX X.K u t P ∧ P s.heap ∧ u ≠ .builtin "__main__.__loader__#opaque" := by
  rcases ty with ty | ⟨rfl, a, o, rfl, d, c⟩
  · exact kit_of I rx ty
  · cases (show u = Value.ref a from rx)
    exact ⟨_, PySem.W.kitx_dict, ⟨o, d.get I, c.1⟩, fun z => nomatch z⟩
def rIsiY (K : Kx) : List V → Hp → VK → Prop := fun xs H Q => ∃ (x c : V) (t u : Value) (b : Bool), xs = [x, c] ∧ ClsV c u ∧ TyY K H x t ∧ PySem.W.kitOne K t u = some b ∧ Q (.bl b) H
theorem call_isiY {X : Cx} : CallR X (.builtin "isinstance") (rIsiY X.kx) := by
  intro pins s σ H xs us Q I r h
  obtain ⟨x, c, t, u, b, rfl, k, ty, e, q⟩ := h
  obtain ⟨u1, u2, rfl, r1, r2⟩ := vals2 r
  have e2 := k.eq r2
  subst e2
  obtain ⟨P, Z, p, hx⟩ := kit_ofY I r1 ty
  exact PySem.W.kia_one Z I.kIn p e hx fun tk => ⟨.bl b, H, I.tok tk, rfl, q⟩
def rIsiTY (K : Kx) : List V → Hp → VK → Prop := fun xs H Q => ∃ (x : V) (tp : Addr) (cs : List V) (t : Value) (us : List Value) (b : Bool), xs = [x, .ref tp] ∧ H tp = some (.tup cs) ∧ Paired ClsV cs us ∧ TyY K H x t ∧ PySem.W.kitAny K t us = some b ∧ Q (.bl b) H
theorem call_isiTY {X : Cx} : CallR X (.builtin "isinstance") (rIsiTY X.kx) := by
  intro pins s σ H xs us Q I r h
  obtain ⟨x, tp, cs, t, ws, b, rfl, hT, k, ty, e, q⟩ := h
  obtain ⟨u1, u2, rfl, r1, r2⟩ := vals2 r
  cases (show u2 = Value.ref tp from r2)
  obtain ⟨P, Z, p, hx⟩ := kit_ofY I r1 ty
  obtain ⟨_, its, rv, o, h1, h2, n, h3⟩ := (show ObjOk X.prog X.w H s.heap tp (.tup cs) from I.hok tp _ hT)
  have e3 := ClsV.all k rv
  subst e3
  obtain ⟨oc, od, dt, sl⟩ := o
  simp only at h2 h3
  subst h2 h3
  exact PySem.W.kia_tup Z I.kIn p h1 e hx fun tk => ⟨.bl b, H, I.tok tk, rfl, q⟩
/-! truth -/
theorem tru_of {K : Kx} {H : Hp} {r : List Addr} {m : Mu} {x : D} {v : V} {t : Bool} (hm : RMu K H r m) (h : Rp K H r x v) (e : truD m x = some t) : TruV K v H t := by
  have emp : ∀ {xs : List D} {vs : List V}, RpL K H r xs vs → (!xs.isEmpty) = !vs.isEmpty := by
    intro xs vs g
    cases xs with
    | nil => have g' : vs = [] := g; rw [g']; rfl
    | cons x xs => obtain ⟨v, t, rfl, _⟩ := g; rfl
  cases x with
  | non => cases h; cases e; rfl
  | bl b => cases h; cases e; rfl
  | int i => cases h; cases e; rfl
  | str x =>
    cases h
    have e' : (if x.length ≤ sizeLine then some (x.length != 0) else none) = some t := e
    by_cases hz : x.length ≤ sizeLine
    · rw [if_pos hz] at e'
      cases e'
      refine ⟨hz, ?_⟩
      cases q : x.length with
      | zero => rfl
      | succ n =>
        show (n + 1 != 0) = _
        rw [bne_iff_ne.mpr (Nat.succ_ne_zero n), bne_iff_ne.mpr (by omega)]
    · rw [if_neg hz] at e'; cases e'
  | tup xs =>
    obtain ⟨a, vs, rfl, h1, h2⟩ := h
    cases e
    exact .inr (.inl ⟨vs, h1, emp h2⟩)
  | ro xs =>
    obtain ⟨a, vs, rfl, h1, h2⟩ := h
    cases e
    exact .inl ⟨vs, h1.sq, emp h2⟩
  | loc n =>
    unfold truD at e
    simp only at e
    cases q : m[n]? with
    | none => rw [q] at e; cases e
    | some o =>
      rw [q] at e
      cases o with
      | lst xs =>
        cases e
        obtain ⟨a, vs, h1, h2, h3⟩ := hm.at_lst q
        obtain ⟨b, g1, rfl⟩ := h
        rw [h1] at g1; cases g1
        exact .inl ⟨vs, SqL.of h2, emp h3⟩
      | _ => cases e
  | _ => cases e
end Ab

namespace Ab
open PySem PySem.Spec PyProof.Rows L2

/-! ### looks at the text -/
def nostar : Expr → Bool
  | .Starred .. => false
  | _ => true
def noset : Expr → Bool
  | .Set .. => false
  | _ => true
def nocomp : Expr → Bool
  | .ListComp .. => false
  | .SetComp .. => false
  | .DictComp .. => false
  | _ => true
def isname : Expr → Bool
  | .Name .. => true
  | .Constant .. => true
  | .Attribute .. => true
  | .Subscript .. => true
  | .Call _ (_ :: _) _ _ => true
  | _ => false
def notup : Expr → Bool
  | .Tuple .. => false
  | _ => true
/-- its test is its value's truth -/
def plainT : Expr → Bool
  | .Name .. => true
  | .Call .. => true
  | .Subscript .. => true
  | .Constant .. => true
  | .Attribute .. => true
  | _ => false
def noslice : Expr → Bool
  | .Slice .. => false
  | _ => true
theorem star_cons {e : Expr} {es : List Expr} {env : Env} (h : nostar e = true) : starEach (e :: es) env = (false, eval e env) :: starEach es env := by
  cases e <;> first | rfl | cases h
theorem star_any {pos : Pos} {env : Env} : ∀ {es : List Expr}, es.all nostar = true → (backTo pos (starEach es env)).any (·.1) = false
  | [], _ => rfl
  | e :: es, h => by
    rw [List.all_cons, Bool.and_eq_true] at h
    rw [star_cons h.1]
    show (false || (backTo pos (starEach es env)).any (·.1)) = false
    rw [star_any h.2]; rfl
theorem swap_no {e : Expr} {t : Option Expr} {l : Nat} {env : Env} (h : nocomp e = true) : swapsWith e t l env = pure false := by
  cases e <;> first | rfl | cases h
theorem base_name {e : Expr} {x : Str} {env : Env} {w : Sem Value} (h : isname e = true) : attributeBase e x env w = w := by
  cases e <;> first | rfl | cases h | skip
  rename_i f as ks p
  cases as with
  | nil => cases h
  | cons a as => cases f <;> rfl
theorem mark_no {e : Expr} {op : CmpOp} (h : noset e = true) : behindInMarks op e = false := by
  cases e <;> first | rfl | cases h
theorem marks_no {b c : Expr} {op op' : CmpOp} (h : noset c = true) : lastMarks [op, op'] [b, c] = false := by
  show lastMarks [op'] [c] = false
  exact mark_no h
theorem fold_no {e : Expr} {env : Env} (h : noset e = true) (x : Value) : foldedSetIterable e env x = pure x := by
  cases e <;> first | rfl | cases h
theorem truth_plain {e : Expr} {env : Env} (h : plainT e = true) (whole : Sem Value) : isTrue e env whole = (do let v ← whole; standAt e.pos; holding [v] (truthy v)) := by
  cases e <;> first | rfl | cases h
theorem ix_plain {b : Expr} (h : noslice b = true) : PlainIx b := by
  cases b <;> first | (intro o i; rfl) | cases h
theorem stores_folded {ts vs : List Expr} {k k2 : Nat} {p p2 : Pos} {env : Env} (h : vs.all (foldedForSure 8) = true) : swappedStores [.Tuple ts k p] (.Tuple vs k2 p2) env = pure none := by
  unfold swappedStores
  simp only [h, if_true]
  split
  · rfl
  · split
    · rfl
    · split
      · rfl
      · rfl
theorem stores_few {ts vs : List Expr} {k k2 : Nat} {p p2 : Pos} {env : Env} (h : (ts.length == 2 || ts.length == 3) = false) : swappedStores [.Tuple ts k p] (.Tuple vs k2 p2) env = pure none := by
  unfold swappedStores
  simp only [h]
  rfl
theorem stores_notup {t e : Expr} {env : Env} (h : (match t with | .Tuple .. => false | .List .. => false | _ => true) = true) : swappedStores [t] e env = pure none := by
  cases t <;> first | rfl | (exact absurd (show false = true from h) Bool.false_ne_true)
theorem stores_noe {t e : Expr} {env : Env} (h : notup e = true) : swappedStores [t] e env = pure none := by
  cases e <;> first | (cases t <;> rfl) | (exact absurd (show false = true from h) Bool.false_ne_true)
def isStar : Expr → Bool
  | .Starred .. => true
  | _ => false
theorem star_no {a : Expr} (h : nostar a = true) : isStar a = false := by cases a <;> first | rfl | (exact absurd (show false = true from h) Bool.false_ne_true)
theorem stars_no : ∀ {es : List Expr}, es.all nostar = true → es.any isStar = false
  | [], _ => rfl
  | e :: es, h => by
    rw [List.all_cons, Bool.and_eq_true] at h
    rw [List.any_cons, star_no h.1, stars_no h.2]; rfl
theorem stores_pair {x y : Str} {px py p p2 : Pos} {k k2 : Nat} {a b : Expr} {env : Env} (hk : env.scope.kind = .function) (hx : env.scope.names.lookup x = some .local) (hy : env.scope.names.lookup y = some .local) (ne : x ≠ y) (hl : (py.line == px.line) = true)
    (sa : nostar a = true) (sb : nostar b = true) (hf : [a, b].all (foldedForSure 8) = false) (hc : [a, b].all (constantsAlone 8) = false) :
    swappedStores [.Tuple [.Name x px, .Name y py] k p] (.Tuple [a, b] k2 p2) env = pure (some [x, y]) := by
  have kx : env.kindOf x = some .local := hx
  have ky : env.kindOf y = some .local := hy
  have hb : env.blockKind = .function := by unfold Env.blockKind; rw [hk]; rfl
  have hst : [a, b].any isStar = false := stars_no (by rw [List.all_cons, List.all_cons, sa, sb]; rfl)
  have hn : ([Expr.Name x px, Expr.Name y py].filterMap fun | .Name id pos => if env.kindOf id == some .local && pos.line == px.line then some id else none | _ => none) = [x, y] := by
    have hl' : py.line = px.line := by simpa using hl
    rw [List.filterMap_cons, List.filterMap_cons, List.filterMap_nil]
    simp [kx, ky, hl']
  have hd : ([x, y] : List Str).eraseDups.length = 2 := by
    simp [List.eraseDups_cons, ne, Ne.symm ne]
  unfold swappedStores
  show (if (_ : Bool) then _ else _ : Sem (Option (List Str))) = _
  rw [hb]
  show (if false = true then _ else (if ([a, b].any isStar) = true then _ else _) : Sem (Option (List Str))) = _
  rw [if_neg Bool.false_ne_true, hst, if_neg Bool.false_ne_true]
  dsimp only
  rw [show (Option.map (fun (x : Expr) => x.pos.line) [Expr.Name x px, Expr.Name y py].head?).getD 0 = px.line from rfl]
  refine (congrArg (fun (l : List Str) => (if (l.length != 2 || l.eraseDups.length != l.length) = true then (pure none : Sem (Option (List Str))) else if [a, b].all (foldedForSure 8) = true then pure none else if [a, b].all (constantsAlone 8) = true then (do unsupported "assign.tuple-of-constant-expressions:order-of-the-stores"; pure (some l)) else pure (some l))) hn).trans ?_
  rw [hd, hf, hc]
  rfl
theorem stores_three {x y z : Str} {px py pz p p2 : Pos} {k k2 : Nat} {a b c : Expr} {env : Env} (hk : env.scope.kind = .function) (hx : env.scope.names.lookup x = some .local) (hy : env.scope.names.lookup y = some .local) (hz : env.scope.names.lookup z = some .local) (n1 : x ≠ y) (n2 : x ≠ z) (n3 : y ≠ z)
    (hl : (py.line == px.line) = true) (hl2 : (pz.line == px.line) = true)
    (sa : nostar a = true) (sb : nostar b = true) (sc : nostar c = true) (hf : [a, b, c].all (foldedForSure 8) = false) (hc : [a, b, c].all (constantsAlone 8) = false) :
    swappedStores [.Tuple [.Name x px, .Name y py, .Name z pz] k p] (.Tuple [a, b, c] k2 p2) env = pure (some [x, y, z]) := by
  have kx : env.kindOf x = some .local := hx
  have ky : env.kindOf y = some .local := hy
  have kz : env.kindOf z = some .local := hz
  have hb : env.blockKind = .function := by unfold Env.blockKind; rw [hk]; rfl
  have hst : [a, b, c].any isStar = false := stars_no (by rw [List.all_cons, List.all_cons, List.all_cons, sa, sb, sc]; rfl)
  have hn : ([Expr.Name x px, Expr.Name y py, Expr.Name z pz].filterMap fun | .Name id pos => if env.kindOf id == some .local && pos.line == px.line then some id else none | _ => none) = [x, y, z] := by
    have hl' : py.line = px.line := by simpa using hl
    have hl2' : pz.line = px.line := by simpa using hl2
    rw [List.filterMap_cons, List.filterMap_cons, List.filterMap_cons, List.filterMap_nil]
    simp [kx, ky, kz, hl', hl2']
  have hd : ([x, y, z] : List Str).eraseDups.length = 3 := by
    simp [List.eraseDups_cons, n1, n2, n3, Ne.symm n1, Ne.symm n2, Ne.symm n3]
  unfold swappedStores
  show (if (_ : Bool) then _ else _ : Sem (Option (List Str))) = _
  rw [hb]
  show (if false = true then _ else (if ([a, b, c].any isStar) = true then _ else _) : Sem (Option (List Str))) = _
  rw [if_neg Bool.false_ne_true, hst, if_neg Bool.false_ne_true]
  dsimp only
  rw [show (Option.map (fun (x : Expr) => x.pos.line) [Expr.Name x px, Expr.Name y py, Expr.Name z pz].head?).getD 0 = px.line from rfl]
  refine (congrArg (fun (l : List Str) => (if (l.length != 3 || l.eraseDups.length != l.length) = true then (pure none : Sem (Option (List Str))) else if [a, b, c].all (foldedForSure 8) = true then pure none else if [a, b, c].all (constantsAlone 8) = true then (do unsupported "assign.tuple-of-constant-expressions:order-of-the-stores"; pure (some l)) else pure (some l))) hn).trans ?_
  rw [hd, hf, hc]
  rfl
theorem each_one {t : Expr} {env : Env} (h : nostar t = true) : (assignEach [t] env).map (·.2) = [assign t env] := by
  cases t <;> first | rfl | cases h
theorem each_cons {t : Expr} {ts : List Expr} {env : Env} (h : nostar t = true) : assignEach (t :: ts) env = (false, assign t env) :: assignEach ts env := by
  cases t <;> first | rfl | cases h
theorem each_len {env : Env} : ∀ {ts : List Expr}, ts.all nostar = true → (assignEach ts env).length = ts.length ∧ (assignEach ts env).findIdx? (·.1) = none
  | [], _ => ⟨rfl, rfl⟩
  | t :: ts, h => by
    rw [List.all_cons, Bool.and_eq_true] at h
    obtain ⟨h1, h2⟩ := each_len (env := env) h.2
    rw [each_cons h.1]
    refine ⟨by rw [List.length_cons, List.length_cons, h1], ?_⟩
    rw [List.findIdx?_cons, h2]; rfl
theorem sub_assign {o i : Expr} {pos : Pos} {env : Env} (h : noslice i = true) (v : Value) : assign (.Subscript o i pos) env v = (do
      let ov ← holding [v] (eval o env)
      let iv ← holding [v, ov] (eval i env)
      standAt pos
      holding [v, ov, iv] (setItem ov iv v)
      release [v, ov, iv] []) := by
  cases i <;> first | rfl | cases h

/-! ### the context -/
def bnames : List Str := ["len", "abs", "max", "min", "int", "divmod", "tuple", "list", "all", "any", "range", "enumerate", "zip", "isinstance", "bool", "str", "sum", "sorted", "dict", "set", "reversed"]
def SpOf (K : Kx) (sp : ASp) : Sp := fun vs H Q _ => ∃ ds r m P, RpL K H r ds vs ∧ RMu K H r m ∧ sp ds m P ∧ ∀ d m', P d m' → Fin K H r Q d m'
/-- a new instance, as its __init__ leaves it -/
def mkSp (C : Str) (ini : ASp) : ASp := fun ds m Q => ini (.loc m.length :: ds) (m ++ [.ins C [] []]) fun d m' => d = .non ∧ Q (.loc m.length) m'
/-- a def of the module; dds: its defaults -/
structure FnD (P : Program) (w : World) (K : PySem.W.Frag) (mg : Str → Option Value) (base : Heap) (k : Nat) (n : Str) (sp : ASp) : Prop where
  ex : ∃ (f : Addr) (fd : FuncData) (ps : List Str) (ds : List Value) (dvs : List V) (dds : List D) (sp0 : ASp), mg n = some (.ref f) ∧ glA ⟨K, w, P⟩ n = some f ∧ PySem.W.keepIn K (.ref f) = true ∧ Binds K fd ps ds ∧ Vals dvs ds ∧ (∀ H r, RpL ⟨K, w, P⟩ H r dds dvs) ∧
    FnOk P w K mg base CX0 k f fd ps (SpOf ⟨K, w, P⟩ sp0) ∧ ∀ xs m Q, sp xs m Q → sp0 (xs ++ dds) m Q
/-- a class of the module, made by its __init__ -/
structure FnC (P : Program) (w : World) (K : PySem.W.Frag) (mg : Str → Option Value) (base : Heap) (k : Nat) (n : Str) (sp : ASp) : Prop where
  ex : ∃ (c f : Addr) (fd : FuncData) (ps : List Str) (ds : List Value) (dvs : List V) (dds : List D) (sp0 : ASp) (j : Nat), mg n = some (.ref c) ∧ glA ⟨K, w, P⟩ n = some c ∧ Mk K c f ∧ Binds K fd ps ds ∧ Vals dvs ds ∧ (∀ H r, RpL ⟨K, w, P⟩ H r dds dvs) ∧
    FnOk P w K mg base CX0 j f fd ps (SpOf ⟨K, w, P⟩ sp0) ∧ j + 1 ≤ k ∧ ∀ xs m Q, sp xs m Q → mkSp n sp0 (xs ++ dds) m Q
structure FnA (P : Program) (w : World) (K : PySem.W.Frag) (mg : Str → Option Value) (base : Heap) (k : Nat) (n : Str) (sp : ASp) : Prop where
  ex : (clsN n = false ∧ FnD P w K mg base k n sp) ∨ (clsN n = true ∧ FnC P w K mg base k n sp)
/-- a method of a class -/
structure MtA (P : Program) (w : World) (K : PySem.W.Frag) (mg : Str → Option Value) (base : Heap) (k : Nat) (C n : Str) (sp : ASp) : Prop where
  ex : ∃ (c f : Addr) (fd : FuncData) (ps : List Str), glA ⟨K, w, P⟩ C = some c ∧ Cls K c ∧ Meth K c n f ∧ Binds K fd ps [] ∧ FnOk P w K mg base CX0 k f fd ps (SpOf ⟨K, w, P⟩ sp)
/-- the classes' own facts -/
def ClsAll (K : Kx) : Prop := ∀ (C f : Str) (c : Addr), glA K C = some c → hasFld C f = true → Cls K.k c ∧ NoAttr K.k c f
structure Cok (X : Cx) (sc : Scope) (N : List Str) (top : Bool) (cN fN : List Str) (G : Gm) (k : Nat) : Prop where
  hN : X.N = N
  hc : G.cs.map (·.1) = cN
  hf : G.fns.map (·.1) = fN
  kd : X.env.scope.kind = .function
  xe : X.xe = fun _ _ => False
  nd : N.Nodup
  hs : X.env.scope = sc
  calm : X.calm = true
  room : Room k X.A
  top : top = true → ∀ x, X.fn x = true
  blt : ∀ x ∈ bnames, X.mg x = none
  cs : ∀ (i : Nat) (x : Str) (d : D), G.cs[i]? = some (x, d) → ∃ u v, X.mg x = some u ∧ RelV v u ∧ ∀ H r, Rp X.kx H r d v
  fns : ∀ (i : Nat) (n : Str) (sp : ASp), G.fns[i]? = some (n, sp) → FnA X.prog X.w X.K X.mg X.base k n sp
  ms : ∀ (i : Nat) (c n : Str) (sp : ASp), G.ms[i]? = some ((c, n), sp) → MtA X.prog X.w X.K X.mg X.base k c n sp
  cls : ClsAll X.kx

def glb (sc : Scope) (x : Str) : Bool := decide (sc.names.lookup x = some .globalImplicit)
def vis (sc : Scope) (x : Str) : Bool := match sc.names.lookup x with
  | some .local => true | some .cell => true | some .free => true | _ => false
def sto (sc : Scope) (top : Bool) (x : Str) : Bool := match sc.names.lookup x with
  | some .local => true | some .cell => top | _ => false
def lcl (sc : Scope) (x : Str) : Bool := match sc.names.lookup x with
  | some .local => true | _ => false
def dbg (x : Str) : Bool := (x == ("__debug__" : Str)) || (x == ("__classdict__" : Str)) || (x == ("__name__" : Str))
def o2op : O2 → Operator
  | .add => .Add | .sub => .Sub | .mul => .Mult | .fdiv => .FloorDiv | .mod => .Mod | .pow => .Pow | .shl => .LShift | .shr => .RShift | .band => .BitAnd
def cmop : Cm → CmpOp
  | .eq => .Eq | .ne => .NotEq | .lt => .Lt | .le => .LtE | .gt => .Gt | .ge => .GtE | .isN => .Is | .notN => .IsNot | .isin => .In | .notin => .NotIn
def sameO : Operator → Operator → Bool
  | .Add, .Add => true | .Sub, .Sub => true | .Mult, .Mult => true | .FloorDiv, .FloorDiv => true | .Mod, .Mod => true | .Pow, .Pow => true | .LShift, .LShift => true | .RShift, .RShift => true | .BitAnd, .BitAnd => true
  | _, _ => false
def sameC : CmpOp → CmpOp → Bool
  | .Eq, .Eq => true | .NotEq, .NotEq => true | .Lt, .Lt => true | .LtE, .LtE => true | .Gt, .Gt => true | .GtE, .GtE => true | .Is, .Is => true | .IsNot, .IsNot => true | .In, .In => true | .NotIn, .NotIn => true
  | _, _ => false
theorem sameO_eq {a b : Operator} (h : sameO a b = true) : a = b := by cases a <;> cases b <;> first | rfl | cases h
theorem sameC_eq {a b : CmpOp} (h : sameC a b = true) : a = b := by cases a <;> cases b <;> first | rfl | cases h

inductive Ast where
  | e (x : Expr) | t (x : Expr) | w (x : Expr) | a (xs : List Expr) | g (x : Expr) | gs (xs : List Expr) | o (x : Option Expr) | it (tg x : Expr) | s (x : Stmt) | ss (xs : List Stmt)
def istup : Expr → Bool
  | .Tuple .. => true
  | _ => false
/-- a name that an inner block reads -/
def isCell (sc : Scope) : Expr → Bool
  | .Name x _ => decide (sc.names.lookup x = some .cell)
  | _ => false
theorem stores_cell {ts : List Expr} {k : Nat} {p : Pos} {v : Expr} {env : Env} (h : ts.any (isCell env.scope) = true) : swappedStores [.Tuple ts k p] v env = pure none := by
  have hn : ∀ (line : Nat), ((ts.filterMap fun
    | .Name id pos => if env.kindOf id == some .local && pos.line == line then some id else none
    | _ => none).length != ts.length) = true := by
    intro line
    rw [bne_iff_ne]
    intro e
    have e2 := List.filterMap_length_eq_length.mp e
    obtain ⟨x, hx, hc⟩ := List.any_eq_true.mp h
    have e3 := e2 x hx
    cases x with
    | Name id pos =>
      have hk : env.kindOf id = some .cell := of_decide_eq_true hc
      simp [hk] at e3
    | _ => simp at e3
  cases v with
  | Tuple vs k2 p2 =>
    unfold swappedStores
    dsimp only
    split
    · rfl
    · split
      · rfl
      · exact if_pos (by rw [Bool.or_eq_true]; exact .inl (hn _))
  | _ => rfl
theorem stores_sub {x y b : Expr} {ps p : Pos} {k : Nat} {v : Expr} {env : Env} : swappedStores [.Tuple [.Subscript x y ps, b] k p] v env = pure none := by
  have hn : ∀ (line : Nat), (([Expr.Subscript x y ps, b].filterMap fun
    | .Name id pos => if env.kindOf id == some .local && pos.line == line then some id else none
    | _ => none).length != 2) = true := by
    intro line
    rw [bne_iff_ne]
    intro e
    have e2 := (List.filterMap_length_eq_length (l := [Expr.Subscript x y ps, b])).mp e
    have e3 := e2 _ (List.mem_cons_self ..)
    simp at e3
  cases v with
  | Tuple vs k2 p2 =>
    unfold swappedStores
    dsimp only
    split
    · rfl
    · split
      · rfl
      · exact if_pos (by rw [Bool.or_eq_true]; exact .inl (hn _))
  | _ => rfl
/-- no store is exchanged -/
def swapOk (sc : Scope) (t v : Expr) : Bool := (nocomp v || isCell sc t) && (match t, v with
  | .Tuple ts _ _, .Tuple vs _ _ => (match ts with
    | [] => true | [_] => true | [_, _] => (vs.all (foldedForSure 8) && vs.length == ts.length) || ts.any (isCell sc) | [_, _, _] => (vs.all (foldedForSure 8) && vs.length == ts.length) || ts.any (isCell sc) | _ => true)
  | .List .., _ => false
  | _, _ => true)
def is1 : I → Bool
  | .cons _ .nil => true | _ => false
def is2 : I → Bool
  | .cons _ (.cons _ .nil) => true | _ => false
def is3 : I → Bool
  | .cons _ (.cons _ (.cons _ .nil)) => true | _ => false
theorem is1_ok : ∀ {a : I}, is1 a = true → ∃ b, a = .cons b .nil := by
  intro a h; unfold is1 at h; split at h
  · exact ⟨_, rfl⟩
  · cases h
theorem is2_ok : ∀ {a : I}, is2 a = true → ∃ b c, a = .cons b (.cons c .nil) := by
  intro a h; unfold is2 at h; split at h
  · exact ⟨_, _, rfl⟩
  · cases h
theorem is3_ok : ∀ {a : I}, is3 a = true → ∃ b c d, a = .cons b (.cons c (.cons d .nil)) := by
  intro a h; unfold is3 at h; split at h
  · exact ⟨_, _, _, rfl⟩
  · cases h
def isT : I → Bool
  | .bl true => true | _ => false
theorem isT_ok : ∀ {a : I}, isT a = true → a = .bl true := by
  intro a h; unfold isT at h; split at h
  · rfl
  · cases h
/-- the slots that a target sets -/
def tgS : I → List Nat
  | .tn i => [i]
  | .tt ts => tgS ts
  | .cons a r => tgS a ++ tgS r
  | _ => []
def smN : Sm → Str
  | .split => "split" | .join => "join"
def dmN : Dm → Str
  | .get => "get"
/-- names of built-in types -/
def typesOk (sc : Scope) : List String → List Expr → Bool
  | [], [] => true
  | T :: Ts, .Name t _ :: es => decide (t = PySem.Str.ofString T) && (["int", "bool", "tuple", "str", "list", "dict"] : List String).contains T && glb sc t && typesOk sc Ts es
  | _, _ => false
/-- the text is the form -/
def chk (N cN fN : List Str) : I → Scope → Bool → Ast → Bool
  | .var i, sc, _, ast => match ast with
    | .e (.Name x _) => decide (N[i]? = some x) && vis sc x && !dbg x
    | _ => false
  | .int i, _, _, ast => match ast with
    | .e (.Constant (.int j) _ _) => decide (i = j)
    | _ => false
  | .str x, _, _, ast => match ast with
    | .e (.Constant (.str y) _ _) => decide (x = y)
    | _ => false
  | .bl b, _, _, ast => match ast with
    | .e (.Constant (.bool c) _ _) => b == c
    | _ => false
  | .non, _, _, ast => match ast with
    | .e (.Constant .none _ _) => true
    | .o none => true
    | _ => false
  | .nil, _, _, ast => match ast with
    | .a [] => true
    | .gs [] => true
    | _ => false
  | .cons a r, sc, top, ast => match ast with
    | .a (e :: es) => chk N cN fN a sc top (.e e) && chk N cN fN r sc top (.a es) && nostar e
    | .gs (e :: es) => chk N cN fN a sc top (.g e) && chk N cN fN r sc top (.gs es) && nostar e
    | _ => false
  | .tup a, sc, top, ast => match ast with
    | .e (.Tuple es _ _) => chk N cN fN a sc top (.a es)
    | _ => false
  | .lst a, sc, top, ast => match ast with
    | .e (.List es _) => chk N cN fN a sc top (.a es)
    | _ => false
  | .bin o a b, sc, top, ast => match ast with
    | .e (.BinOp x op y _) => sameO (o2op o) op && chk N cN fN a sc top (.e x) && chk N cN fN b sc top (.e y)
    | _ => false
  | .neg a, sc, top, ast => match ast with
    | .e (.UnaryOp .USub x _) => chk N cN fN a sc top (.e x)
    | _ => false
  | .cmp c a b, sc, top, ast => match ast with
    | .e (.Compare x [op] [y] _) => sameC (cmop c) op && chk N cN fN a sc top (.e x) && chk N cN fN b sc top (.e y) && noset y
    | .t (.Compare x [op] [y] _) => sameC (cmop c) op && chk N cN fN a sc top (.e x) && chk N cN fN b sc top (.e y) && noset y
    | _ => false
  | .chn c c' a b d, sc, top, ast => match ast with
    | .e (.Compare x [op, op'] [y, z] _) => sameC (cmop c) op && sameC (cmop c') op' && chk N cN fN a sc top (.e x) && chk N cN fN b sc top (.e y) && chk N cN fN d sc top (.e z) && noset z
    | .t (.Compare x [op, op'] [y, z] _) => sameC (cmop c) op && sameC (cmop c') op' && chk N cN fN a sc top (.e x) && chk N cN fN b sc top (.e y) && chk N cN fN d sc top (.e z) && noset z
    | _ => false
  | .and a r, sc, top, ast => match ast with
    | .e (.BoolOp .And (x :: y :: rest) pos) => chk N cN fN a sc top (.e x) && chk N cN fN r sc top (.e (.BoolOp .And (y :: rest) pos))
    | .t (.BoolOp .And (x :: y :: rest) pos) => chk N cN fN a sc top (.t x) && chk N cN fN r sc top (.w (.BoolOp .And (y :: rest) pos))
    | .w (.BoolOp .And (x :: y :: rest) pos) => chk N cN fN a sc top (.t x) && chk N cN fN r sc top (.w (.BoolOp .And (y :: rest) pos))
    | _ => false
  | .or a r, sc, top, ast => match ast with
    | .e (.BoolOp .Or (x :: y :: rest) pos) => chk N cN fN a sc top (.e x) && chk N cN fN r sc top (.e (.BoolOp .Or (y :: rest) pos))
    | .t (.BoolOp .Or (x :: y :: rest) pos) => chk N cN fN a sc top (.t x) && chk N cN fN r sc top (.w (.BoolOp .Or (y :: rest) pos))
    | .w (.BoolOp .Or (x :: y :: rest) pos) => chk N cN fN a sc top (.t x) && chk N cN fN r sc top (.w (.BoolOp .Or (y :: rest) pos))
    | _ => false
  | .one a, sc, top, ast => match ast with
    | .e (.BoolOp _ [x] _) => chk N cN fN a sc top (.e x)
    | .w (.BoolOp .And [x] _) => chk N cN fN a sc top (.t x)
    | .w (.BoolOp .Or [x] _) => chk N cN fN a sc top (.t x)
    | _ => false
  | .not a, sc, top, ast => match ast with
    | .e (.UnaryOp .Not x _) => chk N cN fN a sc top (.e x)
    | .t (.UnaryOp .Not x _) => chk N cN fN a sc top (.t x)
    | _ => false
  | .ite c a b, sc, top, ast => match ast with
    | .e (.IfExp x y z _) => chk N cN fN c sc top (.t x) && chk N cN fN a sc top (.e y) && chk N cN fN b sc top (.e z)
    | _ => false
  | .tru a, sc, top, ast => match ast with
    | .t x => chk N cN fN a sc top (.e x) && plainT x
    | _ => false
  | .ix a b, sc, top, ast => match ast with
    | .e (.Subscript x y _) => chk N cN fN a sc top (.e x) && chk N cN fN b sc top (.e y) && noslice y
    | _ => false
  | .sl a lo hi, sc, top, ast => match ast with
    | .e (.Subscript x (.Slice l h none _) _) => chk N cN fN a sc top (.e x) && chk N cN fN lo sc top (.o l) && chk N cN fN hi sc top (.o h)
    | _ => false
  | .pt a, sc, top, ast => match ast with
    | .o (some x) => chk N cN fN a sc top (.e x)
    | _ => false
  | .dr a, sc, top, ast => match ast with
    | .e x => chk N cN fN a sc top (.e x)
    | .t x => chk N cN fN a sc top (.t x)
    | _ => false
  | .bi f a, sc, top, ast => match ast with
    | .e (.Call (.Name x _) (e :: es) [] _) => decide (x = biN f) && glb sc x && chk N cN fN a sc top (.a (e :: es)) && nostar e && es.all nostar
    | _ => false
  | .mt f o a, sc, top, ast => match ast with
    | .e (.Call (.Attribute x n apos) [] [] cpos) => decide (n = mtN f) && chk N cN fN o sc top (.e x) && chk N cN fN a sc top (.a []) && isname x && (apos.endLine == cpos.line)
    | .e (.Call (.Attribute x n apos) [e] [] cpos) => decide (n = mtN f) && chk N cN fN o sc top (.e x) && chk N cN fN a sc top (.a [e]) && isname x && (apos.endLine == cpos.line) && nostar e
    | .e (.Call (.Attribute x n apos) [e, e2] [] cpos) => decide (n = mtN f) && chk N cN fN o sc top (.e x) && chk N cN fN a sc top (.a [e, e2]) && isname x && (apos.endLine == cpos.line) && nostar e && nostar e2
    | _ => false
  | .isT Ts a, sc, top, ast => match ast with
    | .e (.Call (.Name x _) [e, .Tuple es _ _] [] _) => decide (x = "isinstance") && glb sc x && typesOk sc Ts es && chk N cN fN a sc top (.e e) && nostar e && decide (Ts.length < 20)
    | _ => false
  | .fld a f, sc, top, ast => match ast with
    | .e (.Attribute x g _) => decide (g = f) && chk N cN fN a sc top (.e x) && isname x
    | _ => false
  | .mth n k o a, sc, top, ast => match ast with
    | .e (.Call (.Attribute x m apos) (e :: es) [] cpos) => decide (m = n) && chk N cN fN o sc top (.e x) && chk N cN fN a sc top (.a (e :: es)) && isname x && (apos.endLine == cpos.line) && nostar e && es.all nostar && decide (es.length < 20)
    | .e (.Call (.Attribute x m apos) [] [] cpos) => decide (m = n) && chk N cN fN o sc top (.e x) && chk N cN fN a sc top (.a []) && isname x && (apos.endLine == cpos.line)
    | _ => false
  | .cv i a, sc, top, ast => match ast with
    | .e (.Call (.Name x _) (e :: es) [] _) => decide (N[i]? = some x) && vis sc x && !dbg x && chk N cN fN a sc top (.a (e :: es)) && nostar e && es.all nostar
    | _ => false
  | .orv a b, sc, top, ast => match ast with
    | .e (.BoolOp .Or [x, y] _) => chk N cN fN a sc top (.e x) && chk N cN fN b sc top (.e y)
    | _ => false
  | .ss a, sc, top, ast => match ast with
    | .e (.Call (.Name x _) [.Call (.Name y _) [e] [] _] [] _) => decide (x = "sorted") && decide (y = "set") && glb sc x && glb sc y && chk N cN fN a sc top (.e e) && nostar e
    | _ => false
  | .sfld o f e, sc, top, ast => match ast with
    | .s (.Assign [.Attribute x g _] v _) => decide (g = f) && chk N cN fN o sc top (.e x) && chk N cN fN e sc top (.e v)
    | _ => false
  | .ghf _ _ r, sc, top, ast => match ast with
    | .ss xs => chk N cN fN r sc top (.ss xs)
    | _ => false
  | .ghl _ r, sc, top, ast => match ast with
    | .ss xs => chk N cN fN r sc top (.ss xs)
    | _ => false
  | .fz a, sc, top, ast => match ast with
    | .e x => chk N cN fN a sc top (.e x)
    | _ => false
  | .dnew, _, _, ast => match ast with
    | .e (.Dict [] [] _) => true
    | _ => false
  | .ce f a, sc, top, ast => match ast with
    | .e (.Call (.Subscript x y sp) (e :: es) [] _) => chk N cN fN f sc top (.e (.Subscript x y sp)) && chk N cN fN a sc top (.a (e :: es)) && nostar e && es.all nostar
    | _ => false
  | .ce0 f, sc, top, ast => match ast with
    | .e (.Call (.Subscript x y sp) [] [] _) => chk N cN fN f sc top (.e (.Subscript x y sp))
    | _ => false
  | .dii a b, _, _, ast => match ast with
    | .e (.Dict [some (.Constant (.int z) _ _)] [.Constant (.int y) _ _] _) => decide (a = z) && decide (b = y)
    | _ => false
  | .dis y i, sc, _, ast => match ast with
    | .e (.Dict [some (.Constant (.str z) _ _)] [.Name x _] _) => decide (N[i]? = some x) && vis sc x && !dbg x && decide (y = z)
    | _ => false
  | .sm f o a, sc, top, ast => match ast with
    | .e (.Call (.Attribute x n apos) (e :: es) [] cpos) => decide (n = smN f) && chk N cN fN o sc top (.e x) && chk N cN fN a sc top (.a (e :: es)) && isname x && (apos.endLine == cpos.line) && nostar e && es.all nostar && decide (es.length < 20)
    | _ => false
  | .dm f o a, sc, top, ast => match ast with
    | .e (.Call (.Attribute x n apos) (e :: es) [] cpos) => decide (n = dmN f) && chk N cN fN o sc top (.e x) && chk N cN fN a sc top (.a (e :: es)) && isname x && (apos.endLine == cpos.line) && nostar e && es.all nostar && decide (es.length < 20)
    | _ => false
  | .rvl a, sc, top, ast => match ast with
    | .e (.Subscript x (.Slice none none (some (.UnaryOp .USub (.Constant (.int 1) _ _) _)) _) _) => chk N cN fN a sc top (.e x)
    | _ => false
  | .lrg a, sc, top, ast => match ast with
    | .e (.Call (.Name x _) [.Call (.Name y _) [e] [] _] [] _) => is1 a && decide (x = "list") && decide (y = "range") && glb sc x && glb sc y && chk N cN fN a sc top (.a [e]) && nostar e
    | .e (.Call (.Name x _) [.Call (.Name y _) [e, f] [] _] [] _) => is2 a && decide (x = "list") && decide (y = "range") && glb sc x && glb sc y && chk N cN fN a sc top (.a [e, f]) && nostar e && nostar f
    | _ => false
  | .lset a, sc, top, ast => match ast with
    | .e (.Call (.Name x _) [.Call (.Name y _) [e] [] _] [] _) => decide (x = "len") && decide (y = "set") && glb sc x && glb sc y && chk N cN fN a sc top (.e e) && nostar e
    | _ => false
  | .lval a, sc, top, ast => match ast with
    | .e (.Call (.Name x _) [.Call (.Attribute e n apos) [] [] cpos] [] _) => decide (x = "list") && decide (n = "values") && glb sc x && chk N cN fN a sc top (.e e) && isname e && (apos.endLine == cpos.line)
    | _ => false
  | .itm a, sc, top, ast => match ast with
    | .it (.Tuple _ _ _) (.Call (.Attribute e n apos) [] [] cpos) => decide (n = "items") && chk N cN fN a sc top (.e e) && isname e && (apos.endLine == cpos.line)
    | _ => false
  | .rvi a, sc, top, ast => match ast with
    | .it _ (.Call (.Name x _) [e] [] _) => decide (x = "reversed") && glb sc x && chk N cN fN a sc top (.e e) && nostar e
    | _ => false
  | .isi T a, sc, top, ast => match ast with
    | .e (.Call (.Name x _) [e, .Name t _] [] _) => decide (x = "isinstance") && decide (t = PySem.Str.ofString T) && (["int", "bool", "tuple", "str", "list"] : List String).contains T && glb sc x && glb sc t && chk N cN fN a sc top (.e e) && nostar e
    | _ => false
  | .call k a, sc, top, ast => match ast with
    | .e (.Call (.Name x _) (e :: es) [] _) => glb sc x && decide (fN[k]? = some x) && chk N cN fN a sc top (.a (e :: es)) && nostar e && es.all nostar && !dbg x
    | .e (.Call (.Name x _) [] [] _) => glb sc x && decide (fN[k]? = some x) && chk N cN fN a sc top (.a []) && !dbg x
    | _ => false
  | .con k, sc, _, ast => match ast with
    | .e (.Name x _) => decide (cN[k]? = some x) && glb sc x && !dbg x
    | _ => false
  | .comp e g it c own, sc, top, ast => match ast with
    | .e (.ListComp elt [⟨tg, iter, ifs, 0⟩] scope _) => blkC N sc scope own && chk N cN fN it sc top (.it tg iter) && chk N cN fN g (relS scope sc) false (.g tg) && chk N cN fN e (relS scope sc) false (.e elt) && noset iter && (tgS g).all (fun i => (own.map (·.2)).contains i) &&
      (match ifs with
      | [] => isT c
      | [x] => chk N cN fN c (relS scope sc) false (.t x)
      | _ => false)
    | _ => false
  | .seq a, sc, top, ast => match ast with
    | .it _ x => chk N cN fN a sc top (.e x)
    | _ => false
  | .rng a, sc, top, ast => match ast with
    | .it _ (.Call (.Name x _) [e] [] _) => is1 a && decide (x = "range") && glb sc x && chk N cN fN a sc top (.a [e]) && nostar e
    | .it _ (.Call (.Name x _) [e, f] [] _) => is2 a && decide (x = "range") && glb sc x && chk N cN fN a sc top (.a [e, f]) && nostar e && nostar f
    | .it _ (.Call (.Name x _) [e, f, h] [] _) => is3 a && decide (x = "range") && glb sc x && chk N cN fN a sc top (.a [e, f, h]) && nostar e && nostar f && nostar h
    | _ => false
  | .enm a, sc, top, ast => match ast with
    | .it (.Tuple _ _ _) (.Call (.Name x _) [e] [] _) => decide (x = "enumerate") && glb sc x && chk N cN fN a sc top (.a [e]) && nostar e
    | _ => false
  | .zip a, sc, top, ast => match ast with
    | .it (.Tuple _ _ _) (.Call (.Name x _) [e, e2] [] _) => decide (x = "zip") && glb sc x && chk N cN fN a sc top (.a [e, e2]) && nostar e && nostar e2
    | _ => false
  | .tn i, sc, top, ast => match ast with
    | .g (.Name x _) => decide (N[i]? = some x) && sto sc top x
    | _ => false
  | .tt ts, sc, top, ast => match ast with
    | .g (.Tuple es _ _) => chk N cN fN ts sc top (.gs es) && es.all nostar && decide (tlen ts = es.length)
    | _ => false
  | .skip, _, _, ast => match ast with
    | .ss [] => true
    | .s (.Pass _) => true
    | .s (.Expr (.Constant (.str _) _ _) _) => true
    | _ => false
  | .blk s r, sc, top, ast => match ast with
    | .ss (x :: xs) => chk N cN fN s sc top (.s x) && chk N cN fN r sc top (.ss xs)
    | _ => false
  | .asg g e, sc, top, ast => match ast with
    | .s (.Assign [t] v _) => chk N cN fN g sc top (.g t) && chk N cN fN e sc top (.e v) && nostar t && swapOk sc t v
    | _ => false
  | .asgl g e, sc, top, ast => match ast with
    | .s (.Assign [.Tuple es _ _] v _) => chk N cN fN g sc top (.gs es) && chk N cN fN e sc top (.e v) && es.all nostar && notup v && decide (tlen g = es.length)
    | _ => false
  | .asgc i e g it c own, sc, top, ast => match ast with
    | .s (.Assign [.Name y py] (.ListComp elt [⟨tg, iter, ifs, 0⟩] scope pos) _) => decide (N[i]? = some y) && lcl sc y && (py.line == pos.line) && !(scope.names.any fun (n, k) => n == y && (k == .local || k == .cell)) &&
      blkC N sc scope own && chk N cN fN it sc top (.it tg iter) && chk N cN fN g (relS scope sc) false (.g tg) && chk N cN fN e (relS scope sc) false (.e elt) && noset iter && (tgS g).all (fun i => (own.map (·.2)).contains i) &&
      (match ifs with
      | [] => isT c
      | [x] => chk N cN fN c (relS scope sc) false (.t x)
      | _ => false)
    | _ => false
  | .par i j a, sc, top, ast => match ast with
    | .s (.Assign [.Tuple [.Name x px, .Name y py] _ _] (.Tuple [e, f] _ _) _) => decide (N[i]? = some x) && decide (N[j]? = some y) && lcl sc x && lcl sc y && decide (i ≠ j) && chk N cN fN a sc top (.a [e, f]) && (py.line == px.line) && nostar e && nostar f &&
      !([e, f].all (foldedForSure 8)) && !([e, f].all (constantsAlone 8))
    | _ => false
  | .par3 i j k a, sc, top, ast => match ast with
    | .s (.Assign [.Tuple [.Name x px, .Name y py, .Name z pz] _ _] (.Tuple [e, f, h] _ _) _) => decide (N[i]? = some x) && decide (N[j]? = some y) && decide (N[k]? = some z) && lcl sc x && lcl sc y && lcl sc z && decide (i ≠ j) && decide (i ≠ k) && decide (j ≠ k) &&
      chk N cN fN a sc top (.a [e, f, h]) && (py.line == px.line) && (pz.line == px.line) && nostar e && nostar f && nostar h && !([e, f, h].all (foldedForSure 8)) && !([e, f, h].all (constantsAlone 8))
    | _ => false
  | .aug i o e, sc, top, ast => match ast with
    | .s (.AugAssign (.Name x _) op v _) => sameO (o2op o) op && decide (N[i]? = some x) && sto sc top x && chk N cN fN e sc top (.e v)
    | _ => false
  | .swp o i j e, sc, top, ast => match ast with
    | .s (.Assign [.Tuple [.Subscript x y _, .Subscript x2 z _] _ _] v _) => chk N cN fN o sc top (.e x) && chk N cN fN i sc top (.e y) && chk N cN fN o sc top (.e x2) && chk N cN fN j sc top (.e z) && chk N cN fN e sc top (.e v) && noslice y && noslice z && nocomp v
    | _ => false
  | .sset o i e, sc, top, ast => match ast with
    | .s (.Assign [.Subscript x y _] v _) => chk N cN fN o sc top (.e x) && chk N cN fN i sc top (.e y) && chk N cN fN e sc top (.e v) && noslice y && nocomp v
    | _ => false
  | .ex e, sc, top, ast => match ast with
    | .s (.Expr v _) => chk N cN fN e sc top (.e v) && nocomp v
    | _ => false
  | .ret e, sc, top, ast => match ast with
    | .s (.Return (some v) _) => chk N cN fN e sc top (.e v)
    | _ => false
  | .retn, _, _, ast => match ast with
    | .s (.Return none _) => true
    | _ => false
  | .sif c a b, sc, top, ast => match ast with
    | .s (.If x y z _) => chk N cN fN c sc top (.t x) && chk N cN fN a sc top (.ss y) && chk N cN fN b sc top (.ss z)
    | _ => false
  | .whl c b, sc, top, ast => match ast with
    | .s (.While x y [] _) => chk N cN fN c sc top (.t x) && chk N cN fN b sc top (.ss y)
    | _ => false
  | .for_ g it b, sc, top, ast => match ast with
    | .s (.For tg iter body [] _) => chk N cN fN g sc top (.g tg) && chk N cN fN it sc top (.it tg iter) && chk N cN fN b sc top (.ss body) && noset iter
    | _ => false
  | .brk, _, _, ast => match ast with
    | .s (.Break _) => true
    | _ => false
  | .cnt, _, _, ast => match ast with
    | .s (.Continue _) => true
    | _ => false
  | .gc s, sc, top, ast => match ast with
    | .s x => chk N cN fN s sc top (.s x)
    | .ss x => chk N cN fN s sc top (.ss x)
    | _ => false
  | .nev, _, _, ast => match ast with
    | .s _ => true
    | .ss _ => true
    | _ => false
end Ab

namespace Ab
open PySem PySem.Spec PyProof.Rows L2

/-! ### what is left of a store -/
mutual
theorem nk_ren (f : Nat → Nat) : ∀ (d : D), nk (ren f d) = nk d
  | .non => rfl
  | .bl b => rfl
  | .int i => rfl
  | .str x => rfl
  | .ty n => rfl
  | .tup xs => by
    show (nks (rens f xs)).map _ = (nks xs).map _
    rw [nks_ren f xs]
  | .ro xs => rfl
  | .loc n => rfl
  | .dic _ _ => rfl
  | .dloc _ => rfl
  | .obj _ _ _ => rfl
  | .fn _ => rfl
theorem nks_ren (f : Nat → Nat) : ∀ (xs : List D), nks (rens f xs) = nks xs
  | [] => rfl
  | x :: xs => by
    show (match nk (ren f x), nks (rens f xs) with | some a, some r => some (a :: r) | _, _ => none) = _
    rw [nk_ren f x, nks_ren f xs]; rfl
end
theorem isTup_ren (f : Nat → Nat) (d : D) : isTup (ren f d) = isTup d := by cases d <;> rfl
theorem isLeaf_ren (f : Nat → Nat) (d : D) : isLeaf (ren f d) = isLeaf d := by cases d <;> rfl
theorem all_ren {g : D → Bool} (f : Nat → Nat) (h : ∀ d, g (ren f d) = g d) : ∀ xs : List D, (rens f xs).all g = xs.all g
  | [] => rfl
  | x :: xs => by
    show (ren f x :: rens f xs).all g = _
    rw [List.all_cons, List.all_cons, h, all_ren f h xs]
theorem dicS_ren {K : Kx} {o : Obj} {ks : List D} {kvs us : List V} (f : Nat → Nat) (h : DicS K o ks kvs us) : DicS K o (rens f ks) kvs us := by
  obtain ⟨h1, es, ep, ns, ys, ws, h2, h3, h4, h5, h6, h7⟩ := h
  exact ⟨h1, es, ep, ns, ys, ws, h2, by rw [nks_ren]; exact h3, h4, h5, by rw [all_ren f (isTup_ren f), all_ren f (isLeaf_ren f)]; exact h6, h7⟩
mutual
theorem rp_ren {K : Kx} {H : Hp} {r r' : List Addr} {f : Nat → Nat} {p : Nat → Bool} (hf : ∀ (k : Nat) (a : Addr), p k = true → r[k]? = some a → r'[f k]? = some a) : ∀ (d : D) (v : V), okD p d = true → Rp K H r d v → Rp K H r' (ren f d) v
  | .non, v, o, h => h
  | .bl b, v, o, h => h
  | .int i, v, o, h => h
  | .str x, v, o, h => h
  | .ty n, v, o, h => h
  | .tup xs, v, o, h => by
    obtain ⟨a, vs, h1, h2, h3⟩ := h
    exact ⟨a, vs, h1, h2, rpl_ren hf xs vs o h3⟩
  | .ro xs, v, o, h => by
    obtain ⟨a, vs, h1, h2, h3⟩ := h
    exact ⟨a, vs, h1, h2, rpl_ren hf xs vs o h3⟩
  | .loc n, v, o, h => by
    obtain ⟨a, h1, h2⟩ := h
    exact ⟨a, hf n a o h1, h2⟩
  | .dic ks vs, v, o, h => by
    obtain ⟨a, ob, kvs, us, h1, h2, h3, h4, h5, h6⟩ := h
    have o' : (okDs p ks && okDs p vs) = true := o
    rw [Bool.and_eq_true] at o'
    exact ⟨a, ob, kvs, us, h1, h2, h3, dicS_ren f h4, rpl_ren hf ks kvs o'.1 h5, rpl_ren hf vs us o'.2 h6⟩
  | .dloc n, v, o, h => by
    obtain ⟨a, h1, h2⟩ := h
    exact ⟨a, hf n a o h1, h2⟩
  | .obj C ns fs, v, o, h => by
    obtain ⟨a, ob, c, dx, us, h1, hc, h2, h3, h4, h5⟩ := h
    exact ⟨a, ob, c, dx, us, h1, hc, h2, h3, h4, rpl_ren hf fs us o h5⟩
  | .fn n, v, o, h => h
theorem rpl_ren {K : Kx} {H : Hp} {r r' : List Addr} {f : Nat → Nat} {p : Nat → Bool} (hf : ∀ (k : Nat) (a : Addr), p k = true → r[k]? = some a → r'[f k]? = some a) : ∀ (xs : List D) (vs : List V), okDs p xs = true → RpL K H r xs vs → RpL K H r' (rens f xs) vs
  | [], vs, o, h => h
  | x :: xs, vs, o, h => by
    obtain ⟨v, t, h1, h2, h3⟩ := h
    have o' : (okD p x && okDs p xs) = true := o
    rw [Bool.and_eq_true] at o'
    exact ⟨v, t, h1, rp_ren hf x v o'.1 h2, rpl_ren hf xs t o'.2 h3⟩
end
mutual
theorem rp_keep {K : Kx} {H : Hp} {r r' : List Addr} {p : Nat → Bool} (hf : ∀ (k : Nat) (a : Addr), p k = true → r[k]? = some a → r'[k]? = some a) : ∀ (d : D) (v : V), okD p d = true → Rp K H r d v → Rp K H r' d v
  | .non, v, o, h => h
  | .bl b, v, o, h => h
  | .int i, v, o, h => h
  | .str x, v, o, h => h
  | .ty n, v, o, h => h
  | .tup xs, v, o, h => by
    obtain ⟨a, vs, h1, h2, h3⟩ := h
    exact ⟨a, vs, h1, h2, rpl_keep hf xs vs o h3⟩
  | .ro xs, v, o, h => by
    obtain ⟨a, vs, h1, h2, h3⟩ := h
    exact ⟨a, vs, h1, h2, rpl_keep hf xs vs o h3⟩
  | .loc n, v, o, h => by
    obtain ⟨a, h1, h2⟩ := h
    exact ⟨a, hf n a o h1, h2⟩
  | .dic ks vs, v, o, h => by
    obtain ⟨a, ob, kvs, us, h1, h2, h3, h4, h5, h6⟩ := h
    have o' : (okDs p ks && okDs p vs) = true := o
    rw [Bool.and_eq_true] at o'
    exact ⟨a, ob, kvs, us, h1, h2, h3, h4, rpl_keep hf ks kvs o'.1 h5, rpl_keep hf vs us o'.2 h6⟩
  | .dloc n, v, o, h => by
    obtain ⟨a, h1, h2⟩ := h
    exact ⟨a, hf n a o h1, h2⟩
  | .obj C ns fs, v, o, h => by
    obtain ⟨a, ob, c, dx, us, h1, hc, h2, h3, h4, h5⟩ := h
    exact ⟨a, ob, c, dx, us, h1, hc, h2, h3, h4, rpl_keep hf fs us o h5⟩
  | .fn n, v, o, h => h
theorem rpl_keep {K : Kx} {H : Hp} {r r' : List Addr} {p : Nat → Bool} (hf : ∀ (k : Nat) (a : Addr), p k = true → r[k]? = some a → r'[k]? = some a) : ∀ (xs : List D) (vs : List V), okDs p xs = true → RpL K H r xs vs → RpL K H r' xs vs
  | [], vs, o, h => h
  | x :: xs, vs, o, h => by
    obtain ⟨v, t, h1, h2, h3⟩ := h
    have o' : (okD p x && okDs p xs) = true := o
    rw [Bool.and_eq_true] at o'
    exact ⟨v, t, h1, rp_keep hf x v o'.1 h2, rpl_keep hf xs t o'.2 h3⟩
end
mutual
theorem rp_in {K : Kx} {H : Hp} {r : List Addr} {n : Nat} (hn : r.length ≤ n) : ∀ (d : D) (v : V), Rp K H r d v → okD (fun k => decide (k < n)) d = true
  | .non, v, h => rfl
  | .bl b, v, h => rfl
  | .int i, v, h => rfl
  | .str x, v, h => rfl
  | .ty n, v, h => rfl
  | .tup xs, v, h => by
    obtain ⟨a, vs, h1, h2, h3⟩ := h
    exact rpl_in' hn xs vs h3
  | .ro xs, v, h => by
    obtain ⟨a, vs, h1, h2, h3⟩ := h
    exact rpl_in' hn xs vs h3
  | .loc k, v, h => by
    obtain ⟨a, h1, h2⟩ := h
    have := (List.getElem?_eq_some_iff.mp h1).1
    show decide (k < n) = true
    exact decide_eq_true (by omega)
  | .dic ks vs, v, h => by
    obtain ⟨a, ob, kvs, us, h1, h2, h3, h4, h5, h6⟩ := h
    show (okDs _ ks && okDs _ vs) = true
    rw [rpl_in' hn ks kvs h5, rpl_in' hn vs us h6]; rfl
  | .dloc k, v, h => by
    obtain ⟨a, h1, h2⟩ := h
    have := (List.getElem?_eq_some_iff.mp h1).1
    show decide (k < n) = true
    exact decide_eq_true (by omega)
  | .obj C ns fs, v, h => by
    obtain ⟨a, ob, c, dx, us, h1, hc, h2, h3, h4, h5⟩ := h
    exact rpl_in' hn fs us h5
  | .fn n, v, h => rfl
theorem rpl_in' {K : Kx} {H : Hp} {r : List Addr} {n : Nat} (hn : r.length ≤ n) : ∀ (xs : List D) (vs : List V), RpL K H r xs vs → okDs (fun k => decide (k < n)) xs = true
  | [], vs, h => rfl
  | x :: xs, vs, h => by
    obtain ⟨v, t, h1, h2, h3⟩ := h
    show (okD _ x && okDs _ xs) = true
    rw [rp_in hn x v h2, rpl_in' hn xs t h3]; rfl
end
theorem okO_of {K : Kx} {H : Hp} {r : List Addr} {n : Nat} {a : Addr} (hn : r.length ≤ n) : ∀ {o : Ob}, ObR K H r a o → okO (fun k => decide (k < n)) o = true
  | .lst xs, ⟨vs, _, h2⟩ => rpl_in' hn xs vs h2
  | .dic ks vs, ⟨o, kvs, us, h1, h2, h3, h4, h5⟩ => by
    show (okDs _ ks && okDs _ vs) = true
    rw [rpl_in' hn ks kvs h4, rpl_in' hn vs us h5]; rfl
  | .ins C ns fs, ⟨c, dx, us, hc, h1, h2, h3, h4⟩ => rpl_in' hn fs us h4
  | .gone d, ⟨h1, _⟩ => rp_in hn d _ h1
theorem kept_at {n : Nat} {ks : List Nat} {k : Nat} (h : kept n ks k = true) : k < n ∨ k ∈ ks := by
  unfold kept at h
  rw [Bool.or_eq_true, decide_eq_true_eq] at h
  exact h.imp id fun z => List.contains_iff_mem.mp z
/-- the places of what is kept -/
def cutR (n : Nat) (r : List Addr) (ks : List Nat) : List Addr := r.take n ++ ks.map fun k => (r[k]?).getD 0
theorem cutR_at {n : Nat} {r : List Addr} {ks : List Nat} {k : Nat} {a : Addr} (hn : n ≤ r.length) (h : kept n ks k = true) (e : r[k]? = some a) : (cutR n r ks)[moved n ks k]? = some a := by
  unfold cutR moved
  have ln : (r.take n).length = n := by rw [List.length_take]; omega
  by_cases hk : k < n
  · rw [if_pos hk, List.getElem?_append_left (by rw [ln]; exact hk), List.getElem?_take, if_pos hk]
    exact e
  · rw [if_neg hk]
    have hm : k ∈ ks := (kept_at h).resolve_left hk
    have hi : ks.idxOf k < ks.length := List.idxOf_lt_length_iff.mpr hm
    rw [List.getElem?_append_right (by rw [ln]; omega), ln, Nat.add_sub_cancel_left, List.getElem?_map, List.getElem?_eq_getElem hi, List.getElem_idxOf hi]
    show some ((r[k]?).getD 0) = some a
    rw [e]; rfl
theorem cutR_pre {n : Nat} {r : List Addr} {ks : List Nat} {k : Nat} {a : Addr} (hn : n ≤ r.length) (hk : k < n) (e : r[k]? = some a) : (cutR n r ks)[k]? = some a := by
  have h := cutR_at (ks := ks) hn (k := k) (a := a) (by unfold kept; rw [decide_eq_true hk]; rfl) e
  unfold moved at h
  rw [if_pos hk] at h
  exact h
section
variable {K : Kx} {H H0 : Hp} {r r0 : List Addr} {m m0 : Mu} {ks : List Nat}
theorem cut_ok (c : Cut m0 m ks) (hm0 : RMu K H0 r0 m0) (hm : RMu K H r m) (p : Pre r0 r) : RMu K H (cutR m0.length r ks) (cutM m0 m ks) ∧ Pre r0 (cutR m0.length r ks) := by
  have hn : m0.length ≤ r.length := by rw [hm.len]; exact c.le
  have ln : (r.take m0.length).length = m0.length := by rw [List.length_take]; omega
  have lm : (m.take m0.length).length = m0.length := by rw [List.length_take]; have := c.le; omega
  have pre : Pre r0 (cutR m0.length r ks) := fun i a e => cutR_pre hn (by rw [← hm0.len]; exact (List.getElem?_eq_some_iff.mp e).1) (p i a e)
  refine ⟨⟨?_, ?_, fun i a o q1 q2 => ?_⟩, pre⟩
  · unfold cutR cutM
    rw [List.length_append, List.length_append, List.length_map, List.length_map, ln, lm]
  · unfold cutR
    rw [List.nodup_append]
    refine ⟨hm.nd.sublist (List.take_sublist _ _), ?_, fun x hx y hy e => ?_⟩
    · rw [List.nodup_iff_pairwise_ne, List.pairwise_map]
      refine List.Pairwise.imp_of_mem (R := fun a b => a ≠ b) (fun {a b} ha hb hab => ?_) (List.nodup_iff_pairwise_ne.mp c.nd)
      obtain ⟨_, ha2⟩ := c.mem a ha
      obtain ⟨_, hb2⟩ := c.mem b hb
      rw [← hm.len] at ha2 hb2
      rw [List.getElem?_eq_getElem ha2, List.getElem?_eq_getElem hb2]
      intro z
      exact hab ((List.getElem_inj hm.nd).mp z)
    · subst e
      obtain ⟨i, hi, hx'⟩ := List.getElem_of_mem hx
      rw [ln] at hi
      rw [List.getElem_take] at hx'
      obtain ⟨k, hk, hk'⟩ := List.mem_map.mp hy
      obtain ⟨hk1, hk2⟩ := c.mem k hk
      rw [← hm.len] at hk2
      rw [List.getElem?_eq_getElem hk2] at hk'
      have z : r[i] = r[k] := hx'.trans hk'.symm
      have := (List.getElem_inj hm.nd).mp z
      omega
  · by_cases hi : i < m0.length
    · have q1' : r[i]? = some a := by
        have : (cutR m0.length r ks)[i]? = r[i]? := by
          unfold cutR
          rw [List.getElem?_append_left (by rw [ln]; exact hi), List.getElem?_take, if_pos hi]
        rw [← this]; exact q1
      have q2' : m[i]? = some o := by
        have : (cutM m0 m ks)[i]? = m[i]? := by
          unfold cutM
          rw [List.getElem?_append_left (by rw [lm]; exact hi), List.getElem?_take, if_pos hi]
        rw [← this]; exact q2
      have ho : okO (fun k => decide (k < m0.length)) o = true := by
        rcases c.old i hi with z | ⟨o', z, zo⟩
        · rw [q2'] at z
          have hr0 : i < r0.length := by rw [hm0.len]; exact hi
          have q := hm0.ob i _ o (List.getElem?_eq_getElem hr0) z.symm
          revert q
          exact okO_of (Nat.le_of_eq hm0.len)
        · rw [q2'] at z; cases z; exact zo
      have q := hm.ob i a o q1' q2'
      revert q ho
      have kp : ∀ (k : Nat) (b : Addr), decide (k < m0.length) = true → r[k]? = some b → (cutR m0.length r ks)[k]? = some b := fun k b hk e => cutR_pre hn (of_decide_eq_true hk) e
      cases o with
      | lst xs => exact fun ho ⟨vs, h1, h2⟩ => ⟨vs, h1, rpl_keep kp xs vs ho h2⟩
      | dic ks vs =>
        intro ho ⟨o, kvs, us, h1, h2, h3, h4, h5⟩
        have ho' : (okDs _ ks && okDs _ vs) = true := ho
        rw [Bool.and_eq_true] at ho'
        exact ⟨o, kvs, us, h1, h2, h3, rpl_keep kp ks kvs ho'.1 h4, rpl_keep kp vs us ho'.2 h5⟩
      | ins C ns fs => exact fun ho ⟨c, dx, us, hc, h1, h2, h3, h4⟩ => ⟨c, dx, us, hc, h1, h2, h3, rpl_keep kp fs us ho h4⟩
      | gone d => exact fun ho ⟨h1, h2⟩ => ⟨rp_keep kp d _ ho h1, h2⟩
    · have hi2 : m0.length ≤ i := by omega
      unfold cutR at q1
      unfold cutM at q2
      rw [List.getElem?_append_right (by rw [ln]; exact hi2), ln, List.getElem?_map] at q1
      rw [List.getElem?_append_right (by rw [lm]; exact hi2), lm, List.getElem?_map] at q2
      cases e : ks[i - m0.length]? with
      | none => rw [e] at q1; cases q1
      | some k =>
        rw [e] at q1 q2
        have hk := List.mem_of_getElem? e
        obtain ⟨hk1, hk2⟩ := c.mem k hk
        have hkr : k < r.length := by rw [hm.len]; exact hk2
        have q1' : some ((r[k]?).getD 0) = some a := q1
        have q2' : some (renO (moved m0.length ks) ((m[k]?).getD (.lst []))) = some o := q2
        rw [List.getElem?_eq_getElem hkr] at q1'
        rw [List.getElem?_eq_getElem hk2] at q2'
        cases q1'; cases q2'
        have q := hm.ob k _ _ (List.getElem?_eq_getElem hkr) (List.getElem?_eq_getElem hk2)
        have ho := c.new k hk _ (List.getElem?_eq_getElem hk2)
        show ObR K H (cutR m0.length r ks) r[k] (renO (moved m0.length ks) m[k])
        revert q ho
        have kp : ∀ (k : Nat) (b : Addr), kept m0.length ks k = true → r[k]? = some b → (cutR m0.length r ks)[moved m0.length ks k]? = some b := fun k b hk e => cutR_at hn hk e
        cases m[k] with
        | lst xs => exact fun ⟨vs, h1, h2⟩ ho => ⟨vs, h1, rpl_ren kp xs vs ho h2⟩
        | dic dks dvs =>
          intro ⟨o, kvs, us, h1, h2, h3, h4, h5⟩ ho
          have ho' : (okDs _ dks && okDs _ dvs) = true := ho
          rw [Bool.and_eq_true] at ho'
          exact ⟨o, kvs, us, h1, h2, dicS_ren _ h3, rpl_ren kp dks kvs ho'.1 h4, rpl_ren kp dvs us ho'.2 h5⟩
        | ins C ns fs => exact fun ⟨c, dx, us, hc, h1, h2, h3, h4⟩ ho => ⟨c, dx, us, hc, h1, h2, h3, rpl_ren kp fs us ho h4⟩
        | gone d => exact fun ⟨h1, h2⟩ ho => ⟨rp_ren kp d _ ho h1, h2⟩
theorem cut_rp (c : Cut m0 m ks) (hm : RMu K H r m) {d : D} {v : V} (ho : okD (kept m0.length ks) d = true) (h : Rp K H r d v) : Rp K H (cutR m0.length r ks) (ren (moved m0.length ks) d) v :=
  rp_ren (fun k a hk e => cutR_at (by rw [hm.len]; exact c.le) hk e) d v ho h
/-- .. of a value -/
theorem drop_ok {P : D → Mu → Prop} {d : D} {v : V} (hm0 : RMu K H0 r0 m0) (hm : RMu K H r m) (p : Pre r0 r) (h : Drop m0 P d m) (g : Rp K H r d v) : ∃ d' m' r', P d' m' ∧ Rp K H r' d' v ∧ RMu K H r' m' ∧ Pre r0 r' := by
  obtain ⟨ks, c, ho, q⟩ := h
  obtain ⟨h1, h2⟩ := cut_ok c hm0 hm p
  exact ⟨_, _, _, q, cut_rp c hm ho g, h1, h2⟩
/-- .. of the slots -/
theorem dropS_ok {P : Sl → Mu → Prop} {sl : Sl} {σ : L2.St} (hm0 : RMu K H0 r0 m0) (hm : RMu K H r m) (p : Pre r0 r) (h : DropS m0 P sl m) (g : RSl K H r sl σ) : ∃ sl' m' r', P sl' m' ∧ RSl K H r' sl' σ ∧ RMu K H r' m' ∧ Pre r0 r' := by
  obtain ⟨ks, sl', c, hl, hs, q⟩ := h
  obtain ⟨h1, h2⟩ := cut_ok c hm0 hm p
  refine ⟨_, _, _, q, ⟨by rw [List.length_map, hl]; exact g.len, fun i d e => ?_⟩, h1, h2⟩
  rw [List.getElem?_map] at e
  cases z : sl'[i]? with
  | none => rw [z] at e; cases e
  | some o =>
    rw [z] at e
    cases o with
    | none => cases e
    | some d0 =>
      have e' : ren (moved m0.length ks) d0 = d := by
        have e2 : some (some (ren (moved m0.length ks) d0)) = some (some d) := e
        exact Option.some.inj (Option.some.inj e2)
      subst e'
      obtain ⟨g1, g2⟩ := hs i d0 z
      obtain ⟨v, g3, g4⟩ := g.at_ i d0 g1
      exact ⟨v, g3, cut_rp c hm g2 g4⟩
end
end Ab

namespace Ab
open PySem PySem.Spec PyProof.Rows L2

/-! ### readings of the other kinds -/
def LO (K : Kx) (w : WE) : TO := fun σ H Q => ∃ sl r m P, RSl K H r sl σ ∧ RMu K H r m ∧ w sl m P ∧ ∀ d m', P d m' → ∃ o, part d = some o ∧ ∀ r' H', Ext H H' → Pre r r' → RMu K H' r' m' → Q o H'
def LG (K : Kx) (ss : List Nat) (w : D → Sl → (Sl → Prop) → Prop) : TG := fun v σ H Q => ∃ d sl r P, Rp K H r d v ∧ RSl K H r sl σ ∧ w d sl P ∧ ∀ sl' σ', P sl' → RSl K H r sl' σ' → σ'.length = σ.length → (∀ (j : Nat), j ∉ ss → σ'[j]? = σ[j]?) → Q σ' H
def LGs (K : Kx) (ss : List Nat) (w : D → Sl → (Sl → Prop) → Prop) : TGs := fun vs σ H Q => ∃ xs sl r P, RpL K H r xs vs ∧ RSl K H r sl σ ∧ w (.tup xs) sl P ∧ ∀ sl' σ', P sl' → RSl K H r sl' σ' → σ'.length = σ.length → (∀ (j : Nat), j ∉ ss → σ'[j]? = σ[j]?) → Q σ' H
structure ItOk (K : Kx) (H1 : Hp) (r1 : List Addr) (J : It) (ys : List D) (Gd : Mu → Prop) : Prop where
  stop : ∀ r2 H2 m2, Ext H1 H2 → Pre r1 r2 → RMu K H2 r2 m2 → Gd m2 → J.stop ys.length H2
  go : ∀ (i : Nat) (x : D) r2 H2 m2, Ext H1 H2 → Pre r1 r2 → RMu K H2 r2 m2 → Gd m2 → ys[i]? = some x → J.go i H2
  yld : ∀ (i : Nat) (x : D) r2 H2 m2 v H3, Ext H1 H2 → Pre r1 r2 → RMu K H2 r2 m2 → Gd m2 → ys[i]? = some x → J.yld i H2 v H3 → Same H2 H3 ∧ Rp K H3 r2 x v
def LI (K : Kx) (w : WE) (it : I) : TI := fun σ H R => ∃ sl r m P, RSl K H r sl σ ∧ RMu K H r m ∧ w sl m P ∧ ∀ x m1, P x m1 → ∃ xs P2, x = .tup xs ∧ itD it xs m1 P2 ∧
  ∀ ys Gd, P2 ys Gd → ∀ J r1 H1, Ext H H1 → Pre r r1 → RMu K H1 r1 m1 → ItOk K H1 r1 J ys Gd → R J H1
structure EndOk (K : Kx) (H0 : Hp) (r0 : List Addr) (A : AE) (E : Ends) : Prop where
  nx : ∀ sl' m' σ' H' r', A.nx sl' m' → Ext H0 H' → Pre r0 r' → RSl K H' r' sl' σ' → RMu K H' r' m' → E.nx σ' H'
  rt : ∀ d m' v H' r', A.rt d m' → Ext H0 H' → Pre r0 r' → Rp K H' r' d v → RMu K H' r' m' → E.rt v H'
  bk : ∀ sl' m' σ' H' r', A.bk sl' m' → Ext H0 H' → Pre r0 r' → RSl K H' r' sl' σ' → RMu K H' r' m' → E.bk σ' H'
  ct : ∀ sl' m' σ' H' r', A.ct sl' m' → Ext H0 H' → Pre r0 r' → RSl K H' r' sl' σ' → RMu K H' r' m' → E.ct σ' H'
theorem EndOk.mono {K : Kx} {H0 H1 : Hp} {r0 r1 : List Addr} {A : AE} {E : Ends} (h : EndOk K H0 r0 A E) (e : Ext H0 H1) (p : Pre r0 r1) : EndOk K H1 r1 A E :=
  ⟨fun sl' m' σ' H' r' q e' p' => h.nx sl' m' σ' H' r' q (e.trans e') (p.trans p'), fun d m' v H' r' q e' p' => h.rt d m' v H' r' q (e.trans e') (p.trans p'),
   fun sl' m' σ' H' r' q e' p' => h.bk sl' m' σ' H' r' q (e.trans e') (p.trans p'), fun sl' m' σ' H' r' q e' p' => h.ct sl' m' σ' H' r' q (e.trans e') (p.trans p')⟩
def LS (K : Kx) (w : Mu → AE → Sl → Mu → Prop) : TS := fun E σ H => ∃ sl r m A H0 r0 m0, RSl K H r sl σ ∧ RMu K H r m ∧ RMu K H0 r0 m0 ∧ Ext H0 H ∧ Pre r0 r ∧ EndOk K H0 r0 A E ∧ w m0 A sl m
/-- a form does what its text does -/
def Snd (X : Cx) (G : Gm) (ir : I) : Ast → Prop
  | .e x => PE X x (LE X.kx (wE G ir))
  | .t x => PT X x (LT X.kx (wE G ir))
  | .w x => PW X x (LT X.kx (wE G ir))
  | .a xs => PA X xs (LA X.kx (wE G ir))
  | .o x => PO X x (LO X.kx (wE G ir))
  | .g x => PG X x (LG X.kx (tgS ir) (wG ir))
  | .gs xs => PGs X xs (LGs X.kx (tgS ir) (wG ir))
  | .it tg x => PI X tg x (LI X.kx (wE G ir) ir)
  | .s x => PS X x (LS X.kx fun m0 => wS G m0 ir)
  | .ss xs => PSs X xs (LS X.kx fun m0 => wS G m0 ir)

section
variable {X : Cx} {sc : Scope} {N cN fN : List Str} {top : Bool} {G : Gm} {k : Nat}
theorem Cok.gl (C : Cok X sc N top cN fN G k) {x : Str} (h : glb sc x = true) : Gl X x := by
  show X.env.scope.names.lookup x = _
  rw [C.hs]; exact of_decide_eq_true h
theorem Cok.vis (C : Cok X sc N top cN fN G k) {x : Str} (h : Ab.vis sc x = true) : Vis X.env.scope x := by
  unfold Vis
  rw [C.hs]
  unfold Ab.vis at h
  split at h <;> first | (exact .inl (by assumption)) | (exact .inr (.inl (by assumption))) | (exact .inr (.inr (by assumption))) | cases h
theorem Cok.lcl (C : Cok X sc N top cN fN G k) {x : Str} (h : Ab.lcl sc x = true) : X.env.scope.names.lookup x = some .local := by
  rw [C.hs]
  unfold Ab.lcl at h
  split at h
  · assumption
  · cases h
theorem Cok.sto (C : Cok X sc N top cN fN G k) {x : Str} (h : Ab.sto sc top x = true) : L2.Loc X.env.scope x ∧ (X.fn x = true ∨ X.env.scope.names.lookup x = some .local) := by
  unfold L2.Loc
  rw [C.hs]
  unfold Ab.sto at h
  split at h
  · exact ⟨.inl (by assumption), .inr (by assumption)⟩
  · exact ⟨.inr (by assumption), .inl (C.top h x)⟩
  · cases h
theorem Cok.at_ (C : Cok X sc N top cN fN G k) {i : Nat} {x : Str} (h : decide (N[i]? = some x) = true) : X.N[i]? = some x := by
  rw [C.hN]; exact of_decide_eq_true h
theorem Cok.ndN (C : Cok X sc N top cN fN G k) : X.N.Nodup := by rw [C.hN]; exact C.nd
theorem Cok.mgb (C : Cok X sc N top cN fN G k) {x : Str} (h : x ∈ bnames) : X.mg x = none := C.blt x h
theorem Cok.hu (C : Cok X sc N top cN fN G k) : X.A.units + 64 < cLine := C.room.units
theorem Cok.op (C : Cok X sc N top cN fN G k) : PassesOwn (model X.prog X.w) X.A X.env X.xe := by rw [C.xe]; exact PassesOwn.never
theorem dbg_no {x : Str} (h : (!dbg x) = true) : (x == ("__debug__" : Str)) = false ∧ (x == ("__classdict__" : Str)) = false ∧ x ≠ "__name__" := by
  unfold dbg at h
  rw [Bool.not_eq_true', Bool.or_eq_false_iff, Bool.or_eq_false_iff] at h
  obtain ⟨⟨h1, h2⟩, h3⟩ := h
  exact ⟨h1, h2, fun e => by rw [e] at h3; simp at h3⟩
theorem mem_b {x : Str} (h : bnames.contains x = true) : x ∈ bnames := List.contains_iff_mem.mp h

/-! expressions -/
theorem s_const {e : Expr} {v : V} {d : D} (h : PE X e (tC v)) (hr : ∀ H r, Rp X.kx H r d v) (w : WE) (hw : ∀ sl m P, w sl m P → P d m) : PE X e (LE X.kx w) :=
  PEm h fun σ H Q ⟨sl, r, m, P, hs, hm, q, hP⟩ => (hP _ _ (hw sl m P q)).here (hr H r) hm
/-- a unary step behind one expression -/
theorem le_un {K : Kx} {wa : WE} {s : D → Mu → (D → Mu → Prop) → Prop} {f : V → Hp → VK → Prop} (h : ∀ H r m x vx P Q, Rp K H r x vx → RMu K H r m → s x m P → (∀ d m', P d m' → Fin K H r Q d m') → f vx H Q) {σ : L2.St} {H : Hp} {Q : VK}
    (q : LE K (fun sl m P => wa sl m fun x m1 => s x m1 P) σ H Q) : LE K wa σ H fun x H1 => f x H1 Q := by
  obtain ⟨sl, r, m, P, hs, hm, hw, hP⟩ := q
  exact ⟨sl, r, m, _, hs, hm, hw, fun x m1 q1 vx r1 H1 e1 p1 rx hm1 => h H1 r1 m1 x vx P Q rx hm1 q1 fun d m' hp => (hP d m' hp).mono e1 p1⟩
theorem la_un {K : Kx} {wa : WE} {s : List D → Mu → (D → Mu → Prop) → Prop} {f : List V → Hp → VK → Prop} (h : ∀ H r m xs vs P Q, RpL K H r xs vs → RMu K H r m → s xs m P → (∀ d m', P d m' → Fin K H r Q d m') → f vs H Q) {σ : L2.St} {H : Hp} {Q : VK}
    (q : LE K (fun sl m P => wa sl m fun x m1 => ∃ xs, x = .tup xs ∧ s xs m1 P) σ H Q) : LA K wa σ H fun vs H1 => f vs H1 Q := by
  obtain ⟨sl, r, m, P, hs, hm, hw, hP⟩ := q
  refine ⟨sl, r, m, _, hs, hm, hw, fun x m1 ⟨xs, e, q1⟩ => ⟨xs, e, fun vs r1 H1 e1 p1 rx hm1 => ?_⟩⟩
  exact h H1 r1 m1 xs vs P Q rx hm1 q1 fun d m' hp => (hP d m' hp).mono e1 p1

theorem op_powX : OpR X (binaryOp .Pow) (rI CPowX fun i j => .int (i ^ j.toNat)) := opI fun _ _ _ _ _ _ _ hc q => pow_int hc.1 hc.2 q
theorem op_repS {X : Cx} : OpR X (binaryOp .Mult) rRepS := by
  intro pins s σ H x y v u Q I rx ry h
  obtain ⟨z, rfl, rfl, q⟩ := h
  obtain ⟨t, rfl⟩ := rx
  obtain ⟨t', rfl⟩ := ry
  refine PySem.P.mul_str rfl (fun _ z => nomatch z) (fun _ z => nomatch z) ?_
  exact ⟨.str z, H, I, ⟨_, rfl⟩, q⟩
theorem op_o2 (C : Cok X sc N top cN fN G k) {o : O2} {x y : Expr} {pos : Pos} {wa wb : WE} (ha : PE X x (LE X.kx wa)) (hb : PE X y (LE X.kx wb)) : PE X (.BinOp x (o2op o) y pos) (LE X.kx fun sl m P => wa sl m fun x m1 => wb sl m1 fun y m2 => op2 o x y m2 P) := by
  cases o with
  | add => exact PEm (pe_op (op_add.or (op_catA.or (op_add_str.or op_cat))) ha hb) fun σ H Q q => bin_le o2_add q
  | sub => exact PEm (pe_op op_sub ha hb) fun σ H Q q => bin_le o2_sub q
  | mul => exact PEm (pe_op (op_mulW.or (op_rep.or (op_repS.or op_repTA))) ha hb) fun σ H Q q => bin_le o2_mul q
  | fdiv => exact PEm (pe_op op_fdivW ha hb) fun σ H Q q => bin_le o2_fdiv q
  | mod => exact PEm (pe_op op_mod ha hb) fun σ H Q q => bin_le o2_mod q
  | pow => exact PEm (pe_op op_powX ha hb) fun σ H Q q => bin_le o2_pow q
  | shl => exact PEm (pe_op op_shlW ha hb) fun σ H Q q => bin_le o2_shl q
  | shr => exact PEm (pe_op op_shr ha hb) fun σ H Q q => bin_le o2_shr q
  | band => exact PEm (pe_op op_and ha hb) fun σ H Q q => bin_le o2_band q
def rCm (K : Kx) : Cm → R2
  | .eq => fun x y H Q => rEq x y H Q ∨ rEqD K x y H Q
  | .ne => fun x y H Q => rNe x y H Q ∨ rNeD K x y H Q
  | .lt => fun x y H Q => rI0 (fun i j => .bl (decide (i < j))) x y H Q ∨ rLtD K x y H Q
  | .le => rI0 fun i j => .bl (decide (i ≤ j))
  | .gt => rI0 fun i j => .bl (decide (j < i))
  | .ge => rI0 fun i j => .bl (decide (j ≤ i))
  | .isN => fun x y H Q => (y = .non ∧ Q (.bl (decide (x = .non))) H) ∨ rIsB x y H Q
  | .notN => fun x y H Q => (y = .non ∧ Q (.bl (!decide (x = .non))) H) ∨ rNotB x y H Q
  | .isin => fun y x H Q => rIn K false y x H Q ∨ ((rInD K false y x H Q ∨ rInDL K false y x H Q) ∨ ((∃ (c : Nat) (z : Str), y = .str ⟨#[c]⟩ ∧ x = .str z ∧ Q (.bl (decide (c ∈ z.cps.toList))) H) ∨ rInP K false y x H Q))
  | .notin => fun y x H Q => rIn K true y x H Q ∨ ((rInD K true y x H Q ∨ rInDL K true y x H Q) ∨ ((∃ (c : Nat) (z : Str), y = .str ⟨#[c]⟩ ∧ x = .str z ∧ Q (.bl (!decide (c ∈ z.cps.toList))) H) ∨ rInP K true y x H Q))
theorem op_cm (C : Cok X sc N top cN fN G k) : ∀ c : Cm, OpR X (compareOp (cmop c)) (rCm X.kx c)
  | .eq => op_eq.or (op_eqD C.hu)
  | .ne => op_ne.or (op_neD C.hu)
  | .lt => op_lt.or (op_ltD C.hu)
  | .le => op_le
  | .gt => op_gt
  | .ge => op_ge
  | .isN => op_isN.or op_isBl
  | .notN => op_notN.or op_notBl
  | .isin => op_in_seq.or (((op_inD C.hu).or op_inDL).or (op_in_sign.or (op_inP C.hu)))
  | .notin => op_notIn_seq.or (((op_notInD C.hu).or op_notInDL).or (op_notIn_sign.or (op_notInP C.hu)))
theorem c2_cm {K : Kx} : ∀ c : Cm, Op2R K (rCm K c) (cmR c)
  | .eq => c2_eq | .ne => c2_ne | .lt => c2_lt | .le => c2_le | .gt => c2_gt | .ge => c2_ge | .isN => c2_isN | .notN => c2_notN | .isin => c2_in | .notin => c2_notin
/-- a value's reading as a test's, where it is a truth -/
theorem lt_of_le {K : Kx} {wa : WE} {σ : L2.St} {H : Hp} {Q : Bool → Hp → Prop} (q : LT K wa σ H Q) : LE K wa σ H fun x H' => ∃ t, x = .bl t ∧ Q t H' := by
  obtain ⟨sl, r, m, P, hs, hm, hw, hP⟩ := q
  refine ⟨sl, r, m, P, hs, hm, hw, fun d m' hp v r' H' e p rv hm' => ?_⟩
  obtain ⟨t, rfl, q⟩ := hP d m' hp
  cases rv
  exact ⟨t, rfl, q r' H' e p hm'⟩
theorem s_cmpE (C : Cok X sc N top cN fN G k) {c : Cm} {x y : Expr} {pos : Pos} {wa wb : WE} (ha : PE X x (LE X.kx wa)) (hb : PE X y (LE X.kx wb)) (hn : noset y = true) :
    PE X (.Compare x [cmop c] [y] pos) (LE X.kx fun sl m P => wa sl m fun x m1 => wb sl m1 fun y m2 => cmR c x y m2 P) :=
  PEm (pe_cmpR (op_cm C c) ha hb (mark_no hn)) fun σ H Q q => bin_le (c2_cm c) q
theorem s_cmpT (C : Cok X sc N top cN fN G k) {c : Cm} {x y : Expr} {pos : Pos} {wa wb : WE} (ha : PE X x (LE X.kx wa)) (hb : PE X y (LE X.kx wb)) (hn : noset y = true) :
    PT X (.Compare x [cmop c] [y] pos) (LT X.kx fun sl m P => wa sl m fun x m1 => wb sl m1 fun y m2 => cmR c x y m2 P) :=
  PTm (pt_cmpR (op_cm C c) ha hb (mark_no hn)) fun σ H Q q => bin_le (c2_cm c) (lt_of_le q)
theorem chn_le {K : Kx} {c c' : Cm} {wa wb wd : WE} {σ : L2.St} {H : Hp} {Q : VK}
    (q : LE K (fun sl m P => wa sl m fun x m1 => wb sl m1 fun y m2 => cm2 c x y m2 fun t => if t = true then wd sl m2 fun z m3 => cm2 c' y z m3 fun t' => P (.bl t') m3 else P (.bl false) m2) σ H Q) :
    tChain (rCm K c) (rCm K c') (LE K wa) (LE K wb) (LE K wd) σ H Q := by
  obtain ⟨sl, r, m, P, hs, hm, hw, hP⟩ := q
  refine ⟨sl, r, m, _, hs, hm, hw, fun x m1 q1 vx r1 H1 e1 p1 rx hm1 => ?_⟩
  refine ⟨sl, r1, m1, _, hs.ext e1 p1, hm1, q1, fun y m2 q2 vy r2 H2 e2 p2 ry hm2 => ?_⟩
  refine c2_cm c H2 r2 m2 x y vx vy (fun d m' => m' = m2 ∧ ∃ t, d = .bl t ∧ if t = true then wd sl m2 fun z m3 => cm2 c' y z m3 fun t' => P (.bl t') m3 else P (.bl false) m2) _ (Rp.ext e2 p2 _ _ rx) ry hm2 ?_ ?_
  · have mono : ∀ (c : Cm) (A B : Bool → Prop), (∀ t, A t → B t) → cm2 c x y m2 A → cm2 c x y m2 B := by
      intro c A B hAB h
      cases c <;> first
        | (obtain ⟨b, h1, h2⟩ := h; exact ⟨b, h1, hAB _ h2⟩)
        | (obtain ⟨i, j, h1, h2, h3⟩ := h; exact ⟨i, j, h1, h2, hAB _ h3⟩)
        | (obtain ⟨h1, h2⟩ := h; exact ⟨h1, hAB _ h2⟩)
        | (rcases h with ⟨h1, h2⟩ | ⟨t, u, h1, h2, h3⟩
           · exact .inl ⟨h1, hAB _ h2⟩
           · exact .inr ⟨t, u, h1, h2, hAB _ h3⟩)
        | (rcases h with ⟨xs, h1, h2, h3, h4⟩ | ⟨ks, vs, h1, h2, h3⟩ | ⟨c, z, h1, h2, h3⟩ | ⟨d, ds, c, h1, h2, h3, h4, h5, h6, h7⟩
           · exact .inl ⟨xs, h1, h2, h3, hAB _ h4⟩
           · exact .inr (.inl ⟨ks, vs, h1, h2, hAB _ h3⟩)
           · exact .inr (.inr (.inl ⟨c, z, h1, h2, hAB _ h3⟩))
           · exact .inr (.inr (.inr ⟨d, ds, c, h1, h2, h3, h4, h5, h6, hAB _ h7⟩)))
        | (rcases h with ⟨i, j, h1, h2, h3⟩ | ⟨p, q, h1, h2, h3, h4, h5, h6⟩
           · exact .inl ⟨i, j, h1, h2, hAB _ h3⟩
           · exact .inr ⟨p, q, h1, h2, h3, h4, h5, hAB _ h6⟩)
    exact mono c _ _ (fun t ht => ⟨rfl, t, rfl, ht⟩) q2
  · rintro d m' ⟨rfl, t, rfl, ht⟩ v r3 H3 e3 p3 rv hm3
    cases rv
    refine ⟨t, rfl, ?_⟩
    have e13 := e2.trans e3
    have p13 := p2.trans p3
    cases t with
    | false =>
      rw [if_neg Bool.false_ne_true] at ht ⊢
      exact ((hP _ _ ht).mono (e1.trans e13) (p1.trans p13)).here rfl hm3
    | true =>
      rw [if_pos rfl] at ht ⊢
      refine ⟨sl, r3, _, _, (hs.ext e1 p1).ext e13 p13, hm3, ht, fun z m3 q3 vz r4 H4 e4 p4 rz hm4 => ?_⟩
      exact c2_cm c' H4 r4 m3 y z vy vz (fun d m => P d m) Q (Rp.ext (e3.trans e4) (p3.trans p4) _ _ ry) rz hm4 q3 fun d m' hp => (hP d m' hp).mono ((e1.trans e13).trans e4) ((p1.trans p13).trans p4)
end
end Ab

namespace Ab
open PySem PySem.Spec PyProof.Rows L2
section
variable {X : Cx} {sc : Scope} {N cN fN : List Str} {top : Bool} {G : Gm} {k : Nat}

/-! truths -/
theorem lt_one {K : Kx} {wa : WE} {s : Bool → Mu → (D → Mu → Prop) → Prop} {f : Bool → Hp → (Bool → Hp → Prop) → Prop} (h : ∀ H r m t P Q, RMu K H r m → s t m P → (∀ d m', P d m' → FinB K H r Q d m') → f t H Q) {σ : L2.St} {H : Hp} {Q : Bool → Hp → Prop}
    (q : LT K (fun sl m P => wa sl m fun x m1 => ∃ t, x = .bl t ∧ s t m1 P) σ H Q) : LT K wa σ H fun t H1 => f t H1 Q := by
  obtain ⟨sl, r, m, P, hs, hm, hw, hP⟩ := q
  refine ⟨sl, r, m, _, hs, hm, hw, fun x m1 ⟨t, e, q1⟩ => ⟨t, e, fun r1 H1 e1 p1 hm1 => ?_⟩⟩
  exact h H1 r1 m1 t P Q hm1 q1 fun d m' hp => (hP d m' hp).mono e1 p1
theorem FinB.here {K : Kx} {H : Hp} {r : List Addr} {m : Mu} {Q : Bool → Hp → Prop} {t : Bool} (h : FinB K H r Q (.bl t) m) (hm : RMu K H r m) : Q t H := by
  obtain ⟨t', e, q⟩ := h
  cases e
  exact q r H (Ext.refl H) (Pre.refl r) hm
theorem and_lt {K : Kx} {wa wr : WE} {σ : L2.St} {H : Hp} {Q : Bool → Hp → Prop}
    (q : LT K (fun sl m P => wa sl m fun x m1 => ∃ t, x = .bl t ∧ if t = true then wr sl m1 fun y m2 => ∃ t', y = .bl t' ∧ P (.bl t') m2 else P (.bl false) m1) σ H Q) : tAnd (LT K wa) (LT K wr) σ H Q := by
  obtain ⟨sl, r, m, P, hs, hm, hw, hP⟩ := q
  refine ⟨sl, r, m, _, hs, hm, hw, fun x m1 ⟨t, e, q1⟩ => ⟨t, e, fun r1 H1 e1 p1 hm1 => ?_⟩⟩
  cases t with
  | false =>
    rw [if_neg Bool.false_ne_true] at q1 ⊢
    exact ((hP _ _ q1).mono e1 p1).here hm1
  | true =>
    rw [if_pos rfl] at q1 ⊢
    exact ⟨sl, r1, m1, _, hs.ext e1 p1, hm1, q1, fun d m' ⟨t', e', hp⟩ => by rw [e']; exact (hP _ _ hp).mono e1 p1⟩
theorem or_lt {K : Kx} {wa wr : WE} {σ : L2.St} {H : Hp} {Q : Bool → Hp → Prop}
    (q : LT K (fun sl m P => wa sl m fun x m1 => ∃ t, x = .bl t ∧ if t = true then P (.bl true) m1 else wr sl m1 fun y m2 => ∃ t', y = .bl t' ∧ P (.bl t') m2) σ H Q) : tOr (LT K wa) (LT K wr) σ H Q := by
  obtain ⟨sl, r, m, P, hs, hm, hw, hP⟩ := q
  refine ⟨sl, r, m, _, hs, hm, hw, fun x m1 ⟨t, e, q1⟩ => ⟨t, e, fun r1 H1 e1 p1 hm1 => ?_⟩⟩
  cases t with
  | true =>
    rw [if_pos rfl] at q1 ⊢
    exact ((hP _ _ q1).mono e1 p1).here hm1
  | false =>
    rw [if_neg Bool.false_ne_true] at q1 ⊢
    exact ⟨sl, r1, m1, _, hs.ext e1 p1, hm1, q1, fun d m' ⟨t', e', hp⟩ => by rw [e']; exact (hP _ _ hp).mono e1 p1⟩
theorem and_le {K : Kx} {wa wr : WE} {σ : L2.St} {H : Hp} {Q : VK}
    (q : LE K (fun sl m P => wa sl m fun x m1 => ∃ t, x = .bl t ∧ if t = true then wr sl m1 fun y m2 => ∃ t', y = .bl t' ∧ P (.bl t') m2 else P (.bl false) m1) σ H Q) : tAndV (LE K wa) (LE K wr) σ H Q := by
  obtain ⟨sl, r, m, P, hs, hm, hw, hP⟩ := q
  refine ⟨sl, r, m, _, hs, hm, hw, fun x m1 ⟨t, e, q1⟩ v r1 H1 e1 p1 rv hm1 => ?_⟩
  subst e
  cases rv
  refine ⟨t, rfl, ?_⟩
  cases t with
  | false =>
    rw [if_neg Bool.false_ne_true] at q1 ⊢
    exact ((hP _ _ q1).mono e1 p1).here rfl hm1
  | true =>
    rw [if_pos rfl] at q1 ⊢
    exact ⟨sl, r1, m1, _, hs.ext e1 p1, hm1, q1, fun d m' ⟨t', e', hp⟩ => by rw [e']; exact (hP _ _ hp).mono e1 p1⟩
theorem or_le {K : Kx} {wa wr : WE} {σ : L2.St} {H : Hp} {Q : VK}
    (q : LE K (fun sl m P => wa sl m fun x m1 => ∃ t, x = .bl t ∧ if t = true then P (.bl true) m1 else wr sl m1 fun y m2 => ∃ t', y = .bl t' ∧ P (.bl t') m2) σ H Q) : tOrV (LE K wa) (LE K wr) σ H Q := by
  obtain ⟨sl, r, m, P, hs, hm, hw, hP⟩ := q
  refine ⟨sl, r, m, _, hs, hm, hw, fun x m1 ⟨t, e, q1⟩ v r1 H1 e1 p1 rv hm1 => ?_⟩
  subst e
  cases rv
  refine ⟨t, rfl, ?_⟩
  cases t with
  | true =>
    rw [if_pos rfl] at q1 ⊢
    exact ((hP _ _ q1).mono e1 p1).here rfl hm1
  | false =>
    rw [if_neg Bool.false_ne_true] at q1 ⊢
    exact ⟨sl, r1, m1, _, hs.ext e1 p1, hm1, q1, fun d m' ⟨t', e', hp⟩ => by rw [e']; exact (hP _ _ hp).mono e1 p1⟩
theorem drop_le {K : Kx} {wa : WE} {σ : L2.St} {H : Hp} {Q : VK} (q : LE K (fun sl m P => ∃ R : D → Mu → Prop, wa sl m (Drop m R) ∧ ∀ d m', R d m' → P d m') σ H Q) : LE K wa σ H Q := by
  obtain ⟨sl, r, m, P, hs, hm, ⟨R, hw, hR⟩, hP⟩ := q
  refine ⟨sl, r, m, _, hs, hm, hw, fun d m' hd v r' H' e p rv hm' => ?_⟩
  obtain ⟨d', m'', r'', hp, rv', hm'', p'⟩ := drop_ok hm hm' p hd rv
  exact hP d' m'' (hR _ _ hp) v r'' H' e p' rv' hm''
theorem drop_lt {K : Kx} {wa : WE} {σ : L2.St} {H : Hp} {Q : Bool → Hp → Prop} (q : LT K (fun sl m P => ∃ R : D → Mu → Prop, wa sl m (Drop m R) ∧ ∀ d m', R d m' → P d m') σ H Q) : LT K wa σ H Q := by
  obtain ⟨sl, r, m, P, hs, hm, ⟨R, hw, hR⟩, hP⟩ := q
  refine ⟨sl, r, m, _, hs, hm, hw, fun d m' hd => ?_⟩
  obtain ⟨ks, c, ho, hp⟩ := hd
  obtain ⟨t, e, hq⟩ := hP _ _ (hR _ _ hp)
  have hd : d = .bl t := by
    cases d <;> first | exact e | cases e
  refine ⟨t, hd, fun r' H' e1 p1 hm1 => ?_⟩
  obtain ⟨h1, h2⟩ := cut_ok c hm hm1 p1
  exact hq _ H' e1 h2 h1

/-! builtins and methods -/
theorem mem_bi : ∀ f : Bi, biN f ∈ bnames := by intro f; cases f <;> decide +kernel
theorem s_bi (C : Cok X sc N top cN fN G k) (f : Bi) {e : Expr} {es : List Expr} {p pos : Pos} {wa : WE} (hg : glb sc (biN f) = true) (ha : PA X (e :: es) (LA X.kx wa)) (hn : nostar e = true) (hns : es.all nostar = true) :
    PE X (.Call (.Name (biN f) p) (e :: es) [] pos) (LE X.kx fun sl m P => wa sl m fun x m1 => ∃ xs, x = .tup xs ∧ biD f xs m1 P) := by
  have g := C.gl hg
  have mg := C.mgb (mem_bi f)
  have go : ∀ {r : List V → Hp → VK → Prop}, r = rBi X.kx f → PE X (.Call (.Name (biN f) p) (e :: es) [] pos) (tCB r (LA X.kx wa)) → PE X (.Call (.Name (biN f) p) (e :: es) [] pos) (LE X.kx fun sl m P => wa sl m fun x m1 => ∃ xs, x = .tup xs ∧ biD f xs m1 P) := by
    intro r hr h
    subst hr
    exact PEm h fun σ H Q q => la_un (f := rBi X.kx f) (s := biD f) (fun H r m xs vs P Q rs hm hb hP => bi_ok f rs hm hb hP) q
  have hst := star_cons (es := es) (env := X.env) hn
  have hsa := star_any (pos := pos) (env := X.env) hns
  cases f with
  | len => exact go rfl (pe_callB (call_len_seq.or (call_len_str.or call_len_dic)) g mg PySem.boot_len ha (by decide) (by decide) hst hsa)
  | abs => exact go rfl (pe_callB call_abs g mg (by decide +kernel) ha (by decide) (by decide) hst hsa)
  | max => exact go rfl (pe_callB (call_max2 C.calm) g mg (by decide +kernel) ha (by decide) (by decide) hst hsa)
  | min => exact go rfl (pe_callB (call_min2 C.calm) g mg (by decide +kernel) ha (by decide) (by decide) hst hsa)
  | int => exact go rfl (pe_callTy (call_int1.or call_int_str) g mg (by decide +kernel) ha (by decide) (by decide) hst hsa)
  | divmod => exact go rfl (pe_callB call_divmodW g mg (by decide +kernel) ha (by decide) (by decide) hst hsa)
  | tuple => exact go rfl (pe_callTy call_tuple_of g mg (by decide +kernel) ha (by decide) (by decide) hst hsa)
  | list => exact go rfl (pe_callTy (call_list_of.or (call_list_dic C.calm)) g mg (by decide +kernel) ha (by decide) (by decide) hst hsa)
  | all => exact go rfl (pe_callB (cr_all C.calm) g mg (by decide +kernel) ha (by decide) (by decide) hst hsa)
  | any => exact go rfl (pe_callB (cr_any C.calm) g mg (by decide +kernel) ha (by decide) (by decide) hst hsa)
  | minL => exact go rfl (pe_callB (cr_min C.calm) g mg (by decide +kernel) ha (by decide) (by decide) hst hsa)
  | maxL => exact go rfl (pe_callB ((cr_max C.calm).or (cr_maxT C.calm)) g mg (by decide +kernel) ha (by decide) (by decide) hst hsa)
  | sum => exact go rfl (pe_callB (cr_sum C.calm) g mg (by decide +kernel) ha (by decide) (by decide) hst hsa)
  | sorted => exact go rfl (pe_callB (cr_sortedI.or (cr_sortedS.or (cr_sortT.or (cr_sortTD C.calm)))) g mg (by decide +kernel) ha (by decide) (by decide) hst hsa)
  | str => exact go rfl (pe_callTy (call_str_int.or SkE.call_str_str) g mg (by decide +kernel) ha (by decide) (by decide) hst hsa)
  | dict => exact go rfl (pe_callTy ((call_dictP C.calm C.hu).or (call_dictL C.calm)) g mg (by decide +kernel) ha (by decide) (by decide) hst hsa)
def mtI : Mt → String
  | .append => "list.append" | .extend => "list.extend" | .pop => "list.pop" | .clear => "list.clear" | .index => "list.index" | .popAt => "list.pop" | .rev => "list.reverse"
theorem mt_lst {K : PySem.W.Frag} {f : Mt} {x : V} {xs : List V} {H : Hp} {Q : VK} (h : rMt K f x xs H Q) : tyV K "list" x H := by
  cases f with
  | append =>
    obtain ⟨l, ys, y, rfl, _, e, _⟩ := h
    exact .inl ⟨rfl, ys, SqL.of e⟩
  | extend =>
    obtain ⟨l, b, ys, zs, rfl, _, e, _⟩ := h
    exact .inl ⟨rfl, ys, SqL.of e⟩
  | pop =>
    obtain ⟨l, ys, y, rfl, _, e, _⟩ := h
    exact .inl ⟨rfl, ys, SqL.of e⟩
  | clear =>
    obtain ⟨l, ys, rfl, _, e, _⟩ := h
    exact .inl ⟨rfl, ys, SqL.of e⟩
  | popAt =>
    obtain ⟨l, ys, i, k, y, rfl, _, e, _⟩ := h
    exact .inl ⟨rfl, ys, SqL.of e⟩
  | rev =>
    obtain ⟨l, ys, rfl, _, e, _⟩ := h
    exact .inl ⟨rfl, ys, SqL.of e⟩
  | index =>
    rcases h with ⟨l, ys, y, j, z, rfl, _, e, _⟩ | ⟨l, ys, y, k, j, z, rfl, _, e, _⟩
    · exact .inl ⟨rfl, ys, e⟩
    · exact .inl ⟨rfl, ys, e⟩
end
end Ab

namespace Ab
open PySem PySem.Spec PyProof.Rows L2
section
variable {X : Cx} {sc : Scope} {N cN fN : List Str} {top : Bool} {G : Gm} {k : Nat}
/-! methods -/
def wMt (f : Mt) (wo wa : WE) : WE := fun sl m P => wo sl m fun x m1 => (∃ n xs, x = .loc n ∧ m1[n]? = some (.lst xs)) ∧ wa sl m1 fun y m2 => ∃ ys, y = .tup ys ∧ mtD f x ys m2 P
theorem mt_le {K : Kx} {f : Mt} {wo wa : WE} {σ : L2.St} {H : Hp} {Q : VK} (q : LE K (wMt f wo wa) σ H Q) : tBM K "list" (rMt K.k f) (LE K wo) (LA K wa) σ H Q := by
  obtain ⟨sl, r, m, P, hs, hm, hw, hP⟩ := q
  refine ⟨sl, r, m, _, hs, hm, hw, fun x m1 ⟨⟨n, xs0, e, at0⟩, q1⟩ v r1 H1 e1 p1 rv hm1 => ?_⟩
  subst e
  obtain ⟨a, us, ha, hu, _⟩ := hm1.at_lst at0
  obtain ⟨a', ha', rfl⟩ := id rv
  rw [ha] at ha'; cases ha'
  refine ⟨.inl ⟨rfl, us, SqL.of hu⟩, sl, r1, m1, _, hs.ext e1 p1, hm1, q1, fun y m2 ⟨ys, e, q2⟩ => ⟨ys, e, fun vs r2 H2 e2 p2 ry hm2 => ?_⟩⟩
  exact mt_ok f (Rp.ext e2 p2 _ _ rv) ry hm2 q2 fun d m' hp => (hP d m' hp).mono (e1.trans e2) (p1.trans p2)
theorem mt_le0 {K : Kx} {f : Mt} {wo : WE} {σ : L2.St} {H : Hp} {Q : VK} (q : LE K (wMt f wo fun _ m P => P (.tup []) m) σ H Q) : tBM0 K "list" (rMt K.k f) (LE K wo) σ H Q := by
  obtain ⟨sl, r, m, P, hs, hm, hw, hP⟩ := q
  refine ⟨sl, r, m, _, hs, hm, hw, fun x m1 ⟨⟨n, xs0, e, at0⟩, q1⟩ v r1 H1 e1 p1 rv hm1 => ?_⟩
  subst e
  obtain ⟨a, us, ha, hu, _⟩ := hm1.at_lst at0
  obtain ⟨a', ha', rfl⟩ := id rv
  rw [ha] at ha'; cases ha'
  obtain ⟨ys, e, q2⟩ := q1
  cases e
  exact ⟨.inl ⟨rfl, us, SqL.of hu⟩, mt_ok f rv (show RpL K H1 r1 [] [] from rfl) hm1 q2 fun d m' hp => (hP d m' hp).mono e1 p1⟩
theorem mt_meth (f : Mt) : Slot "list" (mtN f) (mtI f) ∧ typeOf (.builtin (mtI f)) = pure (.type "method_descriptor") ∧ MtR X (mtI f) (rMt X.K f) := by
  cases f with
  | append => exact ⟨PySem.F.slot_list_append, PySem.F.type_list_append, mt_append⟩
  | extend => exact ⟨PySem.F.slot_list_extend, PySem.F.type_list_extend, mt_extend⟩
  | pop => exact ⟨PySem.F.slot_list_pop, PySem.F.type_list_pop, mt_pop⟩
  | clear => exact ⟨PySem.F.slot_list_clear, PySem.F.type_list_clear, mt_clear⟩
  | popAt => exact ⟨PySem.F.slot_list_pop, PySem.F.type_list_pop, mt_popAt⟩
  | rev => exact ⟨PySem.F.slot_list_reverse, PySem.F.type_list_reverse, mt_reverse⟩
  | index => exact ⟨PySem.F.slot_list_index, PySem.F.type_list_index, MtR.or mt_index mt_indexK⟩
theorem s_mt1 (f : Mt) {o e : Expr} {apos cpos : Pos} {wo wa : WE} (ho : PE X o (LE X.kx wo)) (ha : PA X [e] (LA X.kx wa)) (hn : isname o = true) (hl : (apos.endLine == cpos.line) = true) (hs : nostar e = true) :
    PE X (.Call (.Attribute o (mtN f) apos) [e] [] cpos) (LE X.kx (wMt f wo wa)) := by
  have h1 := star_cons (es := []) (env := X.env) hs
  obtain ⟨m1, m2, m3⟩ := mt_meth (X := X) f
  refine PEm (pe_bm PySem.F.plainAttrs_list m1 m2 m3 ho ha (base_name hn) ?_ hl h1 rfl) fun σ H Q q => mt_le q
  rw [h1]; rfl
theorem s_mt0 (f : Mt) {o : Expr} {apos cpos : Pos} {wo : WE} (ho : PE X o (LE X.kx wo)) (hn : isname o = true) (hl : (apos.endLine == cpos.line) = true) :
    PE X (.Call (.Attribute o (mtN f) apos) [] [] cpos) (LE X.kx (wMt f wo fun _ m P => P (.tup []) m)) := by
  obtain ⟨m1, m2, m3⟩ := mt_meth (X := X) f
  exact PEm (pe_bm0 PySem.F.plainAttrs_list m1 m2 m3 ho (base_name hn) hl) fun σ H Q q => mt_le0 q
/-! methods of texts and of dicts -/
def wSm (f : Sm) (wo wa : WE) : WE := fun sl m P => wo sl m fun x m1 => (∃ t, x = .str t) ∧ wa sl m1 fun y m2 => ∃ ys, y = .tup ys ∧ smD f x ys m2 P
def rSm (K : Kx) : Sm → V → List V → Hp → VK → Prop
  | .split => fun x xs H Q => ∃ a b, x = .str a ∧ xs = [.str b] ∧ (b.length == 0) = false ∧ a.length + 2 ≤ sizeLine ∧ rNewStrs (Txt.split a b) H Q
  | .join => fun x xs H Q => ∃ a p, ∃ ys : List Str, x = .str a ∧ xs = [.ref p] ∧ (SqL K.k H p (ys.map V.str) ∨ SqT K.k H p (ys.map V.str)) ∧ (ys.map (·.length)).sum + ys.length * a.length ≤ 16777216 ∧ Q (.str (Txt.join a ys)) H
def smI : Sm → String
  | .split => "str.split" | .join => "str.join"
theorem sm_meth {X : Cx} (f : Sm) : Slot "str" (smN f) (smI f) ∧ typeOf (.builtin (smI f)) = pure (.type "method_descriptor") ∧ MtR X (smI f) (rSm X.kx f) := by
  cases f with
  | split => exact ⟨PySem.F.slot_str_split, PySem.F.type_str_split, mt_split⟩
  | join => exact ⟨PySem.F.slot_str_join, PySem.F.type_str_join, mt_join⟩
theorem rpl_strs_eq {K : Kx} {H : Hp} {r : List Addr} : ∀ {ys : List Str} {us : List V}, RpL K H r (ys.map D.str) us → us = ys.map V.str
  | [], us, h => h
  | y :: ys, us, h => by
    obtain ⟨v, t, rfl, h1, h2⟩ := h
    have h1' : v = V.str y := h1
    rw [h1', rpl_strs_eq h2]; rfl
theorem sm_ok {K : Kx} {H : Hp} {r : List Addr} {m : Mu} : ∀ (f : Sm) {o : D} {vo : V} {ds : List D} {vs : List V} {P : D → Mu → Prop} {Q : VK}, Rp K H r o vo → RpL K H r ds vs → RMu K H r m → smD f o ds m P → (∀ d m', P d m' → Fin K H r Q d m') → rSm K f vo vs H Q
  | .split, o, vo, ds, vs, P, Q, ro, rs, hm, h, hP => by
    obtain ⟨x, y, rfl, rfl, hy, hz, q⟩ := h
    obtain ⟨v, rfl, rv⟩ := rpl1 rs
    cases ro; cases rv
    exact ⟨x, y, rfl, rfl, hy, hz, fun p hp => (hP _ _ q).lstNew (RpL.strs _) hm hp⟩
  | .join, o, vo, ds, vs, P, Q, ro, rs, hm, h, hP => by
    obtain ⟨x, d, ys, rfl, rfl, hd, hz, q⟩ := h
    obtain ⟨v, rfl, rv⟩ := rpl1 rs
    cases ro
    obtain ⟨a, us, rfl, g1, g2⟩ := seq_or hm hd rv
    have e := rpl_strs_eq g1
    subst e
    exact ⟨x, a, ys, rfl, rfl, g2, hz, (hP _ _ q).here rfl hm⟩
theorem sm_le {K : Kx} {f : Sm} {wo wa : WE} {σ : L2.St} {H : Hp} {Q : VK} (q : LE K (wSm f wo wa) σ H Q) : tBM K "str" (rSm K f) (LE K wo) (LA K wa) σ H Q := by
  obtain ⟨sl, r, m, P, hs, hm, hw, hP⟩ := q
  refine ⟨sl, r, m, _, hs, hm, hw, fun x m1 ⟨⟨t, e⟩, q1⟩ v r1 H1 e1 p1 rv hm1 => ?_⟩
  subst e
  have rv' : v = .str t := rv
  subst rv'
  refine ⟨rfl, sl, r1, m1, _, hs.ext e1 p1, hm1, q1, fun y m2 ⟨ys, e, q2⟩ => ⟨ys, e, fun vs r2 H2 e2 p2 ry hm2 => ?_⟩⟩
  exact sm_ok f (o := .str t) rfl ry hm2 q2 fun d m' hp => (hP d m' hp).mono (e1.trans e2) (p1.trans p2)
theorem few_ok {e : Expr} {es : List Expr} {cpos : Pos} {env : Env} (h1 : nostar e = true) (h2 : es.all nostar = true) (h3 : es.length < 20) : ((backTo cpos (starEach (e :: es) env)).all (fun x => !x.1) && (backToKw cpos (keywordEach [] env)).all (fun x => x.1.isSome)
      && decide ((e :: es).length + ([] : List Keyword).length + (if ([] : List Keyword).isEmpty then 0 else 1) < 30)) = true := by
  have a1 : (backTo cpos (starEach (e :: es) env)).all (fun x => !x.1) = true := by
    have := star_any (pos := cpos) (env := env) (es := e :: es) (by rw [List.all_cons, h1, h2]; rfl)
    rw [List.all_eq_true]
    intro x hx
    rw [List.any_eq_false] at this
    have := this x hx
    simpa using this
  rw [a1]
  have a2 : (backToKw cpos (keywordEach [] env)).all (fun x => x.1.isSome) = true := rfl
  rw [a2]
  simp
  omega
theorem s_mt2 (f : Mt) {o e e2 : Expr} {apos cpos : Pos} {wo wa : WE} (ho : PE X o (LE X.kx wo)) (ha : PA X [e, e2] (LA X.kx wa)) (hn : isname o = true) (hl : (apos.endLine == cpos.line) = true) (hs : nostar e = true) (hs2 : nostar e2 = true) :
    PE X (.Call (.Attribute o (mtN f) apos) [e, e2] [] cpos) (LE X.kx (wMt f wo wa)) := by
  obtain ⟨m1, m2, m3⟩ := mt_meth (X := X) f
  exact PEm (pe_bm PySem.F.plainAttrs_list m1 m2 m3 ho ha (base_name hn) (few_ok hs (by rw [List.all_cons, hs2]; rfl) (by show 1 < 20; decide)) hl (star_cons hs) (star_any (by rw [List.all_cons, hs2]; rfl))) fun σ H Q q => mt_le q
theorem s_sm (f : Sm) {o e : Expr} {es : List Expr} {apos cpos : Pos} {wo wa : WE} (ho : PE X o (LE X.kx wo)) (ha : PA X (e :: es) (LA X.kx wa)) (hn : isname o = true) (hl : (apos.endLine == cpos.line) = true) (hs : nostar e = true) (hss : es.all nostar = true) (h20 : es.length < 20) :
    PE X (.Call (.Attribute o (smN f) apos) (e :: es) [] cpos) (LE X.kx (wSm f wo wa)) := by
  obtain ⟨m1, m2, m3⟩ := sm_meth (X := X) f
  exact PEm (pe_bm PySem.F.plainAttrs_str m1 m2 m3 ho ha (base_name hn) (few_ok hs hss h20) hl (star_cons hs) (star_any hss)) fun σ H Q q => sm_le q
/-- d.m(e, ..) of a dict -/
def tDM (K : Kx) (r : V → List V → Hp → VK → Prop) (to : TE) (t : TA) : TE := fun σ H Q => to σ H fun x H1 => (∃ a o, x = .ref a ∧ DicAt K H1 a o ∧ o.ExactDict) ∧ t σ H1 fun xs H2 => r x xs H2 Q
theorem pe_dm {r : V → List V → Hp → VK → Prop} {name : Str} {id : String} {o e : Expr} {es : List Expr} {to : TE} {t : TA} {apos cpos : Pos} (slot : Slot "dict" name id) (hty : typeOf (.builtin id) = pure (.type "method_descriptor")) (hm : MtR X id r) (ho : PE X o to) (ha : PA X (e :: es) t)
    (hbase : attributeBase o name X.env (eval o X.env) = eval o X.env)
    (hfew : ((backTo cpos (starEach (e :: es) X.env)).all (fun x => !x.1) && (backToKw cpos (keywordEach [] X.env)).all (fun x => x.1.isSome)
      && decide ((e :: es).length + ([] : List Keyword).length + (if ([] : List Keyword).isEmpty then 0 else 1) < 30)) = true)
    (hline : (apos.endLine == cpos.line) = true) (hs : starEach (e :: es) X.env = (false, eval e X.env) :: starEach es X.env) (hplain : (backTo cpos (starEach es X.env)).any (·.1) = false) :
    PE X (.Call (.Attribute o name apos) (e :: es) [] cpos) (tDM X.kx r to t) := by
  refine ⟨fun pins s σ H Q I h => ?_⟩
  refine wpAny_Call_method_late hbase hfew hline rfl (thn (ho.run pins s σ H _ I h) fun v s1 ⟨x, H1, I1, r1, ⟨a, ob, ex, hd, hx⟩, q1⟩ => ?_)
  subst ex
  obtain rfl : v = Value.ref a := r1
  have hg := hd.get I1
  refine ⟨"dict", id, PySem.F.plainAttrs_dict, slot, hty, ⟨ob, hg, hx.1⟩, fun b e => ?_, ?_⟩
  · cases e
    exact ⟨ob, hg, hx.2.1⟩
  have hA := ha.run cpos pins s1 σ H1 _ I1 q1
  rw [hs] at hA ⊢
  refine Calls.callWith_builtin (by show (false || (backTo cpos (starEach es X.env)).any (·.1)) = false; rw [hplain] <;> rfl) (Calls.evalArgs_plain ?_)
  exact thn hA fun us s2 ⟨vs, H2, I2, r2, q2⟩ => hm pins s2 σ H2 (.ref a) vs (.ref a) us Q I2 rfl r2 q2
def wDm (f : Dm) (wo wa : WE) : WE := fun sl m P => wo sl m fun x m1 => (∃ p, dicOf m1 x = some p) ∧ wa sl m1 fun y m2 => ∃ ys, y = .tup ys ∧ dmD f x ys m2 P
def rDm (K : Kx) : Dm → V → List V → Hp → VK → Prop
  | .get => fun x xs H Q => rDGet K x xs H Q ∨ rDGetL K x xs H Q
def dmI : Dm → String
  | .get => "dict.get"
theorem dm_meth {X : Cx} (hu : X.A.units + 64 < cLine) (f : Dm) : Slot "dict" (dmN f) (dmI f) ∧ typeOf (.builtin (dmI f)) = pure (.type "method_descriptor") ∧ MtR X (dmI f) (rDm X.kx f) := by
  cases f with
  | get => exact ⟨PySem.F.slot_dict_get, PySem.F.type_dict_get, fun pins s σ H x xs v us Q I rx rxs h => h.elim (mt_dget hu pins s σ H x xs v us Q I rx rxs) (mt_dgetL pins s σ H x xs v us Q I rx rxs)⟩
theorem dm_ok {K : Kx} {H : Hp} {r : List Addr} {m : Mu} : ∀ (f : Dm) {o : D} {vo : V} {ds : List D} {vs : List V} {P : D → Mu → Prop} {Q : VK}, Rp K H r o vo → RpL K H r ds vs → RMu K H r m → dmD f o ds m P → (∀ d m', P d m' → Fin K H r Q d m') → rDm K f vo vs H Q
  | .get, o, vo, ds, vs, P, Q, ro, rs, hm, h, hP => by
    obtain ⟨ks, ws, k, dv, e, rfl, hk, q⟩ := h
    obtain ⟨v, u, rfl, rv, ru⟩ := rpl2 rs
    obtain ⟨a, ob, kvs, us, rfl, h1, h2, h3, h4, h5⟩ := dic_of hm e ro
    have q1 : ∀ d z, valD ks ws k = some d → Rp K H r d z → Q z H := fun d z e1 rz => by
      rw [e1] at q
      exact (hP _ _ q).here rz hm
    have q2 : valD ks ws k = none → Q u H := fun e1 => by
      rw [e1] at q
      exact (hP _ _ q).here ru hm
    rcases hk with hk | hk
    · exact .inl ⟨r, k, ks, ws, a, ob, kvs, us, v, u, rfl, rfl, h1, h2, h3, h4, h5, rv, hk, q1, q2⟩
    · exact .inr ⟨r, k, ks, ws, a, v, u, rfl, rfl, ⟨ob, kvs, us, h1, h2, h3, h4, h5⟩, rv, hk, q1, q2⟩
theorem dm_le {K : Kx} {f : Dm} {wo wa : WE} {σ : L2.St} {H : Hp} {Q : VK} (q : LE K (wDm f wo wa) σ H Q) : tDM K (rDm K f) (LE K wo) (LA K wa) σ H Q := by
  obtain ⟨sl, r, m, P, hs, hm, hw, hP⟩ := q
  refine ⟨sl, r, m, _, hs, hm, hw, fun x m1 ⟨⟨⟨ks, ws⟩, e⟩, q1⟩ v r1 H1 e1 p1 rv hm1 => ?_⟩
  obtain ⟨a, ob, kvs, us, rfl, h1, h2, h3, h4, h5⟩ := dic_of hm1 e rv
  refine ⟨⟨a, ob, rfl, h1, h3.1⟩, sl, r1, m1, _, hs.ext e1 p1, hm1, q1, fun y m2 ⟨ys, e, q2⟩ => ⟨ys, e, fun vs r2 H2 e2 p2 ry hm2 => ?_⟩⟩
  exact dm_ok f (Rp.ext e2 p2 _ _ rv) ry hm2 q2 fun d m' hp => (hP d m' hp).mono (e1.trans e2) (p1.trans p2)
theorem s_dm (C : Cok X sc N top cN fN G k) (f : Dm) {o e : Expr} {es : List Expr} {apos cpos : Pos} {wo wa : WE} (ho : PE X o (LE X.kx wo)) (ha : PA X (e :: es) (LA X.kx wa)) (hn : isname o = true) (hl : (apos.endLine == cpos.line) = true) (hs : nostar e = true) (hss : es.all nostar = true) (h20 : es.length < 20) :
    PE X (.Call (.Attribute o (dmN f) apos) (e :: es) [] cpos) (LE X.kx (wDm f wo wa)) := by
  obtain ⟨m1, m2, m3⟩ := dm_meth (X := X) C.hu f
  exact PEm (pe_dm m1 m2 m3 ho ha (base_name hn) (few_ok hs hss h20) hl (star_cons hs) (star_any hss)) fun σ H Q q => dm_le q
/-! a new dict; what is told stays as it is -/
theorem s_dnew {pos : Pos} : PE X (.Dict [] [] pos) (LE X.kx fun _ m P => P (.dloc m.length) (m ++ [.dic [] []])) :=
  PEm pe_dnew fun σ H Q ⟨sl, r, m, P, hs, hm, hw, hP⟩ p o hp hsy S => (hP _ _ hw).dicNew S rfl rfl hm hp hsy
theorem s_dii {e : Expr} {a b : Int} (h : PE X e (tDii X.kx a b)) : PE X e (LE X.kx fun _ m P => P (.dloc m.length) (m ++ [.dic [.int a] [.int b]])) :=
  PEm h fun σ H Q ⟨sl, r, m, P, hs, hm, hw, hP⟩ => fun p o hp hsy S => (hP _ _ hw).dicNew S ⟨_, _, rfl, rfl, rfl⟩ ⟨_, _, rfl, rfl, rfl⟩ hm hp hsy
theorem s_dis {e : Expr} {x : Str} {i : Nat} (h : PE X e (tDis X.kx x i)) : PE X e (LE X.kx fun sl m P => ∃ d, sl[i]? = some (some d) ∧ P (.dloc m.length) (m ++ [.dic [.str x] [d]])) :=
  PEm h fun σ H Q ⟨sl, r, m, P, hs, hm, ⟨d, hd, hw⟩, hP⟩ => by
    obtain ⟨v, hv, rv⟩ := hs.at_ i d hd
    exact ⟨v, hv, fun p o hp hsy S => (hP _ _ hw).dicNew S ⟨_, _, rfl, rfl, rfl⟩ ⟨_, _, rfl, rv, rfl⟩ hm hp hsy⟩
theorem s_fz {e : Expr} {wa : WE} (h : PE X e (LE X.kx wa)) : PE X e (LE X.kx fun sl m P => wa sl m fun x m1 => ∃ n ob, plc x = some n ∧ m1[n]? = some ob ∧ fzOk x ob = true ∧ P (fzO ob) (m1.set n (.gone (fzO ob)))) :=
  PEm (pe_fz h) fun σ H Q q => by
    obtain ⟨sl, r, m, P, hs, hm, hw, hP⟩ := q
    refine ⟨sl, r, m, _, hs, hm, hw, fun x m1 ⟨n, ob, hx, at1, hok, q1⟩ v r1 H1 e1 p1 rv hm1 => ?_⟩
    have hv : ∃ a, r1[n]? = some a ∧ v = .ref a := by
      cases x with
      | loc n' => cases hx; exact rv
      | dloc n' => cases hx; exact rv
      | _ => cases hx
    obtain ⟨a, ra, rfl⟩ := hv
    have go : ∀ (u : HO) (od : Obj), H1 a = some u → ObK H1 a → Rp X.kx (upd H1 a (.frz od u)) r1 (fzO ob) (.ref a) → Q (.ref a) (upd H1 a (.frz od u)) := fun u od hu hk g =>
      (hP _ _ q1) _ r1 _ (e1.trans (ext_writeO hk)) p1 g (hm1.writeO ra hk ⟨g, _, upd_same⟩)
    have ob1 := hm1.ob n a ob ra at1
    cases ob with
    | lst xs =>
      obtain ⟨vs, h1, h2⟩ := ob1
      refine ⟨a, _, rfl, h1, trivial, fun od _ => go _ od h1 (.inl ⟨_, h1⟩) ⟨a, vs, rfl, .inl ⟨od, upd_same⟩, RpL.ext (ext_writeO (.inl ⟨_, h1⟩)) (Pre.refl _) _ _ h2⟩⟩
    | dic ks vs =>
      obtain ⟨o, kvs, us, h1, h2, h3, h4, h5⟩ := ob1
      have hk : ObK H1 a := .inr (.inl ⟨_, h1⟩)
      refine ⟨a, _, rfl, h1, trivial, fun od ho => ?_⟩
      have e2 := ho o rfl
      subst e2
      exact go _ od h1 hk ⟨a, od, kvs, us, rfl, .inl ⟨_, upd_same⟩, h2, h3, RpL.ext (ext_writeO hk) (Pre.refl _) _ _ h4, RpL.ext (ext_writeO hk) (Pre.refl _) _ _ h5⟩
    | ins C ns fs =>
      obtain ⟨c, dx, us, hc, h1, h2, h3, h4⟩ := ob1
      have hk : ObK H1 a := .inr (.inr ⟨_, _, _, h1⟩)
      exact ⟨a, _, rfl, h1, trivial, fun od _ => go _ od h1 hk ⟨a, od, c, dx, us, rfl, hc, upd_same, (ext_writeO hk).own _ _ h2, h3, RpL.ext (ext_writeO hk) (Pre.refl _) _ _ h4⟩⟩
    | gone d => cases x <;> cases hok
/-! isinstance -/
theorem s_isi (C : Cok X sc N top cN fN G k) {T : String} {e : Expr} {p p2 pos : Pos} {wa : WE} (hT : (["int", "bool", "tuple", "str", "list"] : List String).contains T = true) (hg : glb sc "isinstance" = true) (hg2 : glb sc (PySem.Str.ofString T) = true) (ha : PE X e (LE X.kx wa)) (hn : nostar e = true) :
    PE X (.Call (.Name "isinstance" p) [e, .Name (PySem.Str.ofString T) p2] [] pos) (LE X.kx fun sl m P => wa sl m fun x m1 => ∃ b, notTy x = true ∧ locOk m1 x ∧ kitB (tyD x) T = some b ∧ P (.bl b) m1) := by
  have g := C.gl hg
  have g2 := C.gl hg2
  have mg := C.mgb (x := "isinstance") (by decide +kernel)
  have hT' : T = "int" ∨ T = "bool" ∨ T = "tuple" ∨ T = "str" ∨ T = "list" := by simpa using hT
  have facts : PySem.Str.ofString T ∈ bnames ∧ bootBuiltins (PySem.Str.ofString T) = some (.type T) ∧ PySem.Str.ofString T ≠ "__name__" ∧ (PySem.Str.ofString T == ("__debug__" : Str)) = false := by
    rcases hT' with rfl | rfl | rfl | rfl | rfl <;> exact ⟨by decide +kernel, by decide +kernel, by decide +kernel, by decide +kernel⟩
  have ht : PE X (.Name (PySem.Str.ofString T) p2) (tC (.ty T)) := pe_bltn g2 (C.mgb facts.1) facts.2.1 rfl facts.2.2.1 facts.2.2.2
  refine PEm (pe_callB call_isiY g mg (by decide +kernel) (pa_cons ha (pa_cons ht pa_nil) (star_cons hn)) (by decide) (by decide) (star_cons hn) rfl) fun σ H Q q => ?_
  obtain ⟨sl, r, m, P, hs, hm, hw, hP⟩ := q
  refine ⟨sl, r, m, _, hs, hm, hw, fun x m1 ⟨b, hx, hl, hk, q1⟩ v r1 H1 e1 p1 rv hm1 => ?_⟩
  refine ⟨v, .ty T, .type (tyD x), .type T, b, rfl, .ty T, rp_ty hm1 rv hx hl, kit_ty hk, ((hP _ _ q1).mono e1 p1).here rfl hm1⟩
theorem kitL_any {K : PySem.W.Frag} {a : String} : ∀ {Ts : List String} {b : Bool}, kitL a Ts = some b → PySem.W.kitAny K (.type a) (Ts.map Value.type) = some b
  | [], b, h => by cases h; rfl
  | T :: Ts, b, h => by
    unfold kitL at h
    cases q : kitB a T with
    | none => rw [q] at h; cases h
    | some t =>
      rw [q] at h
      cases t with
      | true => cases h; exact kitAny_cons (kit_ty q) (fun e => nomatch e) fun _ => rfl
      | false => exact kitAny_cons (kit_ty q) (fun _ => kitL_any h) fun e => nomatch e
theorem type_pe (C : Cok X sc N top cN fN G k) {T : String} {t : Str} {p : Pos} (h1 : t = PySem.Str.ofString T) (h2 : (["int", "bool", "tuple", "str", "list", "dict"] : List String).contains T = true) (h3 : glb sc t = true) : PE X (.Name t p) (tC (.ty T)) := by
  subst h1
  have hT' : T = "int" ∨ T = "bool" ∨ T = "tuple" ∨ T = "str" ∨ T = "list" ∨ T = "dict" := by simpa using h2
  have facts : PySem.Str.ofString T ∈ bnames ∧ bootBuiltins (PySem.Str.ofString T) = some (.type T) ∧ PySem.Str.ofString T ≠ "__name__" ∧ (PySem.Str.ofString T == ("__debug__" : Str)) = false := by
    rcases hT' with rfl | rfl | rfl | rfl | rfl | rfl <;> exact ⟨by decide +kernel, by decide +kernel, by decide +kernel, by decide +kernel⟩
  exact pe_bltn (C.gl h3) (C.mgb facts.1) facts.2.1 rfl facts.2.2.1 facts.2.2.2
theorem types_pa (C : Cok X sc N top cN fN G k) : ∀ (Ts : List String) (es : List Expr), typesOk sc Ts es = true → PA X es (fun _ H Q => Q (Ts.map V.ty) H)
  | [], [], _ => pa_nil
  | T :: Ts, e :: es, h => by
    cases e with
    | Name t p =>
      unfold typesOk at h
      rw [Bool.and_eq_true, Bool.and_eq_true, Bool.and_eq_true] at h
      obtain ⟨⟨⟨h1, h2⟩, h3⟩, h4⟩ := h
      exact PAm (pa_cons (type_pe C (of_decide_eq_true h1) h2 h3) (types_pa C Ts es h4) rfl) fun σ H Q q => q
    | _ => exact absurd (show false = true from h) Bool.false_ne_true
  | [], _ :: _, h => by cases h
  | T :: Ts, [], h => by cases h
theorem clsV_all : ∀ Ts : List String, Paired ClsV (Ts.map V.ty) (Ts.map Value.type)
  | [] => .nil
  | T :: Ts => .cons (.ty T) (clsV_all Ts)
theorem s_isT (C : Cok X sc N top cN fN G k) {Ts : List String} {e : Expr} {es : List Expr} {kk : Nat} {p p2 pos : Pos} {wa : WE} (hT : typesOk sc Ts es = true) (hz : Ts.length ≤ sizeLine) (hg : glb sc "isinstance" = true) (ha : PE X e (LE X.kx wa)) (hn : nostar e = true) :
    PE X (.Call (.Name "isinstance" p) [e, .Tuple es kk p2] [] pos) (LE X.kx fun sl m P => wa sl m fun x m1 => ∃ b, notTy x = true ∧ locOk m1 x ∧ kitL (tyD x) Ts = some b ∧ P (.bl b) m1) := by
  have g := C.gl hg
  have mg := C.mgb (x := "isinstance") (by decide +kernel)
  refine PEm (pe_callB call_isiTY g mg (by decide +kernel) (pa_cons ha (pa_cons (pe_tup (types_pa C Ts es hT)) pa_nil rfl) (star_cons hn)) (by decide) (by decide) (star_cons hn) rfl) fun σ H Q q => ?_
  obtain ⟨sl, r, m, P, hs, hm, hw, hP⟩ := q
  refine ⟨sl, r, m, _, hs, hm, hw, fun x m1 ⟨b, hx, hl, hk, q1⟩ v r1 H1 e1 p1 rv hm1 => ?_⟩
  refine ⟨by rw [List.length_map]; exact hz, fun tp htp => ?_⟩
  have sm : Same H1 (upd H1 tp (.tup (Ts.map V.ty))) := same_new htp
  have hm2 := hm1.same sm
  exact ⟨v, tp, Ts.map V.ty, .type (tyD x), Ts.map Value.type, b, rfl, upd_same, clsV_all Ts, rp_ty hm2 (Rp.ext (Ext.same sm) (Pre.refl _) _ _ rv) hx hl, kitL_any hk, ((hP _ _ q1).mono (e1.trans (Ext.same sm)) p1).here rfl hm2⟩
/-! calls -/
/-- a class called: its __init__ on the new instance -/
theorem mk_ok {K : Kx} {H1 : Hp} {r1 : List Addr} {m1 : Mu} {n : Str} {c x dx : Addr} {xs dds : List D} {vs dvs : List V} {sp0 : ASp} {P : D → Mu → Prop} {Q : VK} (hc : glA K n = some c) (rx : RpL K H1 r1 xs vs) (rd : RpL K H1 r1 dds dvs) (hm : RMu K H1 r1 m1)
    (hx : H1 x = none) (hdx : H1 dx = none) (ne : dx ≠ x) (q : mkSp n sp0 (xs ++ dds) m1 P) (hP : ∀ d m', P d m' → Fin K H1 r1 Q d m') :
    SpOf K sp0 (.ref x :: (vs ++ dvs)) (upd (upd H1 dx (.own x)) x (.ins c dx [])) (fun v H2 => v = .non ∧ Q (.ref x) H2) fun _ _ _ => False := by
  have s1 : Same H1 (upd H1 dx (.own x)) := same_new hdx
  have hx' : upd H1 dx (.own x) x = none := by rw [upd_ne (Ne.symm ne)]; exact hx
  have s2 : Same (upd H1 dx (.own x)) (upd (upd H1 dx (.own x)) x (.ins c dx [])) := same_new hx'
  have e12 := (Ext.same s1).trans (Ext.same s2)
  have hm2 := (hm.same s1).newO (p := x) (ho := .ins c dx []) (ob := .ins n [] []) hx' ⟨c, dx, [], hc, upd_same, by rw [upd_ne ne, upd_same], rfl, rfl⟩
  have hl : (r1 ++ [x])[m1.length]? = some x := by rw [← hm.len, List.getElem?_append_right (Nat.le_refl _), Nat.sub_self]; rfl
  have hds : RpL K _ (r1 ++ [x]) (.loc m1.length :: (xs ++ dds)) (.ref x :: (vs ++ dvs)) := ⟨.ref x, vs ++ dvs, rfl, ⟨x, hl, rfl⟩, RpL.ext e12 (Pre.app r1 [x]) _ _ (rx.append rd)⟩
  refine ⟨_, r1 ++ [x], _, _, hds, hm2, q, fun d m' ⟨ed, hp⟩ v r' H' e p rv hm' => ?_⟩
  subst ed
  exact ⟨rv, hP _ _ hp _ r' H' (e12.trans e) ((Pre.app r1 [x]).trans p) ⟨x, p _ _ hl, rfl⟩ hm'⟩
theorem s_call (C : Cok X sc N top cN fN G k) {j : Nat} {x : Str} {e : Expr} {es : List Expr} {p pos : Pos} {wa : WE} (hg : glb sc x = true) (hj : fN[j]? = some x) (ha : PA X (e :: es) (LA X.kx wa)) (hn : nostar e = true) (hns : es.all nostar = true) (hd : (!dbg x) = true) :
    PE X (.Call (.Name x p) (e :: es) [] pos) (LE X.kx fun sl m P => wa sl m fun y m1 => ∃ xs n sp, y = .tup xs ∧ G.fns[j]? = some (n, sp) ∧ sp xs m1 P) := by
  rw [← C.hf, List.getElem?_map] at hj
  cases q : G.fns[j]? with
  | none => rw [q] at hj; cases hj
  | some ns =>
    obtain ⟨n, sp⟩ := ns
    rw [q] at hj
    have e1 : n = x := Option.some.inj hj
    subst e1
    rcases (C.fns j n sp q).ex with ⟨_, ⟨f, fd, ps, ds, dvs, dds, sp0, h1, hgl, h2, h3, hdv, hdd, h4, h5⟩⟩ | ⟨_, ⟨c, f, fd, ps, ds, dvs, dds, sp0, j', h1, hgl, M, h3, hdv, hdd, h4, hjk, h5⟩⟩
    · refine PEm (pe_call h4 C.room (C.gl hg) h1 h2 h3 hdv pass0 ha (dbg_no hd).1 (star_cons hn) (star_any hns)) fun σ H Q z => ?_
      obtain ⟨sl, r, m, P, hs, hm, hw, hP⟩ := z
      refine ⟨sl, r, m, _, hs, hm, hw, fun y m1 ⟨xs, n', sp', ey, en, q1⟩ => ⟨xs, ey, fun vs r1 H1 e1 p1 rx hm1 => ?_⟩⟩
      cases en
      exact ⟨xs ++ dds, r1, m1, P, rx.append (hdd H1 r1), hm1, h5 _ _ _ q1, fun d m' hp => (hP d m' hp).mono e1 p1⟩
    · refine PEm (pe_make M h4 (C.room.mono hjk) (C.gl hg) h1 h3 hdv pass0 ha (dbg_no hd).1 (star_cons hn) (star_any hns)) fun σ H Q z => ?_
      obtain ⟨sl, r, m, P, hs, hm, hw, hP⟩ := z
      refine ⟨sl, r, m, _, hs, hm, hw, fun y m1 ⟨xs, n', sp', ey, en, q1⟩ => ⟨xs, ey, fun vs r1 H1 e1 p1 rx hm1 x dx hx hdx ne => ?_⟩⟩
      cases en
      exact mk_ok hgl rx (hdd H1 r1) hm1 hx hdx ne (h5 _ _ _ q1) fun d m' hp => (hP d m' hp).mono e1 p1
theorem s_call0 (C : Cok X sc N top cN fN G k) {j : Nat} {x : Str} {p pos : Pos} (hg : glb sc x = true) (hj : fN[j]? = some x) (hd : (!dbg x) = true) :
    PE X (.Call (.Name x p) [] [] pos) (LE X.kx fun sl m P => ∃ xs n sp, D.tup [] = .tup xs ∧ G.fns[j]? = some (n, sp) ∧ sp xs m P) := by
  rw [← C.hf, List.getElem?_map] at hj
  cases q : G.fns[j]? with
  | none => rw [q] at hj; cases hj
  | some ns =>
    obtain ⟨n, sp⟩ := ns
    rw [q] at hj
    have e1 : n = x := Option.some.inj hj
    subst e1
    rcases (C.fns j n sp q).ex with ⟨_, ⟨f, fd, ps, ds, dvs, dds, sp0, h1, hgl, h2, h3, hdv, hdd, h4, h5⟩⟩ | ⟨_, ⟨c, f, fd, ps, ds, dvs, dds, sp0, j', h1, hgl, M, h3, hdv, hdd, h4, hjk, h5⟩⟩
    · refine PEm (pe_call0 h4 C.room (C.gl hg) h1 h2 h3 hdv pass0 (dbg_no hd).1) fun σ H Q z => ?_
      obtain ⟨sl, r, m, P, hs, hm, ⟨xs, n', sp', ey, en, q1⟩, hP⟩ := z
      cases en
      cases ey
      exact ⟨dds, r, m, P, hdd H r, hm, h5 _ _ _ q1, fun d m' hp => hP d m' hp⟩
    · refine PEm (pe_make0 M h4 (C.room.mono hjk) (C.gl hg) h1 h3 hdv pass0 (dbg_no hd).1) fun σ H Q z => ?_
      obtain ⟨sl, r, m, P, hs, hm, ⟨xs, n', sp', ey, en, q1⟩, hP⟩ := z
      cases en
      cases ey
      exact fun x dx hx hdx ne => mk_ok hgl (show RpL X.kx H r [] [] from rfl) (hdd H r) hm hx hdx ne (h5 _ _ _ q1) hP
/-- a def that a local holds -/
theorem s_cv (C : Cok X sc N top cN fN G k) {i : Nat} {x : Str} {e : Expr} {es : List Expr} {p pos : Pos} {wa : WE} (hN : decide (N[i]? = some x) = true) (hv : Ab.vis sc x = true) (ha : PA X (e :: es) (LA X.kx wa)) (hn : nostar e = true) (hns : es.all nostar = true) (hd : (!dbg x) = true) :
    PE X (.Call (.Name x p) (e :: es) [] pos) (LE X.kx fun sl m P => ∃ (n : Str) (k : Nat) (sp : ASp), sl[i]? = some (some (.fn n)) ∧ clsN n = false ∧ G.fns[k]? = some (n, sp) ∧ wa sl m fun y m1 => ∃ ys, y = .tup ys ∧ sp ys m1 P) := by
  refine ⟨fun pins s σ H Q I z => ?_⟩
  obtain ⟨sl, r, m, P, hs, hm, ⟨n, kk, sp, e1, e2, e3, hw⟩, hP⟩ := z
  rcases (C.fns kk n sp e3).ex with ⟨_, ⟨f, fd, ps, ds, dvs, dds, sp0, h1, hgl, h2, h3, hdv, hdd, h4, h5⟩⟩ | ⟨e4, _⟩
  · obtain ⟨v, hv', ⟨f', rfl, hf'⟩⟩ := hs.at_ i _ e1
    rw [hgl] at hf'
    cases hf'
    obtain ⟨d1, d2, _⟩ := dbg_no hd
    refine (pe_callL (i := i) (E := fun _ _ _ => False) h4 C.room (C.at_ hN) (C.vis hv) h2 h3 hdv (fun _ _ _ _ _ _ _ z => z.elim) ha d1 d2 (star_cons hn) (star_any hns)).run pins s σ H Q I ⟨hv', ?_⟩
    refine ⟨sl, r, m, _, hs, hm, hw, fun y m1 ⟨xs, ey, q1⟩ => ⟨xs, ey, fun vs r1 H1 e1 p1 rx hm1 => ?_⟩⟩
    exact ⟨xs ++ dds, r1, m1, P, rx.append (hdd H1 r1), hm1, h5 _ _ _ q1, fun d m' hp => (hP d m' hp).mono e1 p1⟩
  · rw [e2] at e4; cases e4
/-- a def that an expression tells -/
theorem ce_at (C : Cok X sc N top cN fN G k) {fe : Expr} {wf : WE} {R : Str → Nat → ASp → Mu → (D → Mu → Prop) → Prop} (hf : PE X fe (LE X.kx wf)) {pins : List (Addr × Obj)} {s : Shared} {σ : L2.St} {H : Hp} {r : List Addr} {m : Mu} {sl : Sl} {P : D → Mu → Prop} (I : Inv X pins σ H s) (hs : RSl X.kx H r sl σ) (hm : RMu X.kx H r m)
    (hw : wf sl m fun x m1 => ∃ (n : Str) (kk : Nat) (sp : ASp), x = .fn n ∧ clsN n = false ∧ G.fns[kk]? = some (n, sp) ∧ R n kk sp m1 P) :
    wpAny (model X.prog X.w) X.A (eval fe X.env) (EP X pins σ fun v H1 => ∃ (n : Str) (kk : Nat) (sp : ASp) (r1 : List Addr) (m1 : Mu), Rp X.kx H1 r1 (.fn n) v ∧ clsN n = false ∧ G.fns[kk]? = some (n, sp) ∧ Ext H H1 ∧ Pre r r1 ∧ RMu X.kx H1 r1 m1 ∧ R n kk sp m1 P) X.xe s :=
  hf.run pins s σ H _ I ⟨sl, r, m, _, hs, hm, hw, fun x m1 ⟨n, kk, sp, ex, h2, h3, h4⟩ v r1 H1 e1 p1 rv hm1 => ⟨n, kk, sp, r1, m1, by subst ex; exact rv, h2, h3, e1, p1, hm1, h4⟩⟩
theorem s_ce (C : Cok X sc N top cN fN G k) {fe e : Expr} {es : List Expr} {pos : Pos} {wf wa : WE} (hf : PE X fe (LE X.kx wf)) (ht : eval (.Call fe (e :: es) [] pos) X.env = (do callWith pos (← eval fe X.env) [] (backTo pos (starEach (e :: es) X.env)) (backToKw pos (keywordEach [] X.env)))) (ha : PA X (e :: es) (LA X.kx wa)) (hn : nostar e = true) (hns : es.all nostar = true) :
    PE X (.Call fe (e :: es) [] pos) (LE X.kx fun sl m P => wf sl m fun x m1 => ∃ (n : Str) (k : Nat) (sp : ASp), x = .fn n ∧ clsN n = false ∧ G.fns[k]? = some (n, sp) ∧ wa sl m1 fun y m2 => ∃ ys, y = .tup ys ∧ sp ys m2 P) := by
  refine ⟨fun pins s σ H Q I z => ?_⟩
  obtain ⟨sl, r, m, P, hs, hm, hw, hP⟩ := z
  refine Call_ (thn (ce_at C (R := fun _ _ sp m1 P => wa sl m1 fun y m2 => ∃ ys, y = .tup ys ∧ sp ys m2 P) hf I hs hm hw) fun u s1 ⟨v, H1, I1, ru, n, kk, sp, r1, m1, rv, e2, e3, ext, pre, hm1, hw2⟩ => ?_) ht
  rcases (C.fns kk n sp e3).ex with ⟨_, ⟨f, fd, ps, ds, dvs, dds, sp0, h1, hgl, h2, h3, hdv, hdd, h4, h5⟩⟩ | ⟨e4, _⟩
  · obtain ⟨f', rfl, hf'⟩ := rv
    rw [hgl] at hf'
    cases hf'
    obtain rfl : u = Value.ref f := ru
    have hA : LA X.kx wa σ H1 (fun vs H2 => SpOf X.kx sp0 (vs ++ dvs) H2 Q (fun _ _ _ => False)) := ⟨sl, r1, m1, _, hs.ext ext pre, hm1, hw2, fun y m2 ⟨xs, ey, q1⟩ => ⟨xs, ey, fun vs r2 H2 e2' p2 rx hm2 => ⟨xs ++ dds, r2, m2, P, rx.append (hdd H2 r2), hm2, h5 _ _ _ q1, fun d m' hp => (hP d m' hp).mono (ext.trans e2') (pre.trans p2)⟩⟩⟩
    exact PySem.W.callWith_K (h₀ := X.base) I1.ok.mod.kin h2 (thn (ha.run pos pins s1 σ H1 _ I1 hA) fun us s2 ⟨vs, H2, I2, rr, q⟩ => ⟨I2.kIn, run_fn (E := fun _ _ _ => False) h4 C.room h3 hdv (fun _ _ _ _ _ _ _ z => z.elim) I2 rr q⟩) (star_cons hn) (star_any hns)
  · rw [e2] at e4; cases e4
theorem s_ce0 (C : Cok X sc N top cN fN G k) {fe : Expr} {pos : Pos} {wf : WE} (hf : PE X fe (LE X.kx wf)) (ht : eval (.Call fe [] [] pos) X.env = (do callWith pos (← eval fe X.env) [] (backTo pos (starEach [] X.env)) (backToKw pos (keywordEach [] X.env)))) :
    PE X (.Call fe [] [] pos) (LE X.kx fun sl m P => wf sl m fun x m1 => ∃ (n : Str) (k : Nat) (sp : ASp), x = .fn n ∧ clsN n = false ∧ G.fns[k]? = some (n, sp) ∧ sp [] m1 P) := by
  refine ⟨fun pins s σ H Q I z => ?_⟩
  obtain ⟨sl, r, m, P, hs, hm, hw, hP⟩ := z
  refine Call_ (thn (ce_at C (R := fun _ _ sp m1 P => sp [] m1 P) hf I hs hm hw) fun u s1 ⟨v, H1, I1, ru, n, kk, sp, r1, m1, rv, e2, e3, ext, pre, hm1, q1⟩ => ?_) ht
  rcases (C.fns kk n sp e3).ex with ⟨_, ⟨f, fd, ps, ds, dvs, dds, sp0, h1, hgl, h2, h3, hdv, hdd, h4, h5⟩⟩ | ⟨e4, _⟩
  · obtain ⟨f', rfl, hf'⟩ := rv
    rw [hgl] at hf'
    cases hf'
    obtain rfl : u = Value.ref f := ru
    exact PySem.W.callWith_K0 I1.kIn h2 (run_fn (us := []) (E := fun _ _ _ => False) h4 C.room h3 hdv (fun _ _ _ _ _ _ _ z => z.elim) I1 .nil ⟨dds, r1, m1, P, hdd H1 r1, hm1, h5 _ _ _ q1, fun d m' hp => (hP d m' hp).mono ext pre⟩)
  · rw [e2] at e4; cases e4
/-- a field read -/
theorem s_fld (C : Cok X sc N top cN fN G k) {x : Expr} {f : Str} {pos : Pos} {wa : WE} (ha : PE X x (LE X.kx wa)) (hn : isname x = true) : PE X (.Attribute x f pos) (LE X.kx fun sl m P => wa sl m fun x m1 => ∃ C ns fs d, insOf m1 x = some (C, ns, fs) ∧ hasFld C f = true ∧ fldV ns fs f = some d ∧ P d m1) := by
  refine PEm (pe_fldA ha (base_name hn)) fun σ H Q z => ?_
  obtain ⟨sl, r, m, P, hs, hm, hw, hP⟩ := z
  refine ⟨sl, r, m, _, hs, hm, hw, fun y m1 ⟨Cn, ns, fs, d, e1, e2, e3, q⟩ v r1 H1 e p rv hm1 => ?_⟩
  obtain ⟨a, c, dx, us, rfl, hc, hi, hl, hf⟩ := ins_of hm1 e1 rv
  obtain ⟨c1, c2⟩ := C.cls Cn f c hc e2
  rcases fld_look (f := f) hl hf with ⟨g1, _⟩ | ⟨d', v', g1, g2, g3⟩
  · rw [e3] at g1; cases g1
  · rw [e3] at g1; cases g1
    exact ⟨a, c, dx, _, v', rfl, hi, c1, c2, g2, ((hP _ _ q).mono e p).here g3 hm1⟩
/-- a method called -/
def wMth (G : Gm) (n : Str) (j : Nat) (wo wa : WE) : WE := fun sl m P => ∃ (C : Str) (sp : ASp), G.ms[j]? = some ((C, n), sp) ∧ wo sl m fun x m1 => ∃ ns fs, insOf m1 x = some (C, ns, fs) ∧ ns.contains n = false ∧ wa sl m1 fun y m2 => ∃ ys, y = .tup ys ∧ sp (x :: ys) m2 P
theorem s_mth (C : Cok X sc N top cN fN G k) {n : Str} {j : Nat} {o e : Expr} {es : List Expr} {apos pos : Pos} {wo wa : WE} (ho : PE X o (LE X.kx wo)) (hi : isname o = true) (hl : (apos.endLine == pos.line) = true) (ha : PA X (e :: es) (LA X.kx wa)) (hn : nostar e = true) (hns : es.all nostar = true) (h20 : es.length < 20) :
    PE X (.Call (.Attribute o n apos) (e :: es) [] pos) (LE X.kx (wMth G n j wo wa)) := by
  refine ⟨fun pins s σ H Q I z => ?_⟩
  obtain ⟨sl, r, m, P, hs, hm, ⟨Cn, sp, e1, hw⟩, hP⟩ := z
  obtain ⟨c, g, fd, ps, hc, hcl, hme, hb, hf⟩ := (C.ms j Cn n sp e1).ex
  refine (pe_methA ho (base_name hi) (few_ok hn hns h20) hl hcl hme hf C.room hb ha (star_cons hn) (star_any hns)).run pins s σ H Q I ?_
  refine ⟨sl, r, m, _, hs, hm, hw, fun x m1 ⟨ns, fs, h1, h2, q1⟩ v r1 H1 e1 p1 rv hm1 => ?_⟩
  obtain ⟨a, c', dx, us, rfl, hc', hia, hl', hfs⟩ := ins_of hm1 h1 rv
  rw [hc] at hc'
  cases hc'
  refine ⟨a, dx, _, rfl, hia, no_look h2, sl, r1, m1, _, hs.ext e1 p1, hm1, q1, fun y m2 ⟨ys, ey, q2⟩ => ⟨ys, ey, fun vs r2 H2 e2 p2 rx hm2 => ?_⟩⟩
  exact ⟨x :: ys, r2, m2, P, ⟨_, _, rfl, Rp.ext e2 p2 _ _ rv, rx⟩, hm2, q2, fun d m' hp => (hP d m' hp).mono (e1.trans e2) (p1.trans p2)⟩
theorem s_mth0 (C : Cok X sc N top cN fN G k) {n : Str} {j : Nat} {o : Expr} {apos pos : Pos} {wo : WE} (ho : PE X o (LE X.kx wo)) (hi : isname o = true) (hl : (apos.endLine == pos.line) = true) :
    PE X (.Call (.Attribute o n apos) [] [] pos) (LE X.kx (wMth G n j wo fun _ m P => P (.tup []) m)) := by
  refine ⟨fun pins s σ H Q I z => ?_⟩
  obtain ⟨sl, r, m, P, hs, hm, ⟨Cn, sp, e1, hw⟩, hP⟩ := z
  obtain ⟨c, g, fd, ps, hc, hcl, hme, hb, hf⟩ := (C.ms j Cn n sp e1).ex
  refine (pe_methA0 ho (base_name hi) hl hcl hme hf C.room hb).run pins s σ H Q I ?_
  refine ⟨sl, r, m, _, hs, hm, hw, fun x m1 ⟨ns, fs, h1, h2, q1⟩ v r1 H1 e1 p1 rv hm1 => ?_⟩
  obtain ⟨a, c', dx, us, rfl, hc', hia, hl', hfs⟩ := ins_of hm1 h1 rv
  rw [hc] at hc'
  cases hc'
  obtain ⟨ys, ey, q2⟩ := q1
  cases ey
  exact ⟨a, dx, _, rfl, hia, no_look h2, [x], r1, m1, P, ⟨_, [], rfl, rv, rfl⟩, hm1, q2, fun d m' hp => (hP d m' hp).mono e1 p1⟩
/-- x or y, by truth -/
theorem s_orv {x y : Expr} {pos : Pos} {wa wb : WE} (ha : PE X x (LE X.kx wa)) (hb : PE X y (LE X.kx wb)) : PE X (.BoolOp .Or [x, y] pos) (LE X.kx fun sl m P => wa sl m fun d m1 => ∃ t, truD m1 d = some t ∧ if t = true then P d m1 else wb sl m1 P) := by
  refine PEm (pe_orT ha (pe_one hb)) fun σ H Q q => ?_
  obtain ⟨sl, rr, m, P, hs, hm, hw, hP⟩ := q
  refine ⟨sl, rr, m, _, hs, hm, hw, fun d m1 ⟨t, et, q1⟩ v r1 H1 e1 p1 rv hm1 => ⟨t, tru_of hm1 rv et, ?_⟩⟩
  cases t with
  | true =>
    rw [if_pos rfl] at q1 ⊢
    exact ((hP _ _ q1).mono e1 p1).here rv hm1
  | false =>
    rw [if_neg Bool.false_ne_true] at q1 ⊢
    exact ⟨sl, r1, m1, P, hs.ext e1 p1, hm1, q1, fun d m' hp => (hP d m' hp).mono e1 p1⟩
/-! what is walked -/
theorem Ext.of_same {H H' : Hp} (h : Same H H') : Ext H H' := Ext.same h
theorem itOk_seqL {K : Kx} {H : Hp} {r : List Addr} {m : Mu} {d : D} {xs : List D} {a : Addr} {vs : List V} (hm : RMu K H r m) (e : seqOf m d = some xs) (rd : Rp K H r d (.ref a)) (g : RpL K H r xs vs) (hs : SqL K H a vs) (hd : ∀ ys, d ≠ .tup ys) :
    ∀ r2 H2 m2, Ext H H2 → Pre r r2 → RMu K H2 r2 m2 → guard d xs m2 → ∃ us, SqL K H2 a us ∧ RpL K H2 r2 xs us := by
  intro r2 H2 m2 ex pr hm2 gd
  cases d with
  | tup ys => exact absurd rfl (hd ys)
  | ro ys =>
    obtain ⟨b, us, e1, h1, h2⟩ := rd
    cases e1
    cases e
    exact ⟨us, (sqF_ext ex h1).sq, RpL.ext ex pr _ _ h2⟩
  | loc n =>
    have gd' : m2[n]? = some (.lst xs) := gd
    obtain ⟨b, us, h1, h2, h3⟩ := hm2.at_lst gd'
    obtain ⟨b', g1, e1⟩ := rd
    cases e1
    have := pr n a g1
    rw [h1] at this; cases this
    exact ⟨us, SqL.of h2, h3⟩
  | _ => cases e
theorem itOk_list {K : Kx} {H : Hp} {r : List Addr} {a : Addr} {ys : List D} {Gd : Mu → Prop} (h : ∀ r2 H2 m2, Ext H H2 → Pre r r2 → RMu K H2 r2 m2 → Gd m2 → ∃ us, SqL K H2 a us ∧ RpL K H2 r2 ys us) : ItOk K H r (Itl K a) ys Gd := by
  refine ⟨fun r2 H2 m2 e p hm g => ?_, fun i x r2 H2 m2 e p hm g q => ?_, fun i x r2 H2 m2 v H3 e p hm g q y => ?_⟩
  · obtain ⟨us, h1, h2⟩ := h r2 H2 m2 e p hm g
    exact ⟨us, h1, by rw [h2.length]; exact Nat.le_refl _⟩
  · obtain ⟨us, h1, h2⟩ := h r2 H2 m2 e p hm g
    obtain ⟨v, hv, _⟩ := h2.get q
    exact ⟨us, v, h1, hv⟩
  · obtain ⟨us, h1, h2⟩ := h r2 H2 m2 e p hm g
    obtain ⟨rfl, y2⟩ := y
    obtain ⟨u, hu, ru⟩ := h2.get q
    rw [y2 us h1] at hu; cases hu
    exact ⟨Same.refl _, ru⟩
theorem itOk_tup {K : Kx} {H : Hp} {r : List Addr} {a : Addr} {ys : List D} {Gd : Mu → Prop} {us : List V} (h1 : SqT K H a us) (h2 : RpL K H r ys us) : ItOk K H r (Itt K a) ys Gd := by
  refine ⟨fun r2 H2 m2 e p hm g => ?_, fun i x r2 H2 m2 e p hm g q => ?_, fun i x r2 H2 m2 v H3 e p hm g q y => ?_⟩
  · exact ⟨us, sqT_ext e h1, by rw [h2.length]; exact Nat.le_refl _⟩
  · obtain ⟨v, hv, _⟩ := h2.get q
    exact ⟨us, v, sqT_ext e h1, hv⟩
  · obtain ⟨rfl, y2⟩ := y
    obtain ⟨u, hu, ru⟩ := h2.get q
    rw [y2 us (sqT_ext e h1)] at hu; cases hu
    exact ⟨Same.refl _, Rp.ext e p _ _ ru⟩
def iSeq (K : Kx) (tl : TE) : TI := fun σ H R => tl σ H fun x H1 => ∃ a, x = .ref a ∧ (((∃ xs, SqL K H1 a xs) ∧ R (Itl K a) H1) ∨ ((∃ xs, SqT K H1 a xs) ∧ R (Itt K a) H1))
theorem pi_seq {tg l : Expr} {tl : TE} (hl : PE X l tl) : PI X tg l (iSeq X.kx tl) := by
  refine ⟨fun pins s σ H R I h => ?_⟩
  refine thn (hl.run pins s σ H _ I h) fun v s1 ⟨x, H1, I1, r1, q1⟩ => ?_
  obtain ⟨a, e, q⟩ := q1
  subst e
  cases r1
  rcases q with ⟨⟨xs, hq⟩, q⟩ | ⟨⟨xs, hq⟩, q⟩
  · obtain ⟨its, rv, p, hz⟩ := I1.list hq
    refine wpAny_pyIter_list p.isList ?_
    refine ⟨s1.heap.objs.size, [s1.heap.objs.size], _, _, H1, rfl, I1.kept (t' := s1.toks) fun b o e => Heap.get?_push_of_some _ e, turn_list a _, ⟨_, Heap.get?_push_size _ rfl, rfl, rfl⟩, fun b hb => ?_, q⟩
    have e : b = s1.heap.objs.size := by simpa using hb
    subst e
    exact I1.fpOk (Nat.le_refl _) (I1.hok.fresh (Nat.le_refl _))
  · obtain ⟨its, rv, p, hz⟩ := I1.tuple hq
    refine wpAny_pyIter_tuple (show s1.heap.IsTuple a its.toArray from p) ?_
    refine ⟨s1.heap.objs.size, [s1.heap.objs.size], _, _, H1, rfl, I1.kept (t' := s1.toks) fun b o e => Heap.get?_push_of_some _ e, turn_tuple a _, ⟨_, Heap.get?_push_size _ rfl, rfl, rfl⟩, fun b hb => ?_, q⟩
    have e : b = s1.heap.objs.size := by simpa using hb
    subst e
    exact I1.fpOk (Nat.le_refl _) (I1.hok.fresh (Nat.le_refl _))
theorem PIm {e tg : Expr} {t t' : TI} (h : PI X tg e t) (g : ∀ σ H Q, t' σ H Q → t σ H Q) : PI X tg e t' := ⟨fun pins s σ H R I q => h.run pins s σ H R I (g σ H R q)⟩
theorem sgn_at {z : Str} {i : Nat} {x : D} (h : (sgn z)[i]? = some x) : ∃ c, z.cps[i]? = some c ∧ x = .str ⟨#[c]⟩ := by
  unfold sgn at h
  rw [List.getElem?_map, Array.getElem?_toList] at h
  cases q : z.cps[i]? with
  | none => rw [q] at h; cases h
  | some c => rw [q] at h; cases h; exact ⟨c, rfl, rfl⟩
theorem itOk_str {K : Kx} {H : Hp} {r : List Addr} {z : Str} {Gd : Mu → Prop} : ItOk K H r (Its z) (sgn z) Gd := by
  refine ⟨fun r2 H2 m2 e p hm g => ?_, fun i x r2 H2 m2 e p hm g q => ?_, fun i x r2 H2 m2 v H3 e p hm g q y => ?_⟩
  · show z.cps.size ≤ (sgn z).length
    unfold sgn
    rw [List.length_map, Array.length_toList]
    exact Nat.le_refl _
  · obtain ⟨c, hc, _⟩ := sgn_at q
    exact (Array.getElem?_eq_some_iff.mp hc).1
  · obtain ⟨rfl, c, hc, rfl⟩ := y
    obtain ⟨c', hc', rfl⟩ := sgn_at q
    rw [hc] at hc'
    cases hc'
    exact ⟨Same.refl _, rfl⟩
theorem itOk_keys {K : Kx} {H : Hp} {r : List Addr} {ks : List D} {a : Addr} {o : Obj} {kvs : List V} {Gd : Mu → Prop} (hd : FzD K H a o) (hk : RpL K H r ks kvs) : ItOk K H r (ItKA K a o kvs) ks Gd := by
  refine ⟨fun r2 H2 m2 e p hm g => ?_, fun i x r2 H2 m2 e p hm g q => ?_, fun i x r2 H2 m2 v H3 e p hm g q y => ?_⟩
  · exact ⟨.inr (hd.imp (fun ⟨u, z⟩ => ⟨u, e.frz _ _ _ z⟩) id), by rw [hk.length]; exact Nat.le_refl _⟩
  · obtain ⟨v, hv, _⟩ := hk.get q
    exact ⟨.inr (hd.imp (fun ⟨u, z⟩ => ⟨u, e.frz _ _ _ z⟩) id), (List.getElem?_eq_some_iff.mp hv).1⟩
  · obtain ⟨rfl, y2⟩ := y
    obtain ⟨w, hw, rw'⟩ := hk.get q
    rw [y2] at hw
    cases hw
    exact ⟨Same.refl _, Rp.ext e p _ _ rw'⟩
theorem s_seq {tg x : Expr} {a : I} (ha : PE X x (LE X.kx (wE G a))) : PI X tg x (LI X.kx (wE G (.seq a)) (.seq a)) := by
  refine PIm (pi_any ha) fun σ H R q => ?_
  obtain ⟨sl, r, m, P, hs, hm, hw, hP⟩ := q
  refine ⟨sl, r, m, _, hs, hm, hw, fun d m1 q1 v r1 H1 e1 p1 rv hm1 => ?_⟩
  obtain ⟨xs, P2, ex, it, hR⟩ := hP _ _ q1
  cases ex
  obtain ⟨d', ed, it⟩ := it
  cases ed
  rcases it with ⟨ys, es, q2⟩ | ⟨z, rfl, q2⟩ | ⟨ks, ws, rfl, q2⟩
  · obtain ⟨b, vs, rfl, g1, g2⟩ := seq_of hm1 es rv
    refine .inl ⟨b, rfl, ?_⟩
    rcases g2 with ⟨g2, rfl⟩ | ⟨g2, hd⟩
    · exact .inr (.inl ⟨⟨vs, g2⟩, hR _ _ q2 _ r1 H1 e1 p1 hm1 (itOk_tup g2 g1)⟩)
    · exact .inl ⟨⟨vs, g2⟩, hR _ _ q2 _ r1 H1 e1 p1 hm1 (itOk_list (itOk_seqL hm1 es rv g1 g2 hd))⟩
  · cases rv
    exact .inr ⟨z, rfl, hR _ _ q2 _ r1 H1 e1 p1 hm1 itOk_str⟩
  · obtain ⟨b, o, kvs, us, rfl, g1, g2, g3, g4, g5⟩ := rv
    obtain ⟨ets, ep, hk⟩ := dicS_keys g3
    exact .inl ⟨b, rfl, .inr (.inr ⟨o, ets, ep, kvs, .inr g1, g2, g3.1, hk, hR _ _ q2 _ r1 H1 e1 p1 hm1 (itOk_keys g1 g4)⟩)⟩
theorem rngD_at {i c : Int} {n j : Nat} {x : D} (h : (rngD i c n)[j]? = some x) : j < n ∧ x = .int (i + j * c) := by
  unfold rngD at h
  rw [List.getElem?_map] at h
  cases e : (List.range n)[j]? with
  | none => rw [e] at h; cases h
  | some y =>
    rw [e] at h
    have hj : j < n := by have := (List.getElem?_eq_some_iff.mp e).1; rw [List.length_range] at this; exact this
    rw [List.getElem?_range hj] at e
    cases e
    cases h
    exact ⟨hj, rfl⟩
theorem itOk_rng1 {K : Kx} {H : Hp} {r : List Addr} {Gd : Mu → Prop} (i : Int) (n : Nat) : ItOk K H r (Itr i n) (rngD i 1 n) Gd := by
  have hl : (rngD i 1 n).length = n := by unfold rngD; rw [List.length_map, List.length_range]
  refine ⟨fun r2 H2 m2 e p hm g => by rw [hl]; exact Nat.le_refl _, fun j x r2 H2 m2 e p hm g q => (rngD_at q).1, fun j x r2 H2 m2 v H3 e p hm g q y => ?_⟩
  obtain ⟨rfl, rfl⟩ := y
  obtain ⟨h1, rfl⟩ := rngD_at q
  refine ⟨Same.refl _, ?_⟩
  show V.int _ = V.int _
  rw [Int.mul_one]
theorem itOk_rngC {K : Kx} {H : Hp} {r : List Addr} {Gd : Mu → Prop} (i c : Int) (n : Nat) : ItOk K H r (Itc i c n) (rngD i c n) Gd := by
  have hl : (rngD i c n).length = n := by unfold rngD; rw [List.length_map, List.length_range]
  refine ⟨fun r2 H2 m2 e p hm g => by rw [hl]; exact Nat.le_refl _, fun j x r2 H2 m2 e p hm g q => (rngD_at q).1, fun j x r2 H2 m2 v H3 e p hm g q y => ?_⟩
  obtain ⟨rfl, rfl⟩ := y
  obtain ⟨h1, rfl⟩ := rngD_at q
  exact ⟨Same.refl _, rfl⟩
theorem rng_mem : ("range" : Str) ∈ bnames := by decide +kernel
theorem s_rng1 (C : Cok X sc N top cN fN G k) {tg e : Expr} {p pos : Pos} {a : I} (hg : glb sc "range" = true) (ha : PA X [e] (LA X.kx (wE G (.cons a .nil)))) (hn : nostar e = true) : PI X tg (.Call (.Name "range" p) [e] [] pos) (LI X.kx (wE G (.rng (.cons a .nil))) (.rng (.cons a .nil))) := by
  refine PIm (pi_range1 (C.gl hg) (C.mgb rng_mem) ha (star_cons hn)) fun σ H R q => ?_
  obtain ⟨sl, r, m, P, hs, hm, hw, hP⟩ := q
  refine ⟨sl, r, m, _, hs, hm, hw, fun d m1 q1 => ?_⟩
  obtain ⟨xs, P2, ex, it, hR⟩ := hP _ _ q1
  obtain ⟨j, rfl, h1, h2, q2⟩ := it
  refine ⟨_, ex, fun vs r1 H1 e1 p1 rx hm1 => ?_⟩
  obtain ⟨v, rfl, rv⟩ := rpl1 rx
  cases rv
  exact ⟨j, rfl, h1, h2, hR _ _ q2 _ r1 H1 e1 p1 hm1 (itOk_rng1 0 _)⟩
theorem s_rng2 (C : Cok X sc N top cN fN G k) {tg e f : Expr} {p pos : Pos} {a b : I} (hg : glb sc "range" = true) (ha : PA X [e, f] (LA X.kx (wE G (.cons a (.cons b .nil))))) (hn : nostar e = true) (hn2 : nostar f = true) :
    PI X tg (.Call (.Name "range" p) [e, f] [] pos) (LI X.kx (wE G (.rng (.cons a (.cons b .nil)))) (.rng (.cons a (.cons b .nil)))) := by
  refine PIm (pi_range2 (C.gl hg) (C.mgb rng_mem) ha (by rw [star_cons hn, star_cons hn2]; rfl) (star_cons hn2)) fun σ H R q => ?_
  obtain ⟨sl, r, m, P, hs, hm, hw, hP⟩ := q
  refine ⟨sl, r, m, _, hs, hm, hw, fun d m1 q1 => ?_⟩
  obtain ⟨xs, P2, ex, it, hR⟩ := hP _ _ q1
  obtain ⟨i, j, rfl, h1, q2⟩ := it
  refine ⟨_, ex, fun vs r1 H1 e1 p1 rx hm1 => ?_⟩
  obtain ⟨v, u, rfl, rv, ru⟩ := rpl2 rx
  cases rv; cases ru
  exact ⟨i, j, rfl, h1, hR _ _ q2 _ r1 H1 e1 p1 hm1 (itOk_rng1 i _)⟩
theorem s_rng3 (C : Cok X sc N top cN fN G k) {tg e f g : Expr} {p pos : Pos} {a b c : I} (hg : glb sc "range" = true) (ha : PA X [e, f, g] (LA X.kx (wE G (.cons a (.cons b (.cons c .nil)))))) (hn : nostar e = true) (hn2 : nostar f = true) (hn3 : nostar g = true) :
    PI X tg (.Call (.Name "range" p) [e, f, g] [] pos) (LI X.kx (wE G (.rng (.cons a (.cons b (.cons c .nil))))) (.rng (.cons a (.cons b (.cons c .nil))))) := by
  refine PIm (pi_range3 (C.gl hg) (C.mgb rng_mem) ha (by rw [star_cons hn]) (star_any (by rw [List.all_cons, List.all_cons, hn2, hn3]; rfl))) fun σ H R q => ?_
  obtain ⟨sl, r, m, P, hs, hm, hw, hP⟩ := q
  refine ⟨sl, r, m, _, hs, hm, hw, fun d m1 q1 => ?_⟩
  obtain ⟨xs, P2, ex, it, hR⟩ := hP _ _ q1
  obtain ⟨i, j, c, n, rfl, h1, q2⟩ := it
  refine ⟨_, ex, fun vs r1 H1 e1 p1 rx hm1 => ?_⟩
  obtain ⟨v, u, w, rfl, rv, ru, rw'⟩ := rpl3 rx
  cases rv; cases ru; cases rw'
  exact ⟨i, j, c, n, rfl, h1, hR _ _ q2 _ r1 H1 e1 p1 hm1 (itOk_rngC i c n)⟩
end
end Ab

/-! enumerate over a tuple -/
namespace PySem
open Sem (wp)
open AutoSeq1 (wpAny_loadPart')
theorem ab_meets_enumerate_newT (l : Addr) (items : Array Value) (n : Nat) (dct : Option Addr) (sl : Array (Option Value)) :
    Meets (Builtin.«enumerate.__new__» ⟨[.type "enumerate", .ref l], []⟩) (fun _ R s => s.heap.get? l = some { cls := .type "tuple", dict := dct, data := .seq items n, slots := sl } ∧
      R (.ok (.ret (.ref (s.heap.push { cls := .type "tuple_iterator", data := .fields #[.ref l, .int 0 0] }).objs.size)))
        { s with heap := (s.heap.push { cls := .type "tuple_iterator", data := .fields #[.ref l, .int 0 0] }).push { cls := .type "enumerate", data := .fields #[.none, .bool false, .ref s.heap.objs.size, rawInt 0, .none, .none] } }) :=
  .of_wp fun prog w A R s h => by
    obtain ⟨hp, g, d, tk, os⟩ := s; obtain ⟨hl, h⟩ := h
    have hsub := sub_enumerate
    have hL : Heap.IsTuple (Shared.heap ⟨hp, g, d, tk, os⟩) l items := ⟨_, hl, rfl, n, rfl⟩
    wp_walk using wpAny_loadPart' hl
    refine wpAny_stack_any fun st => wpAny_pure ?_
    split
    · rename_i c _ _ _ _ _
      cases (c == Value.type "enumerate")
      · wp_walk using wpAny_loadPart' hl, wpAny_pyIter_tuple hL
        exact ⟨_, rfl, h⟩
      · wp_walk using wpAny_loadPart' hl, wpAny_pyIter_tuple hL
        exact ⟨_, rfl, h⟩
    · wp_walk using wpAny_loadPart' hl, wpAny_pyIter_tuple hL
      exact ⟨_, rfl, h⟩
theorem ab_call_enumerate_tuple {prog : Program} {w : World} {A : Around} {E : Value → Shared → Prop} {s : Shared} {l : Addr} {items : Array Value} {Q : Value → Shared → Prop} (hL : s.heap.IsTuple l items)
    (h : ∀ h', IsEnum h' (s.heap.objs.size + 1) s.heap.objs.size 0 .none → h'.IsTupleIter s.heap.objs.size l 0 → h'.objs.size = s.heap.objs.size + 2 →
      (∀ b o, s.heap.get? b = some o → h'.get? b = some o) → Q (.ref (s.heap.objs.size + 1)) { s with heap := h' }) :
    wpAny (model prog w) A (call (.type "enumerate") [.ref l]) Q E s := by
  obtain ⟨⟨c, dct, dt, sl⟩, hl, hc, n, hd⟩ := hL
  replace hc : c = .type "tuple" := hc
  replace hd : dt = .seq items n := hd
  subst hc hd
  refine callType_new F.called_enumerate (by decide) (F.typeCall_enumerate_1 _) (F.newCall_enumerate_1 _) (fun obj => F.args_object_init_2 obj _) F.entry_enumerate_new
    (ab_meets_enumerate_newT l items n dct sl) ⟨hl, ?_⟩
  have hz : (s.heap.push { cls := .type "tuple_iterator", data := .fields #[.ref l, .int 0 0] }).objs.size = s.heap.objs.size + 1 := Heap.size_push ..
  show _ ∧ _
  rw [hz]
  have he : IsEnum ((s.heap.push { cls := .type "tuple_iterator", data := .fields #[.ref l, .int 0 0] }).push
      { cls := .type "enumerate", data := .fields #[.none, .bool false, .ref s.heap.objs.size, rawInt 0, .none, .none] }) (s.heap.objs.size + 1) s.heap.objs.size 0 .none := by
    have := Heap.get?_push_size (s.heap.push { cls := .type "tuple_iterator", data := .fields #[.ref l, .int 0 0] })
      (o := { cls := .type "enumerate", data := .fields #[.none, .bool false, .ref s.heap.objs.size, rawInt 0, .none, .none] }) rfl
    rw [hz] at this; exact this
  refine ⟨⟨_, he, rfl⟩, h _ he ⟨_, Heap.get?_push_of_some _ (Heap.get?_push_size _ rfl), rfl, rfl⟩ (by rw [Heap.size_push, hz]) fun b o x => Heap.get?_push_of_some _ (Heap.get?_push_of_some _ x)⟩
theorem ab_enum_tuple_end {prog : Program} {w : World} {A : Around} {E : Value → Shared → Prop} {s : Shared} {e it t : Addr} {i : Nat} {j : Int} {items : Array Value} {old : Value} {Q : Option Value → Shared → Prop} (hh : A.handled = none)
    (he : IsEnum s.heap e it j old) (hit : s.heap.IsTupleIter it t i) (ht : s.heap.IsTuple t items) (hx : items[i]? = none)
    (hQ : ∀ h', Heap.ExtBut it s.heap h' → Q none { s with heap := h' }) : wpAny (model prog w) A (pyNext (.ref e)) Q E s := by
  have hT : s.TypeIs (.ref e) "enumerate" := ⟨_, he, rfl⟩
  unfold pyNext
  refine wpAny_bind (wpAny_attempt (wpAny_callSpecial?_slot (name := Str.ofString "__next__") hT F.slot_enumerate_next
    (wpAny_call_entry F.slot_enumerate_next hT F.entry_enumerate_next ?_ (F.args_enumerate_next_1 _))))
  show wpAny _ _ (field (.ref e) 2 >>= _) _ _ _
  refine wpAny_bind (wpAny_field he rfl (x := .ref it) rfl ?_)
  refine wpAny_bind (wpAny_nextOf_tuple_end (A := A.in1) hh hit ht hx fun h' x he' hx' => ?_)
  obtain ⟨o, ho, hc⟩ := hx'
  refine wpAny_bind (wpAny_isInstance (T := "StopIteration") (b := true) ⟨o, ho, hc⟩ isSubtype_stop ?_)
  exact wpAny_pure (hQ _ he')
end PySem
namespace Ab
open PySem PySem.Spec PyProof.Rows L2
def IteT (K : PySem.W.Frag) (a : Addr) : It :=
  ⟨fun i H => ∃ (xs : List V) (x : V), SqT K H a xs ∧ xs[i]? = some x, fun i H v H' => ∃ T x, v = .ref T ∧ H T = none ∧ H' = upd H T (.tup [.int (i : Nat), x]) ∧ ∀ xs, SqT K H a xs → xs[i]? = some x, fun i H => ∃ xs : List V, SqT K H a xs ∧ xs.length ≤ i⟩
theorem turn_enumT {P : Program} {w : World} {K : PySem.W.Frag} {elts : List Expr} {kk : Nat} {tpos : Pos} (a e it : Addr) :
    Turn P w K (.Tuple elts kk tpos) (IteT K a) [e, it] e (fun i h => (∃ old, IsEnum h e it ((i : Nat) : Int) old) ∧ h.IsTupleIter it a i ∧ e ≠ it) where
  mem := by simp
  obj := fun i h st b hb => by
    obtain ⟨⟨old, he⟩, ⟨o, ho, hc, hd⟩, _⟩ := st
    have e' : b = e ∨ b = it := by simpa using hb
    rcases e' with z | z
    · rw [z]; exact ⟨_, he, fun v q => nomatch q⟩
    · rw [z]; exact ⟨o, ho, fun v q => by rw [hd] at q; cases q⟩
  keep := fun i h h' st k => let ⟨⟨old, he⟩, hi, hne⟩ := st; ⟨⟨old, k e (by simp) _ he⟩, hi.at fun o q => k it (by simp) o q, hne⟩
  item := by
    intro X hP hw hK hc i pins s σ H E I hf st hg
    subst hP hw hK
    obtain ⟨⟨old, he⟩, hit, hne⟩ := st
    obtain ⟨xs, x, hq, hx⟩ := hg
    obtain ⟨its, rv, p, hz⟩ := I.tuple hq
    obtain ⟨u, hu, ru⟩ := rv.get hx
    have hel : e < s.heap.objs.size := Heap.lt_size he
    have hil : it < s.heap.objs.size := by obtain ⟨_, q, _⟩ := hit; exact Heap.lt_size q
    have hp : s.heap.IsTuple a its.toArray := p
    have hea : e ≠ a := fun z => by
      obtain ⟨o, ho, hc, _⟩ := hp
      subst z
      rw [show s.heap.get? e = _ from he] at ho
      cases ho
      injection hc with hc
      exact absurd hc (by decide)
    have hia : a ≠ it := fun z => by
      obtain ⟨o, ho, hc, _⟩ := hp
      obtain ⟨o2, ho2, hc2, _⟩ := hit
      subst z
      rw [ho] at ho2
      cases ho2
      rw [hc] at hc2
      injection hc2 with hc2
      exact absurd hc2 (by decide)
    have hlt : i < its.toArray.size := by
      have := (List.getElem?_eq_some_iff.mp hu).1
      simpa using this
    refine wpAny_pyNext_enum_itemD (Draws.tuple (prog := X.prog) (w := X.w) (A := X.A.in1) (I.ok.hd hc) it a hia its.toArray) he ⟨hit, hp⟩ hlt hne (by simp [hne, hea]) fun x1 h' tk hx1 ho st1 hT hsz hk => ?_
    have ex : x1 = u := by
      have : its.toArray[i]? = some x1 := hx1
      rw [show its.toArray[i]? = some u by simpa using hu] at this
      exact (Option.some.inj this).symm
    subst ex
    have hit' := st1.1
    refine ⟨_, rfl, wpAny_letOwnedTupleGo_enum (s := { s with heap := h', toks := tk + 1 }) ho fun h'' he' sb => ?_⟩
    have hT2 : h''.get? s.heap.objs.size = some { cls := .type "tuple", data := .seq #[.int i tk, x1] } := (sb.2 _ (Nat.ne_of_gt hel)).trans hT
    have new : ObjOk X.prog X.w (upd H s.heap.objs.size (.tup [.int (i : Nat), x])) h'' s.heap.objs.size (.tup [.int (i : Nat), x]) :=
      ⟨by show 2 ≤ sizeLine; decide, [.int i tk, x1], .cons ⟨_, rfl⟩ (.cons ru .nil), ⟨_, hT2, rfl, _, rfl⟩⟩
    have I1 : Inv X pins σ (upd H s.heap.objs.size (.tup [.int (i : Nat), x])) { s with heap := h'', toks := tk + 1 } :=
      I.turnedNew (ch := [e, it]) (fun b ob hb q => (sb.2 b (fun z => hb (by simp [z]))).trans (hk b ob (fun z => hb (by simp [z])) (fun z => hb (by simp [z])) q)) hf (Nat.le_refl _) new
    refine ⟨.ref s.heap.objs.size, _, I1, rfl, ⟨_, x, rfl, I.hok.fresh (Nat.le_refl _), rfl, fun ys hy => by rw [I.tuple_inj hy hq]; exact hx⟩, ⟨⟨x1, ?_⟩, hit'.at fun o q => (sb.2 it (Ne.symm hne)).trans q, hne⟩, fun b hb => ?_⟩
    · have e1 : ((i + 1 : Nat) : Int) = (i : Int) + 1 := by omega
      rw [e1]; exact he'
    · have hb' : b < s.heap.objs.size := by
        have e' : b = e ∨ b = it := by simpa using hb
        rcases e' with z | z
        · rw [z]; exact hel
        · rw [z]; exact hil
      rw [upd_ne (Nat.ne_of_lt hb')]
      exact (hf b hb).1
  done := by
    intro X hP hw hK hc i pins s σ H E I hf st hg
    subst hP hw hK
    obtain ⟨⟨old, he⟩, hit, hne⟩ := st
    obtain ⟨xs, hq, hx⟩ := hg
    obtain ⟨its, rv, p, hz⟩ := I.tuple hq
    obtain ⟨f0, f1, f2, f3, f4, f5⟩ := hf it (by simp)
    have hl := rv.length
    have hp : s.heap.IsTuple a its.toArray := p
    exact ab_enum_tuple_end (I.ok.hd hc) he hit hp (by simp; omega) fun h' eb => ⟨rfl, I.turned (t' := s.toks) (fun b o hb q => eb b o hb q) f0 f1 f3 f4 f5⟩
  self := fun A i s Q E st h => let ⟨⟨_, he⟩, _⟩ := st; wpAny_pyIter_enum he h
def iEnumA (K : PySem.W.Frag) (ta : TA) : TI := fun σ H R => ta σ H fun vs H1 => ∃ a xs, vs = [.ref a] ∧ ((SqL K H1 a xs ∧ R (Ite K a) H1) ∨ (SqT K H1 a xs ∧ R (IteT K a) H1))
theorem pi_enumA {X : Cx} {e : Expr} {ta : TA} {p pos tpos : Pos} {elts : List Expr} {kk : Nat} (hg : Gl X "enumerate") (hm : X.mg "enumerate" = none) (ha : PA X [e] ta) (hs : starEach [e] X.env = [(false, eval e X.env)]) :
    PI X (.Tuple elts kk tpos) (.Call (.Name "enumerate" p) [e] [] pos) (iEnumA X.K ta) := by
  refine ⟨fun pins s σ H R I h => ?_⟩
  refine Call_ (ld_blt I hg hm boot_enumerate (PyProof.Rows.callWith_type1 (thn (ha.run pos pins s σ H _ I h) fun us s1 ⟨vs, H1, I1, r1, q1⟩ => ?_) hs rfl))
  obtain ⟨a, xs, ex, q⟩ := q1
  subst ex
  cases r1 with
  | cons r rr =>
    cases rr
    cases r
    rcases q with ⟨hq, q⟩ | ⟨hq, q⟩
    · obtain ⟨its, rv, p', hz⟩ := I1.list hq
      refine call_enumerate_list p'.isList fun h' he hit hsz hk => wpAny_pyIter_enum he ?_
      have I2 : Inv X pins σ H1 { s1 with heap := h' } := I1.kept (t' := s1.toks) hk
      refine ⟨s1.heap.objs.size + 1, [s1.heap.objs.size + 1, s1.heap.objs.size], _, _, H1, rfl, I2, turn_enum a (s1.heap.objs.size + 1) s1.heap.objs.size, ⟨⟨.none, he⟩, hit, Nat.succ_ne_self _⟩, fun b hb => ?_, q⟩
      have e' : b = s1.heap.objs.size + 1 ∨ b = s1.heap.objs.size := by simpa using hb
      have hle : s1.heap.objs.size ≤ b := by
        rcases e' with z | z
        · rw [z]; exact Nat.le_add_right _ _
        · rw [z]; exact Nat.le_refl _
      exact I1.fpOk hle (I1.hok.fresh hle)
    · obtain ⟨its, rv, p', hz⟩ := I1.tuple hq
      refine ab_call_enumerate_tuple (items := its.toArray) p' fun h' he hit hsz hk => wpAny_pyIter_enum he ?_
      have I2 : Inv X pins σ H1 { s1 with heap := h' } := I1.kept (t' := s1.toks) hk
      refine ⟨s1.heap.objs.size + 1, [s1.heap.objs.size + 1, s1.heap.objs.size], _, _, H1, rfl, I2, turn_enumT a (s1.heap.objs.size + 1) s1.heap.objs.size, ⟨⟨.none, he⟩, hit, Nat.succ_ne_self _⟩, fun b hb => ?_, q⟩
      have e' : b = s1.heap.objs.size + 1 ∨ b = s1.heap.objs.size := by simpa using hb
      have hle : s1.heap.objs.size ≤ b := by
        rcases e' with z | z
        · rw [z]; exact Nat.le_add_right _ _
        · rw [z]; exact Nat.le_refl _
      exact I1.fpOk hle (I1.hok.fresh hle)
end Ab

/-! zip of a list and a tuple, in any mix -/
namespace Ab
open PySem PySem.Spec PyProof.Rows L2
inductive Kn where
  | li | tu
def SqK (K : PySem.W.Frag) (k : Kn) (H : Hp) (a : Addr) (us : List V) : Prop := match k with
  | .li => SqL K H a us
  | .tu => SqT K H a us
def KIt (k : Kn) (h : Heap) (it a : Addr) (i : Nat) : Prop := match k with
  | .li => h.IsListIter it a i
  | .tu => h.IsTupleIter it a i
def KHp (k : Kn) (h : Heap) (a : Addr) (vs : Array Value) : Prop := match k with
  | .li => h.IsList a vs
  | .tu => h.IsTuple a vs
def KOb (k : Kn) (a : Addr) : Obj := match k with
  | .li => { cls := .type "list_iterator", data := .fields #[.ref a, .int 0 0] }
  | .tu => { cls := .type "tuple_iterator", data := .fields #[.ref a, .int 0 0] }
theorem kdraws {prog : Program} {w : World} {A : Around} (k : Kn) (q : A.handled = none) (it a : Addr) (n : a ≠ it) (vs : Array Value) :
    Draws prog w A it [it, a] vs.size (fun i v => vs[i]? = some v) (fun i h => KIt k h it a i ∧ KHp k h a vs) := by
  cases k
  · exact Draws.list q it a n vs
  · exact Draws.tuple q it a n vs
theorem kbegins (k : Kn) (a : Addr) (vs : Array Value) : Begins (.ref a) (KOb k a) fun h => KHp k h a vs := by
  cases k
  · exact begins_list a vs
  · exact begins_tuple a vs
theorem kit_new {k : Kn} {h : Heap} {it a : Addr} (e : h.get? it = some (KOb k a)) : KIt k h it a 0 := by
  cases k
  · exact ⟨_, e, rfl, rfl⟩
  · exact ⟨_, e, rfl, rfl⟩
theorem kit_obj {k : Kn} {h : Heap} {it a : Addr} {i : Nat} (e : KIt k h it a i) : ∃ o, h.get? it = some o ∧ ∀ v, o.data ≠ .cell v := by
  cases k
  · obtain ⟨o, g, _, d⟩ := e
    exact ⟨o, g, fun v z => by rw [d] at z; cases z⟩
  · obtain ⟨o, g, _, d⟩ := e
    exact ⟨o, g, fun v z => by rw [d] at z; cases z⟩
theorem kit_keep {k : Kn} {h h' : Heap} {it a : Addr} {i : Nat} (e : KIt k h it a i) (up : ∀ o, h.get? it = some o → h'.get? it = some o) : KIt k h' it a i := by
  cases k
  · exact Heap.IsListIter.at e up
  · exact Heap.IsTupleIter.at e up
section
variable {X : Cx} {pins : List (Addr × Obj)} {σ : L2.St} {H : Hp} {s : Shared}
theorem kread {k : Kn} {a : Addr} {us : List V} (I : Inv X pins σ H s) (q : SqK X.K k H a us) : ∃ vs : List Value, Vals us vs ∧ KHp k s.heap a vs.toArray ∧ a < s.heap.objs.size := by
  cases k
  · obtain ⟨vs, g, p, _⟩ := I.list q
    exact ⟨vs, g, p.isList, p.lt⟩
  · obtain ⟨vs, g, p, _⟩ := I.tuple q
    obtain ⟨o, ho, _⟩ := id p
    exact ⟨vs, g, p, Heap.lt_size ho⟩
theorem kinj {k : Kn} {a : Addr} {us ws : List V} (I : Inv X pins σ H s) (q : SqK X.K k H a us) (q' : SqK X.K k H a ws) : us = ws := by
  cases k
  · exact I.list_inj q q'
  · exact I.tuple_inj q q'
end
/-- what stands at a and b at each turn, side by side in new pairs -/
def Izk (K : PySem.W.Frag) (k j : Kn) (a b : Addr) : It where
  go i H := ∃ (us ws : List V) (x y : V), SqK K k H a us ∧ SqK K j H b ws ∧ us[i]? = some x ∧ ws[i]? = some y
  yld i H v H' := ∃ T x y, v = .ref T ∧ H T = none ∧ H' = upd H T (.tup [x, y]) ∧ (∀ us, SqK K k H a us → us[i]? = some x) ∧ ∀ ws, SqK K j H b ws → ws[i]? = some y
  stop i H := ∃ us ws : List V, SqK K k H a us ∧ SqK K j H b ws ∧ i = min us.length ws.length
structure KApart (z TI TO u v a b : Addr) : Prop where
  tz : TI ≠ z
  oz : TO ≠ z
  uz : u ≠ z
  vz : v ≠ z
  to : TI ≠ TO
  tu : TI ≠ u
  tv : TI ≠ v
  ou : TO ≠ u
  ov : TO ≠ v
  uv : u ≠ v
  az : a ≠ z
  ao : a ≠ TO
  au : a ≠ u
  av : a ≠ v
  bz : b ≠ z
  bo : b ≠ TO
  bu : b ≠ u
  bv : b ≠ v
theorem KApart.sep {z TI TO u v a b : Addr} (D : KApart z TI TO u v a b) : ZipSep2 z TI TO u v [u, a] [v, b] where
  TIz := D.tz
  TOz := D.oz
  TITO := D.to
  TIi1 := D.tu
  TIi2 := D.tv
  mem1 := List.mem_cons_self ..
  mem2 := List.mem_cons_self ..
  zf1 := by simp [D.uz.symm, D.az.symm]
  zf2 := by simp [D.vz.symm, D.bz.symm]
  Tf1 := by simp [D.ou, D.ao.symm]
  Tf2 := by simp [D.ov, D.bo.symm]
  sep1_2 := by simp [D.uv, D.bu.symm]
  sep2_1 := by simp [D.uv.symm, D.av.symm]
theorem kapart_new (n a b : Nat) (ha : a < n) (hb : b < n) : KApart (n + 4) (n + 2) (n + 3) n (n + 1) a b := by
  constructor <;> exact (fun e => by have : (_ : Nat) = _ := e; omega)
def KSt (k j : Kn) (z TI TO u v a b : Addr) (i : Nat) (h : Heap) : Prop :=
  IsZip h z TI TO .none ∧ IsTupOf2 h TI (.ref u) (.ref v) ∧ (∃ p q, IsTupOf2 h TO p q) ∧ KIt k h u a i ∧ KIt j h v b i
theorem turn_zipK {P : Program} {w : World} {K : PySem.W.Frag} {elts : List Expr} {kk : Nat} {tpos : Pos} {k j : Kn} {a b z TI TO u v : Addr} (D : KApart z TI TO u v a b) :
    Turn P w K (.Tuple elts kk tpos) (Izk K k j a b) [z, TI, TO, u, v] z (KSt k j z TI TO u v a b) where
  mem := List.mem_cons_self ..
  obj i h g c hc := by
    obtain ⟨gz, gi, ⟨p, q, go⟩, gu, gv⟩ := g
    simp only [List.mem_cons, List.not_mem_nil, or_false] at hc
    rcases hc with rfl | rfl | rfl | rfl | rfl
    · exact ⟨_, gz, by simp⟩
    · exact ⟨_, gi, by simp⟩
    · exact ⟨_, go, by simp⟩
    · exact kit_obj gu
    · exact kit_obj gv
  keep i h h' g up := by
    obtain ⟨gz, gi, ⟨p, q, go⟩, gu, gv⟩ := g
    exact ⟨up z (by simp) _ gz, up TI (by simp) _ gi, ⟨p, q, up TO (by simp) _ go⟩, kit_keep gu (up u (by simp)), kit_keep gv (up v (by simp))⟩
  item := by
    intro X eP ew eK calm i pins s σ H E I free g go
    subst eP ew eK
    obtain ⟨gz, gi, ⟨p, q, gto⟩, gu, gv⟩ := g
    obtain ⟨us, ws, x, y, q1, q2, ex, ey⟩ := go
    obtain ⟨vs1, r1, p1, -⟩ := kread I q1
    obtain ⟨vs2, r2, p2, -⟩ := kread I q2
    obtain ⟨x', ex', rx⟩ := r1.get ex
    obtain ⟨y', ey', ry⟩ := r2.get ey
    have n1 : i < vs1.toArray.size := by rw [List.size_toArray]; exact (List.getElem?_eq_some_iff.mp ex').1
    have n2 : i < vs2.toArray.size := by rw [List.size_toArray]; exact (List.getElem?_eq_some_iff.mp ey').1
    have nz : s.heap.objs.size ≠ z := Nat.ne_of_gt (Heap.lt_size gz)
    have hd : X.A.in1.handled = none := I.ok.hd calm
    refine wpAny_pyNext_zipD2_item D.sep (kdraws k hd u a D.au vs1.toArray) (kdraws j hd v b D.bv vs2.toArray) gz gi gto ⟨gu, p1⟩ ⟨gv, p2⟩ n1 n2 ?_
    intro x2 y2 h1 tk e1 e2 z1 to1 u1 v1 t1 _ up
    have e1 : vs1.toArray[i]? = some x2 := e1
    have e2 : vs2.toArray[i]? = some y2 := e2
    rw [List.getElem?_toArray, ex'] at e1
    rw [List.getElem?_toArray, ey'] at e2
    cases e1
    cases e2
    refine ⟨_, rfl, wpAny_letOwnedTupleGo_zip (s := { s with heap := h1, toks := tk }) z1 fun h2 z2 sb => ?_⟩
    have to2 : ∀ c o, c ≠ z → h1.get? c = some o → h2.get? c = some o := fun c o n e => (sb.2 _ n).trans e
    have fit : ObjOk X.prog X.w (upd H s.heap.objs.size (.tup [x, y])) h2 s.heap.objs.size (.tup [x, y]) :=
      ⟨(by show 2 ≤ sizeLine; decide), [x', y'], .cons rx (.cons ry .nil), _, to2 _ _ nz t1, rfl, _, rfl⟩
    have I2 : Inv X pins σ (upd H s.heap.objs.size (.tup [x, y])) { s with heap := h2, toks := tk } := by
      refine I.turnedNew (t' := tk) (ch := [z, TI, TO, u, v]) (fun c o nc e => ?_) free (Nat.le_refl _) fit
      simp only [List.mem_cons, List.not_mem_nil, or_false, not_or] at nc
      exact to2 _ _ nc.1 (up _ _ nc.1 nc.2.2.1 nc.2.2.2.1 nc.2.2.2.2 e)
    refine ⟨.ref s.heap.objs.size, _, I2, rfl, ⟨_, x, y, rfl, I.hok.fresh (Nat.le_refl _), rfl, fun l hl => ?_, fun l hl => ?_⟩, ⟨z2, to2 _ _ D.tz (up _ _ D.tz D.to D.tu D.tv gi), ⟨_, _, to2 _ _ D.oz to1⟩, kit_keep u1.1 fun o => to2 _ _ D.uz, kit_keep v1.1 fun o => to2 _ _ D.vz⟩, fun c hc => ?_⟩
    · rw [kinj I hl q1]; exact ex
    · rw [kinj I hl q2]; exact ey
    · obtain ⟨o, ho⟩ : ∃ o, s.heap.get? c = some o := by
        simp only [List.mem_cons, List.not_mem_nil, or_false] at hc
        rcases hc with rfl | rfl | rfl | rfl | rfl
        · exact ⟨_, gz⟩
        · exact ⟨_, gi⟩
        · exact ⟨_, gto⟩
        · exact ⟨_, (kit_obj gu).choose_spec.1⟩
        · exact ⟨_, (kit_obj gv).choose_spec.1⟩
      rw [upd_ne (Nat.ne_of_lt (Heap.lt_size ho))]
      exact (free c hc).1
  done := by
    intro X eP ew eK calm i pins s σ H E I free g st
    subst eP ew eK
    obtain ⟨gz, gi, ⟨p, q, gto⟩, gu, gv⟩ := g
    obtain ⟨us, ws, q1, q2, em⟩ := st
    obtain ⟨vs1, r1, p1, -⟩ := kread I q1
    obtain ⟨vs2, r2, p2, -⟩ := kread I q2
    have n1 : vs1.toArray.size = us.length := by rw [List.size_toArray]; exact r1.length.symm
    have n2 : vs2.toArray.size = ws.length := by rw [List.size_toArray]; exact r2.length.symm
    have hd : X.A.in1.handled = none := I.ok.hd calm
    refine wpAny_pyNext_zipD2_end D.sep (kdraws k hd u a D.au vs1.toArray) (kdraws j hd v b D.bv vs2.toArray) gz gi gto ⟨gu, p1⟩ ⟨gv, p2⟩ (by omega) (by omega) (by omega) fun h1 tk up => ⟨rfl, ?_⟩
    refine I.turnedL (t' := tk) (ch := [z, TI, TO, u, v]) (fun c o nc e => ?_) free
    simp only [List.mem_cons, List.not_mem_nil, or_false, not_or] at nc
    exact up _ _ nc.1 nc.2.2.1 nc.2.2.2.1 nc.2.2.2.2 e
  self A i s Q E g h := wpAny_pyIter_zip g.1 h
def wZipK (K : PySem.W.Frag) (ta : TA) : TI := fun σ H R => ta σ H fun vs H1 => ∃ k j a b us ws, vs = [.ref a, .ref b] ∧ SqK K k H1 a us ∧ SqK K j H1 b ws ∧ R (Izk K k j a b) H1
theorem pi_zipK {X : Cx} {e f : Expr} {ta : TA} {p pos tpos : Pos} {elts : List Expr} {kk : Nat} (hg : Gl X "zip") (hm : X.mg "zip" = none) (ha : PA X [e, f] ta)
    (h1 : starEach [e, f] X.env = (false, eval e X.env) :: starEach [f] X.env := by rfl) (h2 : (backTo pos (starEach [f] X.env)).any (·.1) = false := by rfl) :
    PI X (.Tuple elts kk tpos) (.Call (.Name "zip" p) [e, f] [] pos) (wZipK X.K ta) := by
  constructor
  intro pins s σ H R I h
  refine Call_ (ld_blt I hg hm PyProof.Rows.boot_zip (PyProof.Rows.callWith_type1 (thn (ha.run pos pins s σ H _ I h) ?_) h1 h2))
  rintro us0 s1 ⟨vs, H1, I1, rel, k, j, a, b, us, ws, rfl, q1, q2, hR⟩
  cases rel with
  | cons ra rel =>
    cases rel with
    | cons rb rel =>
      cases rel
      cases ra
      cases rb
      obtain ⟨vs1, r1, p1, la⟩ := kread I1 q1
      obtain ⟨vs2, r2, p2, lb⟩ := kread I1 q2
      refine zip_begins2 (kbegins k a vs1.toArray) (kbegins j b vs2.toArray) p1 p2 fun h2 gz gi gto gu gv _ up => wpAny_pyIter_zip gz ?_
      have I2 : Inv X pins σ H1 { s1 with heap := h2 } := I1.kept (t' := s1.toks) up
      refine ⟨_, _, _, _, H1, rfl, I2, turn_zipK (kapart_new s1.heap.objs.size a b la lb), ⟨gz, gi, ⟨_, _, gto⟩, kit_new gu, kit_new gv⟩, fun c hc => ?_, hR⟩
      have hle : s1.heap.objs.size ≤ c := by
        simp only [List.mem_cons, List.not_mem_nil, or_false] at hc
        rcases hc with rfl | rfl | rfl | rfl | rfl
        · exact Nat.le_add_right ..
        · exact Nat.le_add_right ..
        · exact Nat.le_add_right ..
        · exact Nat.le_refl _
        · exact Nat.le_add_right ..
      exact I1.fpOk hle (I1.hok.fresh hle)
end Ab

namespace Ab
open PySem PySem.Spec PyProof.Rows L2
section
variable {X : Cx} {sc : Scope} {N cN fN : List Str} {top : Bool} {G : Gm} {k : Nat}
theorem rp_pair {K : Kx} {H : Hp} {r : List Addr} {x y : D} {vx vy : V} {T : Addr} (hT : H T = none) (rx : Rp K H r x vx) (ry : Rp K H r y vy) : Rp K (upd H T (.tup [vx, vy])) r (.tup [x, y]) (.ref T) := by
  have e := Ext.same (same_new (o := .tup [vx, vy]) hT)
  exact ⟨T, [vx, vy], rfl, SqT.of upd_same, vx, [vy], rfl, Rp.ext e (Pre.refl r) _ _ rx, vy, [], rfl, Rp.ext e (Pre.refl r) _ _ ry, rfl⟩
theorem itOk_enm {K : Kx} {H : Hp} {r : List Addr} {a : Addr} {ys : List D} {Gd : Mu → Prop} (h : ∀ r2 H2 m2, Ext H H2 → Pre r r2 → RMu K H2 r2 m2 → Gd m2 → ∃ us, SqL K H2 a us ∧ RpL K H2 r2 ys us) :
    ItOk K H r (Ite K a) (ys.mapIdx fun i x => .tup [.int i, x]) Gd := by
  refine ⟨fun r2 H2 m2 e p hm g => ?_, fun i x r2 H2 m2 e p hm g q => ?_, fun i x r2 H2 m2 v H3 e p hm g q y => ?_⟩
  · obtain ⟨us, h1, h2⟩ := h r2 H2 m2 e p hm g
    exact ⟨us, h1, by rw [List.length_mapIdx, h2.length]; exact Nat.le_refl _⟩
  · obtain ⟨us, h1, h2⟩ := h r2 H2 m2 e p hm g
    rw [List.getElem?_mapIdx] at q
    cases z : ys[i]? with
    | none => rw [z] at q; cases q
    | some y =>
      obtain ⟨v, hv, _⟩ := h2.get z
      exact ⟨us, v, h1, hv⟩
  · obtain ⟨us, h1, h2⟩ := h r2 H2 m2 e p hm g
    rw [List.getElem?_mapIdx] at q
    cases z : ys[i]? with
    | none => rw [z] at q; cases q
    | some y' =>
      rw [z] at q
      cases q
      obtain ⟨u, hu, ru⟩ := h2.get z
      obtain ⟨T, x', rfl, hT, rfl, f⟩ := y
      rw [f us h1] at hu; cases hu
      exact ⟨same_new hT, rp_pair hT rfl ru⟩
theorem itOk_zipK {K : Kx} {H : Hp} {r : List Addr} {k j : Kn} {a b : Addr} {xs ys : List D} {Gd : Mu → Prop} (h : ∀ r2 H2 m2, Ext H H2 → Pre r r2 → RMu K H2 r2 m2 → Gd m2 → ∃ us ws, SqK K k H2 a us ∧ RpL K H2 r2 xs us ∧ SqK K j H2 b ws ∧ RpL K H2 r2 ys ws) :
    ItOk K H r (Izk K k j a b) (xs.zipWith (fun x y => .tup [x, y]) ys) Gd := by
  refine ⟨fun r2 H2 m2 e p hm g => ?_, fun i x r2 H2 m2 e p hm g q => ?_, fun i x r2 H2 m2 v H3 e p hm g q y => ?_⟩
  · obtain ⟨us, ws, h1, h2, h3, h4⟩ := h r2 H2 m2 e p hm g
    refine ⟨us, ws, h1, h3, ?_⟩
    rw [List.length_zipWith, h2.length, h4.length]
  · obtain ⟨us, ws, h1, h2, h3, h4⟩ := h r2 H2 m2 e p hm g
    rw [List.getElem?_zipWith] at q
    cases z : xs[i]? with
    | none => rw [z] at q; cases q
    | some y =>
      cases z2 : ys[i]? with
      | none => rw [z, z2] at q; cases q
      | some y2 =>
        obtain ⟨v, hv, _⟩ := h2.get z
        obtain ⟨v2, hv2, _⟩ := h4.get z2
        exact ⟨us, ws, v, v2, h1, h3, hv, hv2⟩
  · obtain ⟨us, ws, h1, h2, h3, h4⟩ := h r2 H2 m2 e p hm g
    rw [List.getElem?_zipWith] at q
    cases z : xs[i]? with
    | none => rw [z] at q; cases q
    | some y' =>
      cases z2 : ys[i]? with
      | none => rw [z, z2] at q; cases q
      | some y2 =>
        rw [z, z2] at q
        cases q
        obtain ⟨v1, hv1, rv1⟩ := h2.get z
        obtain ⟨v2, hv2, rv2⟩ := h4.get z2
        obtain ⟨T, x', y'', rfl, hT, rfl, f, f2⟩ := y
        rw [f us h1] at hv1; cases hv1
        rw [f2 ws h3] at hv2; cases hv2
        exact ⟨same_new hT, rp_pair hT rv1 rv2⟩
/-- one side of a zip, a list or a tuple -/
theorem side_of {K : Kx} {H : Hp} {r : List Addr} {m : Mu} {d : D} {xs : List D} {v : V} (hm : RMu K H r m) (e : seqOf m d = some xs) (h : Rp K H r d v) :
    ∃ (k : Kn) (a : Addr) (us : List V), v = .ref a ∧ SqK K k H a us ∧ ∀ r2 H2 m2, Ext H H2 → Pre r r2 → RMu K H2 r2 m2 → guard d xs m2 → ∃ us, SqK K k H2 a us ∧ RpL K H2 r2 xs us := by
  obtain ⟨a, us, rfl, g1, g2⟩ := seq_of hm e h
  rcases g2 with ⟨g2, _⟩ | ⟨g2, hd⟩
  · exact ⟨.tu, a, us, rfl, g2, fun r2 H2 m2 ex pr _ _ => ⟨us, sqT_ext ex g2, RpL.ext ex pr _ _ g1⟩⟩
  · exact ⟨.li, a, us, rfl, g2, fun r2 H2 m2 ex pr hm2 gd => itOk_seqL hm e h g1 g2 hd r2 H2 m2 ex pr hm2 gd⟩
theorem itOk_enmT {K : Kx} {H : Hp} {r : List Addr} {a : Addr} {ys : List D} {Gd : Mu → Prop} {us : List V} (h1 : SqT K H a us) (h2 : RpL K H r ys us) :
    ItOk K H r (IteT K a) (ys.mapIdx fun i x => .tup [.int i, x]) Gd := by
  refine ⟨fun r2 H2 m2 e p hm g => ?_, fun i x r2 H2 m2 e p hm g q => ?_, fun i x r2 H2 m2 v H3 e p hm g q y => ?_⟩
  · exact ⟨us, sqT_ext e h1, by rw [List.length_mapIdx, h2.length]; exact Nat.le_refl _⟩
  · rw [List.getElem?_mapIdx] at q
    cases z : ys[i]? with
    | none => rw [z] at q; cases q
    | some y =>
      obtain ⟨v, hv, _⟩ := h2.get z
      exact ⟨us, v, sqT_ext e h1, hv⟩
  · rw [List.getElem?_mapIdx] at q
    cases z : ys[i]? with
    | none => rw [z] at q; cases q
    | some y' =>
      rw [z] at q
      cases q
      obtain ⟨u, hu, ru⟩ := (RpL.ext e p _ _ h2).get z
      obtain ⟨T, x', rfl, hT, rfl, f⟩ := y
      rw [f us (sqT_ext e h1)] at hu; cases hu
      exact ⟨same_new hT, rp_pair hT rfl ru⟩
theorem s_enm (C : Cok X sc N top cN fN G k) {e : Expr} {elts : List Expr} {kk : Nat} {tpos p pos : Pos} {a : I} (hg : glb sc "enumerate" = true) (ha : PA X [e] (LA X.kx (wE G a))) (hn : nostar e = true) :
    PI X (.Tuple elts kk tpos) (.Call (.Name "enumerate" p) [e] [] pos) (LI X.kx (wE G (.enm a)) (.enm a)) := by
  refine PIm (pi_enumA (C.gl hg) (C.mgb (by decide +kernel)) ha (star_cons hn)) fun σ H R q => ?_
  obtain ⟨sl, r, m, P, hs, hm, hw, hP⟩ := q
  refine ⟨sl, r, m, _, hs, hm, hw, fun d m1 q1 => ?_⟩
  obtain ⟨xs, P2, ex, it, hR⟩ := hP _ _ q1
  obtain ⟨d', ys, rfl, es, q2⟩ := it
  refine ⟨_, ex, fun vs r1 H1 e1 p1 rx hm1 => ?_⟩
  obtain ⟨v, rfl, rv⟩ := rpl1 rx
  obtain ⟨b, us, rfl, g1, g2⟩ := seq_of hm1 es rv
  rcases g2 with ⟨g2, e⟩ | ⟨g2, hd'⟩
  · exact ⟨b, us, rfl, .inr ⟨g2, hR _ _ q2 _ r1 H1 e1 p1 hm1 (itOk_enmT g2 g1)⟩⟩
  · exact ⟨b, us, rfl, .inl ⟨g2, hR _ _ q2 _ r1 H1 e1 p1 hm1 (itOk_enm (itOk_seqL hm1 es rv g1 g2 hd'))⟩⟩
theorem s_zip (C : Cok X sc N top cN fN G k) {e f : Expr} {elts : List Expr} {kk : Nat} {tpos p pos : Pos} {a : I} (hg : glb sc "zip" = true) (ha : PA X [e, f] (LA X.kx (wE G a))) (hn : nostar e = true) (hn2 : nostar f = true) :
    PI X (.Tuple elts kk tpos) (.Call (.Name "zip" p) [e, f] [] pos) (LI X.kx (wE G (.zip a)) (.zip a)) := by
  refine PIm (pi_zipK (C.gl hg) (C.mgb (by decide +kernel)) ha (star_cons hn) (star_any (by rw [List.all_cons, hn2]; rfl))) fun σ H R q => ?_
  obtain ⟨sl, r, m, P, hs, hm, hw, hP⟩ := q
  refine ⟨sl, r, m, _, hs, hm, hw, fun d m1 q1 => ?_⟩
  obtain ⟨xs, P2, ex, it, hR⟩ := hP _ _ q1
  obtain ⟨d', e', ys, zs, rfl, es, es', q2⟩ := it
  refine ⟨_, ex, fun vs r1 H1 e1 p1 rx hm1 => ?_⟩
  obtain ⟨v, u, rfl, rv, ru⟩ := rpl2 rx
  obtain ⟨k1, b, us, rfl, g1, g2⟩ := side_of hm1 es rv
  obtain ⟨k2, b', us', rfl, g1', g2'⟩ := side_of hm1 es' ru
  refine ⟨k1, k2, b, b', us, us', rfl, g1, g1', hR _ _ q2 _ r1 H1 e1 p1 hm1 (itOk_zipK fun r2 H2 m2 ex pr hm2 gd => ?_)⟩
  obtain ⟨w1, i1, i2⟩ := g2 r2 H2 m2 ex pr hm2 gd.1
  obtain ⟨w2, j1, j2⟩ := g2' r2 H2 m2 ex pr hm2 gd.2
  exact ⟨w1, w2, i1, i2, j1, j2⟩

/-! targets -/
theorem s_tn (C : Cok X sc N top cN fN G k) {i : Nat} {x : Str} {pos : Pos} (hi : decide (N[i]? = some x) = true) (hs : Ab.sto sc top x = true) : PG X (.Name x pos) (LG X.kx [i] (wG (.tn i))) := by
  obtain ⟨h1, h2⟩ := C.sto hs
  refine PGm (pg_name C.ndN (C.at_ hi) h1 h2) fun v σ H Q q => ?_
  obtain ⟨d, sl, r, P, rd, rs, w, hP⟩ := q
  refine hP _ _ w (rs.set rd) (by rw [List.length_set]) fun j hj => ?_
  rw [List.getElem?_set_ne (fun e => hj (by simp [e]))]
theorem s_tt (C : Cok X sc N top cN fN G k) {ts : I} {es : List Expr} {kk : Nat} {pos : Pos} (h : PGs X es (LGs X.kx (tgS ts) (wG ts))) (hn : es.all nostar = true) (hl : tlen ts = es.length) : PG X (.Tuple es kk pos) (LG X.kx (tgS (.tt ts)) (wG (.tt ts))) := by
  obtain ⟨l1, l2⟩ := each_len (env := X.env) hn
  refine PGm (pg_tup C.calm h l1 l2) fun v σ H Q q => ?_
  obtain ⟨d, sl, r, P, rd, rs, ⟨xs, e, el, w⟩, hP⟩ := q
  subst e
  obtain ⟨a, vs, rfl, h1, h2⟩ := rd
  exact ⟨a, vs, rfl, h1, by rw [← h2.length, el, hl], xs, sl, r, P, h2, rs, w, hP⟩
theorem s_gnil : PGs X [] (LGs X.kx (tgS .nil) (wG .nil)) := by
  refine PGsm pgs_nil fun vs σ H Q q => ?_
  obtain ⟨xs, sl, r, P, rd, rs, ⟨e, w⟩, hP⟩ := q
  cases e
  exact ⟨rd, hP _ _ w rs rfl fun _ _ => rfl⟩
theorem s_gcons {a t : I} {e : Expr} {es : List Expr} (h1 : PG X e (LG X.kx (tgS a) (wG a))) (h2 : PGs X es (LGs X.kx (tgS t) (wG t))) (hn : nostar e = true) : PGs X (e :: es) (LGs X.kx (tgS (.cons a t)) (wG (.cons a t))) := by
  refine PGsm (pgs_cons h1 h2 (by rw [each_cons hn]; rfl)) fun vs σ H Q q => ?_
  obtain ⟨xs, sl, r, P, rd, rs, ⟨x, ys, e, w⟩, hP⟩ := q
  cases e
  obtain ⟨v, vt, rfl, rv, rt⟩ := rd
  refine ⟨v, vt, rfl, x, sl, r, _, rv, rs, w, fun sl' σ' w' rs' hl hj => ?_⟩
  refine ⟨ys, sl', r, P, rt, rs', w', fun sl2 σ2 w2 rs2 hl2 hj2 => hP sl2 σ2 w2 rs2 (hl2.trans hl) fun j hjn => ?_⟩
  have hjn' : j ∉ tgS a ++ tgS t := hjn
  rw [List.mem_append, not_or] at hjn'
  exact (hj2 j hjn'.2).trans (hj j hjn'.1)

/-! comprehensions -/
theorem wipe_at {σ : L2.St} {i : Nat} : ∀ {vs : List Nat}, (wipe σ vs)[i]? = if i ∈ vs then (if i < σ.length then some none else none) else σ[i]?
  | [] => by simp [wipe]
  | v :: vs => by
    unfold wipe
    by_cases h : v = i
    · subst h
      rw [if_pos List.mem_cons_self]
      by_cases hl : v < σ.length
      · rw [List.getElem?_set_self (by rw [wipe_length]; exact hl), if_pos hl]
      · rw [List.getElem?_eq_none (by rw [List.length_set, wipe_length]; omega), if_neg hl]
    · rw [List.getElem?_set_ne h, wipe_at]
      have : (i ∈ v :: vs) ↔ i ∈ vs := by simp [Ne.symm h]
      simp only [this]
theorem wipe_same {σ σ2 : L2.St} {vs ss : List Nat} (hs : ∀ i ∈ ss, i ∈ vs) (hl : σ2.length = (wipe σ vs).length) (h : ∀ (j : Nat), j ∉ ss → σ2[j]? = (wipe σ vs)[j]?) : wipe σ2 vs = wipe σ vs := by
  apply List.ext_getElem?
  intro i
  rw [wipe_length] at hl
  by_cases hi : i ∈ vs
  · rw [wipe_at, wipe_at, if_pos hi, if_pos hi, hl]
  · rw [wipe_at, if_neg hi]
    exact h i fun z => hi (hs i z)
theorem rsl_wipe {K : Kx} {H : Hp} {r : List Addr} {sl : Sl} {σ : L2.St} (h : RSl K H r sl σ) : ∀ vs : List Nat, RSl K H r (wipeS sl vs) (wipe σ vs)
  | [] => h
  | v :: vs => RSl.unset (rsl_wipe h vs)
theorem PTsm {ifs : List Expr} {t t' : TT} (h : PTs X ifs t) (g : ∀ σ H Q, t' σ H Q → t σ H Q) : PTs X ifs t' := ⟨fun pins s σ H Q I q => h.run pins s σ H Q I (g σ H Q q)⟩
theorem pts_true {K : Kx} : PTs X [] (LT K (wE G (.bl true))) :=
  PTsm pts_nil fun σ H Q ⟨sl, r, m, P, hs, hm, hw, hP⟩ => (hP _ _ hw).here hm
def wComp (G : Gm) (e g it c : I) (own : List (Str × Nat)) (out : Nat → Mu → Sl → (D → Mu → Prop) → Prop) : WE := fun sl m P => wE G it sl m fun x m1 => ∃ xs, x = .tup xs ∧ itD it xs m1 fun ys Gd =>
      compW (wG g) (wE G c) (wE G e) m1.length Gd (wipeS sl (own.map (·.2))) (fun m2 => out m1.length m2 sl P) ys (m1 ++ [.lst []])
/-- the turns of a comprehension; Qd: what is wanted of the new list -/
theorem comp_go {K : Kx} {e g it c : I} {vs : List Nat} (hsub : ∀ i ∈ tgS g, i ∈ vs) {sl : Sl} {σ : L2.St} {H : Hp} {r : List Addr} {m : Mu} {Qd : V → Hp → Prop} {Pw : Mu → Mu → Prop} {Pe : D → Mu → Prop}
    (hs : RSl K H r sl σ) (hm : RMu K H r m)
    (hw : wE G it sl m Pe) (hPe : ∀ x m1, Pe x m1 → ∃ xs P2, x = .tup xs ∧ itD it xs m1 P2 ∧ ∀ ys Gd, P2 ys Gd → compW (wG g) (wE G c) (wE G e) m1.length Gd (wipeS sl vs) (Pw m1) ys (m1 ++ [.lst []]))
    (hQ : ∀ m1 m2 r2 H2 D, Pw m1 m2 → Ext H H2 → Pre r r2 → RMu K H2 r2 m2 → r2[m1.length]? = some D → Qd (.ref D) H2) :
    LI K (wE G it) it σ H fun J H1 => ∀ Da, H1 Da = none → ∃ W : Nat → Nat → Hp → Prop, (∃ m, W 0 m (upd H1 Da (.lst []))) ∧ ∀ i m H, W i m H →
      (J.stop i H ∧ Qd (.ref Da) H) ∨ (J.go i H ∧ ∃ Nx : Hp → Prop, (∀ H', Nx H' → ∃ m', m' < m ∧ W (i + 1) m' H') ∧ ∀ x H', J.yld i H x H' → LG K (tgS g) (wG g) x (wipe σ vs) H' fun σ2 H2 => wipe σ2 vs = wipe σ vs ∧ LT K (wE G c) σ2 H2 fun b H3 =>
        if b = true then LE K (wE G e) σ2 H3 fun y H4 => ∃ acc, H4 Da = some (.lst acc) ∧ acc.length < sizeLine ∧ Nx (upd H4 Da (.lst (acc ++ [y]))) else Nx H3) := by
  refine ⟨sl, r, m, Pe, hs, hm, hw, fun x m1 hx => ?_⟩
  obtain ⟨xs, P2, ex, it', hc⟩ := hPe x m1 hx
  refine ⟨xs, P2, ex, it', fun ys Gd h2 J r1 H1 e1 p1 hm1 ok Da hDa => ?_⟩
  have hw0 := hc ys Gd h2
  have sm : Same H1 (upd H1 Da (.lst [])) := same_new hDa
  have ex1 : Ext H1 (upd H1 Da (.lst [])) := Ext.same sm
  have hm1' : RMu K (upd H1 Da (.lst [])) (r1 ++ [Da]) (m1 ++ [.lst []]) := hm1.new hDa rfl
  have hat : (r1 ++ [Da])[m1.length]? = some Da := by
    rw [← hm1.len, List.getElem?_append_right (Nat.le_refl _), Nat.sub_self]; rfl
  -- the words by turn
  obtain ⟨Inv, hw00, turn⟩ := hw0
  refine ⟨fun i mm Hi => mm = ys.length - i ∧ i ≤ ys.length ∧ ∃ r2 m2, Ext (upd H1 Da (.lst [])) Hi ∧ Pre (r1 ++ [Da]) r2 ∧ RMu K Hi r2 m2 ∧ Inv i m2,
    ⟨ys.length, rfl, Nat.zero_le _, r1 ++ [Da], _, Ext.refl _, Pre.refl _, hm1', hw00⟩, ?_⟩
  rintro i mm Hi ⟨rfl, hi, r2, m2, e2, p2, hm2, hw2⟩
  obtain ⟨hG, hend, hgo⟩ := turn i m2 hi hw2
  have e12 := ex1.trans e2
  have p12 := (Pre.app r1 [Da]).trans p2
  have hat2 : r2[m1.length]? = some Da := p2 _ _ hat
  by_cases hlt : i < ys.length
  · have hget : ys[i]? = some ys[i] := List.getElem?_eq_getElem hlt
    have hg := hgo _ hget
    refine .inr ⟨ok.go i _ r2 Hi m2 e12 p12 hm2 hG hget, fun H' => ∃ r3 m3, Ext (upd H1 Da (.lst [])) H' ∧ Pre (r1 ++ [Da]) r3 ∧ RMu K H' r3 m3 ∧ Inv (i + 1) m3,
      fun H' ⟨r3, m3, z1, z2, z3, z4⟩ => ⟨ys.length - (i + 1), by omega, rfl, hlt, r3, m3, z1, z2, z3, z4⟩, fun x H' y => ?_⟩
    obtain ⟨sm3, rx⟩ := ok.yld i _ r2 Hi m2 x H' e12 p12 hm2 hG hget y
    have ex3 : Ext Hi H' := Ext.same sm3
    have hm3 : RMu K H' r2 m2 := hm2.same sm3
    have hs3 : RSl K H' r2 (wipeS sl vs) (wipe σ vs) := rsl_wipe (hs.ext (e1.trans (e12.trans ex3)) (p1.trans p12)) vs
    refine ⟨ys[i], wipeS sl vs, r2, _, rx, hs3, hg, fun sl' σ' w' rs' hl' hj' => ⟨wipe_same hsub hl' hj', ?_⟩⟩
    refine ⟨sl', r2, m2, _, rs', hm3, w', fun b m4 ⟨t, et, q4⟩ => ⟨t, et, fun r4 H4 e4 p4 hm4 => ?_⟩⟩
    cases t with
    | false =>
      rw [if_neg Bool.false_ne_true] at q4 ⊢
      exact ⟨r4, m4, e2.trans (ex3.trans e4), p2.trans p4, hm4, q4⟩
    | true =>
      rw [if_pos rfl] at q4 ⊢
      refine ⟨sl', r4, m4, _, rs'.ext e4 p4, hm4, q4, fun d m5 ⟨acc, ea, hz, q5⟩ v r5 H5 e5 p5 rv hm5 => ?_⟩
      obtain ⟨a, us, h1, h2, h3⟩ := hm5.at_lst ea
      have hat5 : r5[m1.length]? = some Da := p5 _ _ (p4 _ _ hat2)
      rw [hat5] at h1; cases h1
      refine ⟨us, h2, by rw [← h3.length]; exact hz, r5, _, e2.trans (ex3.trans (e4.trans (e5.trans (ext_write h2)))), p2.trans (p4.trans p5), hm5.write hat5 h2 (h3.append (RpL.one rv)), q5⟩
  · have he : i = ys.length := by omega
    have hq := hend he
    subst he
    exact .inl ⟨ok.stop r2 Hi m2 e12 p12 hm2 hG, hQ m1 m2 r2 Hi Da hq (e1.trans e12) (p1.trans p12) hm2 hat2⟩
/-- the block's context -/
theorem Cok.blk (C : Cok X sc N top cN fN G k) {scope : Scope} (hk : scope.kind = .function) (s : Shared) (H : Hp) (Ca : Addr) (cl : List (Str × Addr)) (fp : List Addr) : Cok (X.blk s H scope (compEnvC scope cl Ca X.env) fp) (relS scope sc) N false cN fN G k :=
  ⟨C.hN, C.hc, C.hf, hk, rfl, C.nd, by show relabel scope X.env = relS scope sc; rw [← C.hs]; rfl, C.calm, C.room, fun z => (Bool.noConfusion z), C.blt, C.cs, C.fns, C.ms, C.cls⟩
end
end Ab

namespace Ab
open PySem PySem.Spec PyProof.Rows L2
section
variable {X : Cx} {sc : Scope} {N cN fN : List Str} {top : Bool} {G : Gm} {k : Nat}
theorem s_skip {K : Kx} {E : Ends} {σ : L2.St} {H : Hp} (q : LS K (fun m0 => wS G m0 .skip) E σ H) : tNext E σ H := by
  obtain ⟨sl, r, m, A, H0, r0, m0, hs, hm, hm0, e, p, ok, w⟩ := q
  exact ok.nx sl m σ H r w e p hs hm
theorem s_blk {s r : I} {x : Stmt} {xs : List Stmt} (h1 : PS X x (LS X.kx fun m0 => wS G m0 s)) (h2 : PSs X xs (LS X.kx fun m0 => wS G m0 r)) : PSs X (x :: xs) (LS X.kx fun m0 => wS G m0 (.blk s r)) := by
  refine PSsm (pss_cons h1 h2) fun E σ H q => ?_
  obtain ⟨sl, rr, m, A, H0, r0, m0, hs, hm, hm0, e, p, ok, w⟩ := q
  refine ⟨sl, rr, m, { A with nx := fun sl' m' => wS G m0 r A sl' m' }, H0, r0, m0, hs, hm, hm0, e, p, ⟨fun sl' m' σ' H' r' w' e' p' hs' hm' => ?_, ok.rt, ok.bk, ok.ct⟩, w⟩
  exact ⟨sl', r', m', A, H0, r0, m0, hs', hm', hm0, e', p', ok, w'⟩
theorem swap_cell {t v : Expr} {l : Nat} {env : Env} (h : isCell env.scope t = true) : swapsWith v (some t) l env = pure false := by
  cases t with
  | Name x pos =>
    have hk : env.kindOf x = some .cell := of_decide_eq_true h
    have e : (env.kindOf x == some .local) = false := by rw [hk]; rfl
    unfold swapsWith
    split
    · show (pure (env.blockKind == .function && env.kindOf x == some .local && _ && _) : Sem Bool) = _
      rw [e, Bool.and_false, Bool.false_and, Bool.false_and]
    · rfl
  | _ => cases h
theorem swapOk_ok {t v : Expr} {l : Nat} {env : Env} (he : env.scope = sc) (h : swapOk sc t v = true) : swapsWith v (some t) l env = pure false ∧ swappedStores [t] v env = pure none := by
  subst he
  unfold swapOk at h
  rw [Bool.and_eq_true, Bool.or_eq_true] at h
  refine ⟨h.1.elim swap_no swap_cell, ?_⟩
  have h2 := h.2
  cases t with
  | Tuple ts k1 p1 =>
    cases v with
    | Tuple vs k2 p2 =>
      match ts, h2 with
      | [], _ => exact stores_few rfl
      | [a], _ => exact stores_few rfl
      | [a, b], h2 =>
        have h3 : ((vs.all (foldedForSure 8) && vs.length == 2) || [a, b].any (isCell env.scope)) = true := h2
        rw [Bool.or_eq_true, Bool.and_eq_true] at h3
        exact h3.elim (fun z => stores_folded z.1) stores_cell
      | [a, b, c], h2 =>
        have h3 : ((vs.all (foldedForSure 8) && vs.length == 3) || [a, b, c].any (isCell env.scope)) = true := h2
        rw [Bool.or_eq_true, Bool.and_eq_true] at h3
        exact h3.elim (fun z => stores_folded z.1) stores_cell
      | a :: b :: c :: d :: r, _ => exact stores_few (by simp)
    | _ => exact stores_noe rfl
  | List ts p1 => exact absurd (show false = true from h2) Bool.false_ne_true
  | _ => exact stores_notup rfl
theorem s_asg {g e : I} {t v : Expr} {pos : Pos} (hg : PG X t (LG X.kx (tgS g) (wG g))) (he : PE X v (LE X.kx (wE G e))) (hn : nostar t = true) (hsc : X.env.scope = sc) (hs : swapOk sc t v = true) : PS X (.Assign [t] v pos) (LS X.kx fun m0 => wS G m0 (.asg g e)) := by
  obtain ⟨h1, h2⟩ := swapOk_ok (l := pos.line) hsc hs
  refine PSm (ps_asg he hg h1 h2 (each_one hn)) fun E σ H q => ?_
  obtain ⟨sl, rr, m, A, H0, r0, m0, hs, hm, hm0, e, p, ok, w⟩ := q
  refine ⟨sl, rr, m, _, hs, hm, w, fun d m1 q1 vd r1 H1 e1 p1 rd hm1 => ?_⟩
  exact ⟨d, sl, r1, _, rd, hs.ext e1 p1, q1, fun sl' σ' w' hs' _ _ => ok.nx sl' m1 σ' H1 r1 w' (e.trans e1) (p.trans p1) hs' hm1⟩
theorem swap_tup {e : Expr} {es : List Expr} {k : Nat} {p : Pos} {l : Nat} {env : Env} : swapsWith e (some (.Tuple es k p)) l env = pure false := by
  cases e <;> rfl
theorem s_asgl (C : Cok X sc N top cN fN G k) {g e : I} {es : List Expr} {kk : Nat} {tp : Pos} {v : Expr} {pos : Pos} (hg : PGs X es (LGs X.kx (tgS g) (wG g))) (he : PE X v (LE X.kx (wE G e))) (hn : es.all nostar = true) (hv : notup v = true) (hl : tlen g = es.length) :
    PS X (.Assign [.Tuple es kk tp] v pos) (LS X.kx fun m0 => wS G m0 (.asgl g e)) := by
  obtain ⟨l1, l2⟩ := each_len (env := X.env) hn
  refine PSm (ps_asg he (pg_unl C.calm hg l1 l2) (show swapsWith v (some (.Tuple es kk tp)) pos.line X.env = pure false from swap_tup) (stores_noe hv) (each_one rfl)) fun E σ H q => ?_
  obtain ⟨sl, rr, m, A, H0, r0, m0, hs, hm, hm0, e, p, ok, w⟩ := q
  refine ⟨sl, rr, m, _, hs, hm, w, fun d m1 q1 vd r1 H1 e1 p1 rd hm1 => ?_⟩
  obtain ⟨n, xs, rfl, at1, hx, wg⟩ := q1
  obtain ⟨a, vs, ra, ha, rl⟩ := hm1.at_lst at1
  obtain ⟨a', ra', rfl⟩ := rd
  rw [ra] at ra'
  cases ra'
  exact ⟨a, vs, rfl, .inl (.inl ha), by rw [← rl.length, hx, hl], xs, sl, r1, _, rl, hs.ext e1 p1, wg, fun sl' σ' w' hs' _ _ => ok.nx sl' m1 σ' H1 r1 w' (e.trans e1) (p.trans p1) hs' hm1⟩
theorem s_par (C : Cok X sc N top cN fN G k) {i j : Nat} {x y : Str} {e f : Expr} {px py pt pos : Pos} {kt k2 : Nat} {pt2 : Pos} {a : I} (hi : decide (N[i]? = some x) = true) (hj : decide (N[j]? = some y) = true) (hx : Ab.lcl sc x = true) (hy : Ab.lcl sc y = true) (hij : i ≠ j) (ha : PA X [e, f] (LA X.kx (wE G a)))
    (hl : (py.line == px.line) = true) (se : nostar e = true) (sf : nostar f = true) (hf : [e, f].all (foldedForSure 8) = false) (hc : [e, f].all (constantsAlone 8) = false) :
    PS X (.Assign [.Tuple [.Name x px, .Name y py] kt pt] (.Tuple [e, f] k2 pt2) pos) (LS X.kx fun m0 => wS G m0 (.par i j a)) := by
  have hxy : x ≠ y := fun z => hij (nodup_ix C.ndN (C.at_ hi) (z ▸ C.at_ hj))
  refine PSm (ps_par C.calm C.ndN (C.at_ hi) (C.at_ hj) hij (C.lcl hx) (C.lcl hy) ha (stores_pair C.kd (C.lcl hx) (C.lcl hy) hxy hl se sf hf hc) rfl) fun E σ H q => ?_
  obtain ⟨sl, rr, m, A, H0, r0, m0, hs, hm, hm0, e, p, ok, w⟩ := q
  refine ⟨sl, rr, m, _, hs, hm, w, fun d m1 ⟨u, v, ed, q1⟩ => ⟨_, ed, fun vs r1 H1 e1 p1 rd hm1 => ?_⟩⟩
  obtain ⟨vu, vv, rfl, ru, rv⟩ := rpl2 rd
  exact ⟨vu, vv, rfl, ok.nx _ m1 _ H1 r1 q1 (e.trans e1) (p.trans p1) (((hs.ext e1 p1).set ru).set rv) hm1⟩
theorem s_par3 (C : Cok X sc N top cN fN G k) {i j l : Nat} {x y z : Str} {e f h : Expr} {px py pz pt pos : Pos} {kt k2 : Nat} {pt2 : Pos} {a : I} (hi : decide (N[i]? = some x) = true) (hj : decide (N[j]? = some y) = true) (hk : decide (N[l]? = some z) = true) (hx : Ab.lcl sc x = true) (hy : Ab.lcl sc y = true) (hz : Ab.lcl sc z = true)
    (hij : i ≠ j) (hil : i ≠ l) (hjl : j ≠ l) (ha : PA X [e, f, h] (LA X.kx (wE G a)))
    (hl : (py.line == px.line) = true) (hl2 : (pz.line == px.line) = true) (se : nostar e = true) (sf : nostar f = true) (sh : nostar h = true) (hf : [e, f, h].all (foldedForSure 8) = false) (hc : [e, f, h].all (constantsAlone 8) = false) :
    PS X (.Assign [.Tuple [.Name x px, .Name y py, .Name z pz] kt pt] (.Tuple [e, f, h] k2 pt2) pos) (LS X.kx fun m0 => wS G m0 (.par3 i j l a)) := by
  have hxy : x ≠ y := fun w => hij (nodup_ix C.ndN (C.at_ hi) (w ▸ C.at_ hj))
  have hxz : x ≠ z := fun w => hil (nodup_ix C.ndN (C.at_ hi) (w ▸ C.at_ hk))
  have hyz : y ≠ z := fun w => hjl (nodup_ix C.ndN (C.at_ hj) (w ▸ C.at_ hk))
  refine PSm (ps_par3 C.calm C.ndN (C.at_ hi) (C.at_ hj) (C.at_ hk) hij hil hjl (C.lcl hx) (C.lcl hy) (C.lcl hz) ha (stores_three C.kd (C.lcl hx) (C.lcl hy) (C.lcl hz) hxy hxz hyz hl hl2 se sf sh hf hc) rfl) fun E σ H q => ?_
  obtain ⟨sl, rr, m, A, H0, r0, m0, hs, hm, hm0, e, p, ok, w⟩ := q
  refine ⟨sl, rr, m, _, hs, hm, w, fun d m1 ⟨u, v, w, ed, q1⟩ => ⟨_, ed, fun vs r1 H1 e1 p1 rd hm1 => ?_⟩⟩
  obtain ⟨vu, vv, vw, rfl, ru, rv, rw'⟩ := rpl3 rd
  exact ⟨vu, vv, vw, rfl, ok.nx _ m1 _ H1 r1 q1 (e.trans e1) (p.trans p1) ((((hs.ext e1 p1).set ru).set rv).set rw') hm1⟩
theorem s_aug (C : Cok X sc N top cN fN G k) {i : Nat} {o : O2} {x : Str} {v : Expr} {px pos : Pos} {e : I} (hi : decide (N[i]? = some x) = true) (hx : Ab.sto sc top x = true) (he : PE X v (LE X.kx (wE G e))) : PS X (.AugAssign (.Name x px) (o2op o) v pos) (LS X.kx fun m0 => wS G m0 (.aug i o e)) := by
  obtain ⟨l1, l2⟩ := C.sto hx
  have none_ : (∀ d y (P : D → Prop), ¬ aug2 o d y P) → PS X (.AugAssign (.Name x px) (o2op o) v pos) (LS X.kx fun m0 => wS G m0 (.aug i o e)) := fun hn =>
    PSm (ps_aug C.ndN (C.at_ hi) l1 he (op := o2op o) (ti := fun _ _ _ _ => False) (fun _ _ _ _ _ _ _ _ _ _ _ _ z => z.elim) l2) fun E σ H q => by
      obtain ⟨sl, rr, m, A, H0, r0, m0, hs, hm, hm0, ee, p, ok, d, hd, w⟩ := q
      obtain ⟨u, hu, ru⟩ := hs.at_ i d hd
      exact ⟨u, hu, sl, rr, m, _, hs, hm, w, fun y m1 q1 => absurd q1 (hn d y _)⟩
  cases o with
  | add =>
    refine PSm (ps_aug C.ndN (C.at_ hi) l1 he (op := .Add) iop_add l2) fun E σ H q => ?_
    obtain ⟨sl, rr, m, A, H0, r0, m0, hs, hm, hm0, ee, p, ok, d, hd, w⟩ := q
    obtain ⟨u, hu, ru⟩ := hs.at_ i d hd
    refine ⟨u, hu, sl, rr, m, _, hs, hm, w, fun y m1 ⟨i1, i2, ed, ey, q1⟩ vy r1 H1 e1 p1 ry hm1 => ?_⟩
    subst ed ey
    cases ru; cases ry
    exact ⟨i1, i2, rfl, rfl, ok.nx _ m1 _ H1 r1 q1 (ee.trans e1) (p.trans p1) ((hs.ext e1 p1).set rfl) hm1⟩
  | sub =>
    refine PSm (ps_aug C.ndN (C.at_ hi) l1 he (op := .Sub) iop_sub l2) fun E σ H q => ?_
    obtain ⟨sl, rr, m, A, H0, r0, m0, hs, hm, hm0, ee, p, ok, d, hd, w⟩ := q
    obtain ⟨u, hu, ru⟩ := hs.at_ i d hd
    refine ⟨u, hu, sl, rr, m, _, hs, hm, w, fun y m1 ⟨i1, i2, ed, ey, q1⟩ vy r1 H1 e1 p1 ry hm1 => ?_⟩
    subst ed ey
    cases ru; cases ry
    exact ⟨i1, i2, rfl, rfl, ok.nx _ m1 _ H1 r1 q1 (ee.trans e1) (p.trans p1) ((hs.ext e1 p1).set rfl) hm1⟩
  | _ => exact none_ fun _ _ _ z => z
theorem PSet.or {X : Cx} {t t' : TSet} (h : PSet X t) (h' : PSet X t') : PSet X fun o i v H Q => t o i v H Q ∨ t' o i v H Q := by
  intro pins s σ H o i v ov iv u Q I ro ri rv q
  rcases q with q | q
  · exact h pins s σ H o i v ov iv u Q I ro ri rv q
  · exact h' pins s σ H o i v ov iv u Q I ro ri rv q
theorem s_sset (C : Cok X sc N top cN fN G k) {o i e : I} {x y v : Expr} {ps pos : Pos} (ho : PE X x (LE X.kx (wE G o))) (hi : PE X y (LE X.kx (wE G i))) (he : PE X v (LE X.kx (wE G e))) (hn : noslice y = true) (hc : nocomp v = true) :
    PS X (.Assign [.Subscript x y ps] v pos) (LS X.kx fun m0 => wS G m0 (.sset o i e)) := by
  refine PSm (ps_asg he (pg_sub ho hi (PSet.or set_list (PSet.or (set_dict C.hu) set_dictL)) (fun u => sub_assign hn u)) (swap_no (t := some (.Subscript x y ps)) (l := pos.line) (env := X.env) hc) (stores_notup rfl) (each_one rfl)) fun E σ H q => ?_
  obtain ⟨sl, rr, m, A, H0, r0, m0, hs, hm, hm0, ee, p, ok, w⟩ := q
  refine ⟨sl, rr, m, _, hs, hm, w, fun d m1 q1 vd r1 H1 e1 p1 rd hm1 => ?_⟩
  have hs1 := hs.ext e1 p1
  refine ⟨sl, r1, m1, _, hs1, hm1, q1, fun ox m2 q2 vo r2 H2 e2 p2 ro hm2 => ?_⟩
  have hs2 := hs1.ext e2 p2
  refine ⟨sl, r2, m2, _, hs2, hm2, q2, fun iy m3 q3 vi r3 H3 e3 p3 ri hm3 => ?_⟩
  have hs3 := hs2.ext e3 p3
  have rd3 := Rp.ext (e2.trans e3) (p2.trans p3) _ _ rd
  rcases q3 with ⟨n, xs, kk, j, eo, ei, el, ej, q3⟩ | ⟨n, ks, vs, eo, el, hk, hz, q3⟩
  · subst eo ei
    cases ri
    obtain ⟨a, us, h1, h2, h3⟩ := hm3.at_lst el
    obtain ⟨b, g1, rfl⟩ := ro
    have := p3 _ _ g1
    rw [h1] at this; cases this
    have ew := ext_write (ws := us.set j vd) h2
    exact .inl ⟨a, us, kk, j, rfl, rfl, h2, by rw [← h3.length]; exact ej, ok.nx sl _ σ _ r3 q3 ((((ee.trans e1).trans e2).trans e3).trans ew) (((p.trans p1).trans p2).trans p3) (hs3.ext ew (Pre.refl _)) (hm3.write h1 h2 (h3.set j rd3))⟩
  · subst eo
    obtain ⟨a, g1, rfl⟩ := ro
    have ha := p3 _ _ g1
    obtain ⟨ob, kvs, us, h1, h2, h3, h4, h5⟩ := hm3.ob n a _ ha el
    have hobk : ObK H3 a := .inr (.inl ⟨_, h1⟩)
    have fin : ∀ ob' kvs' us', DicS X.kx ob' (putK ks iy) kvs' us' → RpL X.kx H3 r3 (putK ks iy) kvs' → RpL X.kx H3 r3 (putV ks vs iy d) us' → E.nx σ (upd H3 a (dicO a ob')) := fun ob' kvs' us' g3 g4 g5 => by
      have ew := ext_writeO (o := dicO a ob') hobk
      exact ok.nx sl _ σ _ r3 q3 ((((ee.trans e1).trans e2).trans e3).trans ew) (((p.trans p1).trans p2).trans p3) (hs3.ext ew (Pre.refl _)) (hm3.writeO ha hobk ⟨ob', kvs', us', upd_same, h2, g3, RpL.ext ew (Pre.refl _) _ _ g4, RpL.ext ew (Pre.refl _) _ _ g5⟩)
    rcases hk with hk | hk
    · exact .inr (.inl ⟨r3, iy, d, ks, vs, a, ob, kvs, us, rfl, h1, h3, h4, h5, ri, rd3, hk, hz, fin⟩)
    · exact .inr (.inr ⟨r3, iy, d, ks, vs, a, ob, kvs, us, rfl, h1, h3, h4, h5, ri, rd3, hk, hz, fin⟩)
theorem s_swp (C : Cok X sc N top cN fN G k) {o i j e : I} {x y x2 z v : Expr} {ps ps2 pt pos : Pos} {kt : Nat} (ho : PE X x (LE X.kx (wE G o))) (hi : PE X y (LE X.kx (wE G i))) (ho2 : PE X x2 (LE X.kx (wE G o))) (hj : PE X z (LE X.kx (wE G j)))
    (he : PE X v (LE X.kx (wE G e))) (hn : noslice y = true) (hn2 : noslice z = true) (hc : nocomp v = true) : PS X (.Assign [.Tuple [.Subscript x y ps, .Subscript x2 z ps2] kt pt] v pos) (LS X.kx fun m0 => wS G m0 (.swp o i j e)) := by
  obtain ⟨l1, l2⟩ := each_len (env := X.env) (ts := [.Subscript x y ps, .Subscript x2 z ps2]) rfl
  refine PSm (ps_asg he (pg_tup C.calm (pgs_cons (pg_sub ho hi set_list (fun u => sub_assign hn u)) (pgs_cons (pg_sub ho2 hj set_list (fun u => sub_assign hn2 u)) pgs_nil (by rw [each_cons rfl]; rfl)) (by rw [each_cons rfl]; rfl)) l1 l2) (show swapsWith v (some (.Tuple [.Subscript x y ps, .Subscript x2 z ps2] kt pt)) pos.line X.env = pure false from swap_tup) stores_sub (each_one rfl)) fun E σ H q => ?_
  obtain ⟨sl, rr, m, A, H0, r0, m0, hs, hm, hm0, ee, p, ok, w⟩ := q
  refine ⟨sl, rr, m, _, hs, hm, w, fun d m1 q1 vd r1 H1 e1 p1 rd hm1 => ?_⟩
  obtain ⟨d1, d2, rfl, q1⟩ := q1
  obtain ⟨a, vs, rfl, g1, g2⟩ := rd
  obtain ⟨v1, v2, rfl, rd1, rd2⟩ := rpl2 g2
  have hs1 := hs.ext e1 p1
  refine ⟨a, [v1, v2], rfl, g1, rfl, v1, [v2], rfl, sl, r1, m1, _, hs1, hm1, q1, fun ox m2 q2 vo r2 H2 e2 p2 ro hm2 => ?_⟩
  have hs2 := hs1.ext e2 p2
  refine ⟨sl, r2, m2, _, hs2, hm2, q2, fun iy m3 q3 vi r3 H3 e3 p3 ri hm3 => ?_⟩
  have hs3 := hs2.ext e3 p3
  have rd3 := Rp.ext (e2.trans e3) (p2.trans p3) _ _ rd1
  obtain ⟨n, xs, kk, j, eo, ei, el, ej, q3⟩ := q3
  subst eo ei
  cases ri
  obtain ⟨b, us, h1, h2, h3⟩ := hm3.at_lst el
  obtain ⟨b', g3, rfl⟩ := ro
  have := p3 _ _ g3
  rw [h1] at this; cases this
  have ew := ext_write (ws := us.set j v1) h2
  refine ⟨b, us, kk, j, rfl, rfl, h2, by rw [← h3.length]; exact ej, ?_⟩
  have hm4 := hm3.write h1 h2 (h3.set j rd3)
  have hs4 := hs3.ext ew (Pre.refl _)
  refine ⟨v2, [], rfl, sl, r3, _, _, hs4, hm4, q3, fun ox5 m5 q5 vo5 r5 H5 e5 p5 ro5 hm5 => ?_⟩
  have hs5 := hs4.ext e5 p5
  refine ⟨sl, r5, m5, _, hs5, hm5, q5, fun iy6 m6 q6 vi6 r6 H6 e6 p6 ri6 hm6 => ?_⟩
  have hs6 := hs5.ext e6 p6
  have rd6 := Rp.ext (((e2.trans e3).trans ew).trans (e5.trans e6)) ((p2.trans p3).trans (p5.trans p6)) _ _ rd2
  obtain ⟨n, ys, kk, j, eo, ei, el, ej, q6⟩ := q6
  subst eo ei
  cases ri6
  obtain ⟨b2, us2, i1, i2, i3⟩ := hm6.at_lst el
  obtain ⟨b2', g6, rfl⟩ := ro5
  have := p6 _ _ g6
  rw [i1] at this; cases this
  have ew2 := ext_write (ws := us2.set j v2) i2
  refine ⟨b2, us2, kk, j, rfl, rfl, i2, by rw [← i3.length]; exact ej, rfl, ?_⟩
  exact ok.nx sl _ σ _ r6 q6 ((((((ee.trans e1).trans e2).trans e3).trans ew).trans (e5.trans e6)).trans ew2) ((((p.trans p1).trans p2).trans p3).trans (p5.trans p6)) (hs6.ext ew2 (Pre.refl _)) (hm6.write i1 i2 (i3.set j rd6))
theorem s_ex {e : I} {v : Expr} {pos : Pos} (he : PE X v (LE X.kx (wE G e))) (hc : nocomp v = true) : PS X (.Expr v pos) (LS X.kx fun m0 => wS G m0 (.ex e)) := by
  refine PSm (ps_expr he (swap_no hc)) fun E σ H q => ?_
  obtain ⟨sl, rr, m, A, H0, r0, m0, hs, hm, hm0, ee, p, ok, w⟩ := q
  exact ⟨sl, rr, m, _, hs, hm, w, fun d m1 q1 vd r1 H1 e1 p1 rd hm1 => ok.nx sl m1 σ H1 r1 q1 (ee.trans e1) (p.trans p1) (hs.ext e1 p1) hm1⟩
theorem s_ret {e : I} {v : Expr} {pos : Pos} (he : PE X v (LE X.kx (wE G e))) : PS X (.Return (some v) pos) (LS X.kx fun m0 => wS G m0 (.ret e)) := by
  refine PSm (ps_ret he) fun E σ H q => ?_
  obtain ⟨sl, rr, m, A, H0, r0, m0, hs, hm, hm0, ee, p, ok, w⟩ := q
  exact ⟨sl, rr, m, _, hs, hm, w, fun d m1 q1 vd r1 H1 e1 p1 rd hm1 => ok.rt d m1 vd H1 r1 q1 (ee.trans e1) (p.trans p1) rd hm1⟩
theorem s_retn {pos : Pos} : PS X (.Return none pos) (LS X.kx fun m0 => wS G m0 .retn) := by
  refine PSm ps_retN fun E σ H q => ?_
  obtain ⟨sl, rr, m, A, H0, r0, m0, hs, hm, hm0, ee, p, ok, w⟩ := q
  exact ok.rt .non m .non H rr w ee p rfl hm
theorem s_sif {c a b : I} {x : Expr} {ys zs : List Stmt} {pos : Pos} (hc : PT X x (LT X.kx (wE G c))) (ha : PSs X ys (LS X.kx fun m0 => wS G m0 a)) (hb : PSs X zs (LS X.kx fun m0 => wS G m0 b)) : PS X (.If x ys zs pos) (LS X.kx fun m0 => wS G m0 (.sif c a b)) := by
  refine PSm (ps_if hc ha hb) fun E σ H q => ?_
  obtain ⟨sl, rr, m, A, H0, r0, m0, hs, hm, hm0, ee, p, ok, w⟩ := q
  refine ⟨sl, rr, m, _, hs, hm, w, fun d m1 ⟨t, ed, q1⟩ => ⟨t, ed, fun r1 H1 e1 p1 hm1 => ?_⟩⟩
  cases t with
  | true =>
    rw [if_pos rfl] at q1 ⊢
    exact ⟨sl, r1, m1, A, H0, r0, m0, hs.ext e1 p1, hm1, hm0, ee.trans e1, p.trans p1, ok, q1⟩
  | false =>
    rw [if_neg Bool.false_ne_true] at q1 ⊢
    exact ⟨sl, r1, m1, A, H0, r0, m0, hs.ext e1 p1, hm1, hm0, ee.trans e1, p.trans p1, ok, q1⟩
theorem s_whl (C : Cok X sc N top cN fN G k) {c b : I} {x : Expr} {ys : List Stmt} {pos : Pos} (hc : PT X x (LT X.kx (wE G c))) (hb : PSs X ys (LS X.kx fun m0 => wS G m0 b)) : PS X (.While x ys [] pos) (LS X.kx fun m0 => wS G m0 (.whl c b)) := by
  refine PSm (ps_while C.op hc hb) fun E σ H q => ?_
  obtain ⟨sl, rr, m, A, H0, r0, m0, hs, hm, hm0, ee, p, ok, W, ⟨k0, w0⟩, turn⟩ := q
  refine ⟨fun n σ' H' => ∃ sl' r' m', RSl X.kx H' r' sl' σ' ∧ RMu X.kx H' r' m' ∧ Ext H H' ∧ Pre rr r' ∧ W n sl' m', ⟨k0, sl, rr, m, hs, hm, Ext.refl H, Pre.refl rr, w0⟩, ?_⟩
  rintro n σ' H' ⟨sl', r', m', hs', hm', e', p', w'⟩
  refine ⟨sl', r', m', _, hs', hm', turn n sl' m' w', fun d m1 ⟨t, ed, q1⟩ => ⟨t, ed, fun r1 H1 e1 p1 hm1 => ?_⟩⟩
  cases t with
  | true =>
    rw [if_pos rfl] at q1 ⊢
    have ok2 := ok.mono ee p
    refine ⟨fun σ2 H2 => ∃ n', n' < n ∧ ∃ sl2 r2 m2, RSl X.kx H2 r2 sl2 σ2 ∧ RMu X.kx H2 r2 m2 ∧ Ext H H2 ∧ Pre rr r2 ∧ W n' sl2 m2, fun σ2 H2 h => h, ?_⟩
    refine ⟨sl', r1, m1, { A with nx := fun sl' m' => ∃ k', k' < n ∧ W k' sl' m', ct := fun sl' m' => ∃ k', k' < n ∧ W k' sl' m', bk := A.nx }, H, rr, m, hs'.ext e1 p1, hm1, hm, e'.trans e1, p'.trans p1, ⟨?_, ok2.rt, ok2.nx, ?_⟩, q1⟩
    · rintro sl2 m2 σ2 H2 r2 ⟨n', hn', w2⟩ e2 p2 hs2 hm2
      exact ⟨n', hn', sl2, r2, m2, hs2, hm2, e2, p2, w2⟩
    · rintro sl2 m2 σ2 H2 r2 ⟨n', hn', w2⟩ e2 p2 hs2 hm2
      exact ⟨n', hn', sl2, r2, m2, hs2, hm2, e2, p2, w2⟩
  | false =>
    rw [if_neg Bool.false_ne_true] at q1 ⊢
    exact ok.nx sl' m1 σ' H1 r1 q1 ((ee.trans e').trans e1) ((p.trans p').trans p1) (hs'.ext e1 p1) hm1
theorem s_for (C : Cok X sc N top cN fN G k) {g it b : I} {tg iter : Expr} {body : List Stmt} {pos : Pos} (hi : PI X tg iter (LI X.kx (wE G it) it)) (hg : PG X tg (LG X.kx (tgS g) (wG g))) (hb : PSs X body (LS X.kx fun m0 => wS G m0 b)) (hn : noset iter = true) :
    PS X (.For tg iter body [] pos) (LS X.kx fun m0 => wS G m0 (.for_ g it b)) := by
  refine PSm (ps_for C.op C.calm hi hg hb (fold_no hn)) fun E σ H q => ?_
  obtain ⟨sl, rr, m, A, H0, r0, m0, hs, hm, hm0, ee, p, ok, w⟩ := q
  refine ⟨sl, rr, m, _, hs, hm, w, fun x m1 ⟨xs, ex, it'⟩ => ⟨xs, _, ex, it', fun ys Gd hl J r1 H1 e1 p1 hm1 iok => ?_⟩⟩
  have ok1 := ok.mono (ee.trans e1) (p.trans p1)
  obtain ⟨Inv, hl0, turn⟩ := hl
  refine ⟨fun i mm σ' H' => mm = ys.length - i ∧ i ≤ ys.length ∧ ∃ sl' r2 m2, RSl X.kx H' r2 sl' σ' ∧ RMu X.kx H' r2 m2 ∧ Ext H1 H' ∧ Pre r1 r2 ∧ Inv i sl' m2,
    ⟨ys.length, rfl, Nat.zero_le _, sl, r1, m1, hs.ext e1 p1, hm1, Ext.refl _, Pre.refl _, hl0⟩, ?_⟩
  rintro i mm σ' H' ⟨rfl, hi, sl', r2, m2, hs2, hm2, e2, p2, hl2⟩
  obtain ⟨hG, hend, hgo⟩ := turn i sl' m2 hi hl2
  by_cases hlt : i < ys.length
  · have hget : ys[i]? = some ys[i] := List.getElem?_eq_getElem hlt
    have hw2 := hgo _ hget
    refine .inr ⟨iok.go i _ r2 H' m2 e2 p2 hm2 hG hget, fun σ3 H3 => ∃ sl3 r3 m3, RSl X.kx H3 r3 sl3 σ3 ∧ RMu X.kx H3 r3 m3 ∧ Ext H1 H3 ∧ Pre r1 r3 ∧ Inv (i + 1) sl3 m3,
      fun σ3 H3 z => ⟨ys.length - (i + 1), by omega, rfl, hlt, z⟩, fun v H3 y => ?_⟩
    obtain ⟨sm3, rx⟩ := iok.yld i _ r2 H' m2 v H3 e2 p2 hm2 hG hget y
    have ex3 : Ext H' H3 := Ext.same sm3
    have hm3 : RMu X.kx H3 r2 m2 := hm2.same sm3
    refine ⟨ys[i], sl', r2, _, rx, hs2.ext ex3 (Pre.refl _), hw2, fun sl4 σ4 w4 hs4 _ _ => ?_⟩
    refine ⟨sl4, r2, m2, { A with nx := Inv (i + 1), ct := Inv (i + 1), bk := A.nx }, H1, r1, m1, hs4, hm3, hm1, e2.trans ex3, p2, ⟨?_, ok1.rt, ok1.nx, ?_⟩, w4⟩
    · intro sl5 m5 σ5 H5 r5 w5 e5 p5 hs5 hm5
      exact ⟨sl5, r5, m5, hs5, hm5, e5, p5, w5⟩
    · intro sl5 m5 σ5 H5 r5 w5 e5 p5 hs5 hm5
      exact ⟨sl5, r5, m5, hs5, hm5, e5, p5, w5⟩
  · have he : i = ys.length := by omega
    have hq := hend he
    subst he
    exact .inl ⟨iok.stop r2 H' m2 e2 p2 hm2 hG, ok1.nx sl' m2 σ' H' r2 hq e2 p2 hs2 hm2⟩
theorem gc_ls {K : Kx} {s : I} {E : Ends} {σ : L2.St} {H : Hp} (q : LS K (fun m0 => wS G m0 (.gc s)) E σ H) : LS K (fun m0 => wS G m0 s) E σ H := by
  obtain ⟨sl, rr, m, A, H0, r0, m0, hs, hm, hm0, ee, p, ok, w⟩ := q
  refine ⟨sl, rr, m, { A with nx := DropS m0 A.nx, ct := DropS m0 A.ct }, H0, r0, m0, hs, hm, hm0, ee, p, ⟨?_, ok.rt, ok.bk, ?_⟩, w⟩
  · intro sl' m' σ' H' r' h e' p' hs' hm'
    obtain ⟨sl2, m2, r2, q2, hs2, hm2, p2⟩ := dropS_ok hm0 hm' p' h hs'
    exact ok.nx sl2 m2 σ' H' r2 q2 e' p2 hs2 hm2
  · intro sl' m' σ' H' r' h e' p' hs' hm'
    obtain ⟨sl2, m2, r2, q2, hs2, hm2, p2⟩ := dropS_ok hm0 hm' p' h hs'
    exact ok.ct sl2 m2 σ' H' r2 q2 e' p2 hs2 hm2
end
end Ab
namespace Ab
open PySem PySem.Spec PyProof.Rows L2
section
variable {X : Cx} {sc : Scope} {N cN fN : List Str} {top : Bool} {G : Gm} {k : Nat}
/-- an object that stays as it is from here on -/
theorem frz_ok {pins : List (Addr × Obj)} {σ : L2.St} {H : Hp} {s : Shared} {r : List Addr} {m : Mu} {d : D} {n : Nat} {ob : Ob} (I : Inv X pins σ H s) (hm : RMu X.kx H r m) (hx : plc d = some n) (at1 : m[n]? = some ob) (hok : fzOk d ob = true) :
    ∃ a H', r[n]? = some a ∧ Inv X pins σ H' s ∧ Ext H H' ∧ RMu X.kx H' r (m.set n (.gone (fzO ob))) ∧ Rp X.kx H' r (fzO ob) (.ref a) := by
  have hi := (List.getElem?_eq_some_iff.mp at1).1
  have hr : n < r.length := by rw [hm.len]; exact hi
  have ra := List.getElem?_eq_getElem hr
  generalize r[n] = a at ra
  have ob1 := hm.ob n a ob ra at1
  have go : ∀ (u : HO) (od : Obj), Inv X pins σ (upd H a (.frz od u)) s → ObK H a → Rp X.kx (upd H a (.frz od u)) r (fzO ob) (.ref a) → ∃ a H', r[n]? = some a ∧ Inv X pins σ H' s ∧ Ext H H' ∧ RMu X.kx H' r (m.set n (.gone (fzO ob))) ∧ Rp X.kx H' r (fzO ob) (.ref a) := fun u od I2 hk g =>
    ⟨a, _, ra, I2, ext_writeO hk, hm.writeO ra hk ⟨g, _, upd_same⟩, g⟩
  cases ob with
  | lst xs =>
    obtain ⟨vs, h1, h2⟩ := ob1
    obtain ⟨od, I2⟩ := I.lock h1 trivial
    exact go _ od I2 (.inl ⟨_, h1⟩) ⟨a, vs, rfl, .inl ⟨od, upd_same⟩, RpL.ext (ext_writeO (.inl ⟨_, h1⟩)) (Pre.refl _) _ _ h2⟩
  | dic ks vs =>
    obtain ⟨o, kvs, us, h1, h2, h3, h4, h5⟩ := ob1
    have hk : ObK H a := .inr (.inl ⟨_, h1⟩)
    obtain ⟨od, I2⟩ := I.lock h1 trivial
    have e1 : s.heap.get? a = some o := (show ObjOk X.prog X.w H s.heap a (.ext fun h => h.get? a = some o) from I.hok a _ h1).1
    have e2 : s.heap.get? a = some od := (show ObjOk X.prog X.w _ s.heap a (.frz od (dicO a o)) from I2.hok a _ upd_same).1
    rw [e1] at e2
    cases e2
    exact go _ o I2 hk ⟨a, o, kvs, us, rfl, .inl ⟨_, upd_same⟩, h2, h3, RpL.ext (ext_writeO hk) (Pre.refl _) _ _ h4, RpL.ext (ext_writeO hk) (Pre.refl _) _ _ h5⟩
  | ins C ns fs =>
    obtain ⟨c, dx, us, hc, h1, h2, h3, h4⟩ := ob1
    have hk : ObK H a := .inr (.inr ⟨_, _, _, h1⟩)
    obtain ⟨od, I2⟩ := I.lock h1 trivial
    exact go _ od I2 hk ⟨a, od, c, dx, us, rfl, hc, upd_same, (ext_writeO hk).own _ _ h2, h3, RpL.ext (ext_writeO hk) (Pre.refl _) _ _ h4⟩
  | gone d' => cases d <;> cases hok
theorem s_ghl {xs : List Stmt} {i : Nat} {r : I} (h : PSs X xs (LS X.kx fun m0 => wS G m0 r)) : PSs X xs (LS X.kx fun m0 => wS G m0 (.ghl i r)) := by
  refine ⟨fun pins s σ H E I q => ?_⟩
  obtain ⟨sl, rr, m, A, H0, r0, m0, hs, hm, hm0, e, p, ok, d, n, ob, hd, hp, hob, hf, w⟩ := q
  obtain ⟨a, H', ra, I', ex, hm', g⟩ := frz_ok I hm hp hob hf
  obtain ⟨v, hv, rv⟩ := hs.at_ i d hd
  have ev : v = .ref a := by
    cases d with
    | loc k => cases hp; obtain ⟨b, hb, rfl⟩ := rv; rw [ra] at hb; cases hb; rfl
    | dloc k => cases hp; obtain ⟨b, hb, rfl⟩ := rv; rw [ra] at hb; cases hb; rfl
    | _ => cases hp
  subst ev
  have hsl : RSl X.kx H' rr (sl.set i (some (fzO ob))) σ := by
    have h1 := (hs.ext ex (Pre.refl _)).set (i := i) (v := .ref a) g
    have e2 : σ.set i (some (.ref a)) = σ := by
      obtain ⟨hl, e3⟩ := List.getElem?_eq_some_iff.mp hv
      rw [← e3, List.set_getElem_self]
    rw [e2] at h1
    exact h1
  exact h.run pins s σ H' E I' ⟨_, rr, _, A, H0, r0, m0, hsl, hm', hm0, e.trans ex, p, ok, w⟩
/-- what stands at a place may be told otherwise, the object being the same -/
theorem RMu.retell {K : Kx} {H : Hp} {r : List Addr} {m : Mu} (h : RMu K H r m) {n : Nat} {a : Addr} {ob : Ob} (ha : r[n]? = some a) (g : ObR K H r a ob) : RMu K H r (m.set n ob) := by
  refine ⟨by rw [List.length_set]; exact h.len, h.nd, fun j b o q1 q2 => ?_⟩
  by_cases hj : n = j
  · subst hj
    rw [ha] at q1; cases q1
    have hi : n < m.length := by rw [← h.len]; exact (List.getElem?_eq_some_iff.mp ha).1
    rw [List.getElem?_set_self hi] at q2; cases q2
    exact g
  · rw [List.getElem?_set_ne hj] at q2
    exact h.ob j b o q1 q2
theorem rpl_putFd {K : Kx} {H : Hp} {r : List Addr} {f : Str} {d : D} : ∀ {ns : List Str} {fs : List D} {us : List V}, ns.length = us.length → RpL K H r fs us → (∀ v, (ns.zip us).lookup f = some v → Rp K H r d v) → (∃ x, fldV ns fs f = some x) → RpL K H r (putFd f d ns fs) us
  | [], fs, us, _, _, _, ⟨x, e⟩ => by cases e
  | n :: ns, fs, us, hl, h, g, ⟨x, e⟩ => by
    cases us with
    | nil => cases hl
    | cons u us =>
      cases fs with
      | nil => have : u :: us = [] := h; cases this
      | cons y fs =>
        obtain ⟨v, t, ee, h1, h2⟩ := h
        cases ee
        by_cases hn : n = f
        · show RpL K H r (if n = f then d :: fs else _) _
          rw [if_pos hn]
          refine ⟨u, us, rfl, g u ?_, h2⟩
          rw [List.zip_cons_cons]
          have hb : (f == n) = true := beq_iff_eq.mpr hn.symm
          simp only [List.lookup, hb]
        · show RpL K H r (if n = f then d :: fs else y :: putFd f d ns fs) _
          rw [if_neg hn]
          refine ⟨u, us, rfl, h1, rpl_putFd (Nat.succ.inj hl) h2 (fun v hv => g v ?_) ⟨x, ?_⟩⟩
          · rw [List.zip_cons_cons]
            have hb : (f == n) = false := beq_eq_false_iff_ne.mpr fun z => hn z.symm
            simp only [List.lookup, hb]
            exact hv
          · have e' : (if n = f then some y else fldV ns fs f) = some x := e
            rw [if_neg hn] at e'
            exact e'
theorem s_ghf {xs : List Stmt} {i : Nat} {f : Str} {r : I} (h : PSs X xs (LS X.kx fun m0 => wS G m0 r)) : PSs X xs (LS X.kx fun m0 => wS G m0 (.ghf i f r)) := by
  refine ⟨fun pins s σ H E I q => ?_⟩
  obtain ⟨sl, rr, m, A, H0, r0, m0, hs, hm, hm0, e, p, ok, n, Cn, ns, fs, d, j, ob, hd, hob, hfd, hp, hne, hj, hf, w⟩ := q
  obtain ⟨a, H', ra, I', ex, hm', g⟩ := frz_ok I hm hp hj hf
  have hi := (List.getElem?_eq_some_iff.mp hob).1
  have hr : n < rr.length := by rw [hm.len]; exact hi
  have rb := List.getElem?_eq_getElem hr
  have hob' : (m.set j (.gone (fzO ob)))[n]? = some (.ins Cn ns fs) := by rw [List.getElem?_set_ne hne]; exact hob
  obtain ⟨c, dx, us, hc, h1, h2, h3, h4⟩ := hm'.ob n _ _ rb hob'
  have hm2 := hm'.retell rb (ob := .ins Cn ns (putFd f (fzO ob) ns fs)) ⟨c, dx, us, hc, h1, h2, h3, rpl_putFd h3 h4 (fun v hv => ?_) ⟨d, hfd⟩⟩
  · exact h.run pins s σ H' E I' ⟨_, rr, _, A, H0, r0, m0, hs.ext ex (Pre.refl _), hm2, hm0, e.trans ex, p, ok, w⟩
  · rcases fld_look (f := f) h3 h4 with ⟨g1, _⟩ | ⟨d', v', g1, g2, g3⟩
    · rw [hfd] at g1; cases g1
    · rw [hfd] at g1; cases g1
      rw [hv] at g2; cases g2
      have ev : v = .ref a := by
        cases d with
        | loc k => cases hp; obtain ⟨b, hb, rfl⟩ := g3; rw [ra] at hb; cases hb; rfl
        | dloc k => cases hp; obtain ⟨b, hb, rfl⟩ := g3; rw [ra] at hb; cases hb; rfl
        | _ => cases hp
      rw [ev]; exact g
theorem swap_attr {v o : Expr} {f : Str} {p : Pos} {l : Nat} {env : Env} : swapsWith v (some (.Attribute o f p)) l env = pure false := by
  cases v <;> rfl
/-- a field stored -/
theorem s_sfld (C : Cok X sc N top cN fN G k) {o v : Expr} {f : Str} {p pos : Pos} {wo we : WE} (ho : PE X o (LE X.kx wo)) (hv : PE X v (LE X.kx we)) :
    PS X (.Assign [.Attribute o f p] v pos) (LS X.kx fun m0 A sl m => we sl m fun d m1 => wo sl m1 fun x m2 => ∃ n C ns fs, x = .loc n ∧ m2[n]? = some (.ins C ns fs) ∧ hasFld C f = true ∧ ns.length < 900 ∧ A.nx sl (m2.set n (.ins C (putN f ns) (putFd f d ns fs)))) := by
  refine PSm (ps_fld ho hv swap_attr) fun E σ H q => ?_
  obtain ⟨sl, rr, m, A, H0, r0, m0, hs, hm, hm0, e, p, ok, w⟩ := q
  refine ⟨sl, rr, m, _, hs, hm, w, fun d m1 q1 y r1 H1 e1 p1 ry hm1 => ?_⟩
  refine ⟨sl, r1, m1, _, hs.ext e1 p1, hm1, q1, fun x m2 ⟨n, Cn, ns, fs, ex, hob, hh, hl, q2⟩ vx r2 H2 e2 p2 rx hm2 => ?_⟩
  subst ex
  obtain ⟨a, ra, rfl⟩ := rx
  obtain ⟨c, dx, us, hc, h1, h2, h3, h4⟩ := hm2.ob n a _ ra hob
  obtain ⟨c1, c2⟩ := C.cls Cn f c hc hh
  obtain ⟨us', g1, g2, g3⟩ := putF_zip (f := f) (v := y) h3
  have hk : ObK H2 a := .inr (.inr ⟨_, _, _, h1⟩)
  refine ⟨a, c, dx, _, rfl, h1, c1, c2, ?_, ?_⟩
  · rw [List.length_zip, ← h3, Nat.min_self]; omega
  · rw [g1]
    have ry2 := Rp.ext (e2.trans (ext_writeO (o := .ins c dx ((putN f ns).zip us')) hk)) p2 _ _ ry
    refine ok.nx sl _ σ _ r2 q2 ((e.trans e1).trans (e2.trans (ext_writeO hk))) ((p.trans p1).trans p2) (((hs.ext e1 p1).ext e2 p2).ext (ext_writeO hk) (Pre.refl _)) (hm2.writeO ra hk ?_)
    exact ⟨c, dx, us', hc, upd_same, (ext_writeO hk).own _ _ h2, g2, g3 _ _ _ _ _ (RpL.ext (ext_writeO hk) (Pre.refl _) _ _ h4) ry2⟩
end
end Ab

namespace Ab
open PySem PySem.Spec PyProof.Rows L2
/-! list(range(..)), list(d.values()), d.items(), reversed(xs) -/
section
variable {X : Cx} {sc : Scope} {N cN fN : List Str} {top : Bool} {G : Gm} {k : Nat}
theorem prg_A1 {a : Expr} {ta : TA} {p pos : Pos} (hg : Gl X "range") (hm : X.mg "range" = none) (ha : PA X [a] ta) (na : starEach [a] X.env = (false, eval a X.env) :: starEach [] X.env) :
    PRg X (.Call (.Name "range" p) [a] [] pos) (fun σ H Q => ta σ H fun vs H1 => ∃ n, vs = [.int n] ∧ Q 0 n H1) := by
  intro pins s σ H Q I h
  refine Call_ (ld_blt I hg hm boot_range (PyProof.Rows.callWith_type1 (thn (ha.run pos pins s σ H _ I h) fun us s2 ⟨vs, H2, I2, r, q⟩ => ?_) na))
  obtain ⟨n, rfl, q⟩ := q
  obtain ⟨u, rfl, t, rfl⟩ := vals1 r
  exact call_range_1 ⟨_, 0, n, _, _, _, H2, rfl, IsRange.new _ _ _ _ _ _ _, I2.kept fun b u e => Heap.get?_push_of_some _ e, q⟩
theorem prg_A2 {a b : Expr} {ta : TA} {p pos : Pos} (hg : Gl X "range") (hm : X.mg "range" = none) (ha : PA X [a, b] ta) (na : starEach [a, b] X.env = (false, eval a X.env) :: starEach [b] X.env) (nb : (backTo pos (starEach [b] X.env)).any (·.1) = false) :
    PRg X (.Call (.Name "range" p) [a, b] [] pos) (fun σ H Q => ta σ H fun vs H1 => ∃ i j, vs = [.int i, .int j] ∧ Q i j H1) := by
  intro pins s σ H Q I h
  refine Call_ (ld_blt I hg hm boot_range (PyProof.Rows.callWith_type1 (thn (ha.run pos pins s σ H _ I h) fun us s2 ⟨vs, H2, I2, r, q⟩ => ?_) na nb))
  obtain ⟨i, j, rfl, q⟩ := q
  cases r with
  | cons r1 rr =>
    obtain ⟨t, rfl⟩ := r1
    obtain ⟨u, rfl, t', rfl⟩ := vals1 rr
    exact call_range_2 ⟨_, i, j, _, _, _, H2, rfl, IsRange.new _ _ _ _ _ _ _, I2.kept fun b u e => Heap.get?_push_of_some _ e, q⟩
theorem rpl_rg {K : Kx} {H : Hp} {r : List Addr} (i j : Int) : RpL K H r (rngD i 1 (j - i).toNat) (rgV i j) := by
  have e : rgV i j = ((List.range (j - i).toNat).map fun (n : Nat) => i + (n : Int) * 1).map V.int := by
    unfold rgV
    rw [List.map_map]
    apply List.map_congr_left
    intro n _
    show V.int (i + (n : Int)) = V.int (i + (n : Int) * 1)
    rw [Int.mul_one]
  have e2 : rngD i 1 (j - i).toNat = ((List.range (j - i).toNat).map fun (n : Nat) => i + (n : Int) * 1).map D.int := by
    unfold rngD
    rw [List.map_map]; rfl
  rw [e, e2]
  exact RpL.ints _
theorem s_lrg1 (C : Cok X sc N top cN fN G k) {e : Expr} {p p2 pos pos2 : Pos} {a : I} (hg : glb sc "list" = true) (hg2 : glb sc "range" = true) (ha : PA X [e] (LA X.kx (wE G (.cons a .nil)))) (hn : nostar e = true) :
    PE X (.Call (.Name "list" p) [.Call (.Name "range" p2) [e] [] pos2] [] pos) (LE X.kx (wE G (.lrg (.cons a .nil)))) := by
  refine PEm (pe_listRg C.calm (C.gl hg) (C.mgb (by decide +kernel)) (prg_A1 (C.gl hg2) (C.mgb (by decide +kernel)) ha (star_cons hn)) rfl) fun σ H Q q => ?_
  obtain ⟨sl, r, m, P, hs, hm, hw, hP⟩ := q
  have hw : wE G (.cons a .nil) sl m fun x m1 => ∃ i j : Int, (x = .tup [.int j] ∧ i = 0) ∧ RgOk i j ∧ P (.loc m1.length) (m1 ++ [.lst (rngD i 1 (j - i).toNat)]) := hw
  refine ⟨sl, r, m, _, hs, hm, hw, fun d m1 ⟨i, j, ⟨ed, ei⟩, ok, q1⟩ => ?_⟩
  subst ed ei
  refine ⟨_, rfl, fun vs r1 H1 e1 p1 rx hm1 => ?_⟩
  obtain ⟨v, rfl, rv⟩ := rpl1 rx
  cases rv
  exact ⟨j, rfl, ok, fun p hp => ((hP _ _ q1).mono e1 p1).lstNew (rpl_rg 0 j) hm1 hp⟩
theorem s_lrg2 (C : Cok X sc N top cN fN G k) {e f : Expr} {p p2 pos pos2 : Pos} {a b : I} (hg : glb sc "list" = true) (hg2 : glb sc "range" = true) (ha : PA X [e, f] (LA X.kx (wE G (.cons a (.cons b .nil))))) (hn : nostar e = true) (hn2 : nostar f = true) :
    PE X (.Call (.Name "list" p) [.Call (.Name "range" p2) [e, f] [] pos2] [] pos) (LE X.kx (wE G (.lrg (.cons a (.cons b .nil))))) := by
  refine PEm (pe_listRg C.calm (C.gl hg) (C.mgb (by decide +kernel)) (prg_A2 (C.gl hg2) (C.mgb (by decide +kernel)) ha (star_cons hn) (star_any (by rw [List.all_cons, hn2]; rfl))) rfl) fun σ H Q q => ?_
  obtain ⟨sl, r, m, P, hs, hm, hw, hP⟩ := q
  have hw : wE G (.cons a (.cons b .nil)) sl m fun x m1 => ∃ i j : Int, x = .tup [.int i, .int j] ∧ RgOk i j ∧ P (.loc m1.length) (m1 ++ [.lst (rngD i 1 (j - i).toNat)]) := hw
  refine ⟨sl, r, m, _, hs, hm, hw, fun d m1 ⟨i, j, ed, ok, q1⟩ => ?_⟩
  have ed : d = .tup [.int i, .int j] := ed
  subst ed
  refine ⟨_, rfl, fun vs r1 H1 e1 p1 rx hm1 => ?_⟩
  obtain ⟨v, u, rfl, rv, ru⟩ := rpl2 rx
  cases rv; cases ru
  exact ⟨i, j, rfl, ok, fun p hp => ((hP _ _ q1).mono e1 p1).lstNew (rpl_rg i j) hm1 hp⟩
/-! d.items() -/
theorem itOk_items {K : Kx} {H : Hp} {r : List Addr} {ks vs : List D} {a : Addr} {o : Obj} {kvs us : List V} {Gd : Mu → Prop} (hd : FzD K H a o) (hk : RpL K H r ks kvs) (hv : RpL K H r vs us) (hl : kvs.length = us.length) : ItOk K H r (ItIA K a o kvs us) (pairD ks vs) Gd := by
  have l1 := hk.length
  have l2 := hv.length
  have hz : (pairD ks vs).length = kvs.length := by unfold pairD; rw [List.length_zipWith]; omega
  refine ⟨fun r2 H2 m2 e p hm g => ?_, fun i x r2 H2 m2 e p hm g q => ?_, fun i x r2 H2 m2 v H3 e p hm g q y => ?_⟩
  · exact ⟨.inr (hd.imp (fun ⟨u, z⟩ => ⟨u, e.frz _ _ _ z⟩) id), by rw [hz]; exact Nat.le_refl _⟩
  · have := (List.getElem?_eq_some_iff.mp q).1
    exact ⟨.inr (hd.imp (fun ⟨u, z⟩ => ⟨u, e.frz _ _ _ z⟩) id), by omega⟩
  · obtain ⟨T, x1, y1, rfl, g1, g2, hT, rfl⟩ := y
    obtain ⟨c, hc, rc⟩ := hk.get' g1
    obtain ⟨d, hd', rd⟩ := hv.get' g2
    unfold pairD at q
    rw [List.getElem?_zipWith, hc, hd'] at q
    cases q
    have s1 : Same H2 (upd H2 T (.tup [x1, y1])) := same_new hT
    refine ⟨s1, T, [x1, y1], rfl, .inl (.inl upd_same), x1, [y1], rfl, Rp.ext (e.trans (Ext.same s1)) p _ _ rc, y1, [], rfl, Rp.ext (e.trans (Ext.same s1)) p _ _ rd, rfl⟩
theorem s_itm {x : Expr} {a : I} {apos cpos tpos : Pos} {elts : List Expr} {kk : Nat} (ha : PE X x (LE X.kx (wE G a))) (hn : isname x = true) (hl : (apos.endLine == cpos.line) = true) :
    PI X (.Tuple elts kk tpos) (.Call (.Attribute x "items" apos) [] [] cpos) (LI X.kx (wE G (.itm a)) (.itm a)) := by
  refine PIm (pi_itemsA ha (base_name hn) hl) fun σ H R q => ?_
  obtain ⟨sl, r, m, P, hs, hm, hw, hP⟩ := q
  refine ⟨sl, r, m, _, hs, hm, hw, fun d m1 q1 v r1 H1 e1 p1 rv hm1 => ?_⟩
  obtain ⟨xs, P2, ex, it, hR⟩ := hP _ _ q1
  cases ex
  obtain ⟨ks, vs, ed, q2⟩ := it
  cases ed
  obtain ⟨b, o, kvs, us, rfl, g1, g2, g3, g4, g5⟩ := rv
  obtain ⟨es, ep, hk⟩ := dicS_ents g3
  have hl : kvs.length = us.length := by
    have l1 := hk.2.1.length
    have l2 := hk.2.2.length
    rw [List.length_map] at l1 l2
    omega
  exact ⟨b, o, es, ep, kvs, us, rfl, .inr g1, g2, g3.1, hk, hR _ _ q2 _ r1 H1 e1 p1 hm1 (itOk_items g1 g4 g5 hl)⟩
/-! reversed(xs) -/
theorem itOk_rev {K : Kx} {H : Hp} {r : List Addr} {a : Addr} {ys : List D} {Gd : Mu → Prop} {us : List V} (hu : ys.length = us.length) (h : ∀ r2 H2 m2, Ext H H2 → Pre r r2 → RMu K H2 r2 m2 → Gd m2 → ∃ us, SqL K H2 a us ∧ RpL K H2 r2 ys us) : ItOk K H r (Itv K.k a us.length) ys.reverse Gd := by
  refine ⟨fun r2 H2 m2 e p hm g => ?_, fun i x r2 H2 m2 e p hm g q => ?_, fun i x r2 H2 m2 v H3 e p hm g q y => ?_⟩
  · show us.length ≤ ys.reverse.length
    rw [List.length_reverse]; omega
  · have hi := (List.getElem?_eq_some_iff.mp q).1
    rw [List.length_reverse] at hi
    rw [List.getElem?_reverse hi] at q
    obtain ⟨ws, h1, h2⟩ := h r2 H2 m2 e p hm g
    obtain ⟨v, hv, _⟩ := h2.get q
    exact ⟨by omega, ws, v, h1, by rw [← hu]; exact hv⟩
  · obtain ⟨rfl, y2⟩ := y
    have hi := (List.getElem?_eq_some_iff.mp q).1
    rw [List.length_reverse] at hi
    rw [List.getElem?_reverse hi] at q
    obtain ⟨ws, h1, h2⟩ := h r2 _ m2 e p hm g
    obtain ⟨w, hw, rw'⟩ := h2.get q
    have := y2 ws h1
    rw [← hu] at this
    rw [this] at hw
    cases hw
    exact ⟨Same.refl _, rw'⟩
theorem s_rvi (C : Cok X sc N top cN fN G k) {tg x : Expr} {a : I} {p pos : Pos} (hg : glb sc "reversed" = true) (ha : PE X x (LE X.kx (wE G a))) (hn : nostar x = true) : PI X tg (.Call (.Name "reversed" p) [x] [] pos) (LI X.kx (wE G (.rvi a)) (.rvi a)) := by
  refine PIm (RT.pi_revA (C.gl hg) (C.mgb (by decide +kernel)) ha (star_cons hn)) fun σ H R q => ?_
  obtain ⟨sl, r, m, P, hs, hm, hw, hP⟩ := q
  refine ⟨sl, r, m, _, hs, hm, hw, fun d m1 q1 v r1 H1 e1 p1 rv hm1 => ?_⟩
  obtain ⟨xs, P2, ex, it, hR⟩ := hP _ _ q1
  cases ex
  obtain ⟨d', ys, ed, es, hnt, q2⟩ := it
  cases ed
  obtain ⟨b, vs, rfl, g1, g2⟩ := seq_of hm1 es rv
  rcases g2 with ⟨_, z⟩ | ⟨g2, hd⟩
  · exact absurd z (hnt _)
  · exact ⟨b, vs, rfl, .inl ⟨g2, hR _ _ q2 _ r1 H1 e1 p1 hm1 (itOk_rev g1.length (itOk_seqL hm1 es rv g1 g2 hd))⟩⟩
/-! list(d.values()) -/
def tLval (K : Kx) (te : TE) : TE := fun σ H Q => te σ H fun x H1 => ∃ d o es ep kvs us, x = .ref d ∧ DicAt K H1 d o ∧ (d == sysModules) = false ∧ o.ExactDict ∧ EntsO o es ep kvs us ∧ us.length ≤ sizeLine ∧ ∀ q, H1 q = none → Q (.ref q) (upd H1 q (.lst us))
theorem pe_lval (hc : X.calm = true) {e : Expr} {te : TE} {p pos apos cpos : Pos} (hg : Gl X "list") (hm : X.mg "list" = none) (he : PE X e te) (hbase : attributeBase e "values" X.env (eval e X.env) = eval e X.env) (hline : (apos.endLine == cpos.line) = true) :
    PE X (.Call (.Name "list" p) [.Call (.Attribute e "values" apos) [] [] cpos] [] pos) (tLval X.kx te) := by
  refine ⟨fun pins s σ H Q I h => ?_⟩
  refine Call_ (ld_blt I hg hm boot_list (PyProof.Rows.callWith_type1 (args_cons ?_ rfl) rfl))
  refine wpAny_Call_method (T := "dict") (id := "dict.values") hbase rfl hline F.plainAttrs_dict F.slot_dict_values F.type_dict_values (thn (he.run pins s σ H _ I h) fun u s1 ⟨x, H1, I1, rx, d, o, es, ep, kvs, us, ex, hd, hs, hx, k, hz, q⟩ => ?_)
  subst ex
  obtain rfl : u = Value.ref d := rx
  have raw := dic_raw (hd.get I1) hx k.1
  refine ⟨raw.typeIs, fun a ea => ⟨o, by cases ea; exact hd.get I1, hx.2.1⟩, ?_⟩
  have I2 : Inv X pins σ H1 { s1 with heap := s1.heap.push { cls := .type "dict_values", data := .fields #[.ref d] } } := I1.kept (t' := s1.toks) fun b ob q => Heap.get?_push_of_some _ q
  show wpAny _ _ (callWith cpos (.builtin "dict.values") [.ref d] [] []) _ X.xe s1
  refine method_meetsIn F.slot_dict_values F.entry_dict_values rfl (PySem.evalArgs_none ⟨rfl, raw.typeIs, F.args_dict_values_1 _, _, meets_dict_values_raw d hs, ⟨⟨es, ep, raw⟩, ?_⟩⟩)
  refine args_nil ?_
  have hsz : es.size = us.length := by
    have l2 := k.2.2.length
    simpa using l2.symm
  refine PySem.W.kdl_call (KdlSrc.rawValues (d := d) (es := es) (ep := ep)) (I2.ok.hd hc) ⟨⟨_, Heap.get?_push_size _ rfl, rfl, rfl⟩, raw.push _⟩ (by omega) fun h' tk acc c' hk e' hi => ?_
  refine ⟨.ref _, upd H1 _ (.lst us), I2.laid hk (Nat.le_refl _) (show ObjOk X.prog X.w _ _ _ (.lst us) from ⟨hz, acc.toList, c', ?_, ?_⟩), rfl, q _ (I2.hok.fresh (Nat.le_refl _))⟩
  · have hacc : acc.toList = es.toList.map (·.val) := by
      apply List.ext_getElem?
      intro i
      by_cases hi2 : i < es.size
      · have h1 : i < acc.size := by rw [hi.1]; exact hi2
        obtain ⟨_, e2⟩ := hi.2 i acc[i] (by rw [Array.getElem?_eq_getElem h1])
        rw [List.getElem?_map, Array.getElem?_toList, Array.getElem?_eq_getElem h1, Array.getElem?_toList, Array.getElem?_eq_getElem hi2, e2]; rfl
      · rw [List.getElem?_eq_none (by rw [Array.length_toList, hi.1]; omega), List.getElem?_eq_none (by rw [List.length_map, Array.length_toList]; omega)]
    rw [hacc]; exact k.2.2
  · rw [Array.toArray_toList]; exact e'
theorem s_lval (C : Cok X sc N top cN fN G k) {x : Expr} {a : I} {p pos apos cpos : Pos} (hg : glb sc "list" = true) (ha : PE X x (LE X.kx (wE G a))) (hn : isname x = true) (hl : (apos.endLine == cpos.line) = true) :
    PE X (.Call (.Name "list" p) [.Call (.Attribute x "values" apos) [] [] cpos] [] pos) (LE X.kx (wE G (.lval a))) := by
  refine PEm (pe_lval C.calm (C.gl hg) (C.mgb (by decide +kernel)) ha (base_name hn) hl) fun σ H Q q => ?_
  obtain ⟨sl, r, m, P, hs, hm, hw, hP⟩ := q
  have hw : wE G a sl m fun x m1 => ∃ ks vs, x = .dic ks vs ∧ P (.loc m1.length) (m1 ++ [.lst vs]) := hw
  refine ⟨sl, r, m, _, hs, hm, hw, fun d m1 ⟨ks, vs, ed, q1⟩ v r1 H1 e1 p1 rv hm1 => ?_⟩
  subst ed
  obtain ⟨b, o, kvs, us, rfl, g1, g2, g3, g4, g5⟩ := rv
  obtain ⟨es, ep, hk⟩ := dicS_ents g3
  have hz : us.length ≤ sizeLine := by
    obtain ⟨_, es', ep', ns, ys, ws, _, _, _, _, _, _, h8, _, h10, h11, _⟩ := g3
    have := h8.length
    omega
  exact ⟨b, o, es, ep, kvs, us, rfl, .inr g1, g2, g3.1, hk, hz, fun q hq => ((hP _ _ q1).mono e1 p1).lstNew g5 hm1 hq⟩
/-! len(set(xs)), all alike -/
theorem firstMet_rep (c : Int) (ns : List Int) (h : ∀ i, i < ns.length → ns.getD i 0 = c) : ∀ i, i < ns.length → firstMet (fun i => ns.getD i 0) (i + 1) = [c]
  | 0, hi => by
    rw [firstMet_succ, firstMet_zero, h 0 hi]; rfl
  | i + 1, hi => by
    rw [firstMet_succ, firstMet_rep c ns h i (by omega), h (i + 1) hi]
    unfold step_dedup
    simp
def tLset (K : PySem.W.Frag) (ta : TE) : TE := fun σ H Q => ta σ H fun x H1 => ∃ (l : Addr) (c : Int) (k : Nat), x = V.ref l ∧ SqL K H1 l ((List.replicate (k + 1) c).map V.int) ∧ k < 63 ∧ Q (.int 1) H1
theorem pe_lset {a : Expr} {ta : TE} {p p2 q pos : Pos} (hc : X.calm = true) (hg : Gl X "len") (hm : X.mg "len" = none) (hg2 : Gl X "set") (hm2 : X.mg "set" = none) (ha : PE X a ta)
    (na : starEach [a] X.env = (false, eval a X.env) :: starEach [] X.env) : PE X (.Call (.Name "len" p) [.Call (.Name "set" p2) [a] [] q] [] pos) (tLset X.K ta) := by
  refine ⟨fun pins s σ H Q I h => ?_⟩
  refine Call_ (ld_blt I hg hm PySem.boot_len ?_)
  refine PyProof.Rows.callWith_builtin1 (PyProof.Rows.args_cons ?_ rfl) rfl rfl
  refine Call_ (ld_blt I hg2 hm2 PyProof.Rows.boot_set ?_)
  refine PyProof.Rows.callWith_type1 (PyProof.Rows.args_cons (thn (ha.run pins s σ H _ I h) fun v s1 ⟨x, H1, I1, r1, q1⟩ => PyProof.Rows.args_nil ?_) na) na rfl
  obtain ⟨l, c, k, rfl, hq, hk, q1⟩ := q1
  cases r1
  obtain ⟨its, r, pl, hz⟩ := I1.list hq
  have hl : its.toArray.size = k + 1 := by rw [List.size_toArray, ← r.length, List.length_map, List.length_replicate]
  refine call_set_list (I1.ok.hd hc) pl.isList (ns := List.replicate (k + 1) c) (by simpa using r.ints) (by unfold scanBound; omega) fun h' tk hS hk2 => ?_
  have e1 : firstMet (fun i => (List.replicate (k + 1) c).getD i 0) (k + 1) = [c] := firstMet_rep c _ (fun i hi => by
    rw [List.getD_eq_getElem?_getD, List.getElem?_eq_getElem hi, List.getElem_replicate]; rfl) k (by rw [List.length_replicate]; omega)
  rw [hl, e1] at hS
  refine PyProof.Rows.args_nil ?_
  obtain ⟨o, es, ep, t, ho, hex, hd, _, _, _, hf, hn⟩ := hS
  have I2 : Inv X pins σ H1 { s1 with heap := h', toks := tk } := I1.kept fun b o e => hk2 b o (Heap.lt_size e) e
  refine call_len_set ho hex hd hf (by rw [hn, List.length_singleton]; decide) ⟨.int 1, H1, I2.tok _, ⟨_, by rw [hn]; rfl⟩, q1⟩
theorem s_lset (C : Cok X sc N top cN fN G k) {x : Expr} {a : I} {p p2 q pos : Pos} (hg : glb sc "len" = true) (hg2 : glb sc "set" = true) (ha : PE X x (LE X.kx (wE G a))) (hn : nostar x = true) :
    PE X (.Call (.Name "len" p) [.Call (.Name "set" p2) [x] [] q] [] pos) (LE X.kx (wE G (.lset a))) := by
  refine PEm (pe_lset C.calm (C.gl hg) (C.mgb (by decide +kernel)) (C.gl hg2) (C.mgb (by decide +kernel)) ha (star_cons hn)) fun σ H Q q => ?_
  obtain ⟨sl, r, m, P, hs, hm, hw, hP⟩ := q
  have hw : wE G a sl m fun x m1 => ∃ (c : Int) (k : Nat), seqOf m1 x = some (List.replicate (k + 1) (.int c)) ∧ (∀ ys, x ≠ .tup ys) ∧ k < 63 ∧ P (.int 1) m1 := hw
  refine ⟨sl, r, m, _, hs, hm, hw, fun d m1 ⟨c, k, es, hnt, hk, q1⟩ v r1 H1 e1 p1 rv hm1 => ?_⟩
  rw [show List.replicate (k + 1) (D.int c) = (List.replicate (k + 1) c).map D.int by rw [List.map_replicate]] at es
  obtain ⟨b, vs, rfl, g1, g2⟩ := seq_of hm1 es rv
  cases rpl_ints g1
  rcases g2 with ⟨_, z⟩ | ⟨g2, _⟩
  · exact absurd z (hnt _)
  · exact ⟨b, c, k, rfl, g2, hk, ((hP _ _ q1).mono e1 p1).here rfl hm1⟩
end
end Ab

namespace AbSet
open PySem PySem.Spec PyProof.Rows L2 PySem.Froz
/-! sets of texts that can be walked -/
/-- its table rises and is led -/
def Led (w : World) (D : SD) : Prop := Ris D.2.2.place.toList ∧ (w.params.followText "set-order" = true ∨ D.2.2.led = true)
theorem led_tail {w : World} {ep : Nat} {es : Array (Int × Value)} {t : SetTable} {b : Bool} (h1 : Ris t.place.toList) (h2 : w.params.followText "set-order" = true ∨ t.led = true) : Led w (tailTx ep es t b) := by
  unfold tailTx
  split
  · exact ⟨relayAll_ris t es _, h2.imp_right fun z => (relayAll_led t es _).trans z⟩
  · exact ⟨h1, h2⟩
theorem led_add {w : World} {h : Int} {v : Value} {D : SD} (g : Led w D) : Led w (addTx h v D) := by
  have r := layNew_ris D.2.2 D.1 h v g.1
  have l := layNew_led D.2.2 D.1 h v
  unfold addTx
  refine led_tail ?_ (g.2.imp_right fun z => ?_)
  · split <;> exact r
  · split <;> exact l.trans z
/-- the object holds these texts, each once -/
structure Holds (P : Program) (w : World) (h : Heap) (a : Addr) (l : List Str) (D : SD) : Prop where
  at' : h.get? a = some (sObj "set" D)
  ok : TxOk P w D l
  nd : l.Nodup
  led : Led w D
section
variable {P : Program} {w : World} {A : Around} {E : Value → Shared → Prop} {s : Shared}
theorem Holds.keep {h h' : Heap} {a : Addr} {l : List Str} {D : SD} (x : Holds P w h a l D) (k : ∀ o, h.get? a = some o → h'.get? a = some o) : Holds P w h' a l D := ⟨k _ x.at', x.ok, x.nd, x.led⟩
/-- a text that is there already -/
theorem add_old {a : Addr} {l : List Str} {D : SD} {k : Str} {u : Tok} {Q : Bool → Shared → Prop} (H : Holds P w s.heap a l D) (hk : k ∈ l) (hb : l.length < scanBound) (q : Q false s) : wpAny (model P w) A (setAddHashed a (.str k u) (hashStr w k)) Q E s := by
  obtain ⟨es, ep, t⟩ := D
  have el : ElemsOf (strKind P w) es.toList := H.ok.el
  have fs : t.fits es.size = true := H.ok.fit
  have n1 : es.size < scanBound := by
    have : es.size = l.length := H.ok.sz
    omega
  have me := is_str (P := P) (w := w) k u
  obtain ⟨e0, m0, p0⟩ := (H.ok.mem k).mp hk
  obtain ⟨j, hj⟩ : ∃ j, List.findIdx? (fun e => (strKind P w).is k e.2) es.toList = some j := by
    cases z : List.findIdx? (fun e => (strKind P w).is k e.2) es.toList with
    | some j => exact ⟨j, rfl⟩
    | none =>
      have c := List.findIdx?_eq_none_iff.mp z e0 m0
      rw [p0] at c; cases c
  unfold setAddHashed setAddHashedIn; refine wpAny_holding (wpAny_bind (wpAny_setState_of H.at' rfl fs ?_))
  dsimp only
  rw [byScan_of rfl n1 el]
  simp only [↓reduceIte]; unfold setAddByScan
  refine wpAny_bind (wpAny_bind (wpAny_rule (wpAny_bind (wpAny_setScan_of (knd := strKind P w) (k := k) me H.at' rfl fs el ?_))))
  rw [hj]
  exact wpAny_pure (wpAny_pure q)
/-- the texts put in, one by one -/
def put (l : List Str) (k : Str) : List Str := if k ∈ l then l else k :: l
theorem put_nd {l : List Str} {k : Str} (h : l.Nodup) : (put l k).Nodup := by
  unfold put
  split
  · exact h
  · rename_i c
    exact List.nodup_cons.mpr ⟨c, h⟩
theorem put_mem {l : List Str} {k y : Str} : y ∈ put l k ↔ y = k ∨ y ∈ l := by
  unfold put
  split
  · rename_i c
    exact ⟨.inr, fun z => z.elim (fun e => e ▸ c) id⟩
  · exact List.mem_cons
theorem put_len {l : List Str} {k : Str} : (put l k).length ≤ l.length + 1 := by
  unfold put
  split
  · exact Nat.le_succ _
  · exact Nat.le_refl _
theorem add_any {a : Addr} {l : List Str} {D : SD} {k : Str} {u : Tok} {Q : Bool → Shared → Prop} (H : Holds P w s.heap a l D) (hb : l.length + 1 < scanBound)
    (q : ∀ (b : Bool) (h' : Heap) (D' : SD), Heap.SameBut a s.heap h' → Holds P w h' a (put l k) D' → Q b { s with heap := h' }) : wpAny (model P w) A (setAddHashed a (.str k u) (hashStr w k)) Q E s := by
  by_cases c : k ∈ l
  · refine add_old H c (by omega) (q false s.heap D (Heap.SameBut.refl a s.heap) ?_)
    have e : put l k = l := if_pos c
    rw [e]
    exact H
  · refine add_x H.at' H.ok c hb (q true _ (addTx (hashStr w k) (.str k u) D) (Heap.SameBut.update s.heap a _) ?_)
    have e : put l k = k :: l := if_neg c
    rw [e]
    exact ⟨get_upd _ H.at' rfl, add_ok u H.ok, List.nodup_cons.mpr ⟨c, H.nd⟩, led_add H.led⟩
end
section
variable {P : Program} {w : World} {A : Around} {I : Addr} {fp wr : List Addr} {G : Array GenState → Array GenState → Prop} {n : Nat} {Pv : Nat → Value → Prop} {St : Nat → Shared → Prop} {R : Result → Shared → Prop}
/-- the texts that an iterator gives, put into the set at S -/
theorem fill (W : WalksS P w A.in1 I fp wr G n Pv St) (S : Addr) (hS : S ∉ fp) (xs : List Str) (hn : n = xs.length) (hb : xs.length + 1 < scanBound) (hv : ∀ i v, Pv i v → ∃ k t, xs[i]? = some k ∧ v = .str k t) (left : Nat) :
    ∀ (i : Nat) (s : Shared), n - i = left → i ≤ n → St i s → (∃ l D, Holds P w s.heap S l D ∧ l.length ≤ i ∧ ∀ y, y ∈ l ↔ y ∈ xs.take i) →
      (∀ s' l D, Moved (S :: wr) G s s' → Holds P w s'.heap S l D → (∀ y, y ∈ l ↔ y ∈ xs) → l.length ≤ n → R (.ok (.ret .none)) s') → codeAny (model P w) A (.builtin "set.update.loop" ⟨[.ref S, .ref I], []⟩) R s := by
  have out : S ∉ wr := fun z => hS (W.sub _ z)
  have wid : ∀ b ∈ wr, b ∈ S :: wr := fun b z => List.mem_cons_of_mem _ z
  induction left with
  | zero =>
    rintro i s h1 h2 st ⟨l, D, H, hl, hm⟩ q
    obtain rfl : i = n := by omega
    refine codeAny_builtin F.entry_set_update_loop (by
      rw [Around.under_plainId F.plain_set_update_loop _]
      refine wpAny_bind (m := pyNext (.ref I)) (W.done s _ _ st fun s' mv => ?_)
      refine wpAny_pure (q s' l D (mv.mono wid) (H.keep fun o e => mv.heap S o out e) (fun y => ?_) hl)
      rw [hm y, List.take_of_length_le (Nat.le_of_eq hn.symm)])
  | succ left ih =>
    rintro i s h1 h2 st ⟨l, D, H, hl, hm⟩ q
    have lt : i < n := by omega
    refine codeAny_builtin F.entry_set_update_loop (by
      rw [Around.under_plainId F.plain_set_update_loop _]
      refine wpAny_bind (m := pyNext (.ref I)) (W.item i s _ _ lt st fun v s' pv st' mv => ?_)
      obtain ⟨k, t, hk, rfl⟩ := hv i v pv
      have H' : Holds P w s'.heap S l D := H.keep fun o e => mv.heap S o out e
      refine wpAny_bind (m := holding [Value.str k t] (setAdd S (.str k t))) (wpAny_holding (wpAny_holding (wpAny_bind ((strKind P w).pyHash (is_str k t) ?_))))
      refine add_any (s := { s' with toks := s'.toks + 1 }) H' (by omega) fun b h' D' sb H2 => ?_
      refine wpAny_pure ⟨plainId_quiet F.plain_set_update_loop _, ih (i + 1) _ (by omega) lt (W.frame _ s' _ _ st' (Nat.le_succ _) fun c hc o e => ?_) ⟨_, D', H2, Nat.le_trans put_len (Nat.succ_le_succ hl), fun y => ?_⟩ fun s2 l2 D2 mv2 H3 hm2 hl2 => ?_⟩
      · rw [sb.2 c (fun z => hS (z ▸ hc))]; exact e
      · rw [put_mem, hm y, List.take_add_one, hk]
        exact ⟨fun z => List.mem_append.mpr (z.elim (fun z => .inr (List.mem_singleton.mpr z)) .inl), fun z => (List.mem_append.mp z).elim .inr fun z => .inl (List.mem_singleton.mp z)⟩
      · refine q s2 l2 D2 (Moved.trans W.gtrans ((mv.mono wid).then_heap (Nat.le_succ _) fun c o hc e => ?_) mv2) H3 hm2 hl2
        rw [sb.2 c (fun z => hc (z ▸ List.mem_cons_self))]; exact e)
end
section
variable {P : Program} {w : World} {A : Around} {E : Value → Shared → Prop} {s : Shared}
abbrev emp (w : World) : Obj := { cls := .type "set", dict := none, data := .set #[] 0 (.fresh 0 0 (!w.params.followText "set-order")) }
theorem emp_holds {h : Heap} {a : Addr} (e : h.get? a = some (emp w)) : Holds P w h a [] (#[], 0, .fresh 0 0 (!w.params.followText "set-order")) := by
  refine ⟨e, TxOk.nil rfl, List.nodup_nil, List.Pairwise.nil, ?_⟩
  cases z : w.params.followText "set-order"
  · exact .inr rfl
  · exact .inl rfl
/-- what set(xs) leaves -/
def Made (P : Program) (w : World) (s : Shared) (xs : List Str) (s' : Shared) : Prop :=
  ∃ h' tk L D, s' = { s with heap := h', toks := tk } ∧ Holds P w h' s.heap.objs.size L D ∧ (∀ y, y ∈ L ↔ y ∈ xs) ∧ L.length ≤ xs.length ∧ ∀ b o, s.heap.get? b = some o → h'.get? b = some o
set_option maxHeartbeats 3200000 in
theorem set_made {l : Addr} {its : Array Value} {xs : List Str} {Q : Value → Shared → Prop} (hh : A.handled = none) (hl : s.heap.IsList l its) (hi : StrsAre its.toList xs) (hb : xs.length + 1 < scanBound)
    (q : ∀ s', Made P w s xs s' → Q (.ref s.heap.objs.size) s') : wpAny (model P w) A (call (.type "set") [.ref l]) Q E s := by
  have hsz : its.size = xs.length := by rw [← Array.length_toList, StrsAre.len_eq hi]
  obtain ⟨c0, tl0, mro0⟩ := F.called_set.mro
  have made0 := F.called_set.made; have sub0 := F.called_set.sub; have nt0 := F.called_set.notType; have cc0 := F.called_set.canCreate
  have ct0 := F.typeCall_set_1 (.ref l); have il0 := F.called_set.init.lookup
  refine wpAny_call (codeAny_of_tree (?_ : wpAny _ _ (callAny (.type "set") _) _ _ _))
  refine wpAny_pure ⟨Code.quiet_builtin _ (by decide +kernel), codeAny_builtin F.entry_type_call ?_⟩
  rw [Around.under_plain (weight_type_call_type "set" [.ref l] []) rfl]
  repeat (any_goals (first | assumption | wp_step))
  refine codeAny_mono (code_set_led1 (w := w) (.ref l) (E := E) (Q₁ := fun v s1 => v = .ref s.heap.objs.size ∧ s1 = { s with heap := s.heap.push (emp w) }) ⟨rfl, rfl⟩) fun r s1 hr => ?_
  rcases r with e | fl
  · exact hr
  rcases fl with _ | _ | _ | v
  all_goals (try exact hr.elim)
  obtain ⟨rfl, rfl⟩ := hr
  have hS : (s.heap.push (emp w)).get? s.heap.objs.size = some (emp w) := Heap.get?_push_size _ rfl
  have hT : Shared.TypeIs { s with heap := s.heap.push (emp w) } (.ref s.heap.objs.size) "set" := ⟨_, hS, rfl⟩
  have bd0 := F.called_set.init.bind (.ref s.heap.objs.size)
  repeat (any_goals (first | assumption | wp_step))
  refine codeAny_mono (codeAny_call_builtin (R := wants (fun v s2 => v = .none ∧ Made P w s xs s2) E) F.called_set.init.plain F.entry_set_init (check_set_init_1 hT ?_)) fun r2 s2 hr2 => ?_
  · have hls : l < s.heap.objs.size := by
      obtain ⟨o, e, _⟩ := hl
      exact Heap.lt_size e
    obtain ⟨ob, e0, e1, e2, e3⟩ := hl
    obtain ⟨cl, dc, da, so⟩ := ob
    dsimp only at e1 e3
    subst e1 e3
    have e4 : (s.heap.push (emp w)).get? l = some { cls := .type "list", dict := dc, data := .seq its e2, slots := so } := Heap.get?_push_of_some _ e0
    have ls1 := F.sub_list_set; have ls2 := F.sub_list_frozenset
    have ld : (Value.type "list" == Value.type "dict") = false := by decide
    have hl1 : (s.heap.push (emp w)).IsList l its := ⟨_, e4, rfl, e2, rfl⟩
    unfold Builtin.«set.__init__» noKeywords Builtin.Frozenset.updateFrom
    generalize hPI : pyIter = PI
    wp_walk
    subst hPI
    have hz : (s.heap.push (emp w)).objs.size = s.heap.objs.size + 1 := Heap.size_push ..
    have h3 : A.in1.in1.in1.handled = none := by rw [show A.in1.in1.in1.handled = A.handled from rfl, hh]
    have n1 : l ≠ (s.heap.push (emp w)).objs.size := fun z => Nat.lt_irrefl _ (Nat.lt_trans (Nat.lt_succ_self _) (hz ▸ z ▸ hls))
    have n2 : s.heap.objs.size ∉ [(s.heap.push (emp w)).objs.size, l] := by
      intro z
      rcases List.mem_cons.mp z with z | z
      · exact Nat.ne_of_lt (Nat.lt_succ_self _) (z.trans hz)
      · exact Nat.lt_irrefl _ (show l < l by rw [← List.mem_singleton.mp z]; exact List.mem_singleton.mp z ▸ hls)
    have hv : ∀ (i : Nat) (v : Value), its[i]? = some v → ∃ k t, xs[i]? = some k ∧ v = .str k t := fun i v e => by
      obtain ⟨t, e5⟩ := SS.strs_at hi i v (by rw [Array.getElem?_toList]; exact e)
      have hx : i < xs.length := by rw [← hsz]; exact (Array.getElem?_eq_some_iff.mp e).1
      exact ⟨xs[i], t, List.getElem?_eq_getElem hx, by rw [e5, List.getD_eq_getElem?_getD, List.getElem?_eq_getElem hx]; rfl⟩
    refine wpAny_pyIter_list hl1 (wpAny_bind (wpAny_runValue ?_))
    refine fill ((Walks.list h3 _ l n1 its).toS) s.heap.objs.size n2 xs hsz hb hv (its.size - 0) 0 _ rfl (Nat.zero_le _) ⟨⟨_, Heap.get?_push_size _ rfl, rfl, rfl⟩, hl1.push _⟩ ⟨[], _, emp_holds (Heap.get?_push_of_some _ hS), Nat.le_refl _, fun y => by simp⟩ fun s2 L D mv H hm hlen => ?_
    obtain ⟨h2, g2, d2, t2, o2⟩ := s2
    obtain rfl : g2 = s.gens := mv.gens
    obtain rfl : d2 = s.drawn := mv.drawn
    obtain rfl : o2 = s.os := mv.os
    refine wpAny_pure (wpAny_pure ⟨rfl, h2, t2, L, D, rfl, H, hm, by omega, fun b o e => ?_⟩)
    have lt := Heap.lt_size e
    refine mv.heap b o (fun z => ?_) (Heap.get?_push_of_some _ (Heap.get?_push_of_some _ e))
    rcases List.mem_cons.mp z with z | z
    · exact Nat.ne_of_lt lt z
    · exact Nat.lt_irrefl _ (Nat.lt_trans (Nat.lt_succ_self _) (hz ▸ List.mem_singleton.mp z ▸ lt))
  · rcases r2 with e | fl
    · exact hr2
    rcases fl with _ | _ | _ | v
    all_goals (try exact hr2.elim)
    obtain ⟨rfl, hm⟩ := hr2
    repeat (any_goals (first | assumption | wp_step))
    exact q _ hm
end
end AbSet

set_option maxHeartbeats 4000000
namespace AbSet
open PySem PySem.Spec PyProof.Rows L2 PySem.Froz
theorem perm_in {α : Type} [BEq α] [LawfulBEq α] : ∀ {l m : List α}, l.Nodup → (∀ x ∈ l, x ∈ m) → m.length = l.length → m.Perm l
  | [], m, _, _, hl => by rw [List.eq_nil_of_length_eq_zero hl]
  | x :: l, m, hn, hs, hl => by
    obtain ⟨n1, n2⟩ := List.nodup_cons.mp hn
    have hx := hs x List.mem_cons_self
    refine (List.perm_cons_erase hx).trans ((perm_in n2 (fun y hy => ?_) ?_).cons x)
    · exact (List.mem_erase_of_ne fun e => n1 (by rw [← e]; exact hy)).mpr (hs y (List.mem_cons_of_mem _ hy))
    · rw [List.length_erase_of_mem hx, hl]; rfl
section
variable {P : Program} {w : World} {A : Around} {E : Value → Shared → Prop} {s : Shared}
theorem is_of {k : Str} {v : Value} (h : (strKind P w).is k v = true) : ∃ t, v = .str k t := by
  replace h : Value.isStrOf k v = true := h
  cases v <;> simp [Value.isStrOf] at h
  rename_i z t
  exact ⟨t, by rw [h]⟩
theorem texts_of {h : Heap} {a : Addr} {l : List Str} {D : SD} (H : Holds P w h a l D) {vs : List Value} (p : vs.Perm (D.1.toList.map (·.2))) : StrsAre vs (vs.map strOf) ∧ (vs.map strOf).Perm l := by
  have each : ∀ v ∈ vs, ∃ x t, v = Value.str x t := fun v hv => by
    obtain ⟨e, he, rfl⟩ := List.mem_map.mp (p.mem_iff.mp hv)
    obtain ⟨⟨k, hk, _⟩, _⟩ := H.ok.el e he
    obtain ⟨t, ht⟩ := is_of hk
    exact ⟨k, t, ht⟩
  refine ⟨strsAre_map vs each, perm_in H.nd (fun x hx => ?_) ?_⟩
  · obtain ⟨e, he, hk⟩ := (H.ok.mem x).mp hx
    obtain ⟨t, ht⟩ := is_of hk
    exact List.mem_map.mpr ⟨e.2, p.mem_iff.mpr (List.mem_map.mpr ⟨e, he, rfl⟩), by rw [ht]; rfl⟩
  · rw [List.length_map, p.length_eq, List.length_map, Array.length_toList]
    exact H.ok.sz
/-- sorted(set) -/
theorem sorted_held {a : Addr} {l : List Str} {D : SD} {Q : Value → Shared → Prop} (H : Holds P w s.heap a l D) (hh : A.handled = none) (hb : l.length < 4096)
    (q : ∀ s' p (out : Array Value) (c : Nat) (ys : List Str), (∀ b o, s.heap.get? b = some o → s'.heap.get? b = some o) → s'.gens = s.gens → s'.os = s.os → s.heap.objs.size ≤ p → s'.heap.get? p = some (seqObj "list" out c) →
      StrsAre out.toList ys → ys.Perm l → sortedS ys = true → Q (.ref p) s') : wpAny (model P w) A (call (.builtin "sorted") [.ref a]) Q E s := by
  obtain ⟨es, ep, tb⟩ := D
  have sz : es.size = l.length := H.ok.sz
  have sb : es.size < scanBound := by unfold scanBound; omega
  have ft : tb.fits es.size = true := H.ok.fit
  have ha : SetAt s.heap a es ep tb := ⟨_, H.at', rfl, rfl⟩
  have ri : Ris tb.place.toList := H.led.1
  refine Calls.call_function_entry kind_sorted plain_sorted entry_sorted (args_sorted1 _) ?_
  unfold Builtin.«sorted»; refine wpAny_bind (m := checkCount "sorted" 1 1 _) (wpAny_pure ?_)
  refine wpAny_bind (collect_set (A := A.in1) hh ha ft sb ri H.led.2 fun s1 vs k1 z1 g1 o1 pm => ?_)
  obtain ⟨t1, t2⟩ := texts_of H pm
  have lv : vs.length ≤ sizeLine := by rw [pm.length_eq, List.length_map, Array.length_toList, sz, sizeLine_eq]; omega
  refine wpAny_bind (wpAny_newList ?_ lv)
  have hL : (s1.heap.push (seqObj "list" vs.toArray 0)).get? s1.heap.objs.size = some (seqObj "list" vs.toArray 0) := Heap.get?_push_size _ rfl
  refine wpAny_bind (wpAny_holding (wpAny_call_entry slot_list_sort ⟨_, hL, rfl⟩ entry_list_sort (list_sort_treeKAny strKind_oneLt hL t1.keysOf (fun v1 v2 r e => keyKind_strs (by rw [← e]; exact t1)) lv fun st hp hs => ⟨_, rfl, ?_⟩) (args_list_sort _)))
  obtain ⟨ys, y1, y2, y3⟩ := sorted_out_str t1 hp hs
  obtain ⟨c, hc⟩ := sortedHeap_at (vs := vs) (out := (arrOf st).map (·.2)) hL
  refine wpAny_pure ⟨_, rfl, q _ s1.heap.objs.size _ c ys (fun b o e => ?_) g1 o1 z1 hc y1 (y2.trans t2) y3⟩
  have e1 := k1 b o e
  have lt := Heap.lt_size e1
  exact (sortedHeap_old (Nat.ne_of_lt lt) (Nat.lt_of_lt_of_le lt (by rw [Heap.size_push]; exact Nat.le_succ _))).trans (Heap.get?_push_of_some _ e1)
end
end AbSet

set_option maxHeartbeats 4000000
namespace AbSet
open PySem PySem.Spec PyProof.Rows L2 PySem.Froz
/-- the heap's word for such a set -/
def SetXO (P : Program) (w : World) (a : Addr) (l : List Str) : HO := .ext fun h => ∃ D, Holds P w h a l D
theorem setX_new {P : Program} {w : World} {H : Hp} {h : Heap} {a : Addr} {l : List Str} {D : SD} (x : Holds P w h a l D) : ObjOk P w H h a (SetXO P w a l) :=
  ⟨⟨D, x⟩, ⟨_, x.at'⟩, fun _ _ ⟨D', y⟩ k => ⟨D', y.keep k⟩⟩
theorem vals_strs : ∀ {xs : List Str} {us : List Value}, Vals (xs.map V.str) us → StrsAre us xs
  | [], _, .nil => .nil
  | x :: xs, _, .cons r t => by
    obtain ⟨tk, rfl⟩ := r
    exact .cons x tk (vals_strs t)
theorem strs_vals : ∀ {xs : List Str} {us : List Value}, StrsAre us xs → Vals (xs.map V.str) us
  | _, _, .nil => .nil
  | _, _, .cons x t r => .cons ⟨t, rfl⟩ (strs_vals r)
def rSetX (K : PySem.W.Frag) (P : Program) (w : World) : List V → Hp → VK → Prop := fun vs H Q => ∃ (a : Addr) (xs : List Str), vs = [V.ref a] ∧ SqL K H a (xs.map V.str) ∧ xs.length < 4000 ∧
  ∀ (p : Addr) (l : List Str), l.Nodup → (∀ y, y ∈ l ↔ y ∈ xs) → l.length ≤ xs.length → H p = none → Q (.ref p) (upd H p (SetXO P w p l))
def rSortX (P : Program) (w : World) : List V → Hp → VK → Prop := fun vs H Q => ∃ (a : Addr) (l : List Str), vs = [V.ref a] ∧ H a = some (SetXO P w a l) ∧ l.length < 4000 ∧
  ∀ (p : Addr) (ys : List Str), ys.Perm l → sortedS ys = true → H p = none → Q (.ref p) (upd H p (.lst (ys.map V.str)))
section
variable {X : Cx}
theorem cr_setX (hc : X.calm = true) : CallR X (.type "set") (rSetX X.K X.prog X.w) := by
  intro pins s σ H vs us Q I r h
  obtain ⟨a, xs, rfl, hs, hl, q⟩ := h
  obtain ⟨its, rv, pl, hz⟩ := I.list hs
  rw [Vals.ref1 r]
  refine set_made (P := X.prog) (w := X.w) (I.ok.hd hc) pl.isList (vals_strs (by simpa using rv)) (by unfold scanBound; omega) fun s' hm => ?_
  obtain ⟨h', tk, L, D, rfl, hH, h1, h2, k⟩ := hm
  exact ⟨.ref s.heap.objs.size, upd H s.heap.objs.size (SetXO X.prog X.w s.heap.objs.size L), I.laid (t' := tk) k (Nat.le_refl _) (setX_new hH), rfl, q _ L hH.nd h1 h2 (I.hok.fresh (Nat.le_refl _))⟩
theorem cr_sortX (hc : X.calm = true) : CallR X (.builtin "sorted") (rSortX X.prog X.w) := by
  intro pins s σ H vs us Q I r h
  obtain ⟨a, l, rfl, ha, hl, q⟩ := h
  obtain ⟨D, hH⟩ : ∃ D, Holds X.prog X.w s.heap a l D := (I.hok a _ ha).1
  rw [Vals.ref1 r]
  refine sorted_held hH (I.ok.hd hc) (by omega) fun s' p out c ys k g o hp hg hi pm so => ?_
  have hz : (ys.map V.str).length ≤ sizeLine := by rw [List.length_map, pm.length_eq, sizeLine_eq]; omega
  have fr : H p = none := I.hok.fresh hp
  have J : Inv X pins σ (upd H p (.lst (ys.map V.str))) { s with heap := s'.heap, gens := s'.gens, drawn := s'.drawn, toks := s'.toks } := I.call (ch := []) (Un.laid k hp fr) (I.hok.laid k hp ⟨hz, out.toList, c, strs_vals hi, hg⟩) (by rw [g]; exact I.bare) (fun _ z => nomatch z)
  have e : s' = { s with heap := s'.heap, gens := s'.gens, drawn := s'.drawn, toks := s'.toks } := by
    obtain ⟨a1, a2, a3, a4, a5⟩ := s'; obtain ⟨b1, b2, b3, b4, b5⟩ := s
    cases o; rfl
  rw [e]
  exact ⟨.ref p, _, J, rfl, q p ys pm so fr⟩
end
end AbSet

namespace AbSrt
open PySem PySem.Spec PyProof.Rows L2
theorem strict_go : ∀ (x : PySem.Str) (l : List PySem.Str), risingS x l = true → (x :: l).Nodup → (x :: l).Pairwise fun a b => sLt a b = true
  | x, [], _, _ => List.pairwise_singleton ..
  | x, y :: l, h, n => by
    have h : (!ltCps y.cps.toList x.cps.toList && risingS y l) = true := h
    rw [Bool.and_eq_true] at h
    obtain ⟨n1, n2⟩ := List.nodup_cons.mp n
    have ih := strict_go y l h.2 n2
    have xy : sLt x y = true := by
      cases z : sLt x y with
      | true => rfl
      | false =>
        have : sLt y x = false := by
          have h1 := h.1
          rw [ltCps_eq, Bool.not_eq_true'] at h1
          exact h1
        exact absurd (sLt_tri z this) fun e => n1 (e ▸ List.mem_cons_self)
    refine List.pairwise_cons.mpr ⟨fun w hw => ?_, ih⟩
    rcases List.mem_cons.mp hw with rfl | hw
    · exact xy
    · exact sLt_trans xy ((List.pairwise_cons.mp ih).1 w hw)
theorem strict : ∀ {l : List PySem.Str}, sortedS l = true → l.Nodup → l.Pairwise fun a b => sLt a b = true
  | [], _, _ => List.Pairwise.nil
  | x :: l, h, n => strict_go x l h n
end AbSrt
namespace Ab
open PySem PySem.Spec PyProof.Rows L2
section
variable {X : Cx} {sc : Scope} {N cN fN : List Str} {top : Bool} {G : Gm} {k : Nat}
theorem s_ss (C : Cok X sc N top cN fN G k) {e : Expr} {p p2 pos pos2 : Pos} {wa : WE} (hg : glb sc "sorted" = true) (hg2 : glb sc "set" = true) (ha : PE X e (LE X.kx wa)) (hn : nostar e = true) :
    PE X (.Call (.Name "sorted" p) [.Call (.Name "set" p2) [e] [] pos2] [] pos) (LE X.kx fun sl m P => wa sl m fun x m1 => ∃ (xs : List Str), seqOf m1 x = some (xs.map D.str) ∧ (∀ zs, x ≠ .tup zs) ∧ xs.length < 4000 ∧ (∀ l : List Str, l.Nodup → (∀ y ∈ l, y ∈ xs) → l.length < 64) ∧ ∀ ys : List Str, ys.Pairwise (fun a b => AbSrt.sLt a b = true) → (∀ y, y ∈ ys ↔ y ∈ xs) → P (.loc m1.length) (m1 ++ [.lst (ys.map D.str)])) := by
  have h1 := pe_callTy (X := X) (p := p2) (pos := pos2) (AbSet.cr_setX C.calm) (C.gl hg2) (C.mgb (x := "set") (by decide +kernel)) (by decide +kernel) (pa_cons ha pa_nil (star_cons hn)) (by decide) (by decide) (star_cons hn) rfl
  refine PEm (pe_callB (AbSet.cr_sortX C.calm) (C.gl hg) (C.mgb (x := "sorted") (by decide +kernel)) (by decide +kernel) (pa_cons h1 pa_nil (star_cons rfl)) (by decide) (by decide) (star_cons rfl) rfl) fun σ H Q q => ?_
  obtain ⟨sl, r, m, P, hs, hm, hw, hP⟩ := q
  refine ⟨sl, r, m, _, hs, hm, hw, fun x m1 ⟨xs, e, hd, hl, hf, q1⟩ v r1 H1 e1 p1 rv hm1 => ?_⟩
  obtain ⟨a, us, rfl, g1, g2⟩ := seq_of hm1 e rv
  have g3 : SqL X.K H1 a us := by
    rcases g2 with ⟨_, z⟩ | ⟨g2, _⟩
    · exact absurd z (hd _)
    · exact g2
  cases rpl_strs g1
  refine ⟨a, xs, rfl, g3, hl, fun p l l1 l2 l3 hp => ?_⟩
  refine ⟨p, l, rfl, upd_same, by omega, fun p9 ys y1 y2 hp2 => ?_⟩
  have sm : Same H1 (upd H1 p (AbSet.SetXO X.prog X.w p l)) := fun b o hb => by
    unfold upd
    rw [if_neg (fun z => by rw [z, hp] at hb; cases hb)]
    exact hb
  exact ((hP _ _ (q1 ys (AbSrt.strict y2 ((y1.nodup_iff).mpr l1)) fun y => y1.mem_iff.trans (l2 y))).mono (e1.trans (Ext.same sm)) p1).lstNew (RpL.strs ys) (hm1.same sm) hp2
end
end Ab

namespace Ab
open PySem PySem.Spec PyProof.Rows L2
theorem b2 {a b : Bool} (h : (a && b) = true) : a = true ∧ b = true := by rw [Bool.and_eq_true] at h; exact h
theorem nb {a : Bool} (h : (!a) = true) : a = false := by cases a; rfl; cases h
theorem comp_test {X : Cx} {G : Gm} {K : Kx} (hK : X.kx = K) {ifs : List Expr} {c : I} {N cN fN : List Str} {sc : Scope}
    (h : (match ifs with | [] => isT c | [x] => chk N cN fN c sc false (.t x) | _ => false) = true)
    (ih : ∀ x, chk N cN fN c sc false (.t x) = true → PT X x (LT K (wE G c))) : PTs X ifs (LT K (wE G c)) := by
  subst hK
  match ifs, h with
  | [], h =>
    have e := isT_ok (show isT c = true from h)
    subst e
    exact pts_true
  | [x], h => exact pts_one (ih x h)
  | _ :: _ :: _, h => cases h
theorem comp_sub {g : I} {own : List (Str × Nat)} (h : (tgS g).all (fun i => (own.map (·.2)).contains i) = true) : ∀ i ∈ tgS g, i ∈ own.map (·.2) := fun i hi => List.contains_iff_mem.mp (List.all_eq_true.mp h i hi)
/-- the form does what the text does -/
theorem snd {N cN fN : List Str} {G : Gm} {k : Nat} : ∀ (ir : I) (sc : Scope) (top : Bool) (ast : Ast), chk N cN fN ir sc top ast = true → ∀ (X : Cx), Cok X sc N top cN fN G k → Snd X G ir ast := by
  intro ir
  induction ir with
  | var i =>
    intro sc top ast h X C
    unfold chk at h
    split at h
    · obtain ⟨h1, h3⟩ := b2 h
      obtain ⟨h1, h2⟩ := b2 h1
      obtain ⟨d1, d2, _⟩ := dbg_no h3
      refine PEm (pe_var (C.at_ h1) (C.vis h2) d1 d2) fun σ H Q q => ?_
      obtain ⟨sl, r, m, P, hs, hm, ⟨d, hd, hp⟩, hP⟩ := q
      obtain ⟨v, hv, rv⟩ := hs.at_ i d hd
      exact ⟨v, hv, (hP _ _ hp).here rv hm⟩
    · cases h
  | int i =>
    intro sc top ast h X C
    unfold chk at h
    split at h
    · have e := of_decide_eq_true h
      subst e
      exact s_const (d := .int i) pe_int (fun _ _ => rfl) _ fun _ _ _ hp => hp
    · cases h
  | str x =>
    intro sc top ast h X C
    unfold chk at h
    split at h
    · have e := of_decide_eq_true h
      subst e
      exact s_const (d := .str x) pe_str (fun _ _ => rfl) _ fun _ _ _ hp => hp
    · cases h
  | ce f a ihf iha =>
    intro sc top ast h X C
    unfold chk at h
    split at h
    · obtain ⟨h1, h6⟩ := b2 h
      obtain ⟨h1, h5⟩ := b2 h1
      obtain ⟨h1, h4⟩ := b2 h1
      exact s_ce C (ihf _ _ _ h1 X C) rfl (iha _ _ _ h4 X C) h5 h6
    · cases h
  | ce0 f ihf =>
    intro sc top ast h X C
    unfold chk at h
    split at h
    · exact s_ce0 C (ihf _ _ _ h X C) rfl
    · cases h
  | dii a b =>
    intro sc top ast h X C
    unfold chk at h
    split at h
    · obtain ⟨h1, h2⟩ := b2 h
      have e1 := of_decide_eq_true h1
      have e2 := of_decide_eq_true h2
      subst e1 e2
      exact s_dii pe_dii
    · cases h
  | dis y i =>
    intro sc top ast h X C
    unfold chk at h
    split at h
    · obtain ⟨h1, h4⟩ := b2 h
      obtain ⟨h1, h3⟩ := b2 h1
      obtain ⟨h1, h2⟩ := b2 h1
      obtain ⟨d1, d2, _⟩ := dbg_no h3
      have e := of_decide_eq_true h4
      subst e
      exact s_dis (pe_dis (C.at_ h1) (C.vis h2) d1 d2)
    · cases h
  | bl b =>
    intro sc top ast h X C
    unfold chk at h
    split at h
    · have e := beq_iff_eq.mp h
      subst e
      exact s_const (d := .bl b) pe_bl (fun _ _ => rfl) _ fun _ _ _ hp => hp
    · cases h
  | non =>
    intro sc top ast h X C
    unfold chk at h
    split at h
    · exact s_const (d := .non) pe_non (fun _ _ => rfl) _ fun _ _ _ hp => hp
    · show PO X none (LO X.kx (wE G .non))
      refine ⟨fun pins s σ H Q I q => ?_⟩
      obtain ⟨sl, r, m, P, hs, hm, hp, hP⟩ := q
      obtain ⟨o, eo, hq⟩ := hP _ _ hp
      have eo' : (some none : Option (Option Int)) = some o := eo
      cases eo'
      exact po_none.run pins s σ H Q I (hq r H (Ext.refl H) (Pre.refl r) hm)
    · cases h
  | con j =>
    intro sc top ast h X C
    unfold chk at h
    split at h
    · rename_i x pos
      obtain ⟨h1, h3⟩ := b2 h
      obtain ⟨h1, h2⟩ := b2 h1
      have hj := of_decide_eq_true h1
      rw [← C.hc, List.getElem?_map] at hj
      cases q : G.cs[j]? with
      | none => rw [q] at hj; cases hj
      | some nd =>
        obtain ⟨n, d⟩ := nd
        rw [q] at hj
        have e1 : n = x := Option.some.inj hj
        subst e1
        obtain ⟨u, v, g1, g2, g3⟩ := C.cs j n d q
        refine s_const (d := d) (pe_glob (C.gl h2) g1 g2 (dbg_no h3).1) g3 _ fun sl m P hp => ?_
        obtain ⟨x', d', e, hp⟩ := hp
        rw [q] at e; cases e
        exact hp
    · cases h
  | nil =>
    intro sc top ast h X C
    unfold chk at h
    split at h
    · refine PAm pa_nil fun σ H Q q => ?_
      obtain ⟨sl, r, m, P, hs, hm, hp, hP⟩ := q
      obtain ⟨xs, e, hq⟩ := hP _ _ hp
      cases e
      exact hq [] r H (Ext.refl H) (Pre.refl r) rfl hm
    · exact s_gnil
    · cases h
  | cons a r iha ihr =>
    intro sc top ast h X C
    unfold chk at h
    split at h
    · obtain ⟨h1, h3⟩ := b2 h
      obtain ⟨h1, h2⟩ := b2 h1
      refine PAm (pa_cons (iha _ _ _ h1 X C) (ihr _ _ _ h2 X C) (star_cons h3)) fun σ H Q q => ?_
      obtain ⟨sl, rr, m, P, hs, hm, hw, hP⟩ := q
      refine ⟨sl, rr, m, _, hs, hm, hw, fun x m1 q1 vx r1 H1 e1 p1 rx hm1 => ?_⟩
      refine ⟨sl, r1, m1, _, hs.ext e1 p1, hm1, q1, fun y m2 ⟨ys, ey, q2⟩ => ⟨ys, ey, fun vs r2 H2 e2 p2 ry hm2 => ?_⟩⟩
      obtain ⟨xs, e, hq⟩ := hP _ _ q2
      cases e
      exact hq _ r2 H2 (e1.trans e2) (p1.trans p2) ⟨vx, vs, rfl, Rp.ext e2 p2 _ _ rx, ry⟩ hm2
    · obtain ⟨h1, h3⟩ := b2 h
      obtain ⟨h1, h2⟩ := b2 h1
      exact s_gcons (iha _ _ _ h1 X C) (ihr _ _ _ h2 X C) h3
    · cases h
  | tup a iha =>
    intro sc top ast h X C
    unfold chk at h
    split at h
    · refine PEm (pe_tup (iha _ _ _ h X C)) fun σ H Q q => ?_
      refine la_un (s := fun xs m P => xs.length ≤ sizeLine ∧ P (.tup xs) m) (f := fun xs H1 Q => xs.length ≤ sizeLine ∧ ∀ p, H1 p = none → Q (.ref p) (upd H1 p (.tup xs))) (fun H r m xs vs P Q rs hm hb hP => ?_) q
      exact ⟨by rw [← rs.length]; exact hb.1, fun p hp => (hP _ _ hb.2).tupNew rs hm hp⟩
    · cases h
  | lst a iha =>
    intro sc top ast h X C
    unfold chk at h
    split at h
    · refine PEm (pe_lst (iha _ _ _ h X C)) fun σ H Q q => ?_
      refine la_un (s := fun xs m P => xs.length ≤ sizeLine ∧ P (.loc m.length) (m ++ [Ob.lst xs])) (f := fun xs H1 Q => xs.length ≤ sizeLine ∧ ∀ p, H1 p = none → Q (.ref p) (upd H1 p (.lst xs))) (fun H r m xs vs P Q rs hm hb hP => ?_) q
      exact ⟨by rw [← rs.length]; exact hb.1, fun p hp => (hP _ _ hb.2).lstNew rs hm hp⟩
    · cases h
  | bin o a b iha ihb =>
    intro sc top ast h X C
    unfold chk at h
    split at h
    · obtain ⟨h1, h3⟩ := b2 h
      obtain ⟨h1, h2⟩ := b2 h1
      have e := sameO_eq h1
      subst e
      exact op_o2 C (iha _ _ _ h2 X C) (ihb _ _ _ h3 X C)
    · cases h
  | neg a iha =>
    intro sc top ast h X C
    unfold chk at h
    split at h
    · refine PEm (pe_un un_neg (iha _ _ _ h X C)) fun σ H Q q => ?_
      refine le_un (s := fun x m P => ∃ i, x = .int i ∧ P (.int (-i)) m) (f := rU fun i => .int (-i)) (fun H r m x vx P Q rx hm hb hP => ?_) q
      obtain ⟨i, rfl, hp⟩ := hb
      cases rx
      exact ⟨i, rfl, (hP _ _ hp).here rfl hm⟩
    · cases h
  | cmp c a b iha ihb =>
    intro sc top ast h X C
    unfold chk at h
    split at h
    · obtain ⟨h1, h4⟩ := b2 h
      obtain ⟨h1, h3⟩ := b2 h1
      obtain ⟨h1, h2⟩ := b2 h1
      have e := sameC_eq h1
      subst e
      exact s_cmpE C (iha _ _ _ h2 X C) (ihb _ _ _ h3 X C) h4
    · obtain ⟨h1, h4⟩ := b2 h
      obtain ⟨h1, h3⟩ := b2 h1
      obtain ⟨h1, h2⟩ := b2 h1
      have e := sameC_eq h1
      subst e
      exact s_cmpT C (iha _ _ _ h2 X C) (ihb _ _ _ h3 X C) h4
    · cases h
  | chn c c' a b d iha ihb ihd =>
    intro sc top ast h X C
    unfold chk at h
    split at h
    · obtain ⟨h1, h6⟩ := b2 h
      obtain ⟨h1, h5⟩ := b2 h1
      obtain ⟨h1, h4⟩ := b2 h1
      obtain ⟨h1, h3⟩ := b2 h1
      obtain ⟨h1, h2⟩ := b2 h1
      have e := sameC_eq h1
      subst e
      have e := sameC_eq h2
      subst e
      exact PEm (pe_chain (op_cm C c) (op_cm C c') (iha _ _ _ h3 X C) (ihb _ _ _ h4 X C) (ihd _ _ _ h5 X C) (marks_no h6)) fun σ H Q q => chn_le q
    · obtain ⟨h1, h6⟩ := b2 h
      obtain ⟨h1, h5⟩ := b2 h1
      obtain ⟨h1, h4⟩ := b2 h1
      obtain ⟨h1, h3⟩ := b2 h1
      obtain ⟨h1, h2⟩ := b2 h1
      have e := sameC_eq h1
      subst e
      have e := sameC_eq h2
      subst e
      exact PTm (pt_chain (op_cm C c) (op_cm C c') (iha _ _ _ h3 X C) (ihb _ _ _ h4 X C) (ihd _ _ _ h5 X C) (marks_no h6)) fun σ H Q q => chn_le (lt_of_le q)
    · cases h
  | and a r iha ihr =>
    intro sc top ast h X C
    unfold chk at h
    split at h
    · obtain ⟨h1, h2⟩ := b2 h
      exact PEm (pe_and (iha _ _ _ h1 X C) (ihr _ _ _ h2 X C)) fun σ H Q q => and_le q
    · obtain ⟨h1, h2⟩ := b2 h
      exact PTm (pw_and (iha _ _ _ h1 X C) (ihr _ _ _ h2 X C)).pt fun σ H Q q => and_lt q
    · obtain ⟨h1, h2⟩ := b2 h
      exact PWm (pw_and (iha _ _ _ h1 X C) (ihr _ _ _ h2 X C)) fun σ H Q q => and_lt q
    · cases h
  | or a r iha ihr =>
    intro sc top ast h X C
    unfold chk at h
    split at h
    · obtain ⟨h1, h2⟩ := b2 h
      exact PEm (pe_or (iha _ _ _ h1 X C) (ihr _ _ _ h2 X C)) fun σ H Q q => or_le q
    · obtain ⟨h1, h2⟩ := b2 h
      exact PTm (pw_or (iha _ _ _ h1 X C) (ihr _ _ _ h2 X C)).pt fun σ H Q q => or_lt q
    · obtain ⟨h1, h2⟩ := b2 h
      exact PWm (pw_or (iha _ _ _ h1 X C) (ihr _ _ _ h2 X C)) fun σ H Q q => or_lt q
    · cases h
  | one a iha =>
    intro sc top ast h X C
    unfold chk at h
    split at h
    · exact pe_one (iha _ _ _ h X C)
    · exact pw_and1 (iha _ _ _ h X C)
    · exact pw_or1 (iha _ _ _ h X C)
    · cases h
  | not a iha =>
    intro sc top ast h X C
    unfold chk at h
    split at h
    · refine PEm (pe_not (iha _ _ _ h X C)) fun σ H Q q => ?_
      refine le_un (s := fun x m P => ∃ t, x = .bl t ∧ P (.bl (!t)) m) (f := fun x H1 Q => ∃ c, x = .bl c ∧ Q (.bl (!c)) H1) (fun H r m x vx P Q rx hm hb hP => ?_) q
      obtain ⟨t, rfl, hp⟩ := hb
      cases rx
      exact ⟨t, rfl, (hP _ _ hp).here rfl hm⟩
    · refine PTm (pt_not (iha _ _ _ h X C)) fun σ H Q q => ?_
      exact lt_one (s := fun t m P => P (.bl (!t)) m) (f := fun c H1 Q => Q (!c) H1) (fun H r m t P Q hm hb hP => (hP _ _ hb).here hm) q
    · cases h
  | ite c a b ihc iha ihb =>
    intro sc top ast h X C
    unfold chk at h
    split at h
    · obtain ⟨h1, h3⟩ := b2 h
      obtain ⟨h1, h2⟩ := b2 h1
      refine PEm (pe_ifExp (ihc _ _ _ h1 X C) (iha _ _ _ h2 X C) (ihb _ _ _ h3 X C)) fun σ H Q q => ?_
      obtain ⟨sl, rr, m, P, hs, hm, hw, hP⟩ := q
      refine ⟨sl, rr, m, _, hs, hm, hw, fun x m1 ⟨t, et, q1⟩ => ⟨t, et, fun r1 H1 e1 p1 hm1 => ?_⟩⟩
      cases t with
      | true =>
        rw [if_pos rfl] at q1 ⊢
        exact ⟨sl, r1, m1, P, hs.ext e1 p1, hm1, q1, fun d m' hp => (hP d m' hp).mono e1 p1⟩
      | false =>
        rw [if_neg Bool.false_ne_true] at q1 ⊢
        exact ⟨sl, r1, m1, P, hs.ext e1 p1, hm1, q1, fun d m' hp => (hP d m' hp).mono e1 p1⟩
    · cases h
  | tru a iha =>
    intro sc top ast h X C
    unfold chk at h
    split at h
    · obtain ⟨h1, h2⟩ := b2 h
      refine PTm (pt_truth (iha _ _ _ h1 X C) (truth_plain h2)) fun σ H Q q => ?_
      obtain ⟨sl, rr, m, P, hs, hm, hw, hP⟩ := q
      refine ⟨sl, rr, m, _, hs, hm, hw, fun x m1 ⟨t, et, q1⟩ vx r1 H1 e1 p1 rx hm1 => ⟨t, tru_of hm1 rx et, ?_⟩⟩
      exact ((hP _ _ q1).mono e1 p1).here hm1
    · cases h
  | ix a b iha ihb =>
    intro sc top ast h X C
    unfold chk at h
    split at h
    · obtain ⟨h1, h3⟩ := b2 h
      obtain ⟨h1, h2⟩ := b2 h1
      exact PEm (pe_ix (ix_list.or (ix_tup.or (((ix_dict C.hu).or ix_dictL).or ix_str))) (iha _ _ _ h1 X C) (ihb _ _ _ h2 X C) (ix_plain h3)) fun σ H Q q => bin_le i2_ix q
    · cases h
  | sl a lo hi iha ihl ihh =>
    intro sc top ast h X C
    unfold chk at h
    split at h
    · obtain ⟨h1, h3⟩ := b2 h
      obtain ⟨h1, h2⟩ := b2 h1
      refine PEm (pe_slice (sl_tupA.or (sl_list.or sl_str)) (iha _ _ _ h1 X C) (ihl _ _ _ h2 X C) (ihh _ _ _ h3 X C)) fun σ H Q q => ?_
      obtain ⟨sl, rr, m, P, hs, hm, hw, hP⟩ := q
      refine ⟨sl, rr, m, _, hs, hm, hw, fun x m1 q1 vx r1 H1 e1 p1 rx hm1 => ?_⟩
      refine ⟨sl, r1, m1, _, hs.ext e1 p1, hm1, q1, fun y m2 ⟨l, el, q2⟩ => ⟨l, el, fun r2 H2 e2 p2 hm2 => ?_⟩⟩
      refine ⟨sl, r2, m2, _, (hs.ext e1 p1).ext e2 p2, hm2, q2, fun z m3 ⟨hh, eh, q3⟩ => ⟨hh, eh, fun r3 H3 e3 p3 hm3 => ?_⟩⟩
      exact sl_ok (Rp.ext (e2.trans e3) (p2.trans p3) _ _ rx) hm3 q3 fun d m' hp => (hP d m' hp).mono ((e1.trans e2).trans e3) ((p1.trans p2).trans p3)
    · cases h
  | pt a iha =>
    intro sc top ast h X C
    unfold chk at h
    split at h
    · rename_i x
      have hp := po_some (iha _ _ _ h X C)
      show PO X (some x) (LO X.kx (wE G (.pt a)))
      refine ⟨fun pins s σ H Q I q => hp.run pins s σ H Q I ?_⟩
      obtain ⟨sl, rr, m, P, hs, hm, hw, hP⟩ := q
      refine ⟨sl, rr, m, _, hs, hm, hw, fun y m1 ⟨i, ei, q1⟩ vx r1 H1 e1 p1 rx hm1 => ?_⟩
      subst ei
      cases rx
      obtain ⟨o, eo, hq⟩ := hP _ _ q1
      have eo' : (some (some i) : Option (Option Int)) = some o := eo
      cases eo'
      exact ⟨i, rfl, hq r1 H1 e1 p1 hm1⟩
    · cases h
  | dr a iha =>
    intro sc top ast h X C
    unfold chk at h
    split at h
    · exact PEm (iha _ _ _ h X C) fun σ H Q q => drop_le q
    · exact PTm (iha _ _ _ h X C) fun σ H Q q => drop_lt q
    · cases h
  | bi f a iha =>
    intro sc top ast h X C
    unfold chk at h
    split at h
    · obtain ⟨h1, h5⟩ := b2 h
      obtain ⟨h1, h4⟩ := b2 h1
      obtain ⟨h1, h3⟩ := b2 h1
      obtain ⟨h1, h2⟩ := b2 h1
      have e := of_decide_eq_true h1
      subst e
      exact s_bi C f h2 (iha _ _ _ h3 X C) h4 h5
    · cases h
  | isT Ts a iha =>
    intro sc top ast h X C
    unfold chk at h
    split at h
    · obtain ⟨h1, h6⟩ := b2 h
      obtain ⟨h1, h5⟩ := b2 h1
      obtain ⟨h1, h4⟩ := b2 h1
      obtain ⟨h1, h3⟩ := b2 h1
      obtain ⟨h1, h2⟩ := b2 h1
      have e := of_decide_eq_true h1
      subst e
      have hz := of_decide_eq_true h6
      exact s_isT C h3 (Nat.le_of_lt (Nat.lt_of_lt_of_le hz (by decide))) h2 (iha _ _ _ h4 X C) h5
    · cases h
  | fld a f iha =>
    intro sc top ast h X C
    unfold chk at h
    split at h
    · obtain ⟨h1, h3⟩ := b2 h
      obtain ⟨h1, h2⟩ := b2 h1
      have e := of_decide_eq_true h1
      subst e
      exact s_fld C (iha _ _ _ h2 X C) h3
    · cases h
  | mth n j o a iho iha =>
    intro sc top ast h X C
    unfold chk at h
    split at h
    · obtain ⟨h1, h8⟩ := b2 h
      obtain ⟨h1, h7⟩ := b2 h1
      obtain ⟨h1, h6⟩ := b2 h1
      obtain ⟨h1, h5⟩ := b2 h1
      obtain ⟨h1, h4⟩ := b2 h1
      obtain ⟨h1, h3⟩ := b2 h1
      obtain ⟨h1, h2⟩ := b2 h1
      have e := of_decide_eq_true h1
      subst e
      exact s_mth C (iho _ _ _ h2 X C) h4 h5 (iha _ _ _ h3 X C) h6 h7 (of_decide_eq_true h8)
    · obtain ⟨h1, h5⟩ := b2 h
      obtain ⟨h1, h4⟩ := b2 h1
      obtain ⟨h1, h3⟩ := b2 h1
      obtain ⟨h1, h2⟩ := b2 h1
      have e := of_decide_eq_true h1
      subst e
      cases a with
      | nil => exact s_mth0 C (iho _ _ _ h2 X C) h4 h5
      | _ => unfold chk at h3; cases h3
    · cases h
  | cv i a iha =>
    intro sc top ast h X C
    unfold chk at h
    split at h
    · obtain ⟨h1, h6⟩ := b2 h
      obtain ⟨h1, h5⟩ := b2 h1
      obtain ⟨h1, h4⟩ := b2 h1
      obtain ⟨h1, h3⟩ := b2 h1
      obtain ⟨h1, h2⟩ := b2 h1
      exact s_cv C h1 h2 (iha _ _ _ h4 X C) h5 h6 h3
    · cases h
  | orv a b iha ihb =>
    intro sc top ast h X C
    unfold chk at h
    split at h
    · obtain ⟨h1, h2⟩ := b2 h
      exact s_orv (iha _ _ _ h1 X C) (ihb _ _ _ h2 X C)
    · cases h
  | ss a iha =>
    intro sc top ast h X C
    unfold chk at h
    split at h
    · obtain ⟨h1, h6⟩ := b2 h
      obtain ⟨h1, h5⟩ := b2 h1
      obtain ⟨h1, h4⟩ := b2 h1
      obtain ⟨h1, h3⟩ := b2 h1
      obtain ⟨h1, h2⟩ := b2 h1
      have e := of_decide_eq_true h1
      subst e
      have e := of_decide_eq_true h2
      subst e
      exact s_ss C h3 h4 (iha _ _ _ h5 X C) h6
    · cases h
  | sfld o f e iho ihe =>
    intro sc top ast h X C
    unfold chk at h
    split at h
    · obtain ⟨h1, h3⟩ := b2 h
      obtain ⟨h1, h2⟩ := b2 h1
      have e := of_decide_eq_true h1
      subst e
      exact s_sfld C (iho _ _ _ h2 X C) (ihe _ _ _ h3 X C)
    · cases h
  | ghf i f r ihr =>
    intro sc top ast h X C
    unfold chk at h
    split at h
    · exact s_ghf (ihr _ _ _ h X C)
    · cases h
  | ghl i r ihr =>
    intro sc top ast h X C
    unfold chk at h
    split at h
    · exact s_ghl (ihr _ _ _ h X C)
    · cases h
  | fz a iha =>
    intro sc top ast h X C
    unfold chk at h
    split at h
    · exact s_fz (iha _ _ _ h X C)
    · cases h
  | dnew =>
    intro sc top ast h X C
    unfold chk at h
    split at h
    · exact s_dnew
    · cases h
  | sm f o a iho iha =>
    intro sc top ast h X C
    unfold chk at h
    split at h
    · obtain ⟨h1, h8⟩ := b2 h
      obtain ⟨h1, h7⟩ := b2 h1
      obtain ⟨h1, h6⟩ := b2 h1
      obtain ⟨h1, h5⟩ := b2 h1
      obtain ⟨h1, h4⟩ := b2 h1
      obtain ⟨h1, h3⟩ := b2 h1
      obtain ⟨h1, h2⟩ := b2 h1
      have e := of_decide_eq_true h1
      subst e
      exact s_sm f (iho _ _ _ h2 X C) (iha _ _ _ h3 X C) h4 h5 h6 h7 (of_decide_eq_true h8)
    · cases h
  | dm f o a iho iha =>
    intro sc top ast h X C
    unfold chk at h
    split at h
    · obtain ⟨h1, h8⟩ := b2 h
      obtain ⟨h1, h7⟩ := b2 h1
      obtain ⟨h1, h6⟩ := b2 h1
      obtain ⟨h1, h5⟩ := b2 h1
      obtain ⟨h1, h4⟩ := b2 h1
      obtain ⟨h1, h3⟩ := b2 h1
      obtain ⟨h1, h2⟩ := b2 h1
      have e := of_decide_eq_true h1
      subst e
      exact s_dm C f (iho _ _ _ h2 X C) (iha _ _ _ h3 X C) h4 h5 h6 h7 (of_decide_eq_true h8)
    · cases h
  | mt f o a iho iha =>
    intro sc top ast h X C
    unfold chk at h
    split at h
    · obtain ⟨h1, h5⟩ := b2 h
      obtain ⟨h1, h4⟩ := b2 h1
      obtain ⟨h1, h3⟩ := b2 h1
      obtain ⟨h1, h2⟩ := b2 h1
      have e := of_decide_eq_true h1
      subst e
      cases a with
      | nil => exact s_mt0 f (iho _ _ _ h2 X C) h4 h5
      | _ => unfold chk at h3; cases h3
    · obtain ⟨h1, h6⟩ := b2 h
      obtain ⟨h1, h5⟩ := b2 h1
      obtain ⟨h1, h4⟩ := b2 h1
      obtain ⟨h1, h3⟩ := b2 h1
      obtain ⟨h1, h2⟩ := b2 h1
      have e := of_decide_eq_true h1
      subst e
      exact s_mt1 f (iho _ _ _ h2 X C) (iha _ _ _ h3 X C) h4 h5 h6
    · obtain ⟨h1, h7⟩ := b2 h
      obtain ⟨h1, h6⟩ := b2 h1
      obtain ⟨h1, h5⟩ := b2 h1
      obtain ⟨h1, h4⟩ := b2 h1
      obtain ⟨h1, h3⟩ := b2 h1
      obtain ⟨h1, h2⟩ := b2 h1
      have e := of_decide_eq_true h1
      subst e
      exact s_mt2 f (iho _ _ _ h2 X C) (iha _ _ _ h3 X C) h4 h5 h6 h7
    · cases h
  | rvl a iha =>
    intro sc top ast h X C
    unfold chk at h
    split at h
    · refine PEm (pe_revA (iha _ _ _ h X C)) fun σ H Q q => ?_
      obtain ⟨sl, rr, m, P, hs, hm, hw, hP⟩ := q
      refine ⟨sl, rr, m, _, hs, hm, hw, fun x m1 q1 vx r1 H1 e1 p1 rx hm1 => ?_⟩
      rcases q1 with ⟨xs, ex, hd, q2⟩ | ⟨xs, rfl, q2⟩
      · obtain ⟨a', us, rfl, g1, g2⟩ := seq_of hm1 ex rx
        rcases g2 with ⟨_, z⟩ | ⟨g2, _⟩
        · exact absurd z (hd _)
        · exact ⟨a', us, rfl, .inl ⟨g2, fun p hp => ((hP _ _ q2).mono e1 p1).lstNew g1.reverse hm1 hp⟩⟩
      · obtain ⟨a', us, rfl, g1, g2⟩ := rx
        exact ⟨a', us, rfl, .inr ⟨g1, fun p hp => ((hP _ _ q2).mono e1 p1).tupNew g2.reverse hm1 hp⟩⟩
    · cases h
  | lrg a iha =>
    intro sc top ast h X C
    unfold chk at h
    split at h
    · obtain ⟨h1, h7⟩ := b2 h
      obtain ⟨h1, h6⟩ := b2 h1
      obtain ⟨h1, h5⟩ := b2 h1
      obtain ⟨h1, h4⟩ := b2 h1
      obtain ⟨h1, h3⟩ := b2 h1
      obtain ⟨h0, h2⟩ := b2 h1
      have e := of_decide_eq_true h2
      subst e
      have e := of_decide_eq_true h3
      subst e
      obtain ⟨a1, rfl⟩ := is1_ok h0
      exact s_lrg1 C h4 h5 (iha _ _ _ h6 X C) h7
    · obtain ⟨h1, h8⟩ := b2 h
      obtain ⟨h1, h7⟩ := b2 h1
      obtain ⟨h1, h6⟩ := b2 h1
      obtain ⟨h1, h5⟩ := b2 h1
      obtain ⟨h1, h4⟩ := b2 h1
      obtain ⟨h1, h3⟩ := b2 h1
      obtain ⟨h0, h2⟩ := b2 h1
      have e := of_decide_eq_true h2
      subst e
      have e := of_decide_eq_true h3
      subst e
      obtain ⟨a1, a2, rfl⟩ := is2_ok h0
      exact s_lrg2 C h4 h5 (iha _ _ _ h6 X C) h7 h8
    · cases h
  | lset a iha =>
    intro sc top ast h X C
    unfold chk at h
    split at h
    · obtain ⟨h1, h6⟩ := b2 h
      obtain ⟨h1, h5⟩ := b2 h1
      obtain ⟨h1, h4⟩ := b2 h1
      obtain ⟨h1, h3⟩ := b2 h1
      obtain ⟨h0, h2⟩ := b2 h1
      have e := of_decide_eq_true h0
      subst e
      have e := of_decide_eq_true h2
      subst e
      exact s_lset C h3 h4 (iha _ _ _ h5 X C) h6
    · cases h
  | lval a iha =>
    intro sc top ast h X C
    unfold chk at h
    split at h
    · obtain ⟨h1, h6⟩ := b2 h
      obtain ⟨h1, h5⟩ := b2 h1
      obtain ⟨h1, h4⟩ := b2 h1
      obtain ⟨h1, h3⟩ := b2 h1
      obtain ⟨h1, h2⟩ := b2 h1
      have e := of_decide_eq_true h1
      subst e
      have e := of_decide_eq_true h2
      subst e
      exact s_lval C h3 (iha _ _ _ h4 X C) h5 h6
    · cases h
  | itm a iha =>
    intro sc top ast h X C
    unfold chk at h
    split at h
    · obtain ⟨h1, h4⟩ := b2 h
      obtain ⟨h1, h3⟩ := b2 h1
      obtain ⟨h1, h2⟩ := b2 h1
      have e := of_decide_eq_true h1
      subst e
      exact s_itm (iha _ _ _ h2 X C) h3 h4
    · cases h
  | rvi a iha =>
    intro sc top ast h X C
    unfold chk at h
    split at h
    · obtain ⟨h1, h4⟩ := b2 h
      obtain ⟨h1, h3⟩ := b2 h1
      obtain ⟨h1, h2⟩ := b2 h1
      have e := of_decide_eq_true h1
      subst e
      exact s_rvi C h2 (iha _ _ _ h3 X C) h4
    · cases h
  | isi T a iha =>
    intro sc top ast h X C
    unfold chk at h
    split at h
    · obtain ⟨h1, h7⟩ := b2 h
      obtain ⟨h1, h6⟩ := b2 h1
      obtain ⟨h1, h5⟩ := b2 h1
      obtain ⟨h1, h4⟩ := b2 h1
      obtain ⟨h1, h3⟩ := b2 h1
      obtain ⟨h1, h2⟩ := b2 h1
      have e := of_decide_eq_true h1
      subst e
      have e := of_decide_eq_true h2
      subst e
      exact s_isi C h3 h4 h5 (iha _ _ _ h6 X C) h7
    · cases h
  | call j a iha =>
    intro sc top ast h X C
    unfold chk at h
    split at h
    · obtain ⟨h1, h6⟩ := b2 h
      obtain ⟨h1, h5⟩ := b2 h1
      obtain ⟨h1, h4⟩ := b2 h1
      obtain ⟨h1, h3⟩ := b2 h1
      obtain ⟨h1, h2⟩ := b2 h1
      exact s_call C h1 (of_decide_eq_true h2) (iha _ _ _ h3 X C) h4 h5 h6
    · obtain ⟨g1, h4⟩ := b2 h
      obtain ⟨g2, h3⟩ := b2 g1
      obtain ⟨h1, h2⟩ := b2 g2
      cases a with
      | nil => exact s_call0 C h1 (of_decide_eq_true h2) h4
      | _ => unfold chk at h3; cases h3
    · cases h
  | comp e g it c own ihe ihg ihi ihc =>
    intro sc top ast h X C
    unfold chk at h
    split at h
    · obtain ⟨h1, h7⟩ := b2 h
      obtain ⟨h1, h6⟩ := b2 h1
      obtain ⟨h1, h5⟩ := b2 h1
      obtain ⟨h1, h4⟩ := b2 h1
      obtain ⟨h1, h3⟩ := b2 h1
      obtain ⟨h1, h2⟩ := b2 h1
      have bok := blkOk_by h1
      refine PEm (pe_lc C.calm C.ndN (ihi _ _ _ h2 X C) (by rw [C.hN, C.hs]; exact bok) (g := LG X.kx (tgS g) (wG g)) (tt := LT X.kx (wE G c)) (te := LE X.kx (wE G e)) (fun s H Ca cl fp => ihg _ _ _ h3 _ (C.blk bok.kind s H Ca cl fp))
        (fun s H Ca cl fp => comp_test rfl h7 fun x hx => ihc _ _ _ hx _ (C.blk bok.kind s H Ca cl fp)) (fun s H Ca cl fp => ihe _ _ _ h4 _ (C.blk bok.kind s H Ca cl fp)) (fold_no h5)) fun σ H Q q => ?_
      obtain ⟨sl, rr, m, P, hs, hm, hw, hP⟩ := q
      exact comp_go (Qd := Q) (Pw := fun m1 m2 => P (.loc m1.length) m2) (comp_sub h6) hs hm hw (fun x m1 ⟨xs, ex, it'⟩ => ⟨xs, _, ex, it', fun ys Gd z => z⟩) fun m1 m2 r2 H2 Da hp e2 p2 hm2 hat => hP _ _ hp (.ref Da) r2 H2 e2 p2 ⟨Da, hat, rfl⟩ hm2
    · cases h
  | seq a iha =>
    intro sc top ast h X C
    unfold chk at h
    split at h
    · exact s_seq (iha _ _ _ h X C)
    · cases h
  | rng a iha =>
    intro sc top ast h X C
    unfold chk at h
    split at h
    · obtain ⟨h1, h4⟩ := b2 h
      obtain ⟨h1, h3⟩ := b2 h1
      obtain ⟨h1, h2⟩ := b2 h1
      obtain ⟨h0, h1⟩ := b2 h1
      have e := of_decide_eq_true h1
      subst e
      obtain ⟨a1, rfl⟩ := is1_ok h0
      exact s_rng1 C h2 (iha _ _ _ h3 X C) h4
    · obtain ⟨h1, h5⟩ := b2 h
      obtain ⟨h1, h4⟩ := b2 h1
      obtain ⟨h1, h3⟩ := b2 h1
      obtain ⟨h1, h2⟩ := b2 h1
      obtain ⟨h0, h1⟩ := b2 h1
      have e := of_decide_eq_true h1
      subst e
      obtain ⟨a1, a2, rfl⟩ := is2_ok h0
      exact s_rng2 C h2 (iha _ _ _ h3 X C) h4 h5
    · obtain ⟨h1, h6⟩ := b2 h
      obtain ⟨h1, h5⟩ := b2 h1
      obtain ⟨h1, h4⟩ := b2 h1
      obtain ⟨h1, h3⟩ := b2 h1
      obtain ⟨h1, h2⟩ := b2 h1
      obtain ⟨h0, h1⟩ := b2 h1
      have e := of_decide_eq_true h1
      subst e
      obtain ⟨a1, a2, a3, rfl⟩ := is3_ok h0
      exact s_rng3 C h2 (iha _ _ _ h3 X C) h4 h5 h6
    · cases h
  | enm a iha =>
    intro sc top ast h X C
    unfold chk at h
    split at h
    · obtain ⟨h1, h4⟩ := b2 h
      obtain ⟨h1, h3⟩ := b2 h1
      obtain ⟨h1, h2⟩ := b2 h1
      have e := of_decide_eq_true h1
      subst e
      exact s_enm C h2 (iha _ _ _ h3 X C) h4
    · cases h
  | zip a iha =>
    intro sc top ast h X C
    unfold chk at h
    split at h
    · obtain ⟨h1, h5⟩ := b2 h
      obtain ⟨h1, h4⟩ := b2 h1
      obtain ⟨h1, h3⟩ := b2 h1
      obtain ⟨h1, h2⟩ := b2 h1
      have e := of_decide_eq_true h1
      subst e
      exact s_zip C h2 (iha _ _ _ h3 X C) h4 h5
    · cases h
  | tn i =>
    intro sc top ast h X C
    unfold chk at h
    split at h
    · obtain ⟨h1, h2⟩ := b2 h
      exact s_tn C h1 h2
    · cases h
  | tt ts iht =>
    intro sc top ast h X C
    unfold chk at h
    split at h
    · obtain ⟨h1, h3⟩ := b2 h
      obtain ⟨h1, h2⟩ := b2 h1
      exact s_tt C (iht _ _ _ h1 X C) h2 (of_decide_eq_true h3)
    · cases h
  | skip =>
    intro sc top ast h X C
    unfold chk at h
    split at h
    · exact PSsm pss_nil fun E σ H q => s_skip q
    · exact PSm ps_pass fun E σ H q => s_skip q
    · exact PSm ps_doc fun E σ H q => s_skip q
    · cases h
  | blk s r ihs ihr =>
    intro sc top ast h X C
    unfold chk at h
    split at h
    · obtain ⟨h1, h2⟩ := b2 h
      exact s_blk (ihs _ _ _ h1 X C) (ihr _ _ _ h2 X C)
    · cases h
  | asg g e ihg ihe =>
    intro sc top ast h X C
    unfold chk at h
    split at h
    · obtain ⟨h1, h4⟩ := b2 h
      obtain ⟨h1, h3⟩ := b2 h1
      obtain ⟨h1, h2⟩ := b2 h1
      exact s_asg (ihg _ _ _ h1 X C) (ihe _ _ _ h2 X C) h3 C.hs h4
    · cases h
  | asgl g e ihg ihe =>
    intro sc top ast h X C
    unfold chk at h
    split at h
    · obtain ⟨h1, h5⟩ := b2 h
      obtain ⟨h1, h4⟩ := b2 h1
      obtain ⟨h1, h3⟩ := b2 h1
      obtain ⟨h1, h2⟩ := b2 h1
      exact s_asgl C (ihg _ _ _ h1 X C) (ihe _ _ _ h2 X C) h3 h4 (of_decide_eq_true h5)
    · cases h
  | asgc i e g it c own ihe ihg ihi ihc =>
    intro sc top ast h X C
    unfold chk at h
    split at h
    · obtain ⟨h1, h11⟩ := b2 h
      obtain ⟨h1, h10⟩ := b2 h1
      obtain ⟨h1, h9⟩ := b2 h1
      obtain ⟨h1, h8⟩ := b2 h1
      obtain ⟨h1, h7⟩ := b2 h1
      obtain ⟨h1, h6⟩ := b2 h1
      obtain ⟨h1, h5⟩ := b2 h1
      obtain ⟨h1, h4⟩ := b2 h1
      obtain ⟨h1, h3⟩ := b2 h1
      obtain ⟨h1, h2⟩ := b2 h1
      have bok := blkOk_by h5
      have hs := C.hs
      refine PSm (ps_setLc C.calm C.ndN (C.at_ h1) (C.lcl h2) (sw_true C.kd (C.lcl h2) h3 (nb h4)) (ihi _ _ _ h6 X C) (by rw [C.hN, C.hs]; exact bok) (g := LG X.kx (tgS g) (wG g)) (tt := LT X.kx (wE G c)) (te := LE X.kx (wE G e)) (fun s H Ca cl fp => ihg _ _ _ h7 _ (C.blk bok.kind s H Ca cl fp))
        (fun s H Ca cl fp => comp_test rfl h11 fun x hx => ihc _ _ _ hx _ (C.blk bok.kind s H Ca cl fp)) (fun s H Ca cl fp => ihe _ _ _ h8 _ (C.blk bok.kind s H Ca cl fp)) (fold_no h9)) fun E σ H q => ?_
      obtain ⟨sl, rr, m, A, H0, r0, m0, hs, hm, hm0, ee, p, ok, w⟩ := q
      exact comp_go (Qd := fun x H1 => gName i x σ H1 E.nx) (Pw := fun m1 m2 => A.nx (sl.set i (some (.loc m1.length))) m2) (comp_sub h10) hs hm w (fun x m1 ⟨xs, ex, it'⟩ => ⟨xs, _, ex, it', fun ys Gd z => z⟩)
        fun m1 m2 r2 H2 Da hp e2 p2 hm2 hat => ok.nx _ m2 _ H2 r2 hp (ee.trans e2) (p.trans p2) ((hs.ext e2 p2).set ⟨Da, hat, rfl⟩) hm2
    · cases h
  | par i j a iha =>
    intro sc top ast h X C
    unfold chk at h
    split at h
    · obtain ⟨h1, h11⟩ := b2 h
      obtain ⟨h1, h10⟩ := b2 h1
      obtain ⟨h1, h9⟩ := b2 h1
      obtain ⟨h1, h8⟩ := b2 h1
      obtain ⟨h1, h7⟩ := b2 h1
      obtain ⟨h1, h6⟩ := b2 h1
      obtain ⟨h1, h5⟩ := b2 h1
      obtain ⟨h1, h4⟩ := b2 h1
      obtain ⟨h1, h3⟩ := b2 h1
      obtain ⟨h1, h2⟩ := b2 h1
      exact s_par C h1 h2 h3 h4 (of_decide_eq_true h5) (iha _ _ _ h6 X C) h7 h8 h9 (nb h10) (nb h11)
    · cases h
  | par3 i j l a iha =>
    intro sc top ast h X C
    unfold chk at h
    split at h
    · obtain ⟨h1, h17⟩ := b2 h
      obtain ⟨h1, h16⟩ := b2 h1
      obtain ⟨h1, h15⟩ := b2 h1
      obtain ⟨h1, h14⟩ := b2 h1
      obtain ⟨h1, h13⟩ := b2 h1
      obtain ⟨h1, h12⟩ := b2 h1
      obtain ⟨h1, h11⟩ := b2 h1
      obtain ⟨h1, h10⟩ := b2 h1
      obtain ⟨h1, h9⟩ := b2 h1
      obtain ⟨h1, h8⟩ := b2 h1
      obtain ⟨h1, h7⟩ := b2 h1
      obtain ⟨h1, h6⟩ := b2 h1
      obtain ⟨h1, h5⟩ := b2 h1
      obtain ⟨h1, h4⟩ := b2 h1
      obtain ⟨h1, h3⟩ := b2 h1
      obtain ⟨h1, h2⟩ := b2 h1
      exact s_par3 C h1 h2 h3 h4 h5 h6 (of_decide_eq_true h7) (of_decide_eq_true h8) (of_decide_eq_true h9) (iha _ _ _ h10 X C) h11 h12 h13 h14 h15 (nb h16) (nb h17)
    · cases h
  | aug i o e ihe =>
    intro sc top ast h X C
    unfold chk at h
    split at h
    · obtain ⟨h1, h4⟩ := b2 h
      obtain ⟨h1, h3⟩ := b2 h1
      obtain ⟨h1, h2⟩ := b2 h1
      have e := sameO_eq h1
      subst e
      exact s_aug C h2 h3 (ihe _ _ _ h4 X C)
    · cases h
  | swp o i j e iho ihi ihj ihe =>
    intro sc top ast h X C
    unfold chk at h
    split at h
    · obtain ⟨h1, h8⟩ := b2 h
      obtain ⟨h1, h7⟩ := b2 h1
      obtain ⟨h1, h6⟩ := b2 h1
      obtain ⟨h1, h5⟩ := b2 h1
      obtain ⟨h1, h4⟩ := b2 h1
      obtain ⟨h1, h3⟩ := b2 h1
      obtain ⟨h1, h2⟩ := b2 h1
      exact s_swp C (iho _ _ _ h1 X C) (ihi _ _ _ h2 X C) (iho _ _ _ h3 X C) (ihj _ _ _ h4 X C) (ihe _ _ _ h5 X C) h6 h7 h8
    · cases h
  | sset o i e iho ihi ihe =>
    intro sc top ast h X C
    unfold chk at h
    split at h
    · obtain ⟨h1, h5⟩ := b2 h
      obtain ⟨h1, h4⟩ := b2 h1
      obtain ⟨h1, h3⟩ := b2 h1
      obtain ⟨h1, h2⟩ := b2 h1
      exact s_sset C (iho _ _ _ h1 X C) (ihi _ _ _ h2 X C) (ihe _ _ _ h3 X C) h4 h5
    · cases h
  | ex e ihe =>
    intro sc top ast h X C
    unfold chk at h
    split at h
    · obtain ⟨h1, h2⟩ := b2 h
      exact s_ex (ihe _ _ _ h1 X C) h2
    · cases h
  | ret e ihe =>
    intro sc top ast h X C
    unfold chk at h
    split at h
    · exact s_ret (ihe _ _ _ h X C)
    · cases h
  | retn =>
    intro sc top ast h X C
    unfold chk at h
    split at h
    · exact s_retn
    · cases h
  | sif c a b ihc iha ihb =>
    intro sc top ast h X C
    unfold chk at h
    split at h
    · obtain ⟨h1, h3⟩ := b2 h
      obtain ⟨h1, h2⟩ := b2 h1
      exact s_sif (ihc _ _ _ h1 X C) (iha _ _ _ h2 X C) (ihb _ _ _ h3 X C)
    · cases h
  | whl c b ihc ihb =>
    intro sc top ast h X C
    unfold chk at h
    split at h
    · obtain ⟨h1, h2⟩ := b2 h
      exact s_whl C (ihc _ _ _ h1 X C) (ihb _ _ _ h2 X C)
    · cases h
  | for_ g it b ihg ihi ihb =>
    intro sc top ast h X C
    unfold chk at h
    split at h
    · obtain ⟨h1, h4⟩ := b2 h
      obtain ⟨h1, h3⟩ := b2 h1
      obtain ⟨h1, h2⟩ := b2 h1
      exact s_for C (ihi _ _ _ h2 X C) (ihg _ _ _ h1 X C) (ihb _ _ _ h3 X C) h4
    · cases h
  | brk =>
    intro sc top ast h X C
    unfold chk at h
    split at h
    · refine PSm ps_break fun E σ H q => ?_
      obtain ⟨sl, r, m, A, H0, r0, m0, hs, hm, hm0, e, p, ok, w⟩ := q
      exact ok.bk sl m σ H r w e p hs hm
    · cases h
  | cnt =>
    intro sc top ast h X C
    unfold chk at h
    split at h
    · refine PSm ps_continue fun E σ H q => ?_
      obtain ⟨sl, r, m, A, H0, r0, m0, hs, hm, hm0, e, p, ok, w⟩ := q
      exact ok.ct sl m σ H r w e p hs hm
    · cases h
  | gc s ihs =>
    intro sc top ast h X C
    unfold chk at h
    split at h
    · exact PSm (ihs _ _ _ h X C) fun E σ H q => gc_ls q
    · exact PSsm (ihs _ _ _ h X C) fun E σ H q => gc_ls q
    · cases h
  | nev =>
    intro sc top ast h X C
    unfold chk at h
    split at h
    · refine PSm ps_never fun E σ H q => ?_
      obtain ⟨sl, r, m, A, H0, r0, m0, hs, hm, hm0, e, p, ok, w⟩ := q
      exact w
    · refine PSsm pss_never fun E σ H q => ?_
      obtain ⟨sl, r, m, A, H0, r0, m0, hs, hm, hm0, e, p, ok, w⟩ := q
      exact w
    · cases h
end Ab

namespace Ab
open PySem PySem.Spec PyProof.Rows L2
/-- the ends of a def's body: what it has made and does not tell is forgotten -/
def AEf (m : Mu) (P : D → Mu → Prop) : AE := ⟨fun _ m' => Drop m P .non m', Drop m P, fun _ _ => False, fun _ _ => False⟩
def okM (m : Mu) : Prop := ∀ (i : Nat) (o : Ob), m[i]? = some o → okO (fun k => decide (k < m.length)) o = true
def slots (n : Nat) (ds : List D) : Sl := ds.map some ++ List.replicate (n - ds.length) none
theorem rsl_start {K : Kx} {H : Hp} {r : List Addr} {N : List Str} {ds : List D} {vs : List V} (h : RpL K H r ds vs) : RSl K H r (slots N.length ds) (L2.start N vs) := by
  have hl := h.length
  refine ⟨by unfold slots L2.start; simp [hl], fun i d e => ?_⟩
  unfold slots at e
  unfold L2.start
  by_cases hi : i < ds.length
  · rw [List.getElem?_append_left (by simpa using hi), List.getElem?_map, List.getElem?_eq_getElem hi] at e
    have e' : ds[i] = d := Option.some.inj (Option.some.inj e)
    obtain ⟨v, hv, rv⟩ := h.get (List.getElem?_eq_getElem hi)
    refine ⟨v, ?_, e' ▸ rv⟩
    rw [List.getElem?_append_left (by rw [List.length_map, ← hl]; exact hi), List.getElem?_map, hv]; rfl
  · rw [List.getElem?_append_right (by simpa using hi), List.getElem?_replicate] at e
    split at e <;> cases e
/-- THE RULE for a def -/
theorem fn_ok {P : Program} {w : World} {K : PySem.W.Frag} {mg : Str → Option Value} {base : Heap} {x qual : Str} {st : Stmt} {f : Addr} {fd : FuncData} {N ps cN fN : List Str} {k : Nat} {G : Gm} {asp : ASp} {ir : I}
    (F : Fun K x qual st f fd) (S : FnScope N ps (defScope st)) (hc : chk N cN fN ir (defScope st) true (.ss (defBody st)) = true) (hcN : G.cs.map (·.1) = cN) (hfN : G.fns.map (·.1) = fN)
    (blt : ∀ y ∈ bnames, mg y = none) (cs : ∀ (i : Nat) (x : Str) (d : D), G.cs[i]? = some (x, d) → ∃ u v, mg x = some u ∧ RelV v u ∧ ∀ H r, Rp ⟨K, w, P⟩ H r d v)
    (fns : ∀ (i : Nat) (n : Str) (sp : ASp), G.fns[i]? = some (n, sp) → FnA P w K mg base k n sp)
    (mss : ∀ (i : Nat) (c n : Str) (sp : ASp), G.ms[i]? = some ((c, n), sp) → MtA P w K mg base k c n sp) (cl : ClsAll ⟨K, w, P⟩)
    (body : ∀ ds m Q, asp ds m Q → ds.length = ps.length ∧ ((∀ d ∈ ds, okD (fun k => decide (k < m.length)) d = true) → okM m → wS G m ir (AEf m Q) (slots N.length ds) m)) : FnOk P w K mg base CX0 (k + 1) f fd ps (SpOf ⟨K, w, P⟩ asp) := by
  refine F.ok S (fun vs H Q E h => ?_) (fun cdv A outer s H vs Q E hr h => ?_)
  · obtain ⟨ds, r, m, P', rs, hm, ha, hP⟩ := h
    rw [← rs.length]; exact (body ds m P' ha).1
  · obtain ⟨ds, r, m, P', rs, hm, ha, hP⟩ := h
    have C : Cok (cxOf CX0 P w K mg base N qual (defScope st) f cdv A outer s H E).nox (defScope st) N true cN fN G k :=
      ⟨rfl, hcN, hfN, S.kind, rfl, S.nd, rfl, rfl, hr, fun _ _ => rfl, blt, cs, fns, mss, cl⟩
    refine ⟨_, snd ir _ true _ hc _ C, slots N.length ds, r, m, AEf m P', H, r, m, rsl_start rs, hm, hm, Ext.refl H, Pre.refl r, ⟨?_, ?_, fun _ _ _ _ _ z => z.elim, fun _ _ _ _ _ z => z.elim⟩, (body ds m P' ha).2 (fun d hd => ?_) fun i o e => ?_⟩
    · intro sl' m' σ' H' r' hd e' p' _ hm'
      obtain ⟨d', m'', r'', hp, rv', hm'', p''⟩ := drop_ok hm hm' p' hd (show Rp ⟨K, w, P⟩ H' r' .non .non from rfl)
      exact hP d' m'' hp .non r'' H' e' p'' rv' hm''
    · intro d m' v H' r' hd e' p' rv hm'
      obtain ⟨d', m'', r'', hp, rv', hm'', p''⟩ := drop_ok hm hm' p' hd rv
      exact hP d' m'' hp v r'' H' e' p'' rv' hm''
    · obtain ⟨i, hi, e⟩ := List.getElem_of_mem hd
      obtain ⟨v, _, rv⟩ := rs.get (List.getElem?_eq_getElem hi)
      rw [← e]
      exact rp_in (Nat.le_of_eq hm.len) _ v rv
    · have hi := (List.getElem?_eq_some_iff.mp e).1
      have hr : i < r.length := by rw [hm.len]; exact hi
      have q := hm.ob i _ o (List.getElem?_eq_getElem hr) e
      exact okO_of (Nat.le_of_eq hm.len) q
/-- .. that has defaults -/
theorem fn_okD {P : Program} {w : World} {K : PySem.W.Frag} {mg : Str → Option Value} {base : Heap} {x qual : Str} {st : Stmt} {f : Addr} {fd : FuncData} {N ps cN fN : List Str} {k : Nat} {G : Gm} {asp : ASp} {ir : I}
    {dvs : List V} (F : FunD K x qual (defArgs st) (defBody st) (defScope st) dvs [] f fd) (S : FnScope N ps (defScope st)) (hc : chk N cN fN ir (defScope st) true (.ss (defBody st)) = true) (hcN : G.cs.map (·.1) = cN) (hfN : G.fns.map (·.1) = fN)
    (blt : ∀ y ∈ bnames, mg y = none) (cs : ∀ (i : Nat) (x : Str) (d : D), G.cs[i]? = some (x, d) → ∃ u v, mg x = some u ∧ RelV v u ∧ ∀ H r, Rp ⟨K, w, P⟩ H r d v)
    (fns : ∀ (i : Nat) (n : Str) (sp : ASp), G.fns[i]? = some (n, sp) → FnA P w K mg base k n sp)
    (mss : ∀ (i : Nat) (c n : Str) (sp : ASp), G.ms[i]? = some ((c, n), sp) → MtA P w K mg base k c n sp) (cl : ClsAll ⟨K, w, P⟩)
    (body : ∀ ds m Q, asp ds m Q → ds.length = ps.length ∧ ((∀ d ∈ ds, okD (fun k => decide (k < m.length)) d = true) → okM m → wS G m ir (AEf m Q) (slots N.length ds) m)) : FnOk P w K mg base CX0 (k + 1) f fd ps (SpOf ⟨K, w, P⟩ asp) := by
  refine F.ok (CX := CX0) S (fun vs H Q E h => ?_) (fun cdv A outer s H vs Q E hr h => ?_)
  · obtain ⟨ds, r, m, P', rs, hm, ha, hP⟩ := h
    rw [← rs.length]; exact (body ds m P' ha).1
  · obtain ⟨ds, r, m, P', rs, hm, ha, hP⟩ := h
    have C : Cok (cxOf CX0 P w K mg base N qual (defScope st) f cdv A outer s H E).nox (defScope st) N true cN fN G k :=
      ⟨rfl, hcN, hfN, S.kind, rfl, S.nd, rfl, rfl, hr, fun _ _ => rfl, blt, cs, fns, mss, cl⟩
    refine ⟨_, (snd ir _ true _ hc _ C).nox, slots N.length ds, r, m, AEf m P', H, r, m, rsl_start rs, hm, hm, Ext.refl H, Pre.refl r, ⟨?_, ?_, fun _ _ _ _ _ z => z.elim, fun _ _ _ _ _ z => z.elim⟩, (body ds m P' ha).2 (fun d hd => ?_) fun i o e => ?_⟩
    · intro sl' m' σ' H' r' hd e' p' _ hm'
      obtain ⟨d', m'', r'', hp, rv', hm'', p''⟩ := drop_ok hm hm' p' hd (show Rp ⟨K, w, P⟩ H' r' .non .non from rfl)
      exact hP d' m'' hp .non r'' H' e' p'' rv' hm''
    · intro d m' v H' r' hd e' p' rv hm'
      obtain ⟨d', m'', r'', hp, rv', hm'', p''⟩ := drop_ok hm hm' p' hd rv
      exact hP d' m'' hp v r'' H' e' p'' rv' hm''
    · obtain ⟨i, hi, e⟩ := List.getElem_of_mem hd
      obtain ⟨v, _, rv⟩ := rs.get (List.getElem?_eq_getElem hi)
      rw [← e]
      exact rp_in (Nat.le_of_eq hm.len) _ v rv
    · have hi := (List.getElem?_eq_some_iff.mp e).1
      have hr : i < r.length := by rw [hm.len]; exact hi
      have q := hm.ob i _ o (List.getElem?_eq_getElem hr) e
      exact okO_of (Nat.le_of_eq hm.len) q
section
variable {P : Program} {w : World} {K : PySem.W.Frag} {mg : Str → Option Value} {base : Heap}
theorem fnA {x : Str} {st : Stmt} {f : Addr} {fd : FuncData} {ps : List Str} {k : Nat} {asp : ASp} (F : Fun K x x st f fd) (hm : mg x = some (.ref f)) (hg : glA ⟨K, w, P⟩ x = some f) (hc : clsN x = false)
    (hb : Binds K fd ps []) (h : FnOk P w K mg base CX0 k f fd ps (SpOf ⟨K, w, P⟩ asp)) : FnA P w K mg base k x asp :=
  ⟨.inl ⟨hc, ⟨f, fd, ps, [], [], [], asp, hm, hg, F.kp, hb, .nil, fun _ _ => rfl, h, fun xs m Q q => by rw [List.append_nil]; exact q⟩⟩⟩
theorem fnC {n : Str} {c f : Addr} {fd : FuncData} {ps : List Str} {ds : List Value} {dvs : List V} {dds : List D} {k : Nat} {sp0 asp : ASp} (hm : mg n = some (.ref c)) (hg : glA ⟨K, w, P⟩ n = some c) (hc : clsN n = true) (M : Mk K c f)
    (hb : Binds K fd ps ds) (hd : Vals dvs ds) (hdd : ∀ H r, RpL ⟨K, w, P⟩ H r dds dvs) (h : FnOk P w K mg base CX0 k f fd ps (SpOf ⟨K, w, P⟩ sp0)) (hs : ∀ xs m Q, asp xs m Q → mkSp n sp0 (xs ++ dds) m Q) : FnA P w K mg base (k + 1) n asp :=
  ⟨.inr ⟨hc, ⟨c, f, fd, ps, ds, dvs, dds, sp0, k, hm, hg, M, hb, hd, hdd, h, Nat.le_refl _, hs⟩⟩⟩
theorem mtA {C n : Str} {c f : Addr} {fd : FuncData} {ps : List Str} {k : Nat} {asp : ASp} (hg : glA ⟨K, w, P⟩ C = some c) (cl : Cls K c) (me : Meth K c n f) (hb : Binds K fd ps []) (h : FnOk P w K mg base CX0 k f fd ps (SpOf ⟨K, w, P⟩ asp)) : MtA P w K mg base k C n asp :=
  ⟨⟨c, f, fd, ps, hg, cl, me, hb, h⟩⟩
theorem _root_.L2.FnOk.weakS {f : Addr} {fd : FuncData} {ps : List Str} {k : Nat} {sp sp' : ASp} (h : FnOk P w K mg base CX0 k f fd ps (SpOf ⟨K, w, P⟩ sp)) (hs : ∀ xs m Q, sp' xs m Q → sp xs m Q) : FnOk P w K mg base CX0 k f fd ps (SpOf ⟨K, w, P⟩ sp') :=
  h.imp fun vs H Q E ⟨ds, r, m, P', h1, h2, h3, h4⟩ => ⟨ds, r, m, P', h1, h2, hs _ _ _ h3, h4⟩
theorem FnA.mono {x : Str} {j k : Nat} {asp : ASp} (h : FnA P w K mg base j x asp) (hjk : j ≤ k) : FnA P w K mg base k x asp := by
  rcases h.ex with ⟨hc, ⟨f, fd, ps, ds, dvs, dds, sp0, h1, h2, h3, h4, h5, h6, h7, h8⟩⟩ | ⟨hc, ⟨c, f, fd, ps, ds, dvs, dds, sp0, j', h1, h2, h3, h4, h5, h6, h7, h8, h9⟩⟩
  · exact ⟨.inl ⟨hc, ⟨f, fd, ps, ds, dvs, dds, sp0, h1, h2, h3, h4, h5, h6, h7.mono hjk, h8⟩⟩⟩
  · exact ⟨.inr ⟨hc, ⟨c, f, fd, ps, ds, dvs, dds, sp0, j', h1, h2, h3, h4, h5, h6, h7, Nat.le_trans h8 hjk, h9⟩⟩⟩
/-- a promise that asks more -/
theorem FnA.weak {x : Str} {k : Nat} {asp asp' : ASp} (h : FnA P w K mg base k x asp) (hs : ∀ xs m Q, asp' xs m Q → asp xs m Q) : FnA P w K mg base k x asp' := by
  rcases h.ex with ⟨hc, ⟨f, fd, ps, ds, dvs, dds, sp0, h1, h2, h3, h4, h5, h6, h7, h8⟩⟩ | ⟨hc, ⟨c, f, fd, ps, ds, dvs, dds, sp0, j', h1, h2, h3, h4, h5, h6, h7, h8, h9⟩⟩
  · exact ⟨.inl ⟨hc, ⟨f, fd, ps, ds, dvs, dds, sp0, h1, h2, h3, h4, h5, h6, h7, fun xs m Q q => h8 _ _ _ (hs _ _ _ q)⟩⟩⟩
  · exact ⟨.inr ⟨hc, ⟨c, f, fd, ps, ds, dvs, dds, sp0, j', h1, h2, h3, h4, h5, h6, h7, h8, fun xs m Q q => h9 _ _ _ (hs _ _ _ q)⟩⟩⟩
theorem MtA.mono {C n : Str} {j k : Nat} {asp : ASp} (h : MtA P w K mg base j C n asp) (hjk : j ≤ k) : MtA P w K mg base k C n asp := by
  obtain ⟨c, f, fd, ps, h1, h2, h3, h4, h5⟩ := h.ex
  exact ⟨⟨c, f, fd, ps, h1, h2, h3, h4, h5.mono hjk⟩⟩
theorem ms_nil {k : Nat} : ∀ (i : Nat) (c n : Str) (sp : ASp), ([] : List ((Str × Str) × ASp))[i]? = some ((c, n), sp) → MtA P w K mg base k c n sp := fun i c n sp h => by simp at h
theorem ms_cons {k j : Nat} {C x : Str} {asp : ASp} {l : List ((Str × Str) × ASp)} (h : MtA P w K mg base j C x asp) (hj : j ≤ k)
    (hl : ∀ (i : Nat) (c n : Str) (sp : ASp), l[i]? = some ((c, n), sp) → MtA P w K mg base k c n sp) : ∀ (i : Nat) (c n : Str) (sp : ASp), (((C, x), asp) :: l)[i]? = some ((c, n), sp) → MtA P w K mg base k c n sp
  | 0, c, n, sp, e => by
    have e' : ((C, x), asp) = ((c, n), sp) := Option.some.inj e
    cases e'
    exact h.mono hj
  | i + 1, c, n, sp, e => hl i c n sp (by simpa using e)
theorem glA_of {x : Str} {a : Addr} (h : PySem.W.nsIn K mainGlobals x = some (some (.ref a))) : glA ⟨K, w, P⟩ x = some a := by
  unfold glA
  rw [h]
theorem glA_no {x : Str} (h : PySem.W.nsIn K mainGlobals x = some none) : glA ⟨K, w, P⟩ x = none := by
  unfold glA
  rw [h]
/-- the classes' facts, one by one -/
theorem cls_all (h1 : ∀ c, glA ⟨K, w, P⟩ "Works" = some c → Cls K c ∧ ∀ f ∈ (["machine", "word", "parts", "news", "names"] : List Str), NoAttr K c f) (h2 : ∀ c, glA ⟨K, w, P⟩ "Desk" = some c → Cls K c ∧ ∀ f ∈ (["kept"] : List Str), NoAttr K c f) : ClsAll ⟨K, w, P⟩ := by
  intro C f c hc hf
  unfold hasFld clsTab at hf
  rw [List.any_cons, List.any_cons, List.any_nil, Bool.or_false, Bool.or_eq_true, Bool.and_eq_true, Bool.and_eq_true, decide_eq_true_eq, decide_eq_true_eq, List.contains_iff_mem, List.contains_iff_mem] at hf
  rcases hf with ⟨rfl, hm⟩ | ⟨rfl, hm⟩
  · exact ⟨(h1 c hc).1, (h1 c hc).2 f hm⟩
  · exact ⟨(h2 c hc).1, (h2 c hc).2 f hm⟩
end
/-- callees, one after another -/
theorem fns_nil {P : Program} {w : World} {K : PySem.W.Frag} {mg : Str → Option Value} {base : Heap} {k : Nat} : ∀ (i : Nat) (n : Str) (sp : ASp), ([] : List (Str × ASp))[i]? = some (n, sp) → FnA P w K mg base k n sp := fun i n sp h => by simp at h
theorem fns_cons {P : Program} {w : World} {K : PySem.W.Frag} {mg : Str → Option Value} {base : Heap} {k j : Nat} {x : Str} {asp : ASp} {l : List (Str × ASp)} (h : FnA P w K mg base j x asp) (hj : j ≤ k)
    (hl : ∀ (i : Nat) (n : Str) (sp : ASp), l[i]? = some (n, sp) → FnA P w K mg base k n sp) : ∀ (i : Nat) (n : Str) (sp : ASp), ((x, asp) :: l)[i]? = some (n, sp) → FnA P w K mg base k n sp
  | 0, n, sp, e => by
    have e' : (x, asp) = (n, sp) := Option.some.inj e
    cases e'
    exact h.mono hj
  | i + 1, n, sp, e => hl i n sp (by simpa using e)
theorem cs_nil {K : Kx} {mg : Str → Option Value} : ∀ (i : Nat) (x : Str) (d : D), ([] : List (Str × D))[i]? = some (x, d) → ∃ u v, mg x = some u ∧ RelV v u ∧ ∀ H r, Rp K H r d v := fun i n sp h => by simp at h
/-- what the law's def promises -/
def aspLaw : ASp := fun ds _ Q => ∃ ns : List Int, ds = [.ro (ns.map D.int)] ∧ ns.length ≤ 63 ∧ (∀ z ∈ ns, Builtin.Int.intBits z ≤ 1048576) ∧ ∀ m, Q (.bl true) m
theorem law_start {K : Kx} {H : Hp} {a : Addr} {ns : List Int} (hl : ns.length ≤ 63) (hb : ∀ z ∈ ns, Builtin.Int.intBits z ≤ 1048576) (hO : Only H) (hS : SqL K H a (ns.map V.int)) : SpOf K aspLaw [.ref a] H (fun v _ => v = .bl true) fun _ _ _ => False := by
  have hF : SqF K H a (ns.map V.int) := by
    rcases hS with (h | ⟨o, h⟩) | h
    · rcases hO a with z | ⟨o, xs, z⟩
      · rw [h] at z; cases z
      · rw [h] at z; cases z
    · exact .inl ⟨o, h⟩
    · exact .inr h
  refine ⟨[.ro (ns.map D.int)], [], [], fun d _ => d = .bl true, ⟨.ref a, [], rfl, ⟨a, _, rfl, hF, RpL.ints ns⟩, rfl⟩, ⟨rfl, List.nodup_nil, fun i a o e => by simp at e⟩, ⟨ns, rfl, hl, hb, fun _ => rfl⟩, ?_⟩
  rintro d m' rfl v r' H' _ _ rv _
  exact rv
end Ab

namespace Ab
open PySem PySem.Spec PyProof.Rows L2
/-! words that do not unfold by themselves, and the rules by which they go -/
@[irreducible] def xE (G : Gm) (i : I) (sl : Sl) (m : Mu) (Q : D → Mu → Prop) : Prop := wE G i sl m Q
@[irreducible] def xS (G : Gm) (m0 : Mu) (i : I) (A : AE) (sl : Sl) (m : Mu) : Prop := wS G m0 i A sl m
@[irreducible] def xO (o : O2) (x y : D) (m : Mu) (Q : D → Mu → Prop) : Prop := op2 o x y m Q
@[irreducible] def xU (o : O2) (x y : D) (Q : D → Prop) : Prop := aug2 o x y Q
@[irreducible] def xC (c : Cm) (x y : D) (m : Mu) (Q : Bool → Prop) : Prop := cm2 c x y m Q
@[irreducible] def xX (m : Mu) (x y : D) (Q : D → Prop) : Prop := ixD m x y Q
@[irreducible] def xK (f : Bi) (ds : List D) (m : Mu) (Q : D → Mu → Prop) : Prop := biD f ds m Q
@[irreducible] def xM (f : Mt) (o : D) (ds : List D) (m : Mu) (Q : D → Mu → Prop) : Prop := mtD f o ds m Q
@[irreducible] def xG (g : I) (d : D) (sl : Sl) (Q : Sl → Prop) : Prop := wG g d sl Q
@[irreducible] def xT (y : D) (k : List D → Prop) : Prop := ∃ ys, y = .tup ys ∧ k ys
@[irreducible] def xI (y : D) (k : Int → Prop) : Prop := ∃ i, y = .int i ∧ k i
@[irreducible] def xB (y : D) (k : Bool → Prop) : Prop := ∃ t, y = .bl t ∧ k t
@[irreducible] def xF (t : Bool) (A B : Prop) : Prop := if t = true then A else B
@[irreducible] def xR (m : Mu) (x : D) (k : Bool → Prop) : Prop := ∃ t, truD m x = some t ∧ k t
@[irreducible] def xY (T : String) (m : Mu) (x : D) (k : Bool → Prop) : Prop := ∃ b, notTy x = true ∧ locOk m x ∧ kitB (tyD x) T = some b ∧ k b
@[irreducible] def xYT (Ts : List String) (m : Mu) (x : D) (k : Bool → Prop) : Prop := ∃ b, notTy x = true ∧ locOk m x ∧ kitL (tyD x) Ts = some b ∧ k b
@[irreducible] def xRv (x : D) (m : Mu) (Q : D → Mu → Prop) : Prop := (∃ xs, seqOf m x = some xs ∧ (∀ ys, x ≠ .tup ys) ∧ Q (.loc m.length) (m ++ [.lst xs.reverse])) ∨ ∃ xs, x = .tup xs ∧ Q (.tup xs.reverse) m
@[irreducible] def xFz (x : D) (m : Mu) (Q : D → Mu → Prop) : Prop := ∃ n ob, plc x = some n ∧ m[n]? = some ob ∧ fzOk x ob = true ∧ Q (fzO ob) (m.set n (.gone (fzO ob)))
@[irreducible] def xSm (f : Sm) (o : D) (ds : List D) (m : Mu) (Q : D → Mu → Prop) : Prop := smD f o ds m Q
@[irreducible] def xDm (f : Dm) (o : D) (ds : List D) (m : Mu) (Q : D → Mu → Prop) : Prop := dmD f o ds m Q
@[irreducible] def xP (y : D) (k : Option Int → Prop) : Prop := ∃ l, part y = some l ∧ k l
@[irreducible] def xZ (m : Mu) (x : D) (l h : Option Int) (Q : D → Mu → Prop) : Prop := slD m x l h Q
@[irreducible] def xW (it : I) (ds : List D) (m : Mu) (R : List D → (Mu → Prop) → Prop) : Prop := itD it ds m R
@[irreducible] def xV (G : Gm) (k : Nat) (ds : List D) (m : Mu) (Q : D → Mu → Prop) : Prop := ∃ n sp, G.fns[k]? = some (n, sp) ∧ sp ds m Q
@[irreducible] def xL (G : Gm) (g b : I) (m1 : Mu) (A : AE) (Gd : Mu → Prop) (ys : List D) (sl : Sl) (m : Mu) : Prop := loopW (wG g) (wS G m1 b) A Gd ys sl m
@[irreducible] def xQ (G : Gm) (e g c : I) (n : Nat) (Gd : Mu → Prop) (sl : Sl) (Q : Mu → Prop) (ys : List D) (m : Mu) : Prop := compW (wG g) (wE G c) (wE G e) n Gd sl Q ys m

theorem xE_eq : @xE = @wE := by funext G i sl m Q; unfold xE; rfl
theorem xS_eq : @xS = @wS := by funext G m0 i A sl m; unfold xS; rfl
theorem xO_eq : @xO = @op2 := by funext o x y m Q; unfold xO; rfl
theorem xU_eq : @xU = @aug2 := by funext o x y Q; unfold xU; rfl
theorem xC_eq : @xC = @cm2 := by funext c x y m Q; unfold xC; rfl
theorem xX_eq : @xX = @ixD := by funext m x y Q; unfold xX; rfl
theorem xK_eq : @xK = @biD := by funext f ds m Q; unfold xK; rfl
theorem xM_eq : @xM = @mtD := by funext f o ds m Q; unfold xM; rfl
theorem xG_eq : @xG = @wG := by funext g d sl Q; unfold xG; rfl
theorem xT_eq : @xT = fun y k => ∃ ys, y = .tup ys ∧ k ys := by funext y k; unfold xT; rfl
theorem xI_eq : @xI = fun y k => ∃ i, y = .int i ∧ k i := by funext y k; unfold xI; rfl
theorem xB_eq : @xB = fun y k => ∃ t, y = .bl t ∧ k t := by funext y k; unfold xB; rfl
theorem xF_eq : @xF = fun (t : Bool) A B => if t = true then A else B := by funext t A B; unfold xF; rfl
theorem xR_eq : @xR = fun m x k => ∃ t, truD m x = some t ∧ k t := by funext m x k; unfold xR; rfl
theorem xY_eq : @xY = fun T m x k => ∃ b, notTy x = true ∧ locOk m x ∧ kitB (tyD x) T = some b ∧ k b := by funext T m x k; unfold xY; rfl
theorem xYT_eq : @xYT = fun Ts m x k => ∃ b, notTy x = true ∧ locOk m x ∧ kitL (tyD x) Ts = some b ∧ k b := by funext Ts m x k; unfold xYT; rfl
theorem xRv_eq : @xRv = fun x m Q => (∃ xs, seqOf m x = some xs ∧ (∀ ys, x ≠ .tup ys) ∧ Q (.loc m.length) (m ++ [.lst xs.reverse])) ∨ ∃ xs, x = .tup xs ∧ Q (.tup xs.reverse) m := by funext x m Q; unfold xRv; rfl
theorem xFz_eq : @xFz = fun x m Q => ∃ n ob, plc x = some n ∧ m[n]? = some ob ∧ fzOk x ob = true ∧ Q (fzO ob) (m.set n (.gone (fzO ob))) := by funext x m Q; unfold xFz; rfl
theorem xSm_eq : @xSm = @smD := by funext f o ds m Q; unfold xSm; rfl
theorem xDm_eq : @xDm = @dmD := by funext f o ds m Q; unfold xDm; rfl
theorem xP_eq : @xP = fun y k => ∃ l, part y = some l ∧ k l := by funext y k; unfold xP; rfl
theorem xZ_eq : @xZ = @slD := by funext m x l h Q; unfold xZ; rfl
theorem xW_eq : @xW = @itD := by funext it ds m R; unfold xW; rfl
theorem xV_eq : @xV = fun G k ds m Q => ∃ n sp, G.fns[k]? = some (n, sp) ∧ sp ds m Q := by funext G k ds m Q; unfold xV; rfl
theorem xL_eq : @xL = fun G g b m1 A Gd ys sl m => loopW (wG g) (wS G m1 b) A Gd ys sl m := by funext G g b m1 A Gd ys sl m; unfold xL; rfl
theorem xQ_eq : @xQ = fun G e g c n Gd sl Q ys m => compW (wG g) (wE G c) (wE G e) n Gd sl Q ys m := by funext G e g c n Gd sl Q ys m; unfold xQ; rfl
section
variable {G : Gm} {m0 m : Mu} {sl : Sl} {A : AE} {Q : D → Mu → Prop}
theorem r_var {i : Nat} {d : D} (e : sl[i]? = some (some d)) (h : Q d m) : xE G (.var i) sl m Q := by
  simp only [xE_eq]
  exact ⟨d, e, h⟩
theorem r_int {i : Int} (h : Q (.int i) m) : xE G (.int i) sl m Q := by
  simp only [xE_eq]
  exact h
theorem r_str {i : Str} (h : Q (.str i) m) : xE G (.str i) sl m Q := by
  simp only [xE_eq]
  exact h
theorem r_bl {i : Bool} (h : Q (.bl i) m) : xE G (.bl i) sl m Q := by
  simp only [xE_eq]
  exact h
theorem r_non (h : Q .non m) : xE G .non sl m Q := by
  simp only [xE_eq]
  exact h
theorem r_con {k : Nat} {x : Str} {d : D} (e : G.cs[k]? = some (x, d)) (h : Q d m) : xE G (.con k) sl m Q := by
  simp only [xE_eq]
  exact ⟨x, d, e, h⟩
theorem r_nil (h : Q (.tup []) m) : xE G .nil sl m Q := by
  simp only [xE_eq]
  exact h
theorem r_cons {a t : I} (h : xE G a sl m fun x m1 => xE G t sl m1 fun y m2 => xT y fun ys => Q (.tup (x :: ys)) m2) : xE G (.cons a t) sl m Q := by
  simp only [xE_eq, xT_eq] at h ⊢
  exact h
theorem r_tup {a : I} (h : xE G a sl m fun x m1 => xT x fun xs => xs.length ≤ sizeLine ∧ Q (.tup xs) m1) : xE G (.tup a) sl m Q := by
  simp only [xE_eq, xT_eq] at h ⊢
  exact h
theorem r_lst {a : I} (h : xE G a sl m fun x m1 => xT x fun xs => xs.length ≤ sizeLine ∧ Q (.loc m1.length) (m1 ++ [.lst xs])) : xE G (.lst a) sl m Q := by
  simp only [xE_eq, xT_eq] at h ⊢
  exact h
theorem r_bin {o : O2} {a b : I} (h : xE G a sl m fun x m1 => xE G b sl m1 fun y m2 => xO o x y m2 Q) : xE G (.bin o a b) sl m Q := by
  simp only [xE_eq, xO_eq] at h ⊢
  exact h
theorem r_neg {a : I} (h : xE G a sl m fun x m1 => xI x fun i => Q (.int (-i)) m1) : xE G (.neg a) sl m Q := by
  simp only [xE_eq, xI_eq] at h ⊢
  exact h
theorem r_cmp {c : Cm} {a b : I} (h : xE G a sl m fun x m1 => xE G b sl m1 fun y m2 => xC c x y m2 fun t => Q (.bl t) m2) : xE G (.cmp c a b) sl m Q := by
  simp only [xE_eq, xC_eq] at h ⊢
  exact h
theorem r_chn {c c' : Cm} {a b d : I} (h : xE G a sl m fun x m1 => xE G b sl m1 fun y m2 => xC c x y m2 fun t => xF t (xE G d sl m2 fun z m3 => xC c' y z m3 fun t' => Q (.bl t') m3) (Q (.bl false) m2)) : xE G (.chn c c' a b d) sl m Q := by
  simp only [xE_eq, xC_eq, xF_eq] at h ⊢
  exact h
theorem r_and {a t : I} (h : xE G a sl m fun x m1 => xB x fun b => xF b (xE G t sl m1 fun y m2 => xB y fun b' => Q (.bl b') m2) (Q (.bl false) m1)) : xE G (.and a t) sl m Q := by
  simp only [xE_eq, xB_eq, xF_eq] at h ⊢
  exact h
theorem r_or {a t : I} (h : xE G a sl m fun x m1 => xB x fun b => xF b (Q (.bl true) m1) (xE G t sl m1 fun y m2 => xB y fun b' => Q (.bl b') m2)) : xE G (.or a t) sl m Q := by
  simp only [xE_eq, xB_eq, xF_eq] at h ⊢
  exact h
theorem r_one {a : I} (h : xE G a sl m Q) : xE G (.one a) sl m Q := by
  simp only [xE_eq] at h ⊢
  exact h
theorem r_not {a : I} (h : xE G a sl m fun x m1 => xB x fun t => Q (.bl (!t)) m1) : xE G (.not a) sl m Q := by
  simp only [xE_eq, xB_eq] at h ⊢
  exact h
theorem r_ite {c a b : I} (h : xE G c sl m fun x m1 => xB x fun t => xF t (xE G a sl m1 Q) (xE G b sl m1 Q)) : xE G (.ite c a b) sl m Q := by
  simp only [xE_eq, xB_eq, xF_eq] at h ⊢
  exact h
theorem r_tru {a : I} (h : xE G a sl m fun x m1 => xR m1 x fun t => Q (.bl t) m1) : xE G (.tru a) sl m Q := by
  simp only [xE_eq, xR_eq] at h ⊢
  exact h
theorem r_ix {a b : I} (h : xE G a sl m fun x m1 => xE G b sl m1 fun y m2 => xX m2 x y fun d => Q d m2) : xE G (.ix a b) sl m Q := by
  simp only [xE_eq, xX_eq] at h ⊢
  exact h
theorem r_sl {a lo hi : I} (h : xE G a sl m fun x m1 => xE G lo sl m1 fun y m2 => xP y fun l => xE G hi sl m2 fun z m3 => xP z fun h => xZ m3 x l h Q) : xE G (.sl a lo hi) sl m Q := by
  simp only [xE_eq, xP_eq, xZ_eq] at h ⊢
  exact h
theorem r_pt {a : I} (h : xE G a sl m fun x m1 => xI x fun i => Q x m1) : xE G (.pt a) sl m Q := by
  simp only [xE_eq, xI_eq] at h ⊢
  exact h
theorem r_dr {a : I} (R : D → Mu → Prop) (h : xE G a sl m (Drop m R)) (hq : ∀ d m', R d m' → Q d m') : xE G (.dr a) sl m Q := by
  simp only [xE_eq] at h ⊢
  exact ⟨R, h, hq⟩
theorem r_bi {f : Bi} {a : I} (h : xE G a sl m fun x m1 => xT x fun xs => xK f xs m1 Q) : xE G (.bi f a) sl m Q := by
  simp only [xE_eq, xT_eq, xK_eq] at h ⊢
  exact h
theorem r_mt {f : Mt} {o a : I} (h : xE G o sl m fun x m1 => (∃ n xs, x = .loc n ∧ m1[n]? = some (.lst xs)) ∧ xE G a sl m1 fun y m2 => xT y fun ys => xM f x ys m2 Q) : xE G (.mt f o a) sl m Q := by
  simp only [xE_eq, xT_eq, xM_eq] at h ⊢
  exact h
theorem r_isi {T : String} {a : I} (h : xE G a sl m fun x m1 => xY T m1 x fun b => Q (.bl b) m1) : xE G (.isi T a) sl m Q := by
  simp only [xE_eq, xY_eq] at h ⊢
  exact h
theorem r_isT {Ts : List String} {a : I} (h : xE G a sl m fun x m1 => xYT Ts m1 x fun b => Q (.bl b) m1) : xE G (.isT Ts a) sl m Q := by
  simp only [xE_eq, xYT_eq] at h ⊢
  exact h
theorem r_fz {a : I} (h : xE G a sl m fun x m1 => xFz x m1 Q) : xE G (.fz a) sl m Q := by
  simp only [xE_eq, xFz_eq] at h ⊢
  exact h
theorem r_dii {a b : Int} (h : Q (.dloc m.length) (m ++ [.dic [.int a] [.int b]])) : xE G (.dii a b) sl m Q := by
  simp only [xE_eq] at h ⊢
  exact h
theorem r_dis {x : Str} {i : Nat} {d : D} (hd : sl[i]? = some (some d)) (h : Q (.dloc m.length) (m ++ [.dic [.str x] [d]])) : xE G (.dis x i) sl m Q := by
  simp only [xE_eq]
  exact ⟨d, hd, h⟩
theorem r_dnew (h : Q (.dloc m.length) (m ++ [.dic [] []])) : xE G .dnew sl m Q := by
  simp only [xE_eq]
  exact h
theorem r_sm {f : Sm} {o a : I} (h : xE G o sl m fun x m1 => (∃ t, x = .str t) ∧ xE G a sl m1 fun y m2 => xT y fun ys => xSm f x ys m2 Q) : xE G (.sm f o a) sl m Q := by
  simp only [xE_eq, xT_eq, xSm_eq] at h ⊢
  exact h
theorem r_dm {f : Dm} {o a : I} (h : xE G o sl m fun x m1 => (∃ p, dicOf m1 x = some p) ∧ xE G a sl m1 fun y m2 => xT y fun ys => xDm f x ys m2 Q) : xE G (.dm f o a) sl m Q := by
  simp only [xE_eq, xT_eq, xDm_eq] at h ⊢
  exact h
theorem z_fzd {n : Nat} {ks vs : List D} (e : m[n]? = some (.dic ks vs)) (h : Q (.dic ks vs) (m.set n (.gone (.dic ks vs)))) : xFz (.dloc n) m Q := by
  simp only [xFz_eq]
  exact ⟨n, _, rfl, e, rfl, h⟩
theorem z_fzl {n : Nat} {xs : List D} (e : m[n]? = some (.lst xs)) (h : Q (.ro xs) (m.set n (.gone (.ro xs)))) : xFz (.loc n) m Q := by
  simp only [xFz_eq]
  exact ⟨n, _, rfl, e, rfl, h⟩
theorem s_split {x y : Str} (hy : (y.length == 0) = false) (hz : x.length + 2 ≤ sizeLine) (h : Q (.loc m.length) (m ++ [.lst ((Txt.split x y).map D.str)])) : xSm .split (.str x) [.str y] m Q := by
  simp only [xSm_eq]
  exact ⟨x, y, rfl, rfl, hy, hz, h⟩
theorem d_get {o k dv : D} {ks vs : List D} (e : dicOf m o = some (ks, vs)) (hk : keyK ks k) (h : Q ((valD ks vs k).getD dv) m) : xDm .get o [k, dv] m Q := by
  simp only [xDm_eq]
  exact ⟨ks, vs, k, dv, e, rfl, hk, h⟩
theorem r_call {k : Nat} {a : I} (h : xE G a sl m fun x m1 => xT x fun xs => xV G k xs m1 Q) : xE G (.call k a) sl m Q := by
  simp only [xE_eq, xT_eq, xV_eq] at h ⊢
  refine cast (congrArg (wE G a sl m) ?_) h
  funext x m1
  apply propext
  constructor
  · rintro ⟨xs, e, n, sp, h1, h2⟩; exact ⟨xs, n, sp, e, h1, h2⟩
  · rintro ⟨xs, n, sp, e, h1, h2⟩; exact ⟨xs, e, n, sp, h1, h2⟩
theorem r_comp {e g it c : I} {own : List (Str × Nat)} (h : xE G it sl m fun x m1 => xT x fun xs => xW it xs m1 fun ys Gd => xQ G e g c m1.length Gd (wipeS sl (own.map (·.2))) (fun m2 => Q (.loc m1.length) m2) ys (m1 ++ [.lst []])) : xE G (.comp e g it c own) sl m Q := by
  simp only [xE_eq, xT_eq, xW_eq, xQ_eq] at h ⊢
  exact h
theorem r_seq {a : I} (h : xE G a sl m fun x m1 => Q (.tup [x]) m1) : xE G (.seq a) sl m Q := by
  simp only [xE_eq] at h ⊢
  exact h
theorem r_rng {a : I} (h : xE G a sl m Q) : xE G (.rng a) sl m Q := by
  simp only [xE_eq] at h ⊢
  exact h
theorem r_enm {a : I} (h : xE G a sl m Q) : xE G (.enm a) sl m Q := by
  simp only [xE_eq] at h ⊢
  exact h
theorem r_zip {a : I} (h : xE G a sl m Q) : xE G (.zip a) sl m Q := by
  simp only [xE_eq] at h ⊢
  exact h
theorem t_tup {ys : List D} {k : List D → Prop} (h : k ys) : xT (.tup ys) k := by
  simp only [xT_eq]
  exact ⟨ys, rfl, h⟩
theorem t_int {i : Int} {k : Int → Prop} (h : k i) : xI (.int i) k := by
  simp only [xI_eq]
  exact ⟨i, rfl, h⟩
theorem t_bl {t : Bool} {k : Bool → Prop} (h : k t) : xB (.bl t) k := by
  simp only [xB_eq]
  exact ⟨t, rfl, h⟩
theorem t_p0 {k : Option Int → Prop} (h : k none) : xP .non k := by
  simp only [xP_eq]
  exact ⟨none, rfl, h⟩
theorem t_p1 {i : Int} {k : Option Int → Prop} (h : k (some i)) : xP (.int i) k := by
  simp only [xP_eq]
  exact ⟨some i, rfl, h⟩
theorem f_T {t : Bool} {X Y : Prop} (e : t = true) (h : X) : xF t X Y := by
  simp only [xF_eq]
  rw [if_pos e]; exact h
theorem f_F {t : Bool} {X Y : Prop} (e : t = false) (h : Y) : xF t X Y := by
  simp only [xF_eq]
  rw [e, if_neg Bool.false_ne_true]; exact h
theorem f_if {t : Bool} {X Y : Prop} (h1 : t = true → X) (h2 : t = false → Y) : xF t X Y := by
  cases t
  · exact f_F rfl (h2 rfl)
  · exact f_T rfl (h1 rfl)
theorem f_dec {p : Prop} [Decidable p] {X Y : Prop} (h1 : p → X) (h2 : ¬ p → Y) : xF (decide p) X Y := f_if (fun e => h1 (of_decide_eq_true e)) fun e => h2 (of_decide_eq_false e)
theorem f_ndec {p : Prop} [Decidable p] {X Y : Prop} (h1 : ¬ p → X) (h2 : p → Y) : xF (!decide p) X Y := f_if (fun e => h1 (of_decide_eq_false (by simpa using e))) fun e => h2 (of_decide_eq_true (by simpa using e))
theorem u_of {x : D} {k : Bool → Prop} {t : Bool} (e : truD m x = some t) (h : k t) : xR m x k := by
  simp only [xR_eq]
  exact ⟨t, e, h⟩
theorem u_bl {t : Bool} {k : Bool → Prop} (h : k t) : xR m (.bl t) k := u_of rfl h
theorem o_add {i j : Int} (h : Q (.int (i + j)) m) : xO .add (.int i) (.int j) m Q := by
  simp only [xO_eq]
  exact h
theorem o_sub {i j : Int} (h : Q (.int (i - j)) m) : xO .sub (.int i) (.int j) m Q := by
  simp only [xO_eq]
  exact ⟨i, j, rfl, rfl, h⟩
theorem o_addT {xs ys : List D} (hl : xs.length + ys.length ≤ sizeLine) (h : Q (.tup (xs ++ ys)) m) : xO .add (.tup xs) (.tup ys) m Q := by
  simp only [xO_eq]
  exact ⟨hl, h⟩
theorem o_addL {a b : Nat} {xs ys : List D} (e1 : m[a]? = some (.lst xs)) (e2 : m[b]? = some (.lst ys)) (hl : xs.length + ys.length ≤ sizeLine) (h : Q (.loc m.length) (m ++ [.lst (xs ++ ys)])) : xO .add (.loc a) (.loc b) m Q := by
  simp only [xO_eq]
  exact ⟨xs, ys, e1, e2, hl, h⟩
theorem o_rep {a : Nat} {k : Int} {xs : List D} (e1 : m[a]? = some (.lst xs)) (h0 : -(2 ^ 63) ≤ k) (h1 : k < 2 ^ 63) (hl : xs.length * k.toNat ≤ sizeLine) (h : Q (.loc m.length) (m ++ [.lst (List.replicate k.toNat xs).flatten])) : xO .mul (.loc a) (.int k) m Q := by
  simp only [xO_eq]
  exact ⟨xs, e1, h0, h1, hl, h⟩
theorem o_rep1 {z : Str} {k : Int} (e : k = 1) (h : Q (.str z) m) : xO .mul (.str z) (.int k) m Q := by
  simp only [xO_eq]
  exact ⟨e, h⟩
theorem o_addS {xs ys : Str} (hl : xs.length + ys.length ≤ sizeLine) (h : Q (.str (xs ++ ys)) m) : xO .add (.str xs) (.str ys) m Q := by
  simp only [xO_eq]
  exact ⟨hl, h⟩
theorem o_mul {i j : Int} (c : CMulW i j) (h : Q (.int (i * j)) m) : xO .mul (.int i) (.int j) m Q := by
  simp only [xO_eq]
  exact ⟨c, h⟩
theorem o_fdiv {i j : Int} (c : CDivW i j) (h : Q (.int (i / j)) m) : xO .fdiv (.int i) (.int j) m Q := by
  simp only [xO_eq]
  exact ⟨i, j, rfl, rfl, c, h⟩
theorem o_mod {i j : Int} (c : 0 < j) (h : Q (.int (i % j)) m) : xO .mod (.int i) (.int j) m Q := by
  simp only [xO_eq]
  exact ⟨i, j, rfl, rfl, c, h⟩
theorem o_pow {i j : Int} (c : CPowX i j) (h : Q (.int (i ^ j.toNat)) m) : xO .pow (.int i) (.int j) m Q := by
  simp only [xO_eq]
  exact ⟨i, j, rfl, rfl, c, h⟩
theorem o_shl {i j : Int} (c : CShl i j) (h : Q (.int (i * 2 ^ j.toNat)) m) : xO .shl (.int i) (.int j) m Q := by
  simp only [xO_eq]
  exact ⟨i, j, rfl, rfl, c, h⟩
theorem o_shr {i j : Int} (c : 0 ≤ j) (h : Q (.int (i / 2 ^ j.toNat)) m) : xO .shr (.int i) (.int j) m Q := by
  simp only [xO_eq]
  exact ⟨i, j, rfl, rfl, c, h⟩
theorem o_p1 (h : Q (.int 10) m) : xO .pow (.int 10) (.int 1) m Q := o_pow ⟨by decide, by decide +kernel⟩ (by rw [show (10 : Int) ^ Int.toNat 1 = 10 by decide]; exact h)
theorem o_p2 (h : Q (.int 100) m) : xO .pow (.int 10) (.int 2) m Q := o_pow ⟨by decide, by decide +kernel⟩ (by rw [show (10 : Int) ^ Int.toNat 2 = 100 by decide]; exact h)
theorem o_p3 (h : Q (.int 1000) m) : xO .pow (.int 10) (.int 3) m Q := o_pow ⟨by decide, by decide +kernel⟩ (by rw [show (10 : Int) ^ Int.toNat 3 = 1000 by decide]; exact h)
theorem o_p4 (h : Q (.int 10000) m) : xO .pow (.int 10) (.int 4) m Q := o_pow ⟨by decide, by decide +kernel⟩ (by rw [show (10 : Int) ^ Int.toNat 4 = 10000 by decide]; exact h)
theorem o_p5 (h : Q (.int 100000) m) : xO .pow (.int 10) (.int 5) m Q := o_pow ⟨by decide, by decide +kernel⟩ (by rw [show (10 : Int) ^ Int.toNat 5 = 100000 by decide]; exact h)
theorem o_p6 (h : Q (.int 1000000) m) : xO .pow (.int 10) (.int 6) m Q := o_pow ⟨by decide, by decide +kernel⟩ (by rw [show (10 : Int) ^ Int.toNat 6 = 1000000 by decide]; exact h)
theorem o_p9 (h : Q (.int 1000000000) m) : xO .pow (.int 10) (.int 9) m Q := o_pow ⟨by decide, by decide +kernel⟩ (by rw [show (10 : Int) ^ Int.toNat 9 = 1000000000 by decide]; exact h)
theorem o_p12 (h : Q (.int 1000000000000) m) : xO .pow (.int 10) (.int 12) m Q := o_pow ⟨by decide, by decide +kernel⟩ (by rw [show (10 : Int) ^ Int.toNat 12 = 1000000000000 by decide]; exact h)
theorem o_p16 (h : Q (.int 10000000000000000) m) : xO .pow (.int 10) (.int 16) m Q := o_pow ⟨by decide, by decide +kernel⟩ (by rw [show (10 : Int) ^ Int.toNat 16 = 10000000000000000 by decide]; exact h)
theorem o_p18 (h : Q (.int 1000000000000000000) m) : xO .pow (.int 10) (.int 18) m Q := o_pow ⟨by decide, by decide +kernel⟩ (by rw [show (10 : Int) ^ Int.toNat 18 = 1000000000000000000 by decide]; exact h)
theorem o_p20 (h : Q (.int 100000000000000000000) m) : xO .pow (.int 10) (.int 20) m Q := o_pow ⟨by decide, by decide +kernel⟩ (by rw [show (10 : Int) ^ Int.toNat 20 = 100000000000000000000 by decide]; exact h)
theorem o_p24 (h : Q (.int 1000000000000000000000000) m) : xO .pow (.int 10) (.int 24) m Q := o_pow ⟨by decide, by decide +kernel⟩ (by rw [show (10 : Int) ^ Int.toNat 24 = 1000000000000000000000000 by decide]; exact h)
theorem o_p30 (h : Q (.int 1000000000000000000000000000000) m) : xO .pow (.int 10) (.int 30) m Q := o_pow ⟨by decide, by decide +kernel⟩ (by rw [show (10 : Int) ^ Int.toNat 30 = 1000000000000000000000000000000 by decide]; exact h)
theorem o_p36 (h : Q (.int 1000000000000000000000000000000000000) m) : xO .pow (.int 10) (.int 36) m Q := o_pow ⟨by decide, by decide +kernel⟩ (by rw [show (10 : Int) ^ Int.toNat 36 = 1000000000000000000000000000000000000 by decide]; exact h)
theorem o_p40 (h : Q (.int 10000000000000000000000000000000000000000) m) : xO .pow (.int 10) (.int 40) m Q := o_pow ⟨by decide, by decide +kernel⟩ (by rw [show (10 : Int) ^ Int.toNat 40 = 10000000000000000000000000000000000000000 by decide]; exact h)
theorem o_p45 (h : Q (.int 1000000000000000000000000000000000000000000000) m) : xO .pow (.int 10) (.int 45) m Q := o_pow ⟨by decide, by decide +kernel⟩ (by rw [show (10 : Int) ^ Int.toNat 45 = 1000000000000000000000000000000000000000000000 by decide]; exact h)
theorem o_p48 (h : Q (.int 1000000000000000000000000000000000000000000000000) m) : xO .pow (.int 10) (.int 48) m Q := o_pow ⟨by decide, by decide +kernel⟩ (by rw [show (10 : Int) ^ Int.toNat 48 = 1000000000000000000000000000000000000000000000000 by decide]; exact h)
theorem o_p54 (h : Q (.int 1000000000000000000000000000000000000000000000000000000) m) : xO .pow (.int 10) (.int 54) m Q := o_pow ⟨by decide, by decide +kernel⟩ (by rw [show (10 : Int) ^ Int.toNat 54 = 1000000000000000000000000000000000000000000000000000000 by decide]; exact h)
theorem o_p60 (h : Q (.int 1000000000000000000000000000000000000000000000000000000000000) m) : xO .pow (.int 10) (.int 60) m Q := o_pow ⟨by decide, by decide +kernel⟩ (by rw [show (10 : Int) ^ Int.toNat 60 = 1000000000000000000000000000000000000000000000000000000000000 by decide]; exact h)
theorem o_band {i j : Int} (h : Q (.int (Builtin.bitAnd i j)) m) : xO .band (.int i) (.int j) m Q := by
  simp only [xO_eq]
  exact ⟨i, j, rfl, rfl, h⟩
theorem v_add {i j : Int} {P : D → Prop} (h : P (.int (i + j))) : xU .add (.int i) (.int j) P := by
  simp only [xU_eq]
  exact ⟨i, j, rfl, rfl, h⟩
theorem v_sub {i j : Int} {P : D → Prop} (h : P (.int (i - j))) : xU .sub (.int i) (.int j) P := by
  simp only [xU_eq]
  exact ⟨i, j, rfl, rfl, h⟩
theorem c_lt {i j : Int} {k : Bool → Prop} (h : k (decide (i < j))) : xC .lt (.int i) (.int j) m k := by
  simp only [xC_eq]
  exact .inl ⟨i, j, rfl, rfl, h⟩
theorem c_le {i j : Int} {k : Bool → Prop} (h : k (decide (i ≤ j))) : xC .le (.int i) (.int j) m k := by
  simp only [xC_eq]
  exact ⟨i, j, rfl, rfl, h⟩
theorem c_gt {i j : Int} {k : Bool → Prop} (h : k (decide (j < i))) : xC .gt (.int i) (.int j) m k := by
  simp only [xC_eq]
  exact ⟨i, j, rfl, rfl, h⟩
theorem c_ge {i j : Int} {k : Bool → Prop} (h : k (decide (j ≤ i))) : xC .ge (.int i) (.int j) m k := by
  simp only [xC_eq]
  exact ⟨i, j, rfl, rfl, h⟩
theorem c_eq_int {i j : Int} {k : Bool → Prop} (h : k (decide (i = j))) : xC .eq (.int i) (.int j) m k := by
  simp only [xC_eq]
  exact ⟨decide (i = j), rfl, h⟩
theorem c_eq_str {i j : Str} {k : Bool → Prop} (h : k (decide (i = j))) : xC .eq (.str i) (.str j) m k := by
  simp only [xC_eq]
  exact ⟨decide (i = j), rfl, h⟩
theorem c_eq_bl {i j : Bool} {k : Bool → Prop} (h : k (decide (i = j))) : xC .eq (.bl i) (.bl j) m k := by
  simp only [xC_eq]
  exact ⟨decide (i = j), rfl, h⟩
theorem c_eq {x y : D} {b : Bool} {k : Bool → Prop} (e : eqD m x y b) (h : k (b)) : xC .eq x y m k := by
  simp only [xC_eq]
  exact ⟨b, e, h⟩
theorem c_ne_int {i j : Int} {k : Bool → Prop} (h : k (!decide (i = j))) : xC .ne (.int i) (.int j) m k := by
  simp only [xC_eq]
  exact ⟨decide (i = j), rfl, h⟩
theorem c_ne_str {i j : Str} {k : Bool → Prop} (h : k (!decide (i = j))) : xC .ne (.str i) (.str j) m k := by
  simp only [xC_eq]
  exact ⟨decide (i = j), rfl, h⟩
theorem c_ne_bl {i j : Bool} {k : Bool → Prop} (h : k (!decide (i = j))) : xC .ne (.bl i) (.bl j) m k := by
  simp only [xC_eq]
  exact ⟨decide (i = j), rfl, h⟩
theorem c_ne {x y : D} {b : Bool} {k : Bool → Prop} (e : eqD m x y b) (h : k (!b)) : xC .ne x y m k := by
  simp only [xC_eq]
  exact ⟨b, e, h⟩
theorem c_eqL {n k : Nat} {xs ys : List D} {ps qs : List PyData} {f : Bool → Prop} (h1 : m[n]? = some (.lst xs)) (h2 : m[k]? = some (.lst ys)) (h3 : toPs m xs = some ps) (h4 : toPs m ys = some qs) (h5 : SeqAt.shaped (.list ps) = true) (h6 : SeqAt.shaped (.list qs) = true) (h : f (PyData.eqv (.list ps) (.list qs))) : xC .eq (.loc n) (.loc k) m f := by
  refine c_eq ⟨.list ps, .list qs, ?_, ?_, h5, h6, rfl⟩ h
  · show (match m[n]? with | some (Ob.lst xs) => (toPs m xs).map PyData.list | _ => none) = _
    rw [h1]; show (toPs m xs).map PyData.list = _; rw [h3]; rfl
  · show (match m[k]? with | some (Ob.lst xs) => (toPs m xs).map PyData.list | _ => none) = _
    rw [h2]; show (toPs m ys).map PyData.list = _; rw [h4]; rfl
theorem c_isN {x : D} {k : Bool → Prop} (h : k (isNon x)) : xC .isN x .non m k := by
  simp only [xC_eq]
  exact .inl ⟨rfl, h⟩
theorem c_isB {t u : Bool} {k : Bool → Prop} (h : k (decide (t = u))) : xC .isN (.bl t) (.bl u) m k := by
  simp only [xC_eq]
  exact .inr ⟨t, u, rfl, rfl, h⟩
theorem c_notN {x : D} {k : Bool → Prop} (h : k (!isNon x)) : xC .notN x .non m k := by
  simp only [xC_eq]
  exact .inl ⟨rfl, h⟩
theorem c_notB {t u : Bool} {k : Bool → Prop} (h : k (!decide (t = u))) : xC .notN (.bl t) (.bl u) m k := by
  simp only [xC_eq]
  exact .inr ⟨t, u, rfl, rfl, h⟩
theorem c_in {x y : D} {xs : List D} {k : Bool → Prop} (e : seqOf m y = some xs) (f : flatD x = true) (fs : xs.all flatD = true) (h : k (inF x xs)) : xC .isin x y m k := by
  simp only [xC_eq]
  exact .inl ⟨xs, e, f, fs, h⟩
theorem c_inD {x y : D} {ks vs : List D} {k : Bool → Prop} (e : dicOf m y = some (ks, vs)) (f : keyK ks x) (h : k (valD ks vs x).isSome) : xC .isin x y m k := by
  simp only [xC_eq]
  exact .inr (.inl ⟨ks, vs, e, f, h⟩)
theorem c_notinD {x y : D} {ks vs : List D} {k : Bool → Prop} (e : dicOf m y = some (ks, vs)) (f : keyK ks x) (h : k (!(valD ks vs x).isSome)) : xC .notin x y m k := by
  simp only [xC_eq]
  exact .inr (.inl ⟨ks, vs, e, f, h⟩)
theorem c_notin {x y : D} {xs : List D} {k : Bool → Prop} (e : seqOf m y = some xs) (f : flatD x = true) (fs : xs.all flatD = true) (h : k (!inF x xs)) : xC .notin x y m k := by
  simp only [xC_eq]
  exact .inl ⟨xs, e, f, fs, h⟩
theorem seq_loc {n : Nat} {xs : List D} (e : m[n]? = some (.lst xs)) : seqOf m (.loc n) = some xs := by
  unfold seqOf; simp only; rw [e]
theorem x_ix {x : D} {xs : List D} {i : Int} {d : D} {P : D → Prop} (e : seqOf m x = some xs) (g : atI xs i = some d) (h : P d) : xX m x (.int i) P := by
  simp only [xX_eq]
  exact .inl ⟨xs, i, d, e, rfl, g, h⟩
theorem x_dic {x k d : D} {ks vs : List D} {P : D → Prop} (e : dicOf m x = some (ks, vs)) (hk : keyK ks k) (g : valD ks vs k = some d) (h : P d) : xX m x k P := by
  simp only [xX_eq]
  exact .inr (.inl ⟨ks, vs, d, e, hk, g, h⟩)
theorem dic_loc {n : Nat} {ks vs : List D} (e : m[n]? = some (.dic ks vs)) : dicOf m (.dloc n) = some (ks, vs) := by
  unfold dicOf; simp only; rw [e]
theorem x_tup {xs : List D} {i : Int} {d : D} {P : D → Prop} (g : atI xs i = some d) (h : P d) : xX m (.tup xs) (.int i) P := x_ix rfl g h
theorem x_ro {xs : List D} {i : Int} {d : D} {P : D → Prop} (g : atI xs i = some d) (h : P d) : xX m (.ro xs) (.int i) P := x_ix rfl g h
theorem x_loc {n : Nat} {xs : List D} {i : Int} {d : D} {P : D → Prop} (e : m[n]? = some (.lst xs)) (g : atI xs i = some d) (h : P d) : xX m (.loc n) (.int i) P := x_ix (seq_loc e) g h
theorem z_tup {xs : List D} {l h : Option Int} (q : Q (.tup (cutD xs l h)) m) : xZ m (.tup xs) l h Q := by
  simp only [xZ_eq]
  exact q
theorem z_ro {xs : List D} {l h : Option Int} (q : Q (.loc m.length) (m ++ [.lst (cutD xs l h)])) : xZ m (.ro xs) l h Q := by
  simp only [xZ_eq]
  exact q
theorem z_loc {n : Nat} {xs : List D} {l h : Option Int} (e : m[n]? = some (.lst xs)) (q : Q (.loc m.length) (m ++ [.lst (cutD xs l h)])) : xZ m (.loc n) l h Q := by
  simp only [xZ_eq]
  exact ⟨xs, e, q⟩
theorem k_len {d : D} {xs : List D} (e : seqOf m d = some xs) (h : Q (.int xs.length) m) : xK .len [d] m Q := by
  simp only [xK_eq]
  exact .inl ⟨d, xs, rfl, e, h⟩
theorem k_abs {i : Int} (h : Q (.int i.natAbs) m) : xK .abs [.int i] m Q := by
  simp only [xK_eq]
  refine ⟨i, rfl, ?_⟩
  rw [show (if i < 0 then -i else i) = (i.natAbs : Int) by split <;> omega]
  exact h
theorem k_max {i j : Int} (h : Q (.int (max i j)) m) : xK .max [.int i, .int j] m Q := by
  simp only [xK_eq]
  refine ⟨i, j, rfl, ?_⟩
  rw [show (if j > i then j else i) = max i j by split <;> omega]
  exact h
theorem k_min {i j : Int} (h : Q (.int (min i j)) m) : xK .min [.int i, .int j] m Q := by
  simp only [xK_eq]
  refine ⟨i, j, rfl, ?_⟩
  rw [show (if j < i then j else i) = min i j by split <;> omega]
  exact h
theorem k_intI {i : Int} (h : Q (.int i) m) : xK .int [.int i] m Q := by
  simp only [xK_eq]
  exact h
theorem k_intS {z : Str} {n : Int} (h1 : PySem.intText? z = some n) (h2 : z.length ≤ 640) (h : Q (.int n) m) : xK .int [.str z] m Q := by
  simp only [xK_eq]
  exact ⟨n, h1, h2, h⟩
theorem k_intB {b : Bool} (h : Q (.int (if b then 1 else 0)) m) : xK .int [.bl b] m Q := by
  simp only [xK_eq]
  exact h
theorem k_intD {p : Prop} [Decidable p] (h1 : p → Q (.int 1) m) (h2 : ¬ p → Q (.int 0) m) : xK .int [.bl (decide p)] m Q := by
  refine k_intB ?_
  by_cases hp : p
  · rw [decide_eq_true hp, if_pos rfl]; exact h1 hp
  · rw [decide_eq_false hp, if_neg Bool.false_ne_true]; exact h2 hp
theorem k_divmod {i j : Int} (c : CDivP i j) (h : Q (.tup [.int (i / j), .int (i % j)]) m) : xK .divmod [.int i, .int j] m Q := by
  simp only [xK_eq]
  exact ⟨i, j, rfl, c, h⟩
theorem k_tuple {d : D} {xs : List D} (e : seqOf m d = some xs) (h : Q (.tup xs) m) : xK .tuple [d] m Q := by
  simp only [xK_eq]
  exact ⟨d, xs, rfl, e, h⟩
theorem k_list {d : D} {xs : List D} (e : seqOf m d = some xs) (h : Q (.loc m.length) (m ++ [.lst xs])) : xK .list [d] m Q := by
  simp only [xK_eq]
  exact .inl ⟨d, xs, rfl, e, h⟩
theorem k_listD {d : D} {ks vs : List D} (e : dicOf m d = some (ks, vs)) (h : Q (.loc m.length) (m ++ [.lst ks])) : xK .list [d] m Q := by
  simp only [xK_eq]
  exact .inr ⟨d, ks, vs, rfl, e, h⟩
theorem k_minL {d : D} {ns : List Int} (e : seqOf m d = some (ns.map D.int)) (hd : ∀ ys, d ≠ .tup ys) (hz : 0 < ns.length) (h : ∀ x, x ∈ ns → (∀ y, y ∈ ns → x ≤ y) → Q (.int x) m) : xK .minL [d] m Q := by
  simp only [xK_eq]
  exact ⟨d, ns, rfl, e, hd, hz, h⟩
theorem k_maxL {d : D} {ns : List Int} (e : seqOf m d = some (ns.map D.int)) (hd : ∀ ys, d ≠ .tup ys) (hz : 0 < ns.length) (h : ∀ x, x ∈ ns → (∀ y, y ∈ ns → y ≤ x) → Q (.int x) m) : xK .maxL [d] m Q := by
  simp only [xK_eq]
  exact ⟨d, ns, rfl, e, hz, h⟩
theorem k_maxT {d : D} {ns : List Int} (e : seqOf m d = some (ns.map D.int)) (hz : 0 < ns.length) (h : ∀ x, x ∈ ns → (∀ y, y ∈ ns → y ≤ x) → Q (.int x) m) : xK .maxL [d] m Q := by
  simp only [xK_eq]
  exact ⟨d, ns, rfl, e, hz, h⟩
theorem k_sortI {d : D} {ns : List Int} (e : seqOf m d = some (ns.map D.int)) (hd : ∀ ys, d ≠ .tup ys) (h : ∀ ns' : List Int, ns'.Perm ns → ns'.Pairwise (· ≤ ·) → Q (.loc m.length) (m ++ [.lst (ns'.map D.int)])) : xK .sorted [d] m Q := by
  simp only [xK_eq]
  exact .inl ⟨d, _, rfl, e, hd, .inl ⟨ns, rfl, h⟩⟩
theorem k_sortS {d : D} {zs : List Str} (e : seqOf m d = some (zs.map D.str)) (hd : ∀ ys, d ≠ .tup ys) (hz : zs.length < 64) (h : ∀ ys : List Str, ys.Perm zs → sortedS ys = true → Q (.loc m.length) (m ++ [.lst (ys.map D.str)])) : xK .sorted [d] m Q := by
  simp only [xK_eq]
  exact .inl ⟨d, _, rfl, e, hd, .inr (.inl ⟨zs, rfl, hz, h⟩)⟩
theorem k_sortT {d : D} {n : Nat} {ts : List (List Str)} (hn : 1 ≤ n) (e : seqOf m d = some (ts.map strT)) (hd : ∀ ys, d ≠ .tup ys) (hl : ∀ t ∈ ts, t.length = n) (h : ∀ ts' : List (List Str), ts'.Perm ts → ts'.Pairwise (fun a b => AbSrt.lexS b a = false) → Q (.loc m.length) (m ++ [.lst (ts'.map strT)])) : xK .sorted [d] m Q := by
  simp only [xK_eq]
  exact .inl ⟨d, _, rfl, e, hd, .inr (.inr ⟨n, ts, hn, rfl, hl, h⟩)⟩
theorem k_dict {d : D} {ks vs : List D} {ns : List NestedKey} (e : seqOf m d = some (pairD ks vs)) (hd : ∀ ys, d ≠ .tup ys) (hl : ks.length = vs.length) (hn : nks ks = some ns) (hnd : ns.Nodup) (hdp : ∀ n ∈ ns, n.depth ≤ 8) (ht : ks.all isTup = true) (h : Q (.dloc m.length) (m ++ [.dic ks vs])) : xK .dict [d] m Q := by
  simp only [xK_eq]
  exact .inl ⟨d, ks, vs, ns, rfl, e, hd, hl, hn, hnd, hdp, ht, h⟩
theorem k_dictL {d : D} {ks vs : List D} (e : seqOf m d = some (pairD ks vs)) (hd : ∀ ys, d ≠ .tup ys) (hl : ks.length = vs.length) (ht : ks.all isLeaf = true) (h : Q (.dloc m.length) (m ++ [.dic (putsD ks vs ([], [])).1 (putsD ks vs ([], [])).2])) : xK .dict [d] m Q := by
  simp only [xK_eq]
  exact .inr ⟨d, ks, vs, rfl, e, hd, hl, ht, h⟩
theorem k_all {n : Nat} {bs : List Bool} (e : m[n]? = some (.lst (bs.map D.bl))) (h : Q (.bl (bs.all id)) m) : xK .all [.loc n] m Q := by
  simp only [xK_eq]
  exact ⟨n, bs, rfl, e, h⟩
theorem k_any {n : Nat} {bs : List Bool} (e : m[n]? = some (.lst (bs.map D.bl))) (h : Q (.bl (bs.any id)) m) : xK .any [.loc n] m Q := by
  simp only [xK_eq]
  exact ⟨n, bs, rfl, e, h⟩
theorem m_append {n : Nat} {xs : List D} {d : D} (e : m[n]? = some (.lst xs)) (hl : xs.length < sizeLine) (h : Q .non (m.set n (.lst (xs ++ [d])))) : xM .append (.loc n) [d] m Q := by
  simp only [xM_eq]
  exact ⟨n, xs, d, rfl, rfl, e, hl, h⟩
theorem m_extend {n k : Nat} {xs ys : List D} (e : m[n]? = some (.lst xs)) (e2 : m[k]? = some (.lst ys)) (hl : xs.length + ys.length ≤ sizeLine) (h : Q .non (m.set n (.lst (xs ++ ys)))) : xM .extend (.loc n) [.loc k] m Q := by
  simp only [xM_eq]
  exact ⟨n, k, xs, ys, rfl, rfl, e, e2, hl, h⟩
theorem m_pop {n : Nat} {xs : List D} {d : D} (e : m[n]? = some (.lst xs)) (g : xs[xs.length - 1]? = some d) (h : Q d (m.set n (.lst xs.dropLast))) : xM .pop (.loc n) [] m Q := by
  simp only [xM_eq]
  exact ⟨n, xs, d, rfl, rfl, e, g, h⟩
theorem m_popAt {n : Nat} {xs : List D} {d : D} (e : m[n]? = some (.lst (d :: xs))) (h : Q d (m.set n (.lst xs))) : xM .popAt (.loc n) [.int 0] m Q := by
  simp only [xM_eq]
  exact ⟨n, d :: xs, 0, d, rfl, rfl, by decide, e, rfl, h⟩
theorem m_popN {n j : Nat} {xs : List D} {d : D} (e : m[n]? = some (.lst xs)) (hj : j < 2 ^ 60) (g : xs[j]? = some d) (h : Q d (m.set n (.lst (xs.eraseIdx j)))) : xM .popAt (.loc n) [.int (j : Int)] m Q := by
  simp only [xM_eq]
  exact ⟨n, xs, j, d, rfl, rfl, by omega, e, g, h⟩
theorem m_rev {n : Nat} {xs : List D} (e : m[n]? = some (.lst xs)) (h : Q .non (m.set n (.lst xs.reverse))) : xM .rev (.loc n) [] m Q := by
  simp only [xM_eq]
  exact ⟨n, xs, rfl, rfl, e, h⟩
theorem m_clear {n : Nat} {xs : List D} (e : m[n]? = some (.lst xs)) (h : Q .non (m.set n (.lst []))) : xM .clear (.loc n) [] m Q := by
  simp only [xM_eq]
  exact ⟨n, xs, rfl, rfl, e, h⟩
theorem m_index {n j : Nat} {ns : List Int} {v : Int} (e : m[n]? = some (.lst (ns.map D.int))) (h1 : ns[j]? = some v) (h2 : ∀ i, i < j → ns[i]? ≠ some v) (h : Q (.int j) m) : xM .index (.loc n) [.int v] m Q := by
  simp only [xM_eq]
  exact .inl ⟨n, ns, v, j, rfl, rfl, e, h1, h2, h⟩
theorem m_indexS {n j : Nat} {zs : List Str} {v : Str} (e : m[n]? = some (.lst (zs.map D.str))) (h1 : zs[j]? = some v) (h2 : ∀ i, i < j → zs[i]? ≠ some v) (h : Q (.int j) m) : xM .index (.loc n) [.str v] m Q := by
  simp only [xM_eq]
  exact .inr (.inl ⟨n, zs, v, j, rfl, rfl, e, h1, h2, h⟩)
theorem m_indexK {n k j : Nat} {zs : List Str} {v : Str} (e : m[n]? = some (.lst (zs.map D.str))) (hk : k ≤ j) (h1 : zs[j]? = some v) (h2 : ∀ i, k ≤ i → i < j → zs[i]? ≠ some v) (h : Q (.int j) m) : xM .index (.loc n) [.str v, .int (k : Int)] m Q := by
  simp only [xM_eq]
  exact .inr (.inr ⟨n, zs, v, k, j, rfl, rfl, e, hk, h1, h2, h⟩)
theorem r_rvl {a : I} (h : xE G a sl m fun x m1 => xRv x m1 Q) : xE G (.rvl a) sl m Q := by
  simp only [xE_eq, xRv_eq] at h ⊢
  exact h
theorem v_loc {n : Nat} {xs : List D} (e : m[n]? = some (.lst xs)) (h : Q (.loc m.length) (m ++ [.lst xs.reverse])) : xRv (.loc n) m Q := by
  simp only [xRv_eq]
  exact .inl ⟨xs, seq_loc e, (fun _ z => nomatch z), h⟩
theorem v_ro {xs : List D} (h : Q (.loc m.length) (m ++ [.lst xs.reverse])) : xRv (.ro xs) m Q := by
  simp only [xRv_eq]
  exact .inl ⟨xs, rfl, (fun _ z => nomatch z), h⟩
theorem v_tup {xs : List D} (h : Q (.tup xs.reverse) m) : xRv (.tup xs) m Q := by
  simp only [xRv_eq]
  exact .inr ⟨xs, rfl, h⟩
theorem y_non_int  {k : Bool → Prop} (h : k false) : xY "int" m .non k := by
  simp only [xY_eq]
  exact ⟨false, rfl, trivial, (by decide +kernel : kitB "NoneType" "int" = some false), h⟩
theorem y_non_bool  {k : Bool → Prop} (h : k false) : xY "bool" m .non k := by
  simp only [xY_eq]
  exact ⟨false, rfl, trivial, (by decide +kernel : kitB "NoneType" "bool" = some false), h⟩
theorem y_non_tuple  {k : Bool → Prop} (h : k false) : xY "tuple" m .non k := by
  simp only [xY_eq]
  exact ⟨false, rfl, trivial, (by decide +kernel : kitB "NoneType" "tuple" = some false), h⟩
theorem y_non_str  {k : Bool → Prop} (h : k false) : xY "str" m .non k := by
  simp only [xY_eq]
  exact ⟨false, rfl, trivial, (by decide +kernel : kitB "NoneType" "str" = some false), h⟩
theorem y_non_list  {k : Bool → Prop} (h : k false) : xY "list" m .non k := by
  simp only [xY_eq]
  exact ⟨false, rfl, trivial, (by decide +kernel : kitB "NoneType" "list" = some false), h⟩
theorem yT_non_tuple_list  {k : Bool → Prop} (h : k false) : xYT ["tuple", "list"] m .non k := by
  simp only [xYT_eq]
  exact ⟨false, rfl, trivial, (by decide +kernel : kitL "NoneType" ["tuple", "list"] = some false), h⟩
theorem y_bl_int {b : Bool} {k : Bool → Prop} (h : k true) : xY "int" m (.bl b) k := by
  simp only [xY_eq]
  exact ⟨true, rfl, trivial, (by decide +kernel : kitB "bool" "int" = some true), h⟩
theorem y_bl_bool {b : Bool} {k : Bool → Prop} (h : k true) : xY "bool" m (.bl b) k := by
  simp only [xY_eq]
  exact ⟨true, rfl, trivial, (by decide +kernel : kitB "bool" "bool" = some true), h⟩
theorem y_bl_tuple {b : Bool} {k : Bool → Prop} (h : k false) : xY "tuple" m (.bl b) k := by
  simp only [xY_eq]
  exact ⟨false, rfl, trivial, (by decide +kernel : kitB "bool" "tuple" = some false), h⟩
theorem y_bl_str {b : Bool} {k : Bool → Prop} (h : k false) : xY "str" m (.bl b) k := by
  simp only [xY_eq]
  exact ⟨false, rfl, trivial, (by decide +kernel : kitB "bool" "str" = some false), h⟩
theorem y_bl_list {b : Bool} {k : Bool → Prop} (h : k false) : xY "list" m (.bl b) k := by
  simp only [xY_eq]
  exact ⟨false, rfl, trivial, (by decide +kernel : kitB "bool" "list" = some false), h⟩
theorem yT_bl_tuple_list {b : Bool} {k : Bool → Prop} (h : k false) : xYT ["tuple", "list"] m (.bl b) k := by
  simp only [xYT_eq]
  exact ⟨false, rfl, trivial, (by decide +kernel : kitL "bool" ["tuple", "list"] = some false), h⟩
theorem y_int_int {i : Int} {k : Bool → Prop} (h : k true) : xY "int" m (.int i) k := by
  simp only [xY_eq]
  exact ⟨true, rfl, trivial, (by decide +kernel : kitB "int" "int" = some true), h⟩
theorem y_int_bool {i : Int} {k : Bool → Prop} (h : k false) : xY "bool" m (.int i) k := by
  simp only [xY_eq]
  exact ⟨false, rfl, trivial, (by decide +kernel : kitB "int" "bool" = some false), h⟩
theorem y_int_tuple {i : Int} {k : Bool → Prop} (h : k false) : xY "tuple" m (.int i) k := by
  simp only [xY_eq]
  exact ⟨false, rfl, trivial, (by decide +kernel : kitB "int" "tuple" = some false), h⟩
theorem y_int_str {i : Int} {k : Bool → Prop} (h : k false) : xY "str" m (.int i) k := by
  simp only [xY_eq]
  exact ⟨false, rfl, trivial, (by decide +kernel : kitB "int" "str" = some false), h⟩
theorem y_int_list {i : Int} {k : Bool → Prop} (h : k false) : xY "list" m (.int i) k := by
  simp only [xY_eq]
  exact ⟨false, rfl, trivial, (by decide +kernel : kitB "int" "list" = some false), h⟩
theorem yT_int_tuple_list {i : Int} {k : Bool → Prop} (h : k false) : xYT ["tuple", "list"] m (.int i) k := by
  simp only [xYT_eq]
  exact ⟨false, rfl, trivial, (by decide +kernel : kitL "int" ["tuple", "list"] = some false), h⟩
theorem y_str_int {z : Str} {k : Bool → Prop} (h : k false) : xY "int" m (.str z) k := by
  simp only [xY_eq]
  exact ⟨false, rfl, trivial, (by decide +kernel : kitB "str" "int" = some false), h⟩
theorem y_str_bool {z : Str} {k : Bool → Prop} (h : k false) : xY "bool" m (.str z) k := by
  simp only [xY_eq]
  exact ⟨false, rfl, trivial, (by decide +kernel : kitB "str" "bool" = some false), h⟩
theorem y_str_tuple {z : Str} {k : Bool → Prop} (h : k false) : xY "tuple" m (.str z) k := by
  simp only [xY_eq]
  exact ⟨false, rfl, trivial, (by decide +kernel : kitB "str" "tuple" = some false), h⟩
theorem y_str_str {z : Str} {k : Bool → Prop} (h : k true) : xY "str" m (.str z) k := by
  simp only [xY_eq]
  exact ⟨true, rfl, trivial, (by decide +kernel : kitB "str" "str" = some true), h⟩
theorem y_str_list {z : Str} {k : Bool → Prop} (h : k false) : xY "list" m (.str z) k := by
  simp only [xY_eq]
  exact ⟨false, rfl, trivial, (by decide +kernel : kitB "str" "list" = some false), h⟩
theorem yT_str_tuple_list {z : Str} {k : Bool → Prop} (h : k false) : xYT ["tuple", "list"] m (.str z) k := by
  simp only [xYT_eq]
  exact ⟨false, rfl, trivial, (by decide +kernel : kitL "str" ["tuple", "list"] = some false), h⟩
theorem y_tup_int {xs : List D} {k : Bool → Prop} (h : k false) : xY "int" m (.tup xs) k := by
  simp only [xY_eq]
  exact ⟨false, rfl, trivial, (by decide +kernel : kitB "tuple" "int" = some false), h⟩
theorem y_tup_bool {xs : List D} {k : Bool → Prop} (h : k false) : xY "bool" m (.tup xs) k := by
  simp only [xY_eq]
  exact ⟨false, rfl, trivial, (by decide +kernel : kitB "tuple" "bool" = some false), h⟩
theorem y_tup_tuple {xs : List D} {k : Bool → Prop} (h : k true) : xY "tuple" m (.tup xs) k := by
  simp only [xY_eq]
  exact ⟨true, rfl, trivial, (by decide +kernel : kitB "tuple" "tuple" = some true), h⟩
theorem y_tup_str {xs : List D} {k : Bool → Prop} (h : k false) : xY "str" m (.tup xs) k := by
  simp only [xY_eq]
  exact ⟨false, rfl, trivial, (by decide +kernel : kitB "tuple" "str" = some false), h⟩
theorem y_tup_list {xs : List D} {k : Bool → Prop} (h : k false) : xY "list" m (.tup xs) k := by
  simp only [xY_eq]
  exact ⟨false, rfl, trivial, (by decide +kernel : kitB "tuple" "list" = some false), h⟩
theorem yT_tup_tuple_list {xs : List D} {k : Bool → Prop} (h : k true) : xYT ["tuple", "list"] m (.tup xs) k := by
  simp only [xYT_eq]
  exact ⟨true, rfl, trivial, (by decide +kernel : kitL "tuple" ["tuple", "list"] = some true), h⟩
theorem y_ro_int {xs : List D} {k : Bool → Prop} (h : k false) : xY "int" m (.ro xs) k := by
  simp only [xY_eq]
  exact ⟨false, rfl, trivial, (by decide +kernel : kitB "list" "int" = some false), h⟩
theorem y_ro_bool {xs : List D} {k : Bool → Prop} (h : k false) : xY "bool" m (.ro xs) k := by
  simp only [xY_eq]
  exact ⟨false, rfl, trivial, (by decide +kernel : kitB "list" "bool" = some false), h⟩
theorem y_ro_tuple {xs : List D} {k : Bool → Prop} (h : k false) : xY "tuple" m (.ro xs) k := by
  simp only [xY_eq]
  exact ⟨false, rfl, trivial, (by decide +kernel : kitB "list" "tuple" = some false), h⟩
theorem y_ro_str {xs : List D} {k : Bool → Prop} (h : k false) : xY "str" m (.ro xs) k := by
  simp only [xY_eq]
  exact ⟨false, rfl, trivial, (by decide +kernel : kitB "list" "str" = some false), h⟩
theorem y_ro_list {xs : List D} {k : Bool → Prop} (h : k true) : xY "list" m (.ro xs) k := by
  simp only [xY_eq]
  exact ⟨true, rfl, trivial, (by decide +kernel : kitB "list" "list" = some true), h⟩
theorem yT_ro_tuple_list {xs : List D} {k : Bool → Prop} (h : k true) : xYT ["tuple", "list"] m (.ro xs) k := by
  simp only [xYT_eq]
  exact ⟨true, rfl, trivial, (by decide +kernel : kitL "list" ["tuple", "list"] = some true), h⟩
theorem y_loc_int {n : Nat} {xs : List D} (e : m[n]? = some (.lst xs)) {k : Bool → Prop} (h : k false) : xY "int" m (.loc n) k := by
  simp only [xY_eq]
  exact ⟨false, rfl, ⟨xs, e⟩, (by decide +kernel : kitB "list" "int" = some false), h⟩
theorem y_loc_bool {n : Nat} {xs : List D} (e : m[n]? = some (.lst xs)) {k : Bool → Prop} (h : k false) : xY "bool" m (.loc n) k := by
  simp only [xY_eq]
  exact ⟨false, rfl, ⟨xs, e⟩, (by decide +kernel : kitB "list" "bool" = some false), h⟩
theorem y_loc_tuple {n : Nat} {xs : List D} (e : m[n]? = some (.lst xs)) {k : Bool → Prop} (h : k false) : xY "tuple" m (.loc n) k := by
  simp only [xY_eq]
  exact ⟨false, rfl, ⟨xs, e⟩, (by decide +kernel : kitB "list" "tuple" = some false), h⟩
theorem y_loc_str {n : Nat} {xs : List D} (e : m[n]? = some (.lst xs)) {k : Bool → Prop} (h : k false) : xY "str" m (.loc n) k := by
  simp only [xY_eq]
  exact ⟨false, rfl, ⟨xs, e⟩, (by decide +kernel : kitB "list" "str" = some false), h⟩
theorem y_loc_list {n : Nat} {xs : List D} (e : m[n]? = some (.lst xs)) {k : Bool → Prop} (h : k true) : xY "list" m (.loc n) k := by
  simp only [xY_eq]
  exact ⟨true, rfl, ⟨xs, e⟩, (by decide +kernel : kitB "list" "list" = some true), h⟩
theorem yT_loc_tuple_list {n : Nat} {xs : List D} (e : m[n]? = some (.lst xs)) {k : Bool → Prop} (h : k true) : xYT ["tuple", "list"] m (.loc n) k := by
  simp only [xYT_eq]
  exact ⟨true, rfl, ⟨xs, e⟩, (by decide +kernel : kitL "list" ["tuple", "list"] = some true), h⟩
theorem y_dic_int {ks vs : List D} {k : Bool → Prop} (h : k false) : xY "int" m (.dic ks vs) k := by
  simp only [xY_eq]
  exact ⟨false, rfl, trivial, (by decide +kernel : kitB "dict" "int" = some false), h⟩
theorem y_dic_bool {ks vs : List D} {k : Bool → Prop} (h : k false) : xY "bool" m (.dic ks vs) k := by
  simp only [xY_eq]
  exact ⟨false, rfl, trivial, (by decide +kernel : kitB "dict" "bool" = some false), h⟩
theorem y_dic_tuple {ks vs : List D} {k : Bool → Prop} (h : k false) : xY "tuple" m (.dic ks vs) k := by
  simp only [xY_eq]
  exact ⟨false, rfl, trivial, (by decide +kernel : kitB "dict" "tuple" = some false), h⟩
theorem y_dic_str {ks vs : List D} {k : Bool → Prop} (h : k false) : xY "str" m (.dic ks vs) k := by
  simp only [xY_eq]
  exact ⟨false, rfl, trivial, (by decide +kernel : kitB "dict" "str" = some false), h⟩
theorem y_dic_list {ks vs : List D} {k : Bool → Prop} (h : k false) : xY "list" m (.dic ks vs) k := by
  simp only [xY_eq]
  exact ⟨false, rfl, trivial, (by decide +kernel : kitB "dict" "list" = some false), h⟩
theorem yT_dic_tuple_list {ks vs : List D} {k : Bool → Prop} (h : k false) : xYT ["tuple", "list"] m (.dic ks vs) k := by
  simp only [xYT_eq]
  exact ⟨false, rfl, trivial, (by decide +kernel : kitL "dict" ["tuple", "list"] = some false), h⟩
theorem y_dloc_int {n : Nat} {ks vs : List D} (e : m[n]? = some (.dic ks vs)) {k : Bool → Prop} (h : k false) : xY "int" m (.dloc n) k := by
  simp only [xY_eq]
  exact ⟨false, rfl, ⟨ks, vs, e⟩, (by decide +kernel : kitB "dict" "int" = some false), h⟩
theorem y_dloc_bool {n : Nat} {ks vs : List D} (e : m[n]? = some (.dic ks vs)) {k : Bool → Prop} (h : k false) : xY "bool" m (.dloc n) k := by
  simp only [xY_eq]
  exact ⟨false, rfl, ⟨ks, vs, e⟩, (by decide +kernel : kitB "dict" "bool" = some false), h⟩
theorem y_dloc_tuple {n : Nat} {ks vs : List D} (e : m[n]? = some (.dic ks vs)) {k : Bool → Prop} (h : k false) : xY "tuple" m (.dloc n) k := by
  simp only [xY_eq]
  exact ⟨false, rfl, ⟨ks, vs, e⟩, (by decide +kernel : kitB "dict" "tuple" = some false), h⟩
theorem y_dloc_str {n : Nat} {ks vs : List D} (e : m[n]? = some (.dic ks vs)) {k : Bool → Prop} (h : k false) : xY "str" m (.dloc n) k := by
  simp only [xY_eq]
  exact ⟨false, rfl, ⟨ks, vs, e⟩, (by decide +kernel : kitB "dict" "str" = some false), h⟩
theorem y_dloc_list {n : Nat} {ks vs : List D} (e : m[n]? = some (.dic ks vs)) {k : Bool → Prop} (h : k false) : xY "list" m (.dloc n) k := by
  simp only [xY_eq]
  exact ⟨false, rfl, ⟨ks, vs, e⟩, (by decide +kernel : kitB "dict" "list" = some false), h⟩
theorem yT_dloc_tuple_list {n : Nat} {ks vs : List D} (e : m[n]? = some (.dic ks vs)) {k : Bool → Prop} (h : k false) : xYT ["tuple", "list"] m (.dloc n) k := by
  simp only [xYT_eq]
  exact ⟨false, rfl, ⟨ks, vs, e⟩, (by decide +kernel : kitL "dict" ["tuple", "list"] = some false), h⟩
theorem v_call {k : Nat} {ds : List D} {n : Str} {sp : ASp} (e : G.fns[k]? = some (n, sp)) (h : sp ds m Q) : xV G k ds m Q := by
  simp only [xV_eq]
  exact ⟨n, sp, e, h⟩
theorem g_tn {i : Nat} {d : D} {P : Sl → Prop} (h : P (sl.set i (some d))) : xG (.tn i) d sl P := by
  simp only [xG_eq]
  exact h
theorem g_tt {ts : I} {xs : List D} {P : Sl → Prop} (e : xs.length = tlen ts) (h : xG ts (.tup xs) sl P) : xG (.tt ts) (.tup xs) sl P := by
  simp only [xG_eq] at h ⊢
  exact ⟨xs, rfl, e, h⟩
theorem g_nil {P : Sl → Prop} (h : P sl) : xG .nil (.tup []) sl P := by
  simp only [xG_eq]
  exact ⟨rfl, h⟩
theorem g_cons {a t : I} {x : D} {xs : List D} {P : Sl → Prop} (h : xG a x sl fun sl' => xG t (.tup xs) sl' P) : xG (.cons a t) (.tup (x :: xs)) sl P := by
  simp only [xG_eq] at h ⊢
  exact ⟨x, xs, rfl, h⟩
theorem w_seq {a : I} {d : D} {xs : List D} {R : List D → (Mu → Prop) → Prop} (e : seqOf m d = some xs) (h : R xs (guard d xs)) : xW (.seq a) [d] m R := by
  simp only [xW_eq]
  exact ⟨d, rfl, .inl ⟨xs, e, h⟩⟩
theorem w_rng1 {a : I} {j : Int} {R : List D → (Mu → Prop) → Prop} (h1 : -(2 ^ 62) ≤ j) (h2 : j < 2 ^ 62) (h : R (rngD 0 1 j.toNat) fun _ => True) : xW (.rng (.cons a .nil)) [.int j] m R := by
  simp only [xW_eq]
  exact ⟨j, rfl, h1, h2, h⟩
theorem w_rng2 {a b : I} {i j : Int} {R : List D → (Mu → Prop) → Prop} (h1 : -(2 ^ 62) ≤ i ∧ i < 2 ^ 62 ∧ -(2 ^ 62) ≤ j ∧ j < 2 ^ 62) (h : R (rngD i 1 (j - i).toNat) fun _ => True) : xW (.rng (.cons a (.cons b .nil))) [.int i, .int j] m R := by
  simp only [xW_eq]
  exact ⟨i, j, rfl, h1, h⟩
theorem w_rng3 {a b c' : I} {i j c : Int} {n : Nat} {R : List D → (Mu → Prop) → Prop} (h1 : RgC i j c n) (h : R (rngD i c n) fun _ => True) : xW (.rng (.cons a (.cons b (.cons c' .nil)))) [.int i, .int j, .int c] m R := by
  simp only [xW_eq]
  exact ⟨i, j, c, n, rfl, h1, h⟩
theorem w_enm {a : I} {d : D} {xs : List D} {R : List D → (Mu → Prop) → Prop} (e : seqOf m d = some xs) (h : R (xs.mapIdx fun i x => .tup [.int i, x]) (guard d xs)) : xW (.enm a) [d] m R := by
  simp only [xW_eq]
  exact ⟨d, xs, rfl, e, h⟩
theorem w_zipA {a : I} {d e : D} {xs ys : List D} {R : List D → (Mu → Prop) → Prop} (h1 : seqOf m d = some xs) (h2 : seqOf m e = some ys) (h : R (xs.zipWith (fun x y => .tup [x, y]) ys) fun m => guard d xs m ∧ guard e ys m) : xW (.zip a) [d, e] m R := by
  simp only [xW_eq]
  exact ⟨d, e, xs, ys, rfl, h1, h2, h⟩
theorem w_zip {a : I} {d e : D} {xs ys : List D} {R : List D → (Mu → Prop) → Prop} (h1 : seqOf m d = some xs) (h2 : seqOf m e = some ys) (hd : (∃ zs zs', d = .tup zs ∧ e = .tup zs') ∨ (∀ zs, d ≠ .tup zs ∧ e ≠ .tup zs)) (h : R (xs.zipWith (fun x y => .tup [x, y]) ys) fun m => guard d xs m ∧ guard e ys m) : xW (.zip a) [d, e] m R := w_zipA h1 h2 h
theorem s_start {i : I} (h : xS G m0 i A sl m) : wS G m0 i A sl m := by
  simp only [xS_eq] at h
  exact h
theorem q_skip (h : A.nx sl m) : xS G m0 .skip A sl m := by
  simp only [xS_eq]
  exact h
theorem q_blk {s t : I} (h : xS G m0 s { A with nx := fun sl' m' => xS G m0 t A sl' m' } sl m) : xS G m0 (.blk s t) A sl m := by
  simp only [xS_eq] at h ⊢
  exact h
theorem q_asg {g e : I} (h : xE G e sl m fun d m1 => xG g d sl fun sl' => A.nx sl' m1) : xS G m0 (.asg g e) A sl m := by
  simp only [xS_eq, xE_eq, xG_eq] at h ⊢
  exact h
theorem q_asgl {g e : I} (h : xE G e sl m fun d m1 => ∃ n xs, d = .loc n ∧ m1[n]? = some (.lst xs) ∧ xs.length = tlen g ∧ xG g (.tup xs) sl fun sl' => A.nx sl' m1) : xS G m0 (.asgl g e) A sl m := by
  simp only [xS_eq, xE_eq, xG_eq] at h ⊢
  exact h
theorem q_asgc {i : Nat} {e g it c : I} {own : List (Str × Nat)} (h : xE G it sl m fun x m1 => xT x fun xs => xW it xs m1 fun ys Gd => xQ G e g c m1.length Gd (wipeS sl (own.map (·.2))) (fun m2 => A.nx (sl.set i (some (.loc m1.length))) m2) ys (m1 ++ [.lst []])) : xS G m0 (.asgc i e g it c own) A sl m := by
  simp only [xS_eq, xE_eq, xT_eq, xW_eq, xQ_eq] at h ⊢
  exact h
theorem l_two {y : D} {d e : D} {k : D → D → Prop} (e0 : y = .tup [d, e]) (h : k d e) : ∃ d e, y = .tup [d, e] ∧ k d e := ⟨d, e, e0, h⟩
@[irreducible] def xN (sl : Sl) (i : Nat) (d : D) (k : Sl → Prop) : Prop := ∃ sl', sl.set i (some d) = sl' ∧ k sl'
theorem xN_eq : @xN = fun sl i d k => k (sl.set i (some d)) := by
  funext sl i d k
  unfold xN
  exact propext ⟨fun ⟨_, e, h⟩ => e ▸ h, fun h => ⟨_, rfl, h⟩⟩
theorem n_set {i : Nat} {d : D} {sl sl' : Sl} {k : Sl → Prop} (e : sl.set i (some d) = sl') (h : k sl') : xN sl i d k := by
  simp only [xN_eq]
  rw [e]; exact h
theorem g_tnN {i : Nat} {d : D} {sl sl' : Sl} {P : Sl → Prop} (e : sl.set i (some d) = sl') (h : P sl') : xG (.tn i) d sl P := by subst e; exact g_tn h
theorem q_par {i j : Nat} {a : I} (h : xE G a sl m fun x m1 => ∃ d e, x = .tup [d, e] ∧ xN sl i d fun sl1 => xN sl1 j e fun sl2 => A.nx sl2 m1) : xS G m0 (.par i j a) A sl m := by
  simp only [xS_eq, xE_eq, xN_eq] at h ⊢
  exact h
theorem q_par3 {i j k : Nat} {a : I} (h : xE G a sl m fun x m1 => ∃ d e f, x = .tup [d, e, f] ∧ xN sl i d fun sl1 => xN sl1 j e fun sl2 => xN sl2 k f fun sl3 => A.nx sl3 m1) : xS G m0 (.par3 i j k a) A sl m := by
  simp only [xS_eq, xE_eq, xN_eq] at h ⊢
  exact h
theorem q_aug {i : Nat} {o : O2} {e : I} {d : D} (hd : sl[i]? = some (some d)) (h : xE G e sl m fun y m1 => xU o d y fun z => xN sl i z fun sl1 => A.nx sl1 m1) : xS G m0 (.aug i o e) A sl m := by
  simp only [xS_eq, xE_eq, xU_eq, xN_eq] at h ⊢
  exact ⟨d, hd, h⟩
@[irreducible] def xSet (x y d : D) (m : Mu) (k : Mu → Prop) : Prop := (∃ n xs i j, x = .loc n ∧ y = .int i ∧ m[n]? = some (.lst xs) ∧ ixN xs.length i = some j ∧ k (m.set n (.lst (xs.set j d)))) ∨ ∃ n ks vs, x = .dloc n ∧ m[n]? = some (.dic ks vs) ∧ keyK ks y ∧ ks.length < sizeLine ∧ k (m.set n (.dic (putK ks y) (putV ks vs y d)))
theorem xSet_eq : @xSet = fun x y d m k => (∃ n xs i j, x = .loc n ∧ y = .int i ∧ m[n]? = some (.lst xs) ∧ ixN xs.length i = some j ∧ k (m.set n (.lst (xs.set j d)))) ∨ ∃ n ks vs, x = .dloc n ∧ m[n]? = some (.dic ks vs) ∧ keyK ks y ∧ ks.length < sizeLine ∧ k (m.set n (.dic (putK ks y) (putV ks vs y d))) := by funext x y d m k; unfold xSet; rfl
theorem q_swp {o i j e : I} (h : xE G e sl m fun d m1 => ∃ d1 d2, d = .tup [d1, d2] ∧ xE G o sl m1 fun x m2 => xE G i sl m2 fun y m3 => ∃ n xs k p, x = .loc n ∧ y = .int k ∧ m3[n]? = some (.lst xs) ∧ ixN xs.length k = some p ∧
      xE G o sl (m3.set n (.lst (xs.set p d1))) fun x2 m4 => xE G j sl m4 fun y2 m5 => ∃ n2 ys k2 p2, x2 = .loc n2 ∧ y2 = .int k2 ∧ m5[n2]? = some (.lst ys) ∧ ixN ys.length k2 = some p2 ∧ A.nx sl (m5.set n2 (.lst (ys.set p2 d2)))) : xS G m0 (.swp o i j e) A sl m := by
  simp only [xS_eq, xE_eq] at h ⊢
  exact h
theorem q_sset {o i e : I} (h : xE G e sl m fun d m1 => xE G o sl m1 fun x m2 => xE G i sl m2 fun y m3 => xSet x y d m3 fun m4 => A.nx sl m4) : xS G m0 (.sset o i e) A sl m := by
  simp only [xS_eq, xE_eq, xSet_eq] at h ⊢
  exact h
theorem t_set {n : Nat} {xs : List D} {i : Int} {j : Nat} {d : D} {k : Mu → Prop} (e : m[n]? = some (.lst xs)) (g : ixN xs.length i = some j) (h : k (m.set n (.lst (xs.set j d)))) : xSet (.loc n) (.int i) d m k := by
  simp only [xSet_eq]
  exact .inl ⟨n, xs, i, j, rfl, rfl, e, g, h⟩
theorem t_setD {n : Nat} {ks vs : List D} {y d : D} {k : Mu → Prop} (e : m[n]? = some (.dic ks vs)) (g : keyK ks y) (hz : ks.length < sizeLine) (h : k (m.set n (.dic (putK ks y) (putV ks vs y d)))) : xSet (.dloc n) y d m k := by
  simp only [xSet_eq]
  exact .inr ⟨n, ks, vs, rfl, e, g, hz, h⟩
theorem q_ex {e : I} (h : xE G e sl m fun _ m1 => A.nx sl m1) : xS G m0 (.ex e) A sl m := by
  simp only [xS_eq, xE_eq] at h ⊢
  exact h
theorem q_ret {e : I} (h : xE G e sl m A.rt) : xS G m0 (.ret e) A sl m := by
  simp only [xS_eq, xE_eq] at h ⊢
  exact h
theorem q_retn (h : A.rt .non m) : xS G m0 .retn A sl m := by
  simp only [xS_eq]
  exact h
theorem q_sif {c a b : I} (h : xE G c sl m fun x m1 => xB x fun t => xF t (xS G m0 a A sl m1) (xS G m0 b A sl m1)) : xS G m0 (.sif c a b) A sl m := by
  simp only [xS_eq, xE_eq, xB_eq, xF_eq] at h ⊢
  exact h
theorem q_brk (h : A.bk sl m) : xS G m0 .brk A sl m := by
  simp only [xS_eq]
  exact h
theorem q_cnt (h : A.ct sl m) : xS G m0 .cnt A sl m := by
  simp only [xS_eq]
  exact h
theorem q_gc {s : I} (h : xS G m0 s { A with nx := DropS m0 A.nx, ct := DropS m0 A.ct } sl m) : xS G m0 (.gc s) A sl m := by
  simp only [xS_eq] at h ⊢
  exact h
theorem q_for {g it b : I} (h : xE G it sl m fun x m1 => xT x fun xs => xW it xs m1 fun ys Gd => xL G g b m1 A Gd ys sl m1) : xS G m0 (.for_ g it b) A sl m := by
  simp only [xS_eq, xE_eq, xT_eq, xW_eq, xL_eq] at h ⊢
  exact h
/-- a for: a word by the turn -/
theorem l_for {g b : I} {m1 : Mu} {Gd : Mu → Prop} {ys : List D} (Inv : Nat → Sl → Mu → Prop) (h0 : Inv 0 sl m) (hG : ∀ i sl' m', Inv i sl' m' → Gd m') (hd : ∀ sl' m', Inv ys.length sl' m' → A.nx sl' m')
    (hs : ∀ (i : Nat) (x : D) sl' m', ys[i]? = some x → Inv i sl' m' → xG g x sl' fun sl2 => xS G m1 b { A with nx := Inv (i + 1), ct := Inv (i + 1), bk := A.nx } sl2 m') : xL G g b m1 A Gd ys sl m := by
  simp only [xL_eq, xG_eq, xS_eq] at hs ⊢
  exact ⟨Inv, h0, fun i sl' m' hi h => ⟨hG i sl' m' h, fun e => by subst e; exact hd sl' m' h, fun x hx => hs i x sl' m' hx h⟩⟩
/-- a for, turn by turn -/
def unr (G : Gm) (g b : I) (m1 : Mu) (A : AE) (Gd : Mu → Prop) : List D → Sl → Mu → Prop
  | [], sl, m => Gd m ∧ A.nx sl m
  | x :: xs, sl, m => Gd m ∧ xG g x sl fun sl2 => xS G m1 b { A with nx := unr G g b m1 A Gd xs, ct := unr G g b m1 A Gd xs, bk := A.nx } sl2 m
theorem l_unr {g b : I} {m1 : Mu} {Gd : Mu → Prop} {ys : List D} (h : unr G g b m1 A Gd ys sl m) : xL G g b m1 A Gd ys sl m := by
  simp only [xL_eq]
  refine ⟨fun i sl' m' => unr G g b m1 A Gd (ys.drop i) sl' m', h, fun i sl' m' hi h => ?_⟩
  by_cases hlt : i < ys.length
  · have h : unr G g b m1 A Gd (ys.drop i) sl' m' := h
    rw [List.drop_eq_getElem_cons hlt] at h
    refine ⟨h.1, fun e => by omega, fun x hx => ?_⟩
    rw [List.getElem?_eq_getElem hlt] at hx
    cases hx
    have h2 := h.2
    simp only [xG_eq, xS_eq] at h2
    exact h2
  · have e : i = ys.length := by omega
    subst e
    have h : unr G g b m1 A Gd (ys.drop ys.length) sl' m' := h
    rw [List.drop_length] at h
    exact ⟨h.1, fun _ => h.2, fun x hx => by rw [List.getElem?_eq_none (Nat.le_refl _)] at hx; cases hx⟩
/-- a while: a word and a measure -/
theorem q_whl {c b : I} (W : Nat → Sl → Mu → Prop) (h0 : ∃ k, W k sl m) (hs : ∀ k sl' m', W k sl' m' → xE G c sl' m' fun x m1 => xB x fun t => xF t
      (xS G m b { A with nx := fun sl2 m2 => ∃ k', k' < k ∧ W k' sl2 m2, ct := fun sl2 m2 => ∃ k', k' < k ∧ W k' sl2 m2, bk := A.nx } sl' m1) (A.nx sl' m1)) : xS G m0 (.whl c b) A sl m := by
  simp only [xE_eq, xB_eq, xF_eq, xS_eq] at hs ⊢
  exact ⟨W, h0, hs⟩
/-- a comprehension: a word by the turn; n: the place of the new list -/
theorem l_comp {e g c : I} {n : Nat} {Gd : Mu → Prop} {P : Mu → Prop} {ys : List D} (Inv : Nat → Mu → Prop) (h0 : Inv 0 m) (hG : ∀ i m', Inv i m' → Gd m') (hd : ∀ m', Inv ys.length m' → P m')
    (hs : ∀ (i : Nat) (x : D) m', ys[i]? = some x → Inv i m' → xG g x sl fun sl2 => xE G c sl2 m' fun b m1 => xB b fun t => xF t (xE G e sl2 m1 fun d m2 => ∃ acc, m2[n]? = some (.lst acc) ∧ acc.length < sizeLine ∧ Inv (i + 1) (m2.set n (.lst (acc ++ [d])))) (Inv (i + 1) m1)) :
    xQ G e g c n Gd sl P ys m := by
  simp only [xQ_eq, xG_eq, xE_eq, xB_eq, xF_eq] at hs ⊢
  exact ⟨Inv, h0, fun i m' hi h => ⟨hG i m' h, fun e => by subst e; exact hd m' h, fun x hx => hs i x m' hx h⟩⟩
end
mutual
theorem okD_mono {p q : Nat → Bool} (h : ∀ k, p k = true → q k = true) : ∀ (d : D), okD p d = true → okD q d = true
  | .non, _ => rfl
  | .bl b, _ => rfl
  | .int i, _ => rfl
  | .str x, _ => rfl
  | .ty x, _ => rfl
  | .fn x, _ => rfl
  | .tup xs, e => okDs_mono h xs e
  | .ro xs, e => okDs_mono h xs e
  | .loc k, e => h k e
  | .dloc k, e => h k e
  | .dic ks vs, e => by
    have h' : (okDs p ks && okDs p vs) = true := e
    rw [Bool.and_eq_true] at h'
    show (okDs q ks && okDs q vs) = true
    rw [okDs_mono h ks h'.1, okDs_mono h vs h'.2]; rfl
  | .obj C ns fs, e => okDs_mono h fs e
theorem okDs_mono {p q : Nat → Bool} (h : ∀ k, p k = true → q k = true) : ∀ (xs : List D), okDs p xs = true → okDs q xs = true
  | [], _ => rfl
  | x :: xs, e => by
    have h' : (okD p x && okDs p xs) = true := e
    rw [Bool.and_eq_true] at h'
    show (okD q x && okDs q xs) = true
    rw [okD_mono h x h'.1, okDs_mono h xs h'.2]; rfl
end
mutual
theorem ren_idp {f : Nat → Nat} {p : Nat → Bool} (hf : ∀ k, p k = true → f k = k) : ∀ (d : D), okD p d = true → ren f d = d
  | .non, _ => rfl
  | .bl b, _ => rfl
  | .int i, _ => rfl
  | .str x, _ => rfl
  | .ty x, _ => rfl
  | .fn x, _ => rfl
  | .tup xs, h => by
    show D.tup (rens _ xs) = _
    rw [rens_idp hf xs h]
  | .ro xs, h => by
    show D.ro (rens _ xs) = _
    rw [rens_idp hf xs h]
  | .loc k, h => by
    show D.loc (f k) = _
    rw [hf k h]
  | .dloc k, h => by
    show D.dloc (f k) = _
    rw [hf k h]
  | .dic ks vs, h => by
    have h' : (okDs _ ks && okDs _ vs) = true := h
    rw [Bool.and_eq_true] at h'
    show D.dic (rens _ ks) (rens _ vs) = _
    rw [rens_idp hf ks h'.1, rens_idp hf vs h'.2]
  | .obj C ns fs, h => by
    show D.obj C ns (rens _ fs) = _
    rw [rens_idp hf fs h]
theorem rens_idp {f : Nat → Nat} {p : Nat → Bool} (hf : ∀ k, p k = true → f k = k) : ∀ (xs : List D), okDs p xs = true → rens f xs = xs
  | [], _ => rfl
  | x :: xs, h => by
    have h' : (okD _ x && okDs _ xs) = true := h
    rw [Bool.and_eq_true] at h'
    show ren _ x :: rens _ xs = _
    rw [ren_idp hf x h'.1, rens_idp hf xs h'.2]
end
/-! what a def leaves -/
mutual
theorem ren_id {n : Nat} : ∀ (d : D), okD (fun k => decide (k < n)) d = true → ren (moved n []) d = d
  | .non, _ => rfl
  | .bl b, _ => rfl
  | .int i, _ => rfl
  | .str x, _ => rfl
  | .ty x, _ => rfl
  | .fn x, _ => rfl
  | .tup xs, h => by
    show D.tup (rens _ xs) = _
    rw [rens_id xs h]
  | .ro xs, h => by
    show D.ro (rens _ xs) = _
    rw [rens_id xs h]
  | .loc k, h => by
    show D.loc (moved n [] k) = _
    unfold moved
    rw [if_pos (of_decide_eq_true h)]
  | .dloc k, h => by
    show D.dloc (moved n [] k) = _
    unfold moved
    rw [if_pos (of_decide_eq_true h)]
  | .dic ks vs, h => by
    have h' : (okDs _ ks && okDs _ vs) = true := h
    rw [Bool.and_eq_true] at h'
    show D.dic (rens _ ks) (rens _ vs) = _
    rw [rens_id ks h'.1, rens_id vs h'.2]
  | .obj C ns fs, h => by
    show D.obj C ns (rens _ fs) = _
    rw [rens_id fs h]
theorem rens_id {n : Nat} : ∀ (xs : List D), okDs (fun k => decide (k < n)) xs = true → rens (moved n []) xs = xs
  | [], _ => rfl
  | x :: xs, h => by
    have h' : (okD _ x && okDs _ xs) = true := h
    rw [Bool.and_eq_true] at h'
    show ren _ x :: rens _ xs = _
    rw [ren_id x h'.1, rens_id xs h'.2]
end
theorem kept_nil {n : Nat} : kept n [] = fun k => decide (k < n) := by
  funext k
  unfold kept
  simp
/-- nothing new is kept: m1, as long as the store at the entry, is what is left of m -/
theorem drop_to {m0 m m1 : Mu} {Q : D → Mu → Prop} {d : D} (hl : m1.length = m0.length) (hp : m.take m0.length = m1) (old : ∀ i, i < m0.length → m1[i]? = m0[i]? ∨ ∃ o, m1[i]? = some o ∧ okO (fun k => decide (k < m0.length)) o = true)
    (hd : okD (fun k => decide (k < m0.length)) d = true) (q : Q d m1) : Drop m0 Q d m := by
  have hle : m0.length ≤ m.length := by
    rw [← hp, List.length_take] at hl; omega
  refine ⟨[], ⟨hle, (fun k hk => by cases hk), List.nodup_nil, fun i hi => ?_, (fun k hk => by cases hk)⟩, by rw [kept_nil]; exact hd, ?_⟩
  · have e : m[i]? = m1[i]? := by rw [← hp, List.getElem?_take, if_pos hi]
    rw [e]; exact old i hi
  · have e : cutM m0 m [] = m1 := by unfold cutM; rw [hp]; simp
    rw [ren_id d hd, e]; exact q
theorem drop_same {m : Mu} {Q : D → Mu → Prop} {d : D} (hd : okD (fun k => decide (k < m.length)) d = true) (q : Q d m) : Drop m Q d m := drop_to rfl List.take_length (fun i _ => .inl rfl) hd q
theorem drop_junk {m0 : Mu} {Q : D → Mu → Prop} {d : D} (l : Mu) (hd : okD (fun k => decide (k < m0.length)) d = true) (q : Q d m0) : Drop m0 Q d (m0 ++ l) := drop_to rfl (by simp) (fun i _ => .inl rfl) hd q
theorem drop_set {m : Mu} {Q : D → Mu → Prop} {d : D} {n : Nat} {xs : List D} (hx : okDs (fun k => decide (k < m.length)) xs = true) (hd : okD (fun k => decide (k < m.length)) d = true) (q : Q d (m.set n (.lst xs))) : Drop m Q d (m.set n (.lst xs)) :=
  drop_to (by simp) (by rw [List.take_of_length_le (by simp)]) (fun i hi => by
    by_cases h : n = i
    · subst h
      exact .inr ⟨.lst xs, by rw [List.getElem?_set_self hi], hx⟩
    · exact .inl (List.getElem?_set_ne h)) hd q
theorem drop_setJ {m : Mu} {Q : D → Mu → Prop} {d : D} {n : Nat} {xs : List D} (l : Mu) (hx : okDs (fun k => decide (k < m.length)) xs = true) (hd : okD (fun k => decide (k < m.length)) d = true) (q : Q d (m.set n (.lst xs))) : Drop m Q d (m.set n (.lst xs) ++ l) :=
  drop_to (by simp) (by rw [List.take_append_of_le_length (by simp), List.take_of_length_le (by simp)]) (fun i hi => by
    by_cases h : n = i
    · subst h
      exact .inr ⟨.lst xs, by rw [List.getElem?_set_self hi], hx⟩
    · exact .inl (List.getElem?_set_ne h)) hd q
/-- one new list is kept, that is told -/
theorem drop_new {m0 : Mu} {Q : D → Mu → Prop} {xs : List D} (l : Mu) (hx : okDs (fun k => decide (k < m0.length)) xs = true) (q : Q (.loc m0.length) (m0 ++ [.lst xs])) : Drop m0 Q (.loc m0.length) (m0 ++ [.lst xs] ++ l) := by
  have hk : kept m0.length [m0.length] m0.length = true := by unfold kept; simp
  have mono : ∀ k, decide (k < m0.length) = true → kept m0.length [m0.length] k = true := fun k h => by unfold kept; rw [h]; rfl
  have rid : ∀ k, decide (k < m0.length) = true → moved m0.length [m0.length] k = k := fun k h => by unfold moved; rw [if_pos (of_decide_eq_true h)]
  refine ⟨[m0.length], ⟨by simp, fun k hk => ?_, by simp, fun i hi => .inl ?_, fun k hk o ho => ?_⟩, hk, ?_⟩
  · have e : k = m0.length := by simpa using hk
    subst e
    simp
  · rw [List.append_assoc, List.getElem?_append_left hi]
  · have e : k = m0.length := by simpa using hk
    subst e
    rw [List.append_assoc, List.getElem?_append_right (Nat.le_refl _), Nat.sub_self] at ho
    cases ho
    exact okDs_mono mono xs hx
  · have e1 : ren (moved m0.length [m0.length]) (.loc m0.length) = .loc m0.length := by
      show D.loc (moved _ _ _) = _
      unfold moved
      rw [if_neg (Nat.lt_irrefl _)]
      simp
    have e2 : cutM m0 (m0 ++ [.lst xs] ++ l) [m0.length] = m0 ++ [.lst xs] := by
      unfold cutM
      rw [List.append_assoc, List.take_append_of_le_length (Nat.le_refl _), List.take_length]
      simp only [List.map_cons, List.map_nil]
      rw [List.getElem?_append_right (Nat.le_refl _), Nat.sub_self]
      show m0 ++ [Ob.lst (rens _ xs)] = _
      rw [rens_idp rid xs hx]
    rw [e1, e2]; exact q

theorem at_set {m : Mu} {n : Nat} {xs ys : List D} (h : m[n]? = some (.lst xs)) : (m.set n (.lst ys))[n]? = some (.lst ys) := List.getElem?_set_self (List.getElem?_eq_some_iff.mp h).1
theorem at_ne {m : Mu} {n k : Nat} {xs : List D} {o : Ob} (hk : k ≠ n) (h : m[n]? = some (.lst xs)) : (m.set k o)[n]? = some (.lst xs) := by rw [List.getElem?_set_ne hk]; exact h
theorem at_new {m : Mu} {o : Ob} : (m ++ [o])[m.length]? = some o := by rw [List.getElem?_append_right (Nat.le_refl _), Nat.sub_self]; rfl
theorem at_app {m l : Mu} {n : Nat} {xs : List D} (h : m[n]? = some (.lst xs)) : (m ++ l)[n]? = some (.lst xs) := by rw [List.getElem?_append_left (List.getElem?_eq_some_iff.mp h).1]; exact h
theorem at_self {m : Mu} {n : Nat} {xs : List D} (h : m[n]? = some (.lst xs)) : m = m.set n (.lst xs) := by
  apply List.ext_getElem?
  intro i
  by_cases hi : n = i
  · subst hi
    rw [List.getElem?_set_self (List.getElem?_eq_some_iff.mp h).1]; exact h
  · rw [List.getElem?_set_ne hi]
theorem lenOk {xs : List D} (h : Nat.ble xs.length 4096 = true) : xs.length ≤ sizeLine := Nat.le_trans (Nat.le_of_ble_eq_true h) (by decide)
theorem lenLt {xs : List D} (h : Nat.ble xs.length 4096 = true) : xs.length < sizeLine := Nat.lt_of_le_of_lt (Nat.le_of_ble_eq_true h) (by decide)
theorem rngD_get {i c : Int} {n j : Nat} {x : D} (h : (rngD i c n)[j]? = some x) : j < n ∧ x = .int (i + j * c) := rngD_at h
theorem rngD_len {i c : Int} {n : Nat} : (rngD i c n).length = n := by unfold rngD; rw [List.length_map, List.length_range]
theorem mulb {x y a b : Int} (h1 : 0 ≤ x) (h2 : x ≤ a) (h3 : 0 ≤ y) (h4 : y ≤ b) : 0 ≤ x * y ∧ x * y ≤ a * b :=
  ⟨Int.mul_nonneg h1 h3, Int.mul_le_mul h2 h4 h3 (Int.le_trans h1 h2)⟩
theorem natAbs_lt {x : Int} {a : Nat} (h : 0 ≤ x) (h2 : x < 2 ^ a) : x.natAbs < 2 ^ a := by
  have h1 : (x.natAbs : Int) = x := by omega
  have h3 : ((2 ^ a : Nat) : Int) = 2 ^ a := by simp
  omega
theorem ipow_le {a b : Nat} (h : a ≤ b) : (2 : Int) ^ a ≤ 2 ^ b := by
  have := Nat.pow_le_pow_right (n := 2) (by decide) h
  exact_mod_cast this
theorem shl_ok2 {i j : Int} {n : Nat} (h : i.natAbs < 2 ^ n) (hn : n ≤ 100000) (h0 : 0 ≤ j) (hj : j ≤ 100000) : CShl i j := by
  have := shl_ok (i := i) (j := j.toNat) h (by omega)
  rw [Int.toNat_of_nonneg h0] at this
  exact this
theorem cs_cons {K : Kx} {mg : Str → Option Value} {y : Str} {dy : D} {l : List (Str × D)} (h : ∃ u v, mg y = some u ∧ RelV v u ∧ ∀ H r, Rp K H r dy v)
    (hl : ∀ (i : Nat) (x : Str) (d : D), l[i]? = some (x, d) → ∃ u v, mg x = some u ∧ RelV v u ∧ ∀ H r, Rp K H r d v) : ∀ (i : Nat) (x : Str) (d : D), ((y, dy) :: l)[i]? = some (x, d) → ∃ u v, mg x = some u ∧ RelV v u ∧ ∀ H r, Rp K H r d v
  | 0, x, d, e => by
    have e' : (y, dy) = (x, d) := Option.some.inj e
    cases e'
    exact h
  | i + 1, x, d, e => hl i x d (by simpa using e)
theorem div_add {s q w : Int} (hs : 0 < s) (h0 : 0 ≤ w) (h1 : w < s) : (s * q + w) / s = q := by
  rw [Int.add_comm, Int.add_mul_ediv_left _ _ (by omega), Int.ediv_eq_zero_of_lt h0 h1, Int.zero_add]
theorem set_last {m : Mu} {a b : Ob} {l : Mu} : (m ++ a :: l).set m.length b = m ++ b :: l := by
  rw [List.set_append_right _ _ (Nat.le_refl _), Nat.sub_self]; rfl
theorem mul_ok {i j : Int} {a b : Nat} (ha : i.natAbs < 2 ^ a) (hb : j.natAbs < 2 ^ b) (h : a + b ≤ 900000) : CMulW i j :=
  wide_mul (a := a + 1) (b := b + 1) (Nat.lt_of_lt_of_le ha (Nat.pow_le_pow_right (by decide) (Nat.le_succ a))) (Nat.lt_of_lt_of_le hb (Nat.pow_le_pow_right (by decide) (Nat.le_succ b))) (Nat.succ_pos _) (Nat.succ_pos _) (by omega)
theorem mul_64 {i j : Int} (ha : -(2 ^ 64) < i) (ha2 : i < 2 ^ 64) (hb : -(2 ^ 64) < j) (hb2 : j < 2 ^ 64) : CMulW i j := mul_ok (a := 64) (b := 64) (by omega) (by omega) (by decide)
theorem div_ok {i j : Int} {b : Nat} (h : 0 < j) (hb : j < 2 ^ b) (h9 : b ≤ 8000) : CDivW i j := by
  refine wide_div (b := b + 1) h ?_ (Nat.succ_pos _) (by omega)
  have h1 : (j.natAbs : Int) = j := by omega
  have h2 : ((2 ^ b : Nat) : Int) = 2 ^ b := by simp
  have h3 : j.natAbs < 2 ^ b := by omega
  exact Nat.lt_of_lt_of_le h3 (Nat.pow_le_pow_right (by decide) (Nat.le_succ b))
theorem set_last2 {m l : Mu} {a b : Ob} : (m ++ [a] ++ l).set m.length b = m ++ [b] ++ l := by
  rw [List.set_append_left _ _ (by simp), List.set_append_right _ _ (Nat.le_refl _), Nat.sub_self]; rfl
theorem at_last {m l : Mu} {a b : Ob} : (m ++ [a] ++ b :: l)[(m ++ [a]).length]? = some b := by
  rw [List.getElem?_append_right (Nat.le_refl _), Nat.sub_self]; rfl
theorem len_last {m : Mu} {a b : Ob} : (m ++ [a]).length = (m ++ [b]).length := by simp
theorem drop_last {m : Mu} (l : Mu) {s s' : List D} {Q : D → Mu → Prop} {d : D} (hx : okDs (fun k => decide (k < (m ++ [Ob.lst s]).length)) s' = true) (hd : okD (fun k => decide (k < (m ++ [Ob.lst s]).length)) d = true) (q : Q d (m ++ [.lst s'])) :
    Drop (m ++ [.lst s]) Q d (m ++ [.lst s'] ++ l) :=
  drop_to (by simp) (by rw [len_last (b := Ob.lst s'), List.take_append_of_le_length (Nat.le_refl _), List.take_length]) (fun i hi => by
    by_cases h : i < m.length
    · exact .inl (by rw [List.getElem?_append_left h, List.getElem?_append_left h])
    · have e : i = m.length := by
        have : (m ++ [Ob.lst s]).length = m.length + 1 := by simp
        omega
      subst e
      exact .inr ⟨.lst s', at_new, hx⟩) hd q

theorem drop_at {m0 m m1 : Mu} {n : Nat} {Q : D → Mu → Prop} {xs : List D} (hn : m0.length ≤ n) (e : m[n]? = some (.lst xs)) (hp : m.take m0.length = m1) (hl : m1.length = m0.length)
    (old : ∀ i, i < m0.length → m1[i]? = m0[i]? ∨ ∃ o, m1[i]? = some o ∧ okO (fun k => decide (k < m0.length)) o = true)
    (hx : okDs (fun k => decide (k < m0.length)) xs = true) (q : Q (.loc m0.length) (m1 ++ [.lst xs])) : Drop m0 Q (.loc n) m := by
  have hlt := (List.getElem?_eq_some_iff.mp e).1
  have hk : kept m0.length [n] n = true := by unfold kept; simp
  have mono : ∀ k, decide (k < m0.length) = true → kept m0.length [n] k = true := fun k h => by unfold kept; rw [h]; rfl
  have rid : ∀ k, decide (k < m0.length) = true → moved m0.length [n] k = k := fun k h => by unfold moved; rw [if_pos (of_decide_eq_true h)]
  refine ⟨[n], ⟨by omega, fun k hk => ?_, by simp, fun i hi => ?_, fun k hk o ho => ?_⟩, hk, ?_⟩
  · have e : k = n := by simpa using hk
    subst e
    exact ⟨hn, hlt⟩
  · have g := old i hi
    rw [← hp, List.getElem?_take_of_lt hi] at g
    exact g
  · have e2 : k = n := by simpa using hk
    subst e2
    rw [e] at ho
    cases ho
    exact okDs_mono mono xs hx
  · have e1 : ren (moved m0.length [n]) (.loc n) = .loc m0.length := by
      show D.loc (moved _ _ _) = _
      unfold moved
      rw [if_neg (by omega)]
      simp
    have e2 : cutM m0 m [n] = m1 ++ [.lst xs] := by
      unfold cutM
      rw [hp]
      simp only [List.map_cons, List.map_nil]
      rw [e]
      show m1 ++ [Ob.lst (rens _ xs)] = _
      rw [rens_idp rid xs hx]
    rw [e1, e2]; exact q
theorem drop_atJ {m0 J l : Mu} {Q : D → Mu → Prop} {xs : List D} (hx : okDs (fun k => decide (k < m0.length)) xs = true) (q : Q (.loc m0.length) (m0 ++ [.lst xs])) : Drop m0 Q (.loc (m0 ++ J).length) (m0 ++ J ++ .lst xs :: l) :=
  drop_at (m1 := m0) (by simp) (by rw [List.getElem?_append_right (Nat.le_refl _), Nat.sub_self]; rfl) (by rw [List.append_assoc, List.take_append_of_le_length (Nat.le_refl _), List.take_length]) rfl (fun i _ => .inl rfl) hx q
theorem drop_new0 {m0 : Mu} {Q : D → Mu → Prop} {xs : List D} (hx : okDs (fun k => decide (k < m0.length)) xs = true) (q : Q (.loc m0.length) (m0 ++ [.lst xs])) : Drop m0 Q (.loc m0.length) (m0 ++ [.lst xs]) := by
  have h := drop_new [] hx q
  rw [List.append_nil] at h
  exact h
theorem rp_strs {K : Kx} {a : Addr} {dd : Option Addr} {vs : Array Value} {n : Nat} {sl : Array (Option Value)} (o : K.k.lookup a = some ⟨.type "tuple", dd, .seq vs n, sl⟩) (hz : vs.size ≤ sizeLine) (xs : List Str) (e : vs.toList.map (fun v => match v with | .str x _ => x | _ => "") = xs)
    (hv : ∀ v ∈ vs.toList, ∃ x t, v = .str x t := by simp) : ∀ H r, Rp K H r (.tup (xs.map D.str)) (.ref a) := by
  intro H r
  have go : ∀ (l : List Value) (ys : List Str), l.map (fun v => match v with | .str x _ => x | _ => "") = ys → (∀ v ∈ l, ∃ x t, v = .str x t) → Vals (ys.map V.str) l ∧ RpL K H r (ys.map D.str) (ys.map V.str) := by
    intro l
    induction l with
    | nil => intro ys e _; subst e; exact ⟨.nil, rfl⟩
    | cons v l ih =>
      intro ys e hv
      obtain ⟨x, t, rfl⟩ := hv v List.mem_cons_self
      subst e
      obtain ⟨h1, h2⟩ := ih _ rfl fun u hu => hv u (List.mem_cons_of_mem _ hu)
      exact ⟨.cons ⟨t, rfl⟩ h1, .str x, _, rfl, rfl, h2⟩
  obtain ⟨h1, h2⟩ := go _ xs e hv
  exact ⟨a, xs.map V.str, rfl, .inr ⟨_, vs, n, o, rfl, rfl, hz, h1⟩, h2⟩
theorem fnF {P : Program} {w : World} {K : PySem.W.Frag} {mg : Str → Option Value} {base : Heap} {k : Nat} {f : Addr} {fd : FuncData} {ps : List Str} : FnOk P w K mg base CX0 k f fd ps (SpOf ⟨K, w, P⟩ fun _ _ _ => False) :=
  ⟨fun _ _ _ _ ⟨_, _, _, _, _, _, h, _⟩ => h.elim, fun _ _ _ _ _ _ _ _ _ _ _ _ _ ⟨_, _, _, _, _, _, h, _⟩ => h.elim⟩
theorem blt_of {mg : Str → Option Value} (h : bnames.map mg = List.replicate 21 none) : ∀ y ∈ bnames, mg y = none := fun y hy => by
  obtain ⟨i, hi, e⟩ := List.getElem_of_mem hy
  have q : (bnames.map mg)[i]? = some (mg y) := by rw [List.getElem?_map, List.getElem?_eq_getElem hi, e]; rfl
  rw [h, List.getElem?_replicate] at q
  split at q
  · exact (Option.some.inj q).symm
  · cases q

def subS : Sl → Sl → Prop
  | [], [] => True
  | a :: as, b :: bs => (a = none ∨ a = b) ∧ subS as bs
  | _, _ => False
def okSl (p : Nat → Bool) : Sl → Prop
  | [] => True
  | a :: as => okS p a = true ∧ okSl p as
theorem subS_ok {p : Nat → Bool} : ∀ {sl' sl : Sl}, subS sl' sl → okSl p sl' → sl'.length = sl.length ∧ ∀ (i : Nat) (d : D), sl'[i]? = some (some d) → sl[i]? = some (some d) ∧ okD p d = true
  | [], [], _, _ => ⟨rfl, fun i d e => by simp at e⟩
  | a :: as, b :: bs, h, g => by
    obtain ⟨h1, h2⟩ := subS_ok h.2 g.2
    refine ⟨by simp [h1], fun i d e => ?_⟩
    cases i with
    | zero =>
      have e' : a = some d := by simpa using e
      subst e'
      rcases h.1 with z | z
      · cases z
      · subst z; exact ⟨rfl, g.1⟩
    | succ i => exact h2 i d (by simpa using e)
theorem sl_id {n : Nat} : ∀ {sl : Sl}, okSl (fun k => decide (k < n)) sl → sl.map (Option.map (ren (moved n []))) = sl
  | [], _ => rfl
  | a :: as, h => by
    show Option.map _ a :: _ = _
    rw [sl_id h.2]
    cases a with
    | none => rfl
    | some d =>
      show some (ren _ d) :: as = _
      rw [ren_id d h.1]
theorem dropS_to {m0 m m1 : Mu} {Q : Sl → Mu → Prop} {sl sl' : Sl} (hl : m1.length = m0.length) (hp : m.take m0.length = m1) (old : ∀ i, i < m0.length → m1[i]? = m0[i]? ∨ ∃ o, m1[i]? = some o ∧ okO (fun k => decide (k < m0.length)) o = true)
    (hs : subS sl' sl) (hk : okSl (fun k => decide (k < m0.length)) sl') (q : Q sl' m1) : DropS m0 Q sl m := by
  have hle : m0.length ≤ m.length := by
    rw [← hp, List.length_take] at hl; omega
  obtain ⟨h1, h2⟩ := subS_ok hs hk
  refine ⟨[], sl', ⟨hle, (fun k hk => by cases hk), List.nodup_nil, fun i hi => ?_, (fun k hk => by cases hk)⟩, h1, ?_, ?_⟩
  · have e : m[i]? = m1[i]? := by rw [← hp, List.getElem?_take, if_pos hi]
    rw [e]; exact old i hi
  · rw [kept_nil]; exact h2
  · have e : cutM m0 m [] = m1 := by unfold cutM; rw [hp]; simp
    rw [sl_id hk, e]; exact q
theorem dropS_junk {m0 : Mu} {Q : Sl → Mu → Prop} {sl : Sl} (l : Mu) (sl' : Sl) (hs : subS sl' sl) (hk : okSl (fun k => decide (k < m0.length)) sl') (q : Q sl' m0) : DropS m0 Q sl (m0 ++ l) := dropS_to rfl (by simp) (fun i _ => .inl rfl) hs hk q
theorem dropS_set {m : Mu} {Q : Sl → Mu → Prop} {sl : Sl} {n : Nat} {xs : List D} (l : Mu) (sl' : Sl) (hx : okDs (fun k => decide (k < m.length)) xs = true) (hs : subS sl' sl) (hk : okSl (fun k => decide (k < m.length)) sl') (q : Q sl' (m.set n (.lst xs))) : DropS m Q sl (m.set n (.lst xs) ++ l) :=
  dropS_to (by simp) (by rw [List.take_append_of_le_length (by simp), List.take_of_length_le (by simp)]) (fun i hi => by
    by_cases h : n = i
    · subst h
      exact .inr ⟨.lst xs, by rw [List.getElem?_set_self hi], hx⟩
    · exact .inl (List.getElem?_set_ne h)) hs hk q
theorem dropS_last {m : Mu} {Q : Sl → Mu → Prop} {sl : Sl} {s s' : List D} (l : Mu) (sl' : Sl) (hx : okDs (fun k => decide (k < (m ++ [Ob.lst s]).length)) s' = true) (hs : subS sl' sl) (hk : okSl (fun k => decide (k < (m ++ [Ob.lst s]).length)) sl') (q : Q sl' (m ++ [.lst s'])) :
    DropS (m ++ [.lst s]) Q sl (m ++ [.lst s'] ++ l) :=
  dropS_to (by simp) (by rw [len_last (b := Ob.lst s'), List.take_append_of_le_length (Nat.le_refl _), List.take_length]) (fun i hi => by
    by_cases h : i < m.length
    · exact .inl (by rw [List.getElem?_append_left h, List.getElem?_append_left h])
    · have e : i = m.length := by
        have : (m ++ [Ob.lst s]).length = m.length + 1 := by simp
        omega
      subst e
      exact .inr ⟨.lst s', at_new, hx⟩) hs hk q
theorem ints_ok {p : Nat → Bool} (ns : List Int) : okDs p (ns.map D.int) = true := by
  induction ns with
  | nil => rfl
  | cons a l ih => simpa [okDs, okD] using ih
theorem eqv_ints (ns : List Int) : PyData.eqvAll (ns.map PyData.int) (ns.map PyData.int) = true := by
  induction ns with
  | nil => simp [PyData.eqvAll]
  | cons a l ih => simpa [PyData.eqvAll, PyData.eqv] using ih

theorem toPs_ints {m : Mu} : ∀ ns : List Int, toPs m (ns.map D.int) = some (ns.map PyData.int)
  | [] => rfl
  | n :: ns => by
    show (match toP m (.int n), toPs m (ns.map D.int) with | some a, some r => some (a :: r) | _, _ => none) = _
    rw [toPs_ints ns]; rfl
theorem canLay_ints : ∀ ns : List Int, PyData.canLayAll0 (ns.map PyData.int) = true
  | [] => by simp [PyData.canLayAll0]
  | n :: ns => by simp [PyData.canLayAll0, PyData.canLay0, canLay_ints ns]
theorem depth_ints : ∀ ns : List Int, PyData.depthAll (ns.map PyData.int) ≤ 1
  | [] => by simp [PyData.depthAll]
  | n :: ns => by
    have := depth_ints ns
    simp [PyData.depthAll, PyData.depth]; omega
theorem shapedL_ints (ns : List Int) : SeqAt.shaped (.list (ns.map PyData.int)) = true := by
  have := depth_ints ns
  unfold SeqAt.shaped
  simp [PyData.canLay0, canLay_ints, PyData.depth]; omega
theorem shapedT_ints (ns : List Int) : SeqAt.shaped (.tuple (ns.map PyData.int)) = true := by
  have := depth_ints ns
  unfold SeqAt.shaped
  simp [PyData.canLay0, canLay_ints, PyData.depth]; omega
theorem eqvAll_ints : ∀ ns ms : List Int, PyData.eqvAll (ns.map PyData.int) (ms.map PyData.int) = decide (ns = ms)
  | [], [] => by simp [PyData.eqvAll]
  | [], m :: ms => by simp [PyData.eqvAll]
  | n :: ns, [] => by simp [PyData.eqvAll]
  | n :: ns, m :: ms => by
    have := eqvAll_ints ns ms
    simp [PyData.eqvAll, PyData.eqv, this]
    by_cases h : n = m <;> simp [h]
theorem c_neLI {m : Mu} {n k : Nat} {ns ms : List Int} {f : Bool → Prop} (h1 : m[n]? = some (.lst (ns.map D.int))) (h2 : m[k]? = some (.lst (ms.map D.int))) (h : f (!decide (ns = ms))) : xC .ne (.loc n) (.loc k) m f := by
  refine c_ne (b := decide (ns = ms)) ⟨.list (ns.map PyData.int), .list (ms.map PyData.int), ?_, ?_, shapedL_ints ns, shapedL_ints ms, ?_⟩ h
  · show (match m[n]? with | some (Ob.lst xs) => (toPs m xs).map PyData.list | _ => none) = _
    rw [h1]; show (toPs m _).map PyData.list = _; rw [toPs_ints]; rfl
  · show (match m[k]? with | some (Ob.lst xs) => (toPs m xs).map PyData.list | _ => none) = _
    rw [h2]; show (toPs m _).map PyData.list = _; rw [toPs_ints]; rfl
  · simp [PyData.eqv, eqvAll_ints]
end Ab

namespace Ab
open PySem PySem.Spec PyProof.Rows L2
/-! steps for classes, texts, dicts walked -/
@[irreducible] def xFl (m : Mu) (x : D) (f : Str) (k : D → Prop) : Prop := ∃ C ns fs d, insOf m x = some (C, ns, fs) ∧ hasFld C f = true ∧ fldV ns fs f = some d ∧ k d
@[irreducible] def xMo (m : Mu) (x : D) (C n : Str) (k : Prop) : Prop := ∃ ns fs, insOf m x = some (C, ns, fs) ∧ ns.contains n = false ∧ k
@[irreducible] def xSS (x : D) (m : Mu) (Q : D → Mu → Prop) : Prop := ∃ (xs : List Str), seqOf m x = some (xs.map D.str) ∧ (∀ zs, x ≠ .tup zs) ∧ xs.length < 4000 ∧ (∀ l : List Str, l.Nodup → (∀ y ∈ l, y ∈ xs) → l.length < 64) ∧ ∀ ys : List Str, ys.Pairwise (fun a b => AbSrt.sLt a b = true) → (∀ y, y ∈ ys ↔ y ∈ xs) → Q (.loc m.length) (m ++ [.lst (ys.map D.str)])
@[irreducible] def xSf (x : D) (f : Str) (d : D) (m : Mu) (k : Mu → Prop) : Prop := ∃ n C ns fs, x = .loc n ∧ m[n]? = some (.ins C ns fs) ∧ hasFld C f = true ∧ ns.length < 900 ∧ k (m.set n (.ins C (putN f ns) (putFd f d ns fs)))
theorem xFl_eq : @xFl = fun m x f k => ∃ C ns fs d, insOf m x = some (C, ns, fs) ∧ hasFld C f = true ∧ fldV ns fs f = some d ∧ k d := by funext m x f k; unfold xFl; rfl
theorem xMo_eq : @xMo = fun m x C n k => ∃ ns fs, insOf m x = some (C, ns, fs) ∧ ns.contains n = false ∧ k := by funext m x C n k; unfold xMo; rfl
theorem xSS_eq : @xSS = fun x m Q => ∃ (xs : List Str), seqOf m x = some (xs.map D.str) ∧ (∀ zs, x ≠ .tup zs) ∧ xs.length < 4000 ∧ (∀ l : List Str, l.Nodup → (∀ y ∈ l, y ∈ xs) → l.length < 64) ∧ ∀ ys : List Str, ys.Pairwise (fun a b => AbSrt.sLt a b = true) → (∀ y, y ∈ ys ↔ y ∈ xs) → Q (.loc m.length) (m ++ [.lst (ys.map D.str)]) := by funext x m Q; unfold xSS; rfl
theorem xSf_eq : @xSf = fun x f d m k => ∃ n C ns fs, x = .loc n ∧ m[n]? = some (.ins C ns fs) ∧ hasFld C f = true ∧ ns.length < 900 ∧ k (m.set n (.ins C (putN f ns) (putFd f d ns fs))) := by funext x f d m k; unfold xSf; rfl
section
variable {G : Gm} {m0 m : Mu} {sl : Sl} {A : AE} {Q : D → Mu → Prop}
theorem r_fld {a : I} {f : Str} (h : xE G a sl m fun x m1 => xFl m1 x f fun d => Q d m1) : xE G (.fld a f) sl m Q := by
  simp only [xE_eq, xFl_eq] at h ⊢
  exact h
theorem fl_obj {C f : Str} {ns : List Str} {fs : List D} {d : D} {k : D → Prop} (h1 : hasFld C f = true) (h2 : fldV ns fs f = some d) (h : k d) : xFl m (.obj C ns fs) f k := by
  simp only [xFl_eq]
  exact ⟨C, ns, fs, d, rfl, h1, h2, h⟩
theorem ins_loc {n : Nat} {C : Str} {ns : List Str} {fs : List D} (e : m[n]? = some (.ins C ns fs)) : insOf m (.loc n) = some (C, ns, fs) := by
  show (match m[n]? with | some (.ins C ns fs) => some (C, ns, fs) | _ => none) = _
  rw [e]
theorem fl_loc {n : Nat} {C f : Str} {ns : List Str} {fs : List D} {d : D} {k : D → Prop} (e : m[n]? = some (.ins C ns fs)) (h1 : hasFld C f = true) (h2 : fldV ns fs f = some d) (h : k d) : xFl m (.loc n) f k := by
  simp only [xFl_eq]
  exact ⟨C, ns, fs, d, ins_loc e, h1, h2, h⟩
theorem r_mth {C n : Str} {j : Nat} {o a : I} {sp : ASp} (e : G.ms[j]? = some ((C, n), sp)) (h : xE G o sl m fun x m1 => xMo m1 x C n (xE G a sl m1 fun y m2 => xT y fun ys => sp (x :: ys) m2 Q)) : xE G (.mth n j o a) sl m Q := by
  simp only [xE_eq, xMo_eq, xT_eq] at h ⊢
  exact ⟨C, sp, e, h⟩
theorem mo_obj {C n : Str} {ns : List Str} {fs : List D} {k : Prop} (h1 : ns.contains n = false) (h : k) : xMo m (.obj C ns fs) C n k := by
  simp only [xMo_eq]
  exact ⟨ns, fs, rfl, h1, h⟩
theorem mo_loc {i : Nat} {C n : Str} {ns : List Str} {fs : List D} {k : Prop} (e : m[i]? = some (.ins C ns fs)) (h1 : ns.contains n = false) (h : k) : xMo m (.loc i) C n k := by
  simp only [xMo_eq]
  exact ⟨ns, fs, ins_loc e, h1, h⟩
theorem r_cv {i kk : Nat} {a : I} {n : Str} {sp : ASp} (e1 : sl[i]? = some (some (.fn n))) (e2 : clsN n = false) (e3 : G.fns[kk]? = some (n, sp)) (h : xE G a sl m fun y m1 => xT y fun ys => sp ys m1 Q) : xE G (.cv i a) sl m Q := by
  simp only [xE_eq, xT_eq] at h ⊢
  exact ⟨n, kk, sp, e1, e2, e3, h⟩
theorem r_ce {f a : I} (h : xE G f sl m fun x m1 => ∃ (n : Str) (k : Nat) (sp : ASp), x = .fn n ∧ clsN n = false ∧ G.fns[k]? = some (n, sp) ∧ xE G a sl m1 fun y m2 => xT y fun ys => sp ys m2 Q) : xE G (.ce f a) sl m Q := by
  simp only [xE_eq, xT_eq] at h ⊢
  exact h
theorem r_ce0 {f : I} (h : xE G f sl m fun x m1 => ∃ (n : Str) (k : Nat) (sp : ASp), x = .fn n ∧ clsN n = false ∧ G.fns[k]? = some (n, sp) ∧ sp [] m1 Q) : xE G (.ce0 f) sl m Q := by
  simp only [xE_eq] at h ⊢
  exact h
theorem r_orv {a b : I} (h : xE G a sl m fun x m1 => xR m1 x fun t => xF t (Q x m1) (xE G b sl m1 Q)) : xE G (.orv a b) sl m Q := by
  simp only [xE_eq, xR_eq, xF_eq] at h ⊢
  exact h
theorem r_ss {a : I} (h : xE G a sl m fun x m1 => xSS x m1 Q) : xE G (.ss a) sl m Q := by
  simp only [xE_eq, xSS_eq] at h ⊢
  exact h
theorem ss_of {x : D} {xs : List Str} (e : seqOf m x = some (xs.map D.str)) (ht : ∀ zs, x ≠ .tup zs) (hl : xs.length < 4000) (hf : ∀ l : List Str, l.Nodup → (∀ y ∈ l, y ∈ xs) → l.length < 64)
    (h : ∀ ys : List Str, ys.Pairwise (fun a b => AbSrt.sLt a b = true) → (∀ y, y ∈ ys ↔ y ∈ xs) → Q (.loc m.length) (m ++ [.lst (ys.map D.str)])) : xSS x m Q := by
  simp only [xSS_eq]
  exact ⟨xs, e, ht, hl, hf, h⟩
theorem q_sfld {o e : I} {f : Str} (h : xE G e sl m fun d m1 => xE G o sl m1 fun x m2 => xSf x f d m2 fun m3 => A.nx sl m3) : xS G m0 (.sfld o f e) A sl m := by
  simp only [xS_eq, xE_eq, xSf_eq] at h ⊢
  exact h
theorem sf_of {n : Nat} {C f : Str} {ns ns' : List Str} {fs fs' : List D} {d : D} {k : Mu → Prop} (e : m[n]? = some (.ins C ns fs)) (h1 : hasFld C f = true) (h2 : ns.length < 900) (e1 : putN f ns = ns') (e2 : putFd f d ns fs = fs') (h : k (m.set n (.ins C ns' fs'))) : xSf (.loc n) f d m k := by
  subst e1 e2
  simp only [xSf_eq]
  exact ⟨n, C, ns, fs, rfl, e, h1, h2, h⟩
theorem q_ghf {i n k : Nat} {f C : Str} {ns ns' : List Str} {fs fs' : List D} {d v : D} {ob : Ob} {r : I} (e1 : sl[i]? = some (some (.loc n))) (e2 : m[n]? = some (.ins C ns fs)) (e3 : fldV ns fs f = some d) (e4 : plc d = some k) (e5 : k ≠ n) (e6 : m[k]? = some ob) (e7 : fzOk d ob = true) (ev : fzO ob = v)
    (e8 : putFd f v ns fs = fs') (h : xS G m0 r A sl ((m.set k (.gone v)).set n (.ins C ns fs'))) : xS G m0 (.ghf i f r) A sl m := by
  subst ev
  subst e8
  simp only [xS_eq] at h ⊢
  exact ⟨n, C, ns, fs, d, k, ob, e1, e2, e3, e4, e5, e6, e7, h⟩
theorem q_ghl {i n : Nat} {d v : D} {ob : Ob} {sl' : Sl} {r : I} (e1 : sl[i]? = some (some d)) (e2 : plc d = some n) (e3 : m[n]? = some ob) (e4 : fzOk d ob = true) (ev : fzO ob = v) (es : sl.set i (some v) = sl') (h : xS G m0 r A sl' (m.set n (.gone v))) : xS G m0 (.ghl i r) A sl m := by
  subst ev es
  simp only [xS_eq] at h ⊢
  exact ⟨d, n, ob, e1, e2, e3, e4, h⟩
/-! texts -/
theorem c_inS {c : Nat} {z : Str} {k : Bool → Prop} (h : k (decide (c ∈ z.cps.toList))) : xC .isin (.str ⟨#[c]⟩) (.str z) m k := by
  simp only [xC_eq]
  exact .inr (.inr (.inl ⟨c, z, rfl, rfl, h⟩))
/-- x in xs, of data of any depth -/
theorem c_inP {x y : D} {d c : PyData} {ds : List PyData} {k : Bool → Prop} (h1 : toPD m x = some d) (h2 : toPD m y = some c) (h3 : c = .list ds ∨ c = .tuple ds) (h4 : SeqAt.shaped d = true) (h5 : SeqAt.shaped c = true) (h6 : d.depth ≤ 60) (h : k (ds.any fun z => PyData.eqv z d)) : xC .isin x y m k := by
  simp only [xC_eq]
  exact .inr (.inr (.inr ⟨d, ds, c, h1, h2, h3, h4, h5, h6, h⟩))
theorem c_notinP {x y : D} {d c : PyData} {ds : List PyData} {k : Bool → Prop} (h1 : toPD m x = some d) (h2 : toPD m y = some c) (h3 : c = .list ds ∨ c = .tuple ds) (h4 : SeqAt.shaped d = true) (h5 : SeqAt.shaped c = true) (h6 : d.depth ≤ 60) (h : k (!ds.any fun z => PyData.eqv z d)) : xC .notin x y m k := by
  simp only [xC_eq]
  exact .inr (.inr (.inr ⟨d, ds, c, h1, h2, h3, h4, h5, h6, h⟩))
theorem c_ltD {x y : D} {p q : PyData} {k : Bool → Prop} (h1 : toPD m x = some p) (h2 : toPD m y = some q) (h3 : PySem.W.alike p q = true) (h4 : p ≠ .none) (h5 : p.depth ≤ 60) (h : k (PySem.W.dataLt p q)) : xC .lt x y m k := by
  simp only [xC_eq]
  exact .inr ⟨p, q, h1, h2, h3, h4, h5, h⟩
theorem x_str {z : Str} {i : Int} {c : Nat} {P : D → Prop} (hz : z.length ≤ sizeLine) (hc : atI z.cps.toList i = some c) (h : P (.str ⟨#[c]⟩)) : xX m (.str z) (.int i) P := by
  simp only [xX_eq]
  exact .inr (.inr ⟨z, i, c, rfl, rfl, hz, hc, h⟩)
theorem z_str {z : Str} {l h : Option Int} (hz : z.length ≤ sizeLine) (q : Q (.str (cutS z l h)) m) : xZ m (.str z) l h Q := by
  simp only [xZ_eq]
  exact ⟨hz, q⟩
theorem k_lenS {x : Str} (hz : x.length ≤ sizeLine) (h : Q (.int x.length) m) : xK .len [.str x] m Q := by
  simp only [xK_eq]
  exact .inr (.inl ⟨x, rfl, hz, h⟩)
theorem k_lenD {d : D} {ks vs : List D} (e : dicOf m d = some (ks, vs)) (h : Q (.int ks.length) m) : xK .len [d] m Q := by
  simp only [xK_eq]
  exact .inr (.inr ⟨d, ks, vs, rfl, e, h⟩)
theorem w_str {a : I} {z : Str} {R : List D → (Mu → Prop) → Prop} (h : R (sgn z) fun _ => True) : xW (.seq a) [.str z] m R := by
  simp only [xW_eq]
  exact ⟨_, rfl, .inr (.inl ⟨z, rfl, h⟩)⟩
theorem w_dic {a : I} {ks vs : List D} {R : List D → (Mu → Prop) → Prop} (h : R ks fun _ => True) : xW (.seq a) [.dic ks vs] m R := by
  simp only [xW_eq]
  exact ⟨_, rfl, .inr (.inr ⟨ks, vs, rfl, h⟩)⟩
theorem u_str {z : Str} {k : Bool → Prop} (hz : z.length ≤ sizeLine) (h : k (z.length != 0)) : xR m (.str z) k := u_of (if_pos hz) h
theorem s_join {x : Str} {d : D} {ys : List Str} (e : seqOf m d = some (ys.map D.str)) (hz : (ys.map (·.length)).sum + ys.length * x.length ≤ 16777216) (h : Q (.str (Txt.join x ys)) m) : xSm .join (.str x) [d] m Q := by
  simp only [xSm_eq]
  exact ⟨x, d, ys, rfl, rfl, e, hz, h⟩
theorem at_appO {l : Mu} {n : Nat} {ob : Ob} (h : m[n]? = some ob) : (m ++ l)[n]? = some ob := by rw [List.getElem?_append_left (List.getElem?_eq_some_iff.mp h).1]; exact h
theorem at_setO {n : Nat} {o ob : Ob} (h : m[n]? = some o) : (m.set n ob)[n]? = some ob := List.getElem?_set_self (List.getElem?_eq_some_iff.mp h).1
theorem at_neO {n k : Nat} {o ob : Ob} (hk : k ≠ n) (h : m[n]? = some ob) : (m.set k o)[n]? = some ob := by rw [List.getElem?_set_ne hk]; exact h
end
/-- a dict that the module holds, as it is written -/
theorem rp_dict {K : Kx} {a : Addr} {es : Array DictEntry} {n : Nat} {ks vs : List D} (o : K.k.lookup a = some ⟨.type "dict", none, .dict es n, #[]⟩) (hs : (a == sysModules) = false) (hk : ks.all isLeaf = true) (hv : vs.all isLeaf = true) (nd : (ks.map leafKey).Nodup) (hz : ks.length ≤ sizeLine)
    (r1 : Vals (ks.map fun d => kV (leafKey d)) (es.toList.map (·.key))) (r2 : Vals (vs.map fun d => kV (leafKey d)) (es.toList.map (·.val))) (hh : es.toList.map (·.hash) = ks.map fun d => keyH K.w (leafKey d)) (H : Hp) (r : List Addr) : Rp K H r (.dic ks vs) (.ref a) := by
  have l1 : ks.length = es.toList.length := by have := r1.length; rw [List.length_map, List.length_map] at this; exact this
  refine ⟨a, _, _, _, rfl, .inr o, hs, ⟨⟨rfl, rfl, rfl⟩, es, n, ks.map fun d => keyNk (leafKey d), _, _, rfl, nks_leaf hk, ?_, ?_, .inr hk, r1, r2, by rw [List.length_map, List.length_map, l1], by rw [List.length_map, List.length_map, l1], by rw [List.length_map]; exact hz, ?_⟩, leaf_rpl hk, leaf_rpl hv⟩
  · rw [show (ks.map fun d => keyNk (leafKey d)) = (ks.map leafKey).map keyNk by rw [List.map_map]; rfl]
    exact List.Pairwise.map _ (fun a b hab z => hab (keyNk_inj z)) nd
  · intro m hm
    obtain ⟨d, _, rfl⟩ := List.mem_map.mp hm
    exact depth_leaf _
  · have e : (ks.map fun d => (keyNk (leafKey d)).hash K.w) = es.toList.map (·.hash) := by
      rw [hh]
      exact List.map_congr_left fun d _ => hash_leaf K.w _
    apply List.ext_getElem?
    intro i
    have ei := congrArg (fun l => l[i]?) e
    simp only [List.getElem?_map] at ei
    rw [List.getElem?_map]
    by_cases hi : i < es.toList.length
    · have hk' : i < ks.length := by omega
      have h3 : i < ((ks.map fun d => keyNk (leafKey d)).zip ((es.toList.map (·.key)).zip (es.toList.map (·.val)))).length := by rw [List.length_zip, List.length_zip, List.length_map, List.length_map, List.length_map]; omega
      rw [List.getElem?_eq_getElem h3, List.getElem?_eq_getElem hi]
      rw [List.getElem?_eq_getElem hi, List.getElem?_eq_getElem hk'] at ei
      simp at ei ⊢
      rw [ei]
    · have l3 : ((ks.map fun d => keyNk (leafKey d)).zip ((es.toList.map (·.key)).zip (es.toList.map (·.val)))).length ≤ i :=
        Nat.le_trans (by rw [List.length_zip]; exact Nat.min_le_left _ _) (by rw [List.length_map]; omega)
      rw [List.getElem?_eq_none (Nat.le_of_not_lt hi), List.getElem?_eq_none l3]; rfl
section
variable {G : Gm} {m0 m : Mu} {sl : Sl} {A : AE} {Q : D → Mu → Prop}
theorem z_fzi {n : Nat} {C : Str} {ns : List Str} {fs : List D} (e : m[n]? = some (.ins C ns fs)) (h : Q (.obj C ns fs) (m.set n (.gone (.obj C ns fs)))) : xFz (.loc n) m Q := by
  simp only [xFz_eq]
  exact ⟨n, _, rfl, e, rfl, h⟩
theorem drop_setO {l : Mu} {d : D} {n : Nat} {ob : Ob} (ho : okO (fun k => decide (k < m.length)) ob = true) (hd : okD (fun k => decide (k < m.length)) d = true) (q : Q d (m.set n ob)) : Drop m Q d (m.set n ob ++ l) :=
  drop_to (m1 := m.set n ob) (by rw [List.length_set]) (by rw [← List.length_set (i := n) (a := ob), List.take_append_of_le_length (Nat.le_refl _), List.take_length]) (fun i hi => by
    by_cases hn : n = i
    · subst hn
      exact .inr ⟨ob, by rw [List.getElem?_set_self hi], ho⟩
    · exact .inl (by rw [List.getElem?_set_ne hn])) hd q
@[irreducible] def xLr (a : I) (x : D) (m : Mu) (Q : D → Mu → Prop) : Prop := ∃ i j : Int, lrgD a x i j ∧ RgOk i j ∧ Q (.loc m.length) (m ++ [.lst (rngD i 1 (j - i).toNat)])
theorem xLr_eq : @xLr = fun a x m Q => ∃ i j : Int, lrgD a x i j ∧ RgOk i j ∧ Q (.loc m.length) (m ++ [.lst (rngD i 1 (j - i).toNat)]) := by funext a x m Q; unfold xLr; rfl
@[irreducible] def xLv (x : D) (m : Mu) (Q : D → Mu → Prop) : Prop := ∃ ks vs, x = .dic ks vs ∧ Q (.loc m.length) (m ++ [.lst vs])
theorem xLv_eq : @xLv = fun x m Q => ∃ ks vs, x = .dic ks vs ∧ Q (.loc m.length) (m ++ [.lst vs]) := by funext x m Q; unfold xLv; rfl
theorem r_lrg {a : I} (h : xE G a sl m fun x m1 => xLr a x m1 Q) : xE G (.lrg a) sl m Q := by
  simp only [xE_eq, xLr_eq] at h ⊢
  exact h
theorem l_rg1 {a : I} {j : Int} (h1 : 0 ≤ j) (h2 : j ≤ 16777216) (h : Q (.loc m.length) (m ++ [.lst (rngD 0 1 j.toNat)])) : xLr (.cons a .nil) (.tup [.int j]) m Q := by
  simp only [xLr_eq]
  refine ⟨0, j, ⟨rfl, rfl⟩, ⟨by omega, by omega, by omega, by omega, by omega⟩, ?_⟩
  rw [Int.sub_zero]; exact h
theorem l_rg2 {a b : I} {i j : Int} (h1 : 0 ≤ i) (h2 : i ≤ 16777216) (h3 : 0 ≤ j) (h4 : j ≤ 16777216) (h : Q (.loc m.length) (m ++ [.lst (rngD i 1 (j - i).toNat)])) : xLr (.cons a (.cons b .nil)) (.tup [.int i, .int j]) m Q := by
  simp only [xLr_eq]
  exact ⟨i, j, rfl, ⟨by omega, by omega, by omega, by omega, by omega⟩, h⟩
theorem r_lval {a : I} (h : xE G a sl m fun x m1 => xLv x m1 Q) : xE G (.lval a) sl m Q := by
  simp only [xE_eq, xLv_eq] at h ⊢
  exact h
theorem l_val {ks vs : List D} (h : Q (.loc m.length) (m ++ [.lst vs])) : xLv (.dic ks vs) m Q := by
  simp only [xLv_eq]
  exact ⟨ks, vs, rfl, h⟩
theorem r_itm {a : I} (h : xE G a sl m fun x m1 => Q (.tup [x]) m1) : xE G (.itm a) sl m Q := by
  simp only [xE_eq] at h ⊢
  exact h
theorem r_rvi {a : I} (h : xE G a sl m fun x m1 => Q (.tup [x]) m1) : xE G (.rvi a) sl m Q := by
  simp only [xE_eq] at h ⊢
  exact h
theorem w_itm {a : I} {ks vs : List D} {R : List D → (Mu → Prop) → Prop} (h : R (pairD ks vs) fun _ => True) : xW (.itm a) [.dic ks vs] m R := by
  simp only [xW_eq]
  exact ⟨ks, vs, rfl, h⟩
theorem w_rvi {a : I} {d : D} {xs : List D} {R : List D → (Mu → Prop) → Prop} (e : seqOf m d = some xs) (hd : ∀ ys, d ≠ .tup ys) (h : R xs.reverse (guard d xs)) : xW (.rvi a) [d] m R := by
  simp only [xW_eq]
  exact ⟨d, xs, rfl, e, hd, h⟩
theorem o_repTA {xs : List D} {k : Int} (h1 : -1000 ≤ k) (h2 : k ≤ 1000) (h3 : xs.length ≤ 1000) (h : Q (.tup (List.replicate k.toNat xs).flatten) m) : xO .mul (.tup xs) (.int k) m Q := by
  simp only [xO_eq]
  exact ⟨h1, h2, h3, h⟩
theorem k_str {i : Int} (hz : i.natAbs.log2 < 1920) (h : Q (.str (toString i)) m) : xK .str [.int i] m Q := by
  simp only [xK_eq]
  exact .inl ⟨i, rfl, hz, h⟩
theorem k_sortTD {d : D} {ks vs : List D} {n : Nat} {ts : List (List Str)} (hn : 1 ≤ n) (e : dicOf m d = some (ks, vs)) (ek : ks = ts.map strT) (hl : ∀ t ∈ ts, t.length = n) (h : ∀ ts' : List (List Str), ts'.Perm ts → ts'.Pairwise (fun a b => AbSrt.lexS b a = false) → Q (.loc m.length) (m ++ [.lst (ts'.map strT)])) : xK .sorted [d] m Q := by
  simp only [xK_eq]
  exact .inr ⟨d, ks, vs, n, ts, rfl, e, hn, ek, hl, h⟩
theorem k_strS {z : Str} (h : Q (.str z) m) : xK .str [.str z] m Q := by
  simp only [xK_eq]
  exact .inr ⟨z, rfl, h⟩
@[irreducible] def xLs (x : D) (m : Mu) (Q : D → Mu → Prop) : Prop := ∃ (c : Int) (k : Nat), seqOf m x = some (List.replicate (k + 1) (.int c)) ∧ (∀ ys, x ≠ .tup ys) ∧ k < 63 ∧ Q (.int 1) m
theorem xLs_eq : @xLs = fun x m Q => ∃ (c : Int) (k : Nat), seqOf m x = some (List.replicate (k + 1) (.int c)) ∧ (∀ ys, x ≠ .tup ys) ∧ k < 63 ∧ Q (.int 1) m := by funext x m Q; unfold xLs; rfl
theorem r_lset {a : I} (h : xE G a sl m fun x m1 => xLs x m1 Q) : xE G (.lset a) sl m Q := by
  simp only [xE_eq, xLs_eq] at h ⊢
  exact h
theorem l_set {n k : Nat} {c : Int} {xs : List D} (e : m[n]? = some (.lst xs)) (ex : xs = List.replicate (k + 1) (.int c)) (hk : k < 63) (h : Q (.int 1) m) : xLs (.loc n) m Q := by
  subst ex
  simp only [xLs_eq]
  exact ⟨c, k, seq_loc e, (fun _ z => nomatch z), hk, h⟩
end
end Ab

namespace P78
open PySem PySem.Spec PyProof.Rows L2 Ab
local macro_rules | `(tactic| infer_instance) => `(tactic| (refine r_ss ?_))
local macro_rules | `(tactic| infer_instance) => `(tactic| (refine r_orv ?_))
local macro_rules | `(tactic| infer_instance) => `(tactic| (refine r_mth rfl ?_))
local macro_rules | `(tactic| infer_instance) => `(tactic| (refine r_fld ?_))
local macro_rules | `(tactic| infer_instance) => `(tactic| (refine r_comp ?_))
local macro_rules | `(tactic| infer_instance) => `(tactic| (refine r_rvi ?_))
local macro_rules | `(tactic| infer_instance) => `(tactic| (refine r_itm ?_))
local macro_rules | `(tactic| infer_instance) => `(tactic| (refine r_lval ?_))
local macro_rules | `(tactic| infer_instance) => `(tactic| (refine r_lset ?_))
local macro_rules | `(tactic| infer_instance) => `(tactic| (refine r_lrg ?_))
local macro_rules | `(tactic| infer_instance) => `(tactic| (refine r_rvl ?_))
local macro_rules | `(tactic| infer_instance) => `(tactic| (refine r_isT ?_))
local macro_rules | `(tactic| infer_instance) => `(tactic| (refine r_ce0 ?_))
local macro_rules | `(tactic| infer_instance) => `(tactic| (refine r_ce ?_))
local macro_rules | `(tactic| infer_instance) => `(tactic| (refine r_dis rfl ?_))
local macro_rules | `(tactic| infer_instance) => `(tactic| (refine r_dnew ?_))
local macro_rules | `(tactic| infer_instance) => `(tactic| (refine r_fz ?_))
local macro_rules | `(tactic| infer_instance) => `(tactic| (refine r_dm ?_))
local macro_rules | `(tactic| infer_instance) => `(tactic| (refine r_sm ?_))
local macro_rules | `(tactic| infer_instance) => `(tactic| (refine r_mt ?_))
local macro_rules | `(tactic| infer_instance) => `(tactic| (refine r_pt ?_))
local macro_rules | `(tactic| infer_instance) => `(tactic| (refine r_sl ?_))
local macro_rules | `(tactic| infer_instance) => `(tactic| (refine r_con rfl ?_))
local macro_rules | `(tactic| infer_instance) => `(tactic| (refine r_zip ?_))
local macro_rules | `(tactic| infer_instance) => `(tactic| (refine r_enm ?_))
local macro_rules | `(tactic| infer_instance) => `(tactic| (refine r_rng ?_))
local macro_rules | `(tactic| infer_instance) => `(tactic| (refine r_seq ?_))
local macro_rules | `(tactic| infer_instance) => `(tactic| (refine r_dii ?_))
local macro_rules | `(tactic| infer_instance) => `(tactic| (refine r_isi ?_))
local macro_rules | `(tactic| infer_instance) => `(tactic| (refine r_chn ?_))
local macro_rules | `(tactic| infer_instance) => `(tactic| (refine r_non ?_))
local macro_rules | `(tactic| infer_instance) => `(tactic| (refine r_str ?_))
local macro_rules | `(tactic| infer_instance) => `(tactic| (refine r_bl ?_))
local macro_rules | `(tactic| infer_instance) => `(tactic| (refine r_neg ?_))
local macro_rules | `(tactic| infer_instance) => `(tactic| (refine r_lst ?_))
local macro_rules | `(tactic| infer_instance) => `(tactic| (refine r_tup ?_))
local macro_rules | `(tactic| infer_instance) => `(tactic| (refine r_ite ?_))
local macro_rules | `(tactic| infer_instance) => `(tactic| (refine r_tru ?_))
local macro_rules | `(tactic| infer_instance) => `(tactic| (refine r_not ?_))
local macro_rules | `(tactic| infer_instance) => `(tactic| (refine r_one ?_))
local macro_rules | `(tactic| infer_instance) => `(tactic| (refine r_or ?_))
local macro_rules | `(tactic| infer_instance) => `(tactic| (refine r_and ?_))
local macro_rules | `(tactic| infer_instance) => `(tactic| (refine r_cmp ?_))
local macro_rules | `(tactic| infer_instance) => `(tactic| (refine r_bi ?_))
local macro_rules | `(tactic| infer_instance) => `(tactic| (refine r_call ?_))
local macro_rules | `(tactic| infer_instance) => `(tactic| (refine r_ix ?_))
local macro_rules | `(tactic| infer_instance) => `(tactic| (refine r_nil ?_))
local macro_rules | `(tactic| infer_instance) => `(tactic| (refine r_cons ?_))
local macro_rules | `(tactic| infer_instance) => `(tactic| (refine r_bin ?_))
local macro_rules | `(tactic| infer_instance) => `(tactic| (refine r_int ?_))
local macro_rules | `(tactic| infer_instance) => `(tactic| (refine r_var rfl ?_))
local macro_rules | `(tactic| ac_rfl) => `(tactic| (refine q_sfld ?_))
local macro_rules | `(tactic| ac_rfl) => `(tactic| (refine q_asgc ?_))
local macro_rules | `(tactic| ac_rfl) => `(tactic| (refine q_gc ?_))
local macro_rules | `(tactic| ac_rfl) => `(tactic| (refine q_for ?_))
local macro_rules | `(tactic| ac_rfl) => `(tactic| (refine q_cnt ?_))
local macro_rules | `(tactic| ac_rfl) => `(tactic| (refine q_brk ?_))
local macro_rules | `(tactic| ac_rfl) => `(tactic| (refine q_retn ?_))
local macro_rules | `(tactic| ac_rfl) => `(tactic| (refine q_ex ?_))
local macro_rules | `(tactic| ac_rfl) => `(tactic| (refine q_aug rfl ?_))
local macro_rules | `(tactic| ac_rfl) => `(tactic| (refine q_par3 ?_))
local macro_rules | `(tactic| ac_rfl) => `(tactic| (refine q_par ?_))
local macro_rules | `(tactic| ac_rfl) => `(tactic| (refine q_sset ?_))
local macro_rules | `(tactic| ac_rfl) => `(tactic| (refine q_swp ?_))
local macro_rules | `(tactic| ac_rfl) => `(tactic| (refine q_ret ?_))
local macro_rules | `(tactic| ac_rfl) => `(tactic| (refine q_sif ?_))
local macro_rules | `(tactic| ac_rfl) => `(tactic| (refine q_skip ?_))
local macro_rules | `(tactic| ac_rfl) => `(tactic| (refine q_asgl ?_))
local macro_rules | `(tactic| ac_rfl) => `(tactic| (refine q_asg ?_))
local macro_rules | `(tactic| ac_rfl) => `(tactic| (refine q_blk ?_))
local macro_rules | `(tactic| eq_refl) => `(tactic| ((refine o_addT ?_ ?_; rotate_left)))
local macro_rules | `(tactic| eq_refl) => `(tactic| (refine o_band ?_))
local macro_rules | `(tactic| eq_refl) => `(tactic| ((refine o_shr ?_ ?_; rotate_left)))
local macro_rules | `(tactic| eq_refl) => `(tactic| ((refine o_shl ?_ ?_; rotate_left)))
local macro_rules | `(tactic| eq_refl) => `(tactic| ((refine o_pow ?_ ?_; rotate_left)))
local macro_rules | `(tactic| eq_refl) => `(tactic| ((refine o_fdiv ?_ ?_; rotate_left)))
local macro_rules | `(tactic| eq_refl) => `(tactic| ((refine o_mod ?_ ?_; rotate_left)))
local macro_rules | `(tactic| eq_refl) => `(tactic| (refine o_mod (by omega) ?_))
local macro_rules | `(tactic| eq_refl) => `(tactic| ((refine o_mul ?_ ?_; rotate_left)))
local macro_rules | `(tactic| eq_refl) => `(tactic| (refine o_mul (mul_64 (by omega) (by omega) (by omega) (by omega)) ?_))
local macro_rules | `(tactic| eq_refl) => `(tactic| (refine o_pow ⟨by decide, by decide +kernel⟩ ?_))
local macro_rules | `(tactic| eq_refl) => `(tactic| (refine o_p54 ?_))
local macro_rules | `(tactic| eq_refl) => `(tactic| (refine o_p48 ?_))
local macro_rules | `(tactic| eq_refl) => `(tactic| (refine o_p45 ?_))
local macro_rules | `(tactic| eq_refl) => `(tactic| (refine o_p40 ?_))
local macro_rules | `(tactic| eq_refl) => `(tactic| (refine o_p30 ?_))
local macro_rules | `(tactic| eq_refl) => `(tactic| (refine o_p24 ?_))
local macro_rules | `(tactic| eq_refl) => `(tactic| (refine o_p20 ?_))
local macro_rules | `(tactic| eq_refl) => `(tactic| (refine o_p6 ?_))
local macro_rules | `(tactic| eq_refl) => `(tactic| (refine o_p5 ?_))
local macro_rules | `(tactic| eq_refl) => `(tactic| (refine o_p4 ?_))
local macro_rules | `(tactic| eq_refl) => `(tactic| (refine o_p3 ?_))
local macro_rules | `(tactic| eq_refl) => `(tactic| (refine o_p2 ?_))
local macro_rules | `(tactic| eq_refl) => `(tactic| (refine o_p1 ?_))
local macro_rules | `(tactic| eq_refl) => `(tactic| (refine o_p12 ?_))
local macro_rules | `(tactic| eq_refl) => `(tactic| (refine o_p36 ?_))
local macro_rules | `(tactic| eq_refl) => `(tactic| (refine o_p60 ?_))
local macro_rules | `(tactic| eq_refl) => `(tactic| (refine o_p18 ?_))
local macro_rules | `(tactic| eq_refl) => `(tactic| (refine o_p16 ?_))
local macro_rules | `(tactic| eq_refl) => `(tactic| (refine o_p9 ?_))
local macro_rules | `(tactic| eq_refl) => `(tactic| (refine o_fdiv ⟨by decide, by decide +kernel⟩ ?_))
local macro_rules | `(tactic| eq_refl) => `(tactic| (refine o_mod (by decide) ?_))
local macro_rules | `(tactic| eq_refl) => `(tactic| (refine o_sub ?_))
local macro_rules | `(tactic| eq_refl) => `(tactic| (refine o_add ?_))
local macro_rules | `(tactic| left) => `(tactic| (refine c_notN ?_))
local macro_rules | `(tactic| left) => `(tactic| (refine c_isB ?_))
local macro_rules | `(tactic| left) => `(tactic| (refine c_isN ?_))
local macro_rules | `(tactic| left) => `(tactic| (refine c_ne_bl ?_))
local macro_rules | `(tactic| left) => `(tactic| (refine c_ne_str ?_))
local macro_rules | `(tactic| left) => `(tactic| (refine c_ne_int ?_))
local macro_rules | `(tactic| left) => `(tactic| (refine c_eq_bl ?_))
local macro_rules | `(tactic| left) => `(tactic| (refine c_eq_str ?_))
local macro_rules | `(tactic| left) => `(tactic| (refine c_eq_int ?_))
local macro_rules | `(tactic| left) => `(tactic| (refine c_ge ?_))
local macro_rules | `(tactic| left) => `(tactic| (refine c_gt ?_))
local macro_rules | `(tactic| left) => `(tactic| (refine c_le ?_))
local macro_rules | `(tactic| left) => `(tactic| (refine c_lt ?_))
local macro_rules | `(tactic| right) => `(tactic| ((apply y_loc_list; first | exact at_new | assumption | exact at_app (by assumption) | exact at_set (by assumption))))
local macro_rules | `(tactic| right) => `(tactic| (refine y_dic_list ?_))
local macro_rules | `(tactic| right) => `(tactic| (refine y_ro_list ?_))
local macro_rules | `(tactic| right) => `(tactic| (refine y_tup_list ?_))
local macro_rules | `(tactic| right) => `(tactic| (refine y_str_list ?_))
local macro_rules | `(tactic| right) => `(tactic| (refine y_non_list ?_))
local macro_rules | `(tactic| right) => `(tactic| (refine y_bl_list ?_))
local macro_rules | `(tactic| right) => `(tactic| (refine y_int_list ?_))
local macro_rules | `(tactic| right) => `(tactic| ((apply y_loc_str; first | exact at_new | assumption | exact at_app (by assumption) | exact at_set (by assumption))))
local macro_rules | `(tactic| right) => `(tactic| (refine y_dic_str ?_))
local macro_rules | `(tactic| right) => `(tactic| (refine y_ro_str ?_))
local macro_rules | `(tactic| right) => `(tactic| (refine y_tup_str ?_))
local macro_rules | `(tactic| right) => `(tactic| (refine y_str_str ?_))
local macro_rules | `(tactic| right) => `(tactic| (refine y_non_str ?_))
local macro_rules | `(tactic| right) => `(tactic| (refine y_bl_str ?_))
local macro_rules | `(tactic| right) => `(tactic| (refine y_int_str ?_))
local macro_rules | `(tactic| right) => `(tactic| ((apply y_loc_tuple; first | exact at_new | assumption | exact at_app (by assumption) | exact at_set (by assumption))))
local macro_rules | `(tactic| right) => `(tactic| (refine y_dic_tuple ?_))
local macro_rules | `(tactic| right) => `(tactic| (refine y_ro_tuple ?_))
local macro_rules | `(tactic| right) => `(tactic| (refine y_tup_tuple ?_))
local macro_rules | `(tactic| right) => `(tactic| (refine y_str_tuple ?_))
local macro_rules | `(tactic| right) => `(tactic| (refine y_non_tuple ?_))
local macro_rules | `(tactic| right) => `(tactic| (refine y_bl_tuple ?_))
local macro_rules | `(tactic| right) => `(tactic| (refine y_int_tuple ?_))
local macro_rules | `(tactic| right) => `(tactic| ((apply y_loc_bool; first | exact at_new | assumption | exact at_app (by assumption) | exact at_set (by assumption))))
local macro_rules | `(tactic| right) => `(tactic| (refine y_dic_bool ?_))
local macro_rules | `(tactic| right) => `(tactic| (refine y_ro_bool ?_))
local macro_rules | `(tactic| right) => `(tactic| (refine y_tup_bool ?_))
local macro_rules | `(tactic| right) => `(tactic| (refine y_str_bool ?_))
local macro_rules | `(tactic| right) => `(tactic| (refine y_non_bool ?_))
local macro_rules | `(tactic| right) => `(tactic| (refine y_bl_bool ?_))
local macro_rules | `(tactic| right) => `(tactic| (refine y_int_bool ?_))
local macro_rules | `(tactic| right) => `(tactic| ((apply y_loc_int; first | exact at_new | assumption | exact at_app (by assumption) | exact at_set (by assumption))))
local macro_rules | `(tactic| right) => `(tactic| (refine y_dic_int ?_))
local macro_rules | `(tactic| right) => `(tactic| (refine y_ro_int ?_))
local macro_rules | `(tactic| right) => `(tactic| (refine y_tup_int ?_))
local macro_rules | `(tactic| right) => `(tactic| (refine y_str_int ?_))
local macro_rules | `(tactic| right) => `(tactic| (refine y_non_int ?_))
local macro_rules | `(tactic| right) => `(tactic| (refine y_bl_int ?_))
local macro_rules | `(tactic| right) => `(tactic| (refine y_int_int ?_))
local macro_rules | `(tactic| apply_rfl) => `(tactic| (refine k_strS ?_))
local macro_rules | `(tactic| apply_rfl) => `(tactic| ((refine k_divmod ?_ ?_; rotate_left)))
local macro_rules | `(tactic| apply_rfl) => `(tactic| ((apply k_list; exact rfl)))
local macro_rules | `(tactic| apply_rfl) => `(tactic| ((apply k_tuple; (first | exact rfl | exact seq_loc at_new | exact seq_loc (by assumption)))))
local macro_rules | `(tactic| apply_rfl) => `(tactic| ((apply k_len; (first | exact rfl | exact seq_loc at_new | exact seq_loc (by assumption)))))
local macro_rules | `(tactic| apply_rfl) => `(tactic| (refine k_intI ?_))
local macro_rules | `(tactic| apply_rfl) => `(tactic| (refine k_min ?_))
local macro_rules | `(tactic| apply_rfl) => `(tactic| (refine k_max ?_))
local macro_rules | `(tactic| apply_rfl) => `(tactic| (refine k_abs ?_))
local macro_rules | `(tactic| fail) => `(tactic| ((refine ⟨⟨_, ?xs, rfl, ?e⟩, ?_⟩; case e => (first | exact at_new | assumption | exact at_app at_new | exact at_app (by assumption) | exact at_set (by assumption)))))
local macro_rules | `(tactic| fail) => `(tactic| (refine ⟨⟨_, rfl⟩, ?_⟩))
local macro_rules | `(tactic| fail) => `(tactic| (refine ⟨_, _, _, rfl, ?_⟩))
local macro_rules | `(tactic| fail) => `(tactic| (refine ⟨_, _, rfl, ?_⟩))
local macro_rules | `(tactic| fail) => `(tactic| (refine ⟨lenOk rfl, ?_⟩))
local macro_rules | `(tactic| fail) => `(tactic| (refine ⟨_, _, rfl, at_new, rfl, ?_⟩))
local macro_rules | `(tactic| fail) => `(tactic| (refine yT_dic_tuple_list ?_))
local macro_rules | `(tactic| fail) => `(tactic| (refine yT_ro_tuple_list ?_))
local macro_rules | `(tactic| fail) => `(tactic| (refine yT_tup_tuple_list ?_))
local macro_rules | `(tactic| fail) => `(tactic| (refine yT_str_tuple_list ?_))
local macro_rules | `(tactic| fail) => `(tactic| (refine yT_non_tuple_list ?_))
local macro_rules | `(tactic| fail) => `(tactic| (refine yT_bl_tuple_list ?_))
local macro_rules | `(tactic| fail) => `(tactic| (refine yT_int_tuple_list ?_))
local macro_rules | `(tactic| fail) => `(tactic| ((apply w_seq; (first | exact rfl | exact seq_loc at_new | exact seq_loc (by assumption)))))
local macro_rules | `(tactic| fail) => `(tactic| ((refine w_rng2 ?_ ?_; rotate_left)))
local macro_rules | `(tactic| fail) => `(tactic| (refine w_rng2 (by omega) ?_))
local macro_rules | `(tactic| fail) => `(tactic| ((refine w_rng1 ?_ ?_ ?_; rotate_left 2)))
local macro_rules | `(tactic| fail) => `(tactic| (refine w_rng1 (by omega) (by omega) ?_))
local macro_rules | `(tactic| fail) => `(tactic| (refine w_dic ?_))
local macro_rules | `(tactic| fail) => `(tactic| (refine w_str ?_))
local macro_rules | `(tactic| fail) => `(tactic| (refine w_itm ?_))
local macro_rules | `(tactic| fail) => `(tactic| (refine w_zipA rfl rfl ?_))
local macro_rules | `(tactic| fail) => `(tactic| (refine w_enm rfl ?_))
local macro_rules | `(tactic| fail) => `(tactic| (refine g_nil ?_))
local macro_rules | `(tactic| fail) => `(tactic| (refine g_cons ?_))
local macro_rules | `(tactic| fail) => `(tactic| (refine g_tt rfl ?_))
local macro_rules | `(tactic| fail) => `(tactic| (refine mo_obj rfl ?_))
local macro_rules | `(tactic| fail) => `(tactic| (refine fl_obj rfl rfl ?_))
local macro_rules | `(tactic| fail) => `(tactic| (refine l_val ?_))
local macro_rules | `(tactic| fail) => `(tactic| ((apply m_clear; (first | exact at_new | assumption))))
local macro_rules | `(tactic| fail) => `(tactic| (refine v_tup ?_))
local macro_rules | `(tactic| fail) => `(tactic| (refine v_ro ?_))
local macro_rules | `(tactic| fail) => `(tactic| ((apply v_loc; (first | exact at_new | assumption))))
local macro_rules | `(tactic| fail) => `(tactic| ((apply m_append; (first | exact at_new | assumption); rotate_left)))
local macro_rules | `(tactic| fail) => `(tactic| (refine z_fzd at_new ?_))
local macro_rules | `(tactic| fail) => `(tactic| ((apply z_loc; (first | assumption | exact at_new))))
local macro_rules | `(tactic| fail) => `(tactic| (refine z_tup ?_))
local macro_rules | `(tactic| fail) => `(tactic| (refine z_ro ?_))
local macro_rules | `(tactic| fail) => `(tactic| (refine t_p1 ?_))
local macro_rules | `(tactic| fail) => `(tactic| (refine t_p0 ?_))
local macro_rules | `(tactic| fail) => `(tactic| (show xK _ _ _ _; apply_rfl))
local macro_rules | `(tactic| fail) => `(tactic| (show xY _ _ _ _; right))
local macro_rules | `(tactic| fail) => `(tactic| (show xO _ _ _ _ _; eq_refl))
local macro_rules | `(tactic| fail) => `(tactic| (show xC _ _ _ _ _; left))
local macro_rules | `(tactic| fail) => `(tactic| ((apply t_set; (first | assumption | exact at_set (by assumption)); rfl)))
local macro_rules | `(tactic| fail) => `(tactic| ((apply x_loc; (first | exact at_new | assumption | exact at_set (by assumption) | exact at_app (by assumption)); rfl)))
local macro_rules | `(tactic| fail) => `(tactic| (refine x_ro rfl ?_))
local macro_rules | `(tactic| fail) => `(tactic| (refine x_tup rfl ?_))
local macro_rules | `(tactic| fail) => `(tactic| (refine v_sub ?_))
local macro_rules | `(tactic| fail) => `(tactic| (refine v_add ?_))
local macro_rules | `(tactic| fail) => `(tactic| (refine u_bl ?_))
local macro_rules | `(tactic| fail) => `(tactic| (refine f_F rfl ?_))
local macro_rules | `(tactic| fail) => `(tactic| (refine f_T rfl ?_))
local macro_rules | `(tactic| fail) => `(tactic| (refine t_int ?_))
local macro_rules | `(tactic| fail) => `(tactic| (refine t_bl ?_))
local macro_rules | `(tactic| fail) => `(tactic| (refine t_tup ?_))
local macro_rules | `(tactic| fail) => `(tactic| (refine n_set (by (first | (simp only [slots, List.map_cons, List.map_nil, List.length_cons, List.length_nil, Nat.zero_add, Nat.reduceAdd, Nat.reduceSub, List.replicate_succ, List.replicate_zero, List.cons_append, List.nil_append, List.set_cons_succ, List.set_cons_zero]; done) | (simp only [slots, List.map_cons, List.map_nil, List.length_cons, List.length_nil, Nat.zero_add, Nat.reduceAdd, Nat.reduceSub, List.replicate_succ, List.replicate_zero, List.cons_append, List.nil_append, List.set_cons_succ, List.set_cons_zero]; rfl) | rfl)) ?_))
local macro_rules | `(tactic| fail) => `(tactic| (refine g_tnN (by (first | (simp only [slots, List.map_cons, List.map_nil, List.length_cons, List.length_nil, Nat.zero_add, Nat.reduceAdd, Nat.reduceSub, List.replicate_succ, List.replicate_zero, List.cons_append, List.nil_append, List.set_cons_succ, List.set_cons_zero]; done) | (simp only [slots, List.map_cons, List.map_nil, List.length_cons, List.length_nil, Nat.zero_add, Nat.reduceAdd, Nat.reduceSub, List.replicate_succ, List.replicate_zero, List.cons_append, List.nil_append, List.set_cons_succ, List.set_cons_zero]; rfl) | rfl)) ?_))
local macro_rules | `(tactic| fail) => `(tactic| (show xS _ _ _ _ _ _; ac_rfl))
local macro_rules | `(tactic| fail) => `(tactic| (show xE _ _ _ _ _; infer_instance))
local macro_rules | `(tactic| and_intros) => `(tactic| repeat fail)
local macro_rules | `(tactic| subst_vars) => `(tactic| repeat (first | refine r_var rfl ?_ | refine r_int ?_ | refine r_bin ?_ | refine q_asg ?_ | refine q_asgl ?_ | refine ⟨_, _, rfl, at_new, rfl, ?_⟩ | refine g_tnN (by (first | (simp only [slots, List.map_cons, List.map_nil, List.length_cons, List.length_nil, Nat.zero_add, Nat.reduceAdd, Nat.reduceSub, List.replicate_succ, List.replicate_zero, List.cons_append, List.nil_append, List.set_cons_succ, List.set_cons_zero]; done) | (simp only [slots, List.map_cons, List.map_nil, List.length_cons, List.length_nil, Nat.zero_add, Nat.reduceAdd, Nat.reduceSub, List.replicate_succ, List.replicate_zero, List.cons_append, List.nil_append, List.set_cons_succ, List.set_cons_zero]; rfl) | rfl)) ?_ | refine n_set (by (first | (simp only [slots, List.map_cons, List.map_nil, List.length_cons, List.length_nil, Nat.zero_add, Nat.reduceAdd, Nat.reduceSub, List.replicate_succ, List.replicate_zero, List.cons_append, List.nil_append, List.set_cons_succ, List.set_cons_zero]; done) | (simp only [slots, List.map_cons, List.map_nil, List.length_cons, List.length_nil, Nat.zero_add, Nat.reduceAdd, Nat.reduceSub, List.replicate_succ, List.replicate_zero, List.cons_append, List.nil_append, List.set_cons_succ, List.set_cons_zero]; rfl) | rfl)) ?_ | refine r_cons ?_ | refine r_nil ?_ | refine t_tup ?_ | refine q_skip ?_ | refine r_ix ?_ | refine r_call ?_ | refine r_bi ?_ | refine r_cmp ?_ | refine q_sif ?_ | refine q_ret ?_ | refine t_bl ?_ | refine t_int ?_ | refine r_and ?_ | refine r_or ?_ | refine r_one ?_ | refine r_not ?_ | refine r_tru ?_ | refine r_ite ?_ | refine f_T rfl ?_ | refine f_F rfl ?_ | refine u_bl ?_ | refine o_add ?_ | refine o_sub ?_ | refine v_add ?_ | refine v_sub ?_ | refine o_mod (by decide) ?_ | refine o_fdiv ⟨by decide, by decide +kernel⟩ ?_ | refine o_p9 ?_ | refine o_p16 ?_ | refine o_p18 ?_ | refine o_p60 ?_ | refine o_p36 ?_ | refine o_p12 ?_ | refine o_p1 ?_ | refine o_p2 ?_ | refine o_p3 ?_ | refine o_p4 ?_ | refine o_p5 ?_ | refine o_p6 ?_ | refine o_p20 ?_ | refine o_p24 ?_ | refine o_p30 ?_ | refine o_p40 ?_ | refine o_p45 ?_ | refine o_p48 ?_ | refine o_p54 ?_ | refine o_pow ⟨by decide, by decide +kernel⟩ ?_ | refine o_mul (mul_64 (by omega) (by omega) (by omega) (by omega)) ?_ | (refine o_mul ?_ ?_; rotate_left) | refine o_mod (by omega) ?_ | (refine o_mod ?_ ?_; rotate_left) | (refine o_fdiv ?_ ?_; rotate_left) | (refine o_pow ?_ ?_; rotate_left) | (refine o_shl ?_ ?_; rotate_left) | (refine o_shr ?_ ?_; rotate_left) | refine o_band ?_ | (refine o_addT ?_ ?_; rotate_left) | refine c_lt ?_ | refine c_le ?_ | refine c_gt ?_ | refine c_ge ?_ | refine c_eq_int ?_ | refine c_eq_str ?_ | refine c_eq_bl ?_ | refine c_ne_int ?_ | refine c_ne_str ?_ | refine c_ne_bl ?_ | refine c_isN ?_ | refine c_isB ?_ | refine c_notN ?_ | refine x_tup rfl ?_ | refine x_ro rfl ?_ | (apply x_loc; (first | exact at_new | assumption | exact at_set (by assumption) | exact at_app (by assumption)); rfl) | refine r_tup ?_ | refine ⟨lenOk rfl, ?_⟩ | refine r_lst ?_ | refine r_neg ?_ | refine r_bl ?_ | refine r_str ?_ | refine r_non ?_ | refine r_chn ?_ | refine r_isi ?_ | refine y_int_int ?_ | refine y_bl_int ?_ | refine y_non_int ?_ | refine y_str_int ?_ | refine y_tup_int ?_ | refine y_ro_int ?_ | refine y_dic_int ?_ | (apply y_loc_int; first | exact at_new | assumption | exact at_app (by assumption) | exact at_set (by assumption)) | refine y_int_bool ?_ | refine y_bl_bool ?_ | refine y_non_bool ?_ | refine y_str_bool ?_ | refine y_tup_bool ?_ | refine y_ro_bool ?_ | refine y_dic_bool ?_ | (apply y_loc_bool; first | exact at_new | assumption | exact at_app (by assumption) | exact at_set (by assumption)) | refine y_int_tuple ?_ | refine y_bl_tuple ?_ | refine y_non_tuple ?_ | refine y_str_tuple ?_ | refine y_tup_tuple ?_ | refine y_ro_tuple ?_ | refine y_dic_tuple ?_ | (apply y_loc_tuple; first | exact at_new | assumption | exact at_app (by assumption) | exact at_set (by assumption)) | refine y_int_str ?_ | refine y_bl_str ?_ | refine y_non_str ?_ | refine y_str_str ?_ | refine y_tup_str ?_ | refine y_ro_str ?_ | refine y_dic_str ?_ | (apply y_loc_str; first | exact at_new | assumption | exact at_app (by assumption) | exact at_set (by assumption)) | refine y_int_list ?_ | refine y_bl_list ?_ | refine y_non_list ?_ | refine y_str_list ?_ | refine y_tup_list ?_ | refine y_ro_list ?_ | refine y_dic_list ?_ | (apply y_loc_list; first | exact at_new | assumption | exact at_app (by assumption) | exact at_set (by assumption)) | refine k_abs ?_ | refine k_max ?_ | refine k_min ?_ | refine k_intI ?_ | (apply k_len; (first | exact rfl | exact seq_loc at_new | exact seq_loc (by assumption))) | (apply k_tuple; (first | exact rfl | exact seq_loc at_new | exact seq_loc (by assumption))) | (apply k_list; exact rfl) | (refine k_divmod ?_ ?_; rotate_left) | refine q_swp ?_ | refine r_dii ?_ | refine q_sset ?_ | (apply t_set; (first | assumption | exact at_set (by assumption)); rfl) | refine q_par ?_ | refine ⟨_, _, rfl, ?_⟩ | refine q_par3 ?_ | refine ⟨_, _, _, rfl, ?_⟩ | refine q_aug rfl ?_ | refine q_ex ?_ | refine q_retn ?_ | refine q_brk ?_ | refine q_cnt ?_ | refine q_for ?_ | refine q_gc ?_ | refine r_seq ?_ | refine r_rng ?_ | refine r_enm ?_ | refine r_zip ?_ | refine r_con rfl ?_ | refine r_sl ?_ | refine r_pt ?_ | refine t_p0 ?_ | refine t_p1 ?_ | refine z_ro ?_ | refine z_tup ?_ | (apply z_loc; (first | assumption | exact at_new)) | refine r_mt ?_ | refine ⟨⟨_, rfl⟩, ?_⟩ | (refine ⟨⟨_, ?xs, rfl, ?e⟩, ?_⟩; case e => (first | exact at_new | assumption | exact at_app at_new | exact at_app (by assumption) | exact at_set (by assumption))) | refine r_sm ?_ | refine r_dm ?_ | refine r_fz ?_ | refine r_dnew ?_ | refine r_dis rfl ?_ | refine r_ce ?_ | refine r_ce0 ?_ | refine r_isT ?_ | refine z_fzd at_new ?_ | refine yT_int_tuple_list ?_ | refine yT_bl_tuple_list ?_ | refine yT_non_tuple_list ?_ | refine yT_str_tuple_list ?_ | refine yT_tup_tuple_list ?_ | refine yT_ro_tuple_list ?_ | refine yT_dic_tuple_list ?_ | (apply m_append; (first | exact at_new | assumption); rotate_left) | refine w_enm rfl ?_ | refine w_zipA rfl rfl ?_ | refine r_rvl ?_ | (apply v_loc; (first | exact at_new | assumption)) | refine v_ro ?_ | refine v_tup ?_ | (apply m_clear; (first | exact at_new | assumption)) | refine r_lrg ?_ | refine r_lset ?_ | refine k_strS ?_ | refine r_lval ?_ | refine r_itm ?_ | refine r_rvi ?_ | refine w_itm ?_ | refine l_val ?_ | refine r_comp ?_ | refine q_asgc ?_ | refine r_fld ?_ | refine fl_obj rfl rfl ?_ | refine r_mth rfl ?_ | refine mo_obj rfl ?_ | refine r_orv ?_ | refine q_sfld ?_ | refine r_ss ?_ | refine w_str ?_ | refine w_dic ?_ | refine g_tt rfl ?_ | refine g_cons ?_ | refine g_nil ?_ | refine w_rng1 (by omega) (by omega) ?_ | (refine w_rng1 ?_ ?_ ?_; rotate_left 2) | refine w_rng2 (by omega) ?_ | (refine w_rng2 ?_ ?_; rotate_left) | (apply w_seq; (first | exact rfl | exact seq_loc at_new | exact seq_loc (by assumption)))))
@[irreducible] def i_law_pot_k0 : I := (.blk (.asg (.tn 3) (.bin .mul (.bin .mod (.bi .abs (.cons (.var 2) .nil)) (.bin .pow (.bin .pow (.int 10) (.int 60)) (.int 16))) (.bi .int (.cons (.cmp .ge (.bi .abs (.cons (.var 2) .nil)) (.bin .pow (.int 10) (.int 18))) .nil)))) (.blk (.ret (.lst (.cons (.var 3) (.cons (.bin .mod (.bin .mul (.bin .add (.bin .add (.bin .mod (.var 2) (.int 2147483629)) (.bin .mul (.bin .mul (.int 7919) (.var 1)) (.var 1))) (.int 11)) (.int 48271)) (.int 2147483647)) .nil)))) .skip))
def i_law_pot : I := (.blk (.asg (.tn 2) (.int 0)) (.blk (.sif (.cmp .gt (.bi .len (.cons (.var 0) .nil)) (.int 0)) (.blk (.asg (.tn 2) (.ix (.var 0) (.bin .mod (.var 1) (.bi .len (.cons (.var 0) .nil))))) .skip) .skip) i_law_pot_k0))
@[reducible] def i_law_take_j0 : I := (.blk (.sset (.var 0) (.int 1) (.bin .mod (.bin .add (.bin .mul (.ix (.var 0) (.int 1)) (.int 48271)) (.int 12345)) (.int 2147483647))) (.blk (.ret (.bin .mod (.bin .fdiv (.bin .mod (.bin .mul (.ix (.var 0) (.int 1)) (.bin .add (.bin .mod (.ix (.var 0) (.int 1)) (.int 40009)) (.int 7))) (.int 2147483629)) (.int 7)) (.var 1))) .skip))
def i_law_take : I := (.blk (.sif (.cmp .gt (.ix (.var 0) (.int 0)) (.int 0)) (.blk (.asg (.tn 2) (.bin .mod (.ix (.var 0) (.int 0)) (.var 1))) (.blk (.sset (.var 0) (.int 0) (.bin .fdiv (.ix (.var 0) (.int 0)) (.var 1))) (.blk (.ret (.var 2)) .skip))) .skip) i_law_take_j0)
@[reducible] def i_law_number_b0 : I := (.blk (.asg (.tn 2) (.bin .add (.bin .mul (.var 2) (.bin .pow (.int 10) (.int 9))) (.call 0 (.cons (.var 0) (.cons (.bin .pow (.int 10) (.int 9)) .nil))))) .skip)
@[irreducible] def i_law_number_k1 : I := (.blk (.ret (.bin .mod (.var 2) (.var 1))) .skip)
def i_law_number : I := (.blk (.asg (.tn 2) (.int 0)) (.blk (.for_ (.tn 3) (.rng (.cons (.int 7) .nil)) i_law_number_b0) i_law_number_k1))
@[reducible] def i_levels_b0 : I := (.blk (.asg (.tn 4) (.bin .add (.var 3) (.bin .fdiv (.bin .add (.bin .mul (.int 3) (.bin .sub (.var 2) (.int 1))) (.int 1)) (.int 2)))) (.blk (.ex (.mt .append (.var 1) (.cons (.tup (.cons (.var 2) (.cons (.var 3) (.cons (.bin .sub (.bin .add (.var 3) (.var 2)) (.int 1)) (.cons (.var 4) .nil))))) .nil))) (.blk (.par 2 3 (.cons (.bin .fdiv (.bin .add (.var 2) (.int 1)) (.int 2)) (.cons (.var 4) .nil))) .skip)))
@[irreducible] def i_levels_k1 : I := (.blk (.ret (.bi .tuple (.cons (.var 1) .nil))) .skip)
def i_levels : I := (.blk (.asg (.tn 1) (.lst .nil)) (.blk (.par 2 3 (.cons (.var 0) (.cons (.int 0) .nil))) (.blk (.whl (.cmp .ge (.var 2) (.con 0)) i_levels_b0) i_levels_k1)))
@[reducible] def i_ones_b0 : I := (.blk (.asg (.tt (.cons (.tn 0) (.cons (.tn 2) .nil))) (.bi .divmod (.cons (.var 0) (.cons (.int 2) .nil)))) (.blk (.aug 1 .add (.var 2)) .skip))
@[irreducible] def i_ones_k1 : I := (.blk (.ret (.var 1)) .skip)
def i_ones : I := (.blk (.asg (.tn 1) (.int 0)) (.blk (.whl (.cmp .gt (.var 0) (.int 0)) i_ones_b0) i_ones_k1))
@[reducible] def i_row_beat_j0 : I := (.blk (.ret (.bin .sub (.bin .sub (.bin .mul (.int 3) (.bin .sub (.var 0) (.int 1))) (.call 0 (.cons (.bin .sub (.var 0) (.int 1)) .nil))) (.int 1))) .skip)
def i_row_beat : I := (.blk (.sif (.cmp .lt (.var 0) (.int 3)) (.blk (.ret (.var 0)) .skip) .skip) i_row_beat_j0)
@[reducible] def i_part_with_j0 : I := (.blk (.ret (.tup (.cons (.bin .add (.var 0) (.bin .fdiv (.var 3) (.int 2))) (.cons (.var 1) (.cons (.int 0) .nil))))) .skip)
def i_part_with : I := (.blk (.asg (.tn 3) (.bin .add (.bin .sub (.var 1) (.var 0)) (.int 1))) (.blk (.asg (.tn 4) (.bin .add (.bin .sub (.bin .add (.var 0) (.bin .fdiv (.var 3) (.int 2))) (.int 1)) (.bin .mod (.var 3) (.int 2)))) (.blk (.sif (.cmp .le (.var 2) (.var 4)) (.blk (.ret (.tup (.cons (.var 0) (.cons (.var 4) (.cons (.int 1) .nil))))) .skip) .skip) i_part_with_j0)))
@[reducible] def i_wave_state_j0 : I := (.blk (.ret (.con 0)) .skip)
@[irreducible] def i_wave_state_j1 : I := (.blk (.sif (.cmp .eq (.var 2) (.bin .fdiv (.var 1) (.int 3))) (.blk (.ret (.ix (.var 3) (.bin .add (.int 1) (.bin .mod (.var 1) (.int 3))))) .skip) .skip) i_wave_state_j0)
@[reducible] def i_wave_state_j2 : I := (.blk (.sif (.and (.cmp .eq (.bin .add (.var 2) (.var 1)) (.bin .mul (.int 2) (.bin .sub (.var 0) (.int 1)))) (.one (.cmp .gt (.var 1) (.bin .sub (.var 0) (.int 1))))) (.blk (.ret (.ix (.var 4) (.int 0))) .skip) .skip) i_wave_state_j1)
def i_wave_state : I := (.blk (.sif (.cmp .eq (.var 2) (.var 1)) (.blk (.ret (.ix (.var 3) (.int 0))) .skip) .skip) i_wave_state_j2)
@[reducible] def i_end_state_j0 : I := (.blk (.ret (.str "p")) .skip)
@[reducible] def i_end_state_j1 : I := (.blk (.sif (.and (.tru (.var 2)) (.one (.cmp .lt (.var 1) (.bin .sub (.var 0) (.int 1))))) (.blk (.ret (.con 0)) .skip) .skip) i_end_state_j0)
def i_end_state : I := (.blk (.sif (.cmp .eq (.var 1) (.bin .sub (.var 0) (.int 1))) (.blk (.ret (.str "h")) .skip) .skip) i_end_state_j1)
@[reducible] def i_stretch_state_j0 : I := (.blk (.ret (.call 0 (.cons (.var 6) (.cons (.var 3) (.cons (.var 7) (.cons (.con 1) (.cons (.con 0) .nil))))))) .skip)
@[reducible] def i_stretch_state_j1 : I := (.blk (.sif (.cmp .eq (.var 2) (.int 0)) (.blk (.ret (.call 0 (.cons (.var 6) (.cons (.var 3) (.cons (.var 7) (.cons (.con 0) (.cons (.con 1) .nil))))))) .skip) .skip) i_stretch_state_j0)
@[reducible] def i_stretch_state_j2 : I := (.blk (.sif (.cmp .eq (.var 7) (.bin .sub (.var 6) (.int 1))) (.blk (.ret (.call 1 (.cons (.var 6) (.cons (.var 3) (.cons (.var 4) .nil))))) .skip) .skip) i_stretch_state_j1)
def i_stretch_state : I := (.blk (.asg (.tn 6) (.bin .add (.bin .sub (.var 1) (.var 0)) (.int 1))) (.blk (.asg (.tn 7) (.dr (.ix (.lst (.cons (.bin .sub (.var 5) (.var 0)) (.cons (.bin .sub (.var 1) (.var 5)) .nil))) (.var 2)))) (.blk (.sif (.cmp .eq (.var 7) (.int 0)) (.blk (.ret (.ix (.con 2) (.bi .min (.cons (.var 3) (.cons (.int 3) .nil))))) .skip) .skip) i_stretch_state_j2)))
@[reducible] def i_seen_j0 : I := (.blk (.asg (.tt (.cons (.tn 3) (.cons (.tn 4) (.cons (.tn 5) .nil)))) (.call 2 (.cons (.var 3) (.cons (.var 4) (.cons (.var 1) .nil))))) (.blk (.asg (.tn 6) (.var 10)) .skip))
@[reducible] def i_seen_b0 : I := (.blk (.sif (.cmp .lt (.var 2) (.var 10)) (.blk .brk .skip) .skip) i_seen_j0)
@[irreducible] def i_seen_k1 : I := (.blk (.ret (.call 0 (.cons (.var 3) (.cons (.var 4) (.cons (.var 5) (.cons (.bin .sub (.var 2) (.var 6)) (.cons (.cmp .eq (.var 6) (.int 0)) (.cons (.var 1) .nil)))))))) .skip)
@[reducible] def i_seen_j1 : I := (.blk (.par3 3 4 5 (.cons (.int 0) (.cons (.bin .sub (.var 0) (.int 1)) (.cons (.int 0) .nil)))) (.blk (.asg (.tn 6) (.int 0)) (.blk (.for_ (.tt (.cons (.tn 7) (.cons (.tn 8) (.cons (.tn 9) (.cons (.tn 10) .nil))))) (.seq (.call 1 (.cons (.var 0) .nil))) i_seen_b0) i_seen_k1)))
def i_seen : I := (.blk (.sif (.cmp .ge (.var 2) (.call 3 (.cons (.var 0) .nil))) (.blk (.ret (.con 0)) .skip) .skip) i_seen_j1)

def Pot (s : List D) : Prop := ∃ a b : Int, s = [.int a, .int b] ∧ 0 ≤ a ∧ a < 2 ^ 20000 ∧ 0 ≤ b ∧ b < 2 ^ 31
theorem Pot.flat {n : Nat} {s : List D} (h : Pot s) : okDs (fun k => decide (k < n)) s = true := by
  obtain ⟨a, b, rfl, _⟩ := h
  rfl
def sp_take : ASp := fun ds m Q => ∃ (n : Nat) (s : List D) (many : Int), ds = [.loc n, .int many] ∧ m[n]? = some (.lst s) ∧ Pot s ∧ 0 < many ∧ many < 2 ^ 300 ∧
  ∀ (d : Int) (s' : List D), 0 ≤ d → d < many → Pot s' → Q (.int d) (m.set n (.lst s'))
theorem b_take (ds : List D) (m : Mu) (Q : D → Mu → Prop) (h : sp_take ds m Q) : ds.length = 2 ∧ ((∀ d ∈ ds, okD (fun k => decide (k < m.length)) d = true) → okM m → wS ⟨[], [], []⟩ m i_law_take (AEf m Q) (slots 3 ds) m) := by
  obtain ⟨n, s, many, rfl, hs, ⟨a, b, rfl, ha, ha2, hb, hb2⟩, hm, hm2, q⟩ := h
  refine ⟨rfl, fun _ hok => s_start ?_⟩
  unfold i_law_take
  and_intros
  refine f_dec (fun h => ?_) (fun h => ?_)
  · and_intros
    · refine drop_set rfl rfl (q _ _ (Int.emod_nonneg _ (by omega)) (Int.emod_lt_of_pos _ hm) ⟨_, b, rfl, Int.ediv_nonneg ha (by omega), ?_, hb, hb2⟩)
      exact Int.lt_of_le_of_lt (Int.ediv_le_self _ ha) ha2
    · exact div_ok hm hm2 (by decide)
  · and_intros
    exact drop_set rfl rfl (q _ _ (Int.emod_nonneg _ (by omega)) (Int.emod_lt_of_pos _ hm) ⟨a, _, rfl, ha, ha2, by omega, by omega⟩)
def sp_pot : ASp := fun ds m Q => ∃ (ns : List Int) (k : Int), ds = [.ro (ns.map D.int), .int k] ∧ 0 ≤ k ∧ k < 100 ∧ ∀ s, Pot s → Q (.loc m.length) (m ++ [.lst s])
theorem b_pot (ds : List D) (m : Mu) (Q : D → Mu → Prop) (h : sp_pot ds m Q) : ds.length = 2 ∧ ((∀ d ∈ ds, okD (fun k => decide (k < m.length)) d = true) → okM m → wS ⟨[], [], []⟩ m i_law_pot (AEf m Q) (slots 4 ds) m) := by
  obtain ⟨ns, k, rfl, hk, hk2, q⟩ := h
  obtain ⟨k, rfl⟩ : ∃ j : Nat, k = (j : Int) := ⟨k.toNat, by omega⟩
  refine ⟨rfl, fun _ hok => s_start ?_⟩
  have tail : ∀ c : Int, xS ⟨[], [], []⟩ m i_law_pot_k0 (AEf m Q) [some (.ro (ns.map D.int)), some (.int (k : Int)), some (.int c), none] m := by
    intro c
    unfold i_law_pot_k0
    have m1 := mulb (x := (k : Int)) (y := (k : Int)) (by omega) (Int.le_of_lt hk2) (by omega) (Int.le_of_lt hk2)
    have m2 : 7919 * (k : Int) * (k : Int) = 7919 * ((k : Int) * (k : Int)) := Int.mul_assoc _ _ _
    and_intros
    have lim : (2 : Int) ^ 4000 ≤ 2 ^ 20000 := ipow_le (by decide)
    have c1 : 0 ≤ (c.natAbs : Int) % 1000000000000000000000000000000000000000000000000000000000000 ^ Int.toNat 16 := Int.emod_nonneg _ (by decide)
    have c2 : (c.natAbs : Int) % 1000000000000000000000000000000000000000000000000000000000000 ^ Int.toNat 16 < 2 ^ 4000 := Int.lt_trans (Int.emod_lt_of_pos _ (by decide)) (by decide)
    refine k_intD (fun hp => ?_) (fun hp => ?_)
    · and_intros
      · refine drop_new0 rfl (q _ ⟨_, _, rfl, by omega, by omega, by omega, by omega⟩)
      · exact mul_ok (a := 4000) (b := 1) (natAbs_lt c1 c2) (by decide) (by decide)
    · and_intros
      · refine drop_new0 rfl (q _ ⟨_, _, rfl, by omega, by omega, by omega, by omega⟩)
      · exact mul_ok (a := 4000) (b := 1) (natAbs_lt c1 c2) (by decide) (by decide)
  unfold i_law_pot
  and_intros
  refine f_dec (fun h => ?_) (fun h => ?_)
  · and_intros
    have hl : 0 < ns.length := by
      rw [List.length_map] at h; omega
    rw [List.length_map]
    have hi : k % ns.length < ns.length := Nat.mod_lt _ hl
    refine x_ro (d := .int ns[k % ns.length]) ?_ ?_
    · rw [← Int.natCast_emod]
      exact atI_nat (by rw [List.getElem?_map, List.getElem?_eq_getElem hi]; rfl)
    and_intros
    exact tail _
  · and_intros
    exact tail 0
def sp_number : ASp := fun ds m Q => ∃ (n : Nat) (s : List D) (most : Int), ds = [.loc n, .int most] ∧ m[n]? = some (.lst s) ∧ Pot s ∧ 0 < most ∧ most < 2 ^ 300 ∧
  ∀ (d : Int) (s' : List D), 0 ≤ d → d < most → Pot s' → Q (.int d) (m.set n (.lst s'))
theorem b_number (ds : List D) (m : Mu) (Q : D → Mu → Prop) (h : sp_number ds m Q) : ds.length = 2 ∧ ((∀ d ∈ ds, okD (fun k => decide (k < m.length)) d = true) → okM m → wS ⟨[("_law_take", sp_take)], [], []⟩ m i_law_number (AEf m Q) (slots 4 ds) m) := by
  obtain ⟨n, s, most, rfl, hs, hg, hm, hm2, q⟩ := h
  refine ⟨rfl, fun _ hok => s_start ?_⟩
  unfold i_law_number
  and_intros
  refine l_for (fun i sl' m' => ∃ (e : Int) (s' : List D) (x : Option D), sl' = [some (.loc n), some (.int most), some (.int e), x] ∧ m' = m.set n (.lst s') ∧ Pot s' ∧ 0 ≤ e ∧ e < 2 ^ (30 * i) ∧ i ≤ 7)
    ⟨0, s, none, rfl, ?_, hg, Int.le_refl _, by decide, by omega⟩ (fun _ _ _ _ => trivial) ?_ ?_
  · obtain ⟨h1, h2⟩ := List.getElem?_eq_some_iff.mp hs
    rw [← h2, List.set_getElem_self]
  · rintro sl' m' ⟨e, s', x, rfl, rfl, g', e0, e1, hi⟩
    unfold i_law_number_k1
    and_intros
    exact drop_set g'.flat rfl (q _ s' (Int.emod_nonneg _ (by omega)) (Int.emod_lt_of_pos _ hm) g')
  · rintro i x sl' m' hx ⟨e, s', x', rfl, rfl, g', e0, e1, hi⟩
    obtain ⟨hlt, rfl⟩ := rngD_get hx
    have hlt' : i < 7 := hlt
    have hp : (2 : Int) ^ (30 * (i + 1)) = 2 ^ (30 * i) * 2 ^ 30 := by rw [Nat.mul_succ, Int.pow_add]
    and_intros
    · refine v_call rfl ⟨n, s', _, rfl, at_set hs, g', by decide, by decide, fun f s3 f0 f1 g3 => ?_⟩
      and_intros
      refine ⟨_, s3, _, rfl, List.set_set .., g3, ?_, ?_, by omega⟩
      · omega
      · rw [hp]
        omega
    · exact mul_ok (a := 30 * i) (b := 64) (natAbs_lt e0 e1) (by decide) (by omega)
def pc (n : Nat) : Nat := if h : n = 0 then 0 else n % 2 + pc (n / 2)
termination_by n
decreasing_by omega
theorem pc_0 : pc 0 = 0 := by unfold pc; rfl
theorem pc_div (n : Nat) : pc n = n % 2 + pc (n / 2) := by
  by_cases h : n = 0
  · subst h; rw [pc_0]
  · conv => lhs; unfold pc
    rw [dif_neg h]
theorem pc_le (n : Nat) : pc n ≤ n := by
  induction n using Nat.strongRecOn with
  | _ n ih =>
    by_cases h : n = 0
    · subst h; rw [pc_0]; exact Nat.le_refl _
    · have := ih (n / 2) (by omega)
      rw [pc_div n]; omega
/-- the sum over the levels -/
def lsum (n : Nat) : Int := if n ≤ 2 then 0 else 3 * ((n : Int) - 1) - pc (n - 1) - 2
theorem lsum_step (n : Nat) (h : 2 < n) : lsum n = (3 * ((n : Int) - 1) + 1) / 2 + lsum ((n + 1) / 2) := by
  have e := pc_div (n - 1)
  unfold lsum
  rw [if_neg (by omega), show (n + 1) / 2 - 1 = (n - 1) / 2 by omega, e]
  split
  · have hn : n = 3 ∨ n = 4 := by omega
    have p1 : pc 1 = 1 := by rw [pc_div, pc_0]
    rcases hn with rfl | rfl
    · rw [p1]; omega
    · rw [p1]; omega
  · rcases Nat.mod_two_eq_zero_or_one (n - 1) with c | c
    · rw [c]; omega
    · rw [c]; omega
theorem divp {i j : Int} (hj : 0 < j) (h : i.natAbs < 2 ^ 900) : CDivP i j := by
  refine divp_ok hj ?_
  have b : Builtin.Int.intBits i ≤ i.natAbs.log2 + 1 := by
    unfold Builtin.Int.intBits
    split <;> omega
  have := PySem.Flt.log2_lt_of (by decide) h
  omega
def sp_ones : ASp := fun ds m Q => ∃ n : Nat, ds = [.int n] ∧ n < 2 ^ 300 ∧ Q (.int (pc n)) m
theorem b_ones (ds : List D) (m : Mu) (Q : D → Mu → Prop) (h : sp_ones ds m Q) : ds.length = 1 ∧ ((∀ d ∈ ds, okD (fun k => decide (k < m.length)) d = true) → okM m → wS ⟨[], [], []⟩ m i_ones (AEf m Q) (slots 3 ds) m) := by
  obtain ⟨n, rfl, hn, q⟩ := h
  refine ⟨rfl, fun _ hok => s_start ?_⟩
  unfold i_ones
  and_intros
  refine q_whl (fun k sl' m' => ∃ (x c : Nat) (y : Option D), sl' = [some (.int x), some (.int c), y] ∧ m' = m ∧ c + pc x = pc n ∧ x ≤ n ∧ k = x) ⟨_, n, 0, _, rfl, rfl, by omega, Nat.le_refl _, rfl⟩ ?_
  rintro k sl' m' ⟨x, c, y, rfl, rfl, e, hx, rfl⟩
  and_intros
  refine f_dec (fun h => ?_) (fun h => ?_)
  · have e2 := pc_div k
    and_intros
    · refine ⟨k / 2, by omega, k / 2, c + k % 2, some (.int ((k : Int) % 2)), ?_, rfl, by omega, by omega, rfl⟩
      rw [show ((k / 2 : Nat) : Int) = (k : Int) / 2 by omega, show ((c + k % 2 : Nat) : Int) = (c : Int) + (k : Int) % 2 by omega]
      try rfl
    · exact divp (by decide) (Nat.lt_of_lt_of_le (show (k : Int).natAbs < 2 ^ 300 by omega) (Nat.pow_le_pow_right (by decide) (by decide)))
  · unfold i_ones_k1
    have e3 : k = 0 := by omega
    subst e3
    rw [pc_0] at e
    and_intros
    rw [show ((c : Nat) : Int) = (pc n : Int) by omega]
    exact drop_same rfl q
/-- the beat of a row -/
def rowb (n : Nat) : Int := if n < 3 then n else lsum n + 1
def sp_row : ASp := fun ds m Q => ∃ n : Nat, ds = [.int n] ∧ n < 2 ^ 300 ∧ Q (.int (rowb n)) m
theorem b_row (ds : List D) (m : Mu) (Q : D → Mu → Prop) (h : sp_row ds m Q) : ds.length = 1 ∧ ((∀ d ∈ ds, okD (fun k => decide (k < m.length)) d = true) → okM m → wS ⟨[("ones", sp_ones)], [], []⟩ m i_row_beat (AEf m Q) (slots 1 ds) m) := by
  obtain ⟨n, rfl, hn, q⟩ := h
  refine ⟨rfl, fun _ hok => s_start ?_⟩
  unfold i_row_beat
  and_intros
  refine f_dec (fun h => ?_) (fun h => ?_)
  · and_intros
    unfold rowb at q
    rw [if_pos (by omega)] at q
    exact drop_same rfl q
  · and_intros
    · refine v_call rfl ⟨n - 1, by rw [show ((n - 1 : Nat) : Int) = (n : Int) - 1 by omega], by omega, ?_⟩
      and_intros
      unfold rowb lsum at q
      rw [if_neg (by omega), if_neg (by omega)] at q
      rw [show 3 * ((n : Int) - 1) - pc (n - 1) - 1 = 3 * ((n : Int) - 1) - pc (n - 1) - 2 + 1 by omega]
      exact drop_same rfl q
    · exact mul_ok (a := 2) (b := 301) (by decide) (by omega) (by decide)
/-- the levels from a length and a beat on -/
def lvs (h b : Int) : List D := if 3 ≤ h then .tup [.int h, .int b, .int (b + h - 1), .int (b + (3 * (h - 1) + 1) / 2)] :: lvs ((h + 1) / 2) (b + (3 * (h - 1) + 1) / 2) else []
termination_by h.toNat
decreasing_by omega
theorem lvs_no {h b : Int} (hh : ¬ 3 ≤ h) : lvs h b = [] := by rw [lvs, if_neg hh]
theorem lvs_go {h b : Int} (hh : 3 ≤ h) : lvs h b = .tup [.int h, .int b, .int (b + h - 1), .int (b + (3 * (h - 1) + 1) / 2)] :: lvs ((h + 1) / 2) (b + (3 * (h - 1) + 1) / 2) := by rw [lvs, if_pos hh]
theorem lvs_len : ∀ (k : Nat) (h b : Int), h ≤ 2 ^ k + 1 → (lvs h b).length ≤ k
  | 0, h, b, hh => by
    rw [lvs_no (by have : (2 : Int) ^ 0 = 1 := rfl; omega)]; exact Nat.le_refl _
  | k + 1, h, b, hh => by
    by_cases h3 : 3 ≤ h
    · rw [lvs_go h3, List.length_cons]
      have hp : (2 : Int) ^ (k + 1) = 2 ^ k * 2 := Int.pow_succ _ _
      have := lvs_len k ((h + 1) / 2) (b + (3 * (h - 1) + 1) / 2) (by omega)
      omega
    · rw [lvs_no h3]; exact Nat.zero_le _
theorem lvs_ok {p : Nat → Bool} : ∀ (k : Nat) (h b : Int), h ≤ 2 ^ k + 1 → okDs p (lvs h b) = true
  | 0, h, b, hh => by
    rw [lvs_no (by have : (2 : Int) ^ 0 = 1 := rfl; omega)]; rfl
  | k + 1, h, b, hh => by
    by_cases h3 : 3 ≤ h
    · rw [lvs_go h3]
      have hp : (2 : Int) ^ (k + 1) = 2 ^ k * 2 := Int.pow_succ _ _
      exact lvs_ok k ((h + 1) / 2) (b + (3 * (h - 1) + 1) / 2) (by omega)
    · rw [lvs_no h3]; rfl
theorem lvs_small {n : Int} (h : n < 2 ^ 250) : (lvs n 0).length ≤ 250 := lvs_len 250 n 0 (by omega)
theorem lvs_int4 : ∀ (k : Nat) (h b : Int), h ≤ 2 ^ k + 1 → ∀ x ∈ lvs h b, ∃ i j u v : Int, x = .tup [.int i, .int j, .int u, .int v]
  | 0, h, b, hh => by
    rw [lvs_no (by have : (2 : Int) ^ 0 = 1 := rfl; omega)]; intro x hx; cases hx
  | k + 1, h, b, hh => by
    by_cases h3 : 3 ≤ h
    · rw [lvs_go h3]
      have hp : (2 : Int) ^ (k + 1) = 2 ^ k * 2 := Int.pow_succ _ _
      intro x hx
      rcases List.mem_cons.mp hx with rfl | hx
      · exact ⟨_, _, _, _, rfl⟩
      · exact lvs_int4 k ((h + 1) / 2) (b + (3 * (h - 1) + 1) / 2) (by omega) x hx
    · rw [lvs_no h3]; intro x hx; cases hx
def sp_levels : ASp := fun ds m Q => ∃ (n : Int), ds = [.int n] ∧ n < 2 ^ 250 ∧ Q (.tup (lvs n 0)) m
theorem b_levels (ds : List D) (m : Mu) (Q : D → Mu → Prop) (h : sp_levels ds m Q) : ds.length = 1 ∧ ((∀ d ∈ ds, okD (fun k => decide (k < m.length)) d = true) → okM m → wS ⟨[], [("LEAST_CUT", .int 3)], []⟩ m i_levels (AEf m Q) (slots 5 ds) m) := by
  obtain ⟨n, rfl, hn, q⟩ := h
  refine ⟨rfl, fun _ hok => s_start ?_⟩
  unfold i_levels
  and_intros
  refine q_whl (fun k sl' m' => ∃ (h b : Int) (acc : List D) (x : Option D), sl' = [some (.int n), some (.loc m.length), some (.int h), some (.int b), x] ∧ m' = m ++ [.lst acc] ∧ acc ++ lvs h b = lvs n 0 ∧ h ≤ n ∧ k = h.toNat)
    ⟨_, n, 0, [], none, rfl, rfl, rfl, Int.le_refl _, rfl⟩ ?_
  rintro k sl' m' ⟨h, b, acc, x, rfl, rfl, e, hh, rfl⟩
  and_intros
  refine f_dec (fun h3 => ?_) (fun h3 => ?_)
  · have hl : acc.length < 251 := by
      have := congrArg List.length e
      rw [List.length_append] at this
      have := lvs_small hn
      omega
    and_intros
    · rw [set_last]
      and_intros
      exact ⟨_, by omega, _, _, _, _, rfl, rfl, by rw [← e, lvs_go h3, List.append_assoc]; rfl, by omega, rfl⟩
    · by_cases hs : h - 1 < 2 ^ 250
      · exact mul_ok (a := 64) (b := 250) (by decide) (natAbs_lt (by omega) hs) (by decide)
      · omega
    · exact Nat.lt_trans hl (by decide)
  · unfold i_levels_k1
    have e2 : acc = lvs n 0 := by rw [← e, lvs_no h3, List.append_nil]
    subst e2
    and_intros
    exact drop_junk _ (lvs_ok 250 n 0 (by omega)) q
/-! needs: STOP i_wave_state_j1 -/
/-! what is seen, as a plain function -/
def postF (g : Int) : Str := if g = 0 then "g" else if g = 1 then "ga" else if g = 2 then "gb" else "p"
def headF (r : Bool) : Str := if r = true then "r" else "l"
def phF (r : Bool) (k : Int) : Str := if k = 0 then (if r = true then "ra" else "la") else if k = 1 then (if r = true then "rb" else "lb") else (if r = true then "rc" else "lc")
def waveF (r : Bool) (h g f : Int) : Str := if f = g then headF r else if f + g = 2 * (h - 1) ∧ h - 1 < g then headF (!r) else if f = g / 3 then phF r (g % 3) else "o"
def endF (h g : Int) (first : Bool) : Str := if g = h - 1 then "h" else if first = true ∧ g < h - 1 then "o" else "p"
def stF (b e s g : Int) (first : Bool) (x : Int) : Str :=
  if (if s = 0 then x - b else e - x) = 0 then postF g
  else if (if s = 0 then x - b else e - x) = e - b then endF (e - b + 1) g first
  else waveF (decide (s = 0)) (e - b + 1) g (if s = 0 then x - b else e - x)
def goF (b e s g t x : Int) : Str :=
  if h : 3 ≤ e - b + 1 ∧ g + (3 * (e - b) + 1) / 2 ≤ t then
    if x ≤ b + (e - b + 1) / 2 - 1 + (e - b + 1) % 2 then goF b (b + (e - b + 1) / 2 - 1 + (e - b + 1) % 2) 1 (g + (3 * (e - b) + 1) / 2) t x
    else goF (b + (e - b + 1) / 2) e 0 (g + (3 * (e - b) + 1) / 2) t x
  else stF b e s (t - g) (decide (g = 0)) x
termination_by (e - b + 1).toNat
decreasing_by all_goals omega
theorem go_st {b e s g t x : Int} (h : ¬ (3 ≤ e - b + 1 ∧ g + (3 * (e - b) + 1) / 2 ≤ t)) : goF b e s g t x = stF b e s (t - g) (decide (g = 0)) x := by rw [goF, dif_neg h]
theorem go_dn {b e s g t x : Int} (h : 3 ≤ e - b + 1 ∧ g + (3 * (e - b) + 1) / 2 ≤ t) : goF b e s g t x = if x ≤ b + (e - b + 1) / 2 - 1 + (e - b + 1) % 2 then goF b (b + (e - b + 1) / 2 - 1 + (e - b + 1) % 2) 1 (g + (3 * (e - b) + 1) / 2) t x
    else goF (b + (e - b + 1) / 2) e 0 (g + (3 * (e - b) + 1) / 2) t x := by rw [goF, dif_pos h]
def seenF (n x t : Int) : Str := if rowb n.toNat ≤ t then "f" else goF 0 (n - 1) 0 0 t x
abbrev cQ : Str × D := ("QUIET", .str "o")
abbrev cF : Str × D := ("FIRE", .str "f")
abbrev dR : D := .tup [.str "r", .str "ra", .str "rb", .str "rc"]
abbrev dL : D := .tup [.str "l", .str "la", .str "lb", .str "lc"]
abbrev dP : D := .tup [.str "g", .str "ga", .str "gb", .str "p"]
def sp_part : ASp := fun ds m Q => ∃ (b e x : Int), ds = [.int b, .int e, .int x] ∧
  (x ≤ b + (e - b + 1) / 2 - 1 + (e - b + 1) % 2 → Q (.tup [.int b, .int (b + (e - b + 1) / 2 - 1 + (e - b + 1) % 2), .int 1]) m) ∧ (¬ x ≤ b + (e - b + 1) / 2 - 1 + (e - b + 1) % 2 → Q (.tup [.int (b + (e - b + 1) / 2), .int e, .int 0]) m)
theorem b_part (ds : List D) (m : Mu) (Q : D → Mu → Prop) (h : sp_part ds m Q) : ds.length = 3 ∧ ((∀ d ∈ ds, okD (fun k => decide (k < m.length)) d = true) → okM m → wS ⟨[], [], []⟩ m i_part_with (AEf m Q) (slots 5 ds) m) := by
  obtain ⟨b, e, x, rfl, q1, q2⟩ := h
  refine ⟨rfl, fun _ hok => s_start ?_⟩
  unfold i_part_with
  and_intros
  refine f_dec (fun hx => ?_) (fun hx => ?_)
  · and_intros
    exact drop_same rfl (q1 hx)
  · and_intros
    exact drop_same rfl (q2 hx)
def sp_wave : ASp := fun ds m Q => ∃ (r : Bool) (h g f : Int), ds = [.int h, .int g, .int f, if r = true then dR else dL, if r = true then dL else dR] ∧ 0 ≤ g ∧ h.natAbs < 2 ^ 300 ∧ Q (.str (waveF r h g f)) m
theorem b_wave (ds : List D) (m : Mu) (Q : D → Mu → Prop) (h : sp_wave ds m Q) : ds.length = 5 ∧ ((∀ d ∈ ds, okD (fun k => decide (k < m.length)) d = true) → okM m → wS ⟨[], [cQ], []⟩ m i_wave_state (AEf m Q) (slots 5 ds) m) := by
  obtain ⟨r, h, g, f, rfl, hg, hh, q⟩ := h
  refine ⟨rfl, fun _ hok => s_start ?_⟩
  unfold waveF at q
  unfold i_wave_state
  cases r
  · and_intros
    refine f_dec (fun c => ?_) (fun c => ?_)
    · and_intros
      rw [if_pos c] at q
      exact drop_same rfl q
    rw [if_neg c] at q
    have last : ¬ (f + g = 2 * (h - 1) ∧ h - 1 < g) → xS ⟨[], [cQ], []⟩ m i_wave_state_j1 (AEf m Q) (slots 5 [.int h, .int g, .int f, dL, dR]) m := by
      intro c1
      rw [if_neg c1] at q
      unfold i_wave_state_j1
      and_intros
      refine f_dec (fun c2 => ?_) (fun c2 => ?_)
      · rw [if_pos c2] at q
        unfold phF at q
        and_intros
        have c3 : g % 3 = 0 ∨ g % 3 = 1 ∨ g % 3 = 2 := by omega
        rcases c3 with c3 | c3 | c3
        all_goals (rw [c3] at q ⊢; refine x_tup rfl ?_; exact drop_same rfl q)
      · rw [if_neg c2] at q
        and_intros
        exact drop_same rfl q
    and_intros
    · refine f_dec (fun c1 => ?_) (fun c1 => ?_)
      · and_intros
        refine f_dec (fun c2 => ?_) (fun c2 => ?_)
        · and_intros
          rw [if_pos ⟨c1, c2⟩] at q
          exact drop_same rfl q
        · and_intros
          exact last fun z => c2 z.2
      · and_intros
        exact last fun z => c1 z.1
    · exact mul_ok (a := 2) (b := 301) (by decide) (by omega) (by decide)
  · and_intros
    refine f_dec (fun c => ?_) (fun c => ?_)
    · and_intros
      rw [if_pos c] at q
      exact drop_same rfl q
    rw [if_neg c] at q
    have last : ¬ (f + g = 2 * (h - 1) ∧ h - 1 < g) → xS ⟨[], [cQ], []⟩ m i_wave_state_j1 (AEf m Q) (slots 5 [.int h, .int g, .int f, dR, dL]) m := by
      intro c1
      rw [if_neg c1] at q
      unfold i_wave_state_j1
      and_intros
      refine f_dec (fun c2 => ?_) (fun c2 => ?_)
      · rw [if_pos c2] at q
        unfold phF at q
        and_intros
        have c3 : g % 3 = 0 ∨ g % 3 = 1 ∨ g % 3 = 2 := by omega
        rcases c3 with c3 | c3 | c3
        all_goals (rw [c3] at q ⊢; refine x_tup rfl ?_; exact drop_same rfl q)
      · rw [if_neg c2] at q
        and_intros
        exact drop_same rfl q
    and_intros
    · refine f_dec (fun c1 => ?_) (fun c1 => ?_)
      · and_intros
        refine f_dec (fun c2 => ?_) (fun c2 => ?_)
        · and_intros
          rw [if_pos ⟨c1, c2⟩] at q
          exact drop_same rfl q
        · and_intros
          exact last fun z => c2 z.2
      · and_intros
        exact last fun z => c1 z.1
    · exact mul_ok (a := 2) (b := 301) (by decide) (by omega) (by decide)
def sp_end : ASp := fun ds m Q => ∃ (h g : Int) (first : Bool), ds = [.int h, .int g, .bl first] ∧ Q (.str (endF h g first)) m
theorem b_end (ds : List D) (m : Mu) (Q : D → Mu → Prop) (h : sp_end ds m Q) : ds.length = 3 ∧ ((∀ d ∈ ds, okD (fun k => decide (k < m.length)) d = true) → okM m → wS ⟨[], [cQ], []⟩ m i_end_state (AEf m Q) (slots 3 ds) m) := by
  obtain ⟨h, g, first, rfl, q⟩ := h
  refine ⟨rfl, fun _ hok => s_start ?_⟩
  unfold endF at q
  unfold i_end_state
  and_intros
  refine f_dec (fun c => ?_) (fun c => ?_)
  · and_intros
    rw [if_pos c] at q
    exact drop_same rfl q
  rw [if_neg c] at q
  and_intros
  refine f_if (fun c1 => ?_) (fun c1 => ?_)
  · and_intros
    refine f_dec (fun c2 => ?_) (fun c2 => ?_)
    · and_intros
      rw [if_pos ⟨c1, c2⟩] at q
      exact drop_same rfl q
    · and_intros
      rw [if_neg (fun z => c2 z.2)] at q
      exact drop_same rfl q
  · and_intros
    rw [if_neg (fun z => by rw [c1] at z; cases z.1)] at q
    exact drop_same rfl q
def sp_st : ASp := fun ds m Q => ∃ (b e s g x : Int) (first : Bool), ds = [.int b, .int e, .int s, .int g, .bl first, .int x] ∧ (s = 0 ∨ s = 1) ∧ 0 ≤ g ∧ (e - b + 1).natAbs < 2 ^ 300 ∧ Q (.str (stF b e s g first x)) m
theorem b_st (ds : List D) (m : Mu) (Q : D → Mu → Prop) (h : sp_st ds m Q) : ds.length = 6 ∧ ((∀ d ∈ ds, okD (fun k => decide (k < m.length)) d = true) → okM m → wS ⟨[("wave_state", sp_wave), ("end_state", sp_end)], [("RIGHT", dR), ("LEFT", dL), ("POSTS", dP)], []⟩ m i_stretch_state (AEf m Q) (slots 8 ds) m) := by
  obtain ⟨b, e, s, g, x, first, rfl, hs, hg, hh, q⟩ := h
  refine ⟨rfl, fun _ hok => s_start ?_⟩
  have e9 : e - b + 1 - 1 = e - b := by omega
  unfold stF at q
  unfold i_stretch_state
  and_intros
  refine r_dr (fun d m' => d = .int (if s = 0 then x - b else e - x) ∧ m' = m) ?_ ?_
  · and_intros
    rcases hs with rfl | rfl
    · exact x_loc at_new rfl (drop_junk _ rfl ⟨rfl, rfl⟩)
    · exact x_loc at_new rfl (drop_junk _ rfl ⟨rfl, rfl⟩)
  rintro d m' ⟨rfl, rfl⟩
  generalize hF : (if s = 0 then x - b else e - x) = f at *
  and_intros
  refine f_dec (fun c => ?_) (fun c => ?_)
  · rw [if_pos c] at q
    and_intros
    unfold postF at q
    have c3 : g = 0 ∨ g = 1 ∨ g = 2 ∨ 3 ≤ g := by omega
    rcases c3 with rfl | rfl | rfl | c3
    · exact x_tup rfl (drop_same rfl q)
    · exact x_tup rfl (drop_same rfl q)
    · exact x_tup rfl (drop_same rfl q)
    · rw [show min g 3 = 3 by omega]
      rw [if_neg (by omega), if_neg (by omega), if_neg (by omega)] at q
      exact x_tup rfl (drop_same rfl q)
  rw [if_neg c] at q
  and_intros
  rw [e9]
  refine f_dec (fun c1 => ?_) (fun c1 => ?_)
  · rw [if_pos c1] at q
    and_intros
    refine v_call rfl ⟨_, _, _, rfl, ?_⟩
    exact drop_same rfl q
  rw [if_neg c1] at q
  and_intros
  refine f_dec (fun c2 => ?_) (fun c2 => ?_)
  · rw [decide_eq_true c2] at q
    and_intros
    refine v_call rfl ⟨true, _, _, _, rfl, hg, hh, ?_⟩
    exact drop_same rfl q
  · rw [decide_eq_false c2] at q
    and_intros
    refine v_call rfl ⟨false, _, _, _, rfl, hg, hh, ?_⟩
    exact drop_same rfl q
def sp_seen : ASp := fun ds m Q => ∃ (n x t : Int), ds = [.int n, .int x, .int t] ∧ 1 ≤ n ∧ n < 2 ^ 250 ∧ 0 ≤ t ∧ Q (.str (seenF n x t)) m
theorem b_seen (ds : List D) (m : Mu) (Q : D → Mu → Prop) (h : sp_seen ds m Q) : ds.length = 3 ∧ ((∀ d ∈ ds, okD (fun k => decide (k < m.length)) d = true) → okM m → wS ⟨[("stretch_state", sp_st), ("levels", sp_levels), ("part_with", sp_part), ("row_beat", sp_row)], [cF], []⟩ m i_seen (AEf m Q) (slots 11 ds) m) := by
  obtain ⟨n, x, t, rfl, hn, hn2, ht, q⟩ := h
  refine ⟨rfl, fun _ hok => s_start ?_⟩
  have lim : (2 : Int) ^ 250 ≤ 2 ^ 300 := ipow_le (by decide)
  unfold seenF at q
  unfold i_seen
  and_intros
  refine v_call rfl ⟨n.toNat, by rw [show ((n.toNat : Nat) : Int) = n by omega], by omega, ?_⟩
  and_intros
  refine f_dec (fun c => ?_) (fun c => ?_)
  · rw [if_pos c] at q
    and_intros
    exact drop_same rfl q
  rw [if_neg c] at q
  have fin : ∀ (b e s g : Int) (x7 x8 x9 xa : Option D), (s = 0 ∨ s = 1) → 0 ≤ g → g ≤ t → 0 ≤ e - b + 1 → e - b + 1 ≤ n → goF 0 (n - 1) 0 0 t x = stF b e s (t - g) (decide (g = 0)) x →
      xS ⟨[("stretch_state", sp_st), ("levels", sp_levels), ("part_with", sp_part), ("row_beat", sp_row)], [cF], []⟩ m i_seen_k1 (AEf m Q) [some (.int n), some (.int x), some (.int t), some (.int b), some (.int e), some (.int s), some (.int g), x7, x8, x9, xa] m := by
    intro b e s g x7 x8 x9 xa hs h0 h1 h2 h3 eq
    unfold i_seen_k1
    and_intros
    refine v_call rfl ⟨b, e, s, t - g, x, decide (g = 0), rfl, hs, by omega, by omega, ?_⟩
    rw [← eq]
    exact drop_same rfl q
  and_intros
  refine v_call rfl ⟨n, rfl, hn2, ?_⟩
  and_intros
  refine l_for (fun i sl' m' => ∃ (b e s g : Int) (x7 x8 x9 xa : Option D), sl' = [some (.int n), some (.int x), some (.int t), some (.int b), some (.int e), some (.int s), some (.int g), x7, x8, x9, xa] ∧ m' = m ∧ (s = 0 ∨ s = 1) ∧ 0 ≤ g ∧ g ≤ t ∧ 0 ≤ e - b + 1 ∧ e - b + 1 ≤ n ∧
      (lvs n 0).drop i = lvs (e - b + 1) g ∧ goF 0 (n - 1) 0 0 t x = goF b e s g t x) ⟨0, n - 1, 0, 0, none, none, none, none, rfl, rfl, .inl rfl, by omega, ht, by omega, by omega, by rw [List.drop_zero, show n - 1 - 0 + 1 = n by omega], rfl⟩ (fun _ _ _ _ => trivial) ?_ ?_
  · rintro sl' m' ⟨b, e, s, g, x7, x8, x9, xa, rfl, rfl, hs, h0, h1, h2, h3, h4, h5⟩
    have hl : ¬ 3 ≤ e - b + 1 := fun z => by
      rw [List.drop_length, lvs_go z] at h4; cases h4
    exact fin b e s g _ _ _ _ hs h0 h1 h2 h3 (by rw [h5, go_st fun z => hl z.1])
  · rintro i y sl' m' hy ⟨b, e, s, g, x7, x8, x9, xa, rfl, rfl, hs, h0, h1, h2, h3, h4, h5⟩
    have hi := (List.getElem?_eq_some_iff.mp hy).1
    have e1 := List.drop_eq_getElem_cons hi
    rw [(List.getElem?_eq_some_iff.mp hy).2] at e1
    rw [h4] at e1
    have hl : 3 ≤ e - b + 1 := Decidable.byContradiction fun z => by
      rw [lvs_no z] at e1; cases e1
    rw [lvs_go hl] at e1
    rw [show e - b + 1 - 1 = e - b by omega] at e1
    injection e1 with e1 e2
    subst e1
    and_intros
    refine f_dec (fun c1 => ?_) (fun c1 => ?_)
    · and_intros
      exact fin b e s g _ _ _ _ hs h0 h1 h2 h3 (by rw [h5, go_st fun z => by omega])
    · and_intros
      have hd := go_dn (b := b) (e := e) (s := s) (g := g) (t := t) (x := x) ⟨hl, by omega⟩
      refine v_call rfl ⟨b, e, x, rfl, fun c2 => ?_, fun c2 => ?_⟩
      · and_intros
        refine ⟨_, _, _, _, _, _, _, _, rfl, rfl, .inr rfl, by omega, by omega, by omega, by omega, ?_, by rw [h5, hd, if_pos c2]⟩
        rw [← e2]
        congr 1
        omega
      · and_intros
        refine ⟨_, _, _, _, _, _, _, _, rfl, rfl, .inl rfl, by omega, by omega, by omega, by omega, ?_, by rw [h5, hd, if_neg c2]⟩
        rw [← e2]
        congr 1
        omega
@[reducible] def i_posts_b0 : I := (.blk (.sif (.cmp .le (.var 7) (.var 1)) (.blk (.aug 2 .add (.bin .shl (.bin .sub (.int 2) (.bin .mod (.var 4) (.int 2))) (.var 3))) .skip) .skip) .skip)
@[irreducible] def i_posts_k1 : I := (.blk (.ret (.var 2)) .skip)
def i_posts : I := (.blk (.asg (.tn 2) (.bin .add (.int 1) (.bi .int (.cons (.and (.cmp .gt (.var 0) (.int 1)) (.one (.cmp .ge (.var 1) (.bin .sub (.var 0) (.int 1))))) .nil)))) (.blk (.for_ (.tt (.cons (.tn 3) (.cons (.tt (.cons (.tn 4) (.cons (.tn 5) (.cons (.tn 6) (.cons (.tn 7) .nil))))) .nil))) (.enm (.cons (.call 0 (.cons (.var 0) .nil)) .nil)) i_posts_b0) i_posts_k1))

/-! stretches, as plain functions -/
abbrev P3 := Int × Int × Int
def pD (p : P3) : D := .tup [.int p.1, .int p.2.1, .int p.2.2]
def stp (p : P3) (bit : Nat) : P3 := if bit = 0 then (p.1, p.1 + (p.2.1 - p.1 + 2) / 2 - 1, 1) else (p.2.1 - (p.2.1 - p.1 + 2) / 2 + 1, p.2.1, 0)
def strF (n : Int) : Nat → Nat → P3
  | 0, _ => (0, n - 1, 0)
  | l + 1, i => stp (strF n l (i / 2)) (i % 2)
theorem strF_side (n : Int) : ∀ (l i : Nat), (strF n l i).2.2 = 0 ∨ (strF n l i).2.2 = 1
  | 0, _ => .inl rfl
  | l + 1, i => by
    show (stp _ _).2.2 = 0 ∨ (stp _ _).2.2 = 1
    unfold stp
    split
    · exact .inr rfl
    · exact .inl rfl
theorem strF_next (n : Int) {l i t : Nat} (h : t < l) : strF n (t + 1) (i / 2 ^ (l - (t + 1))) = stp (strF n t (i / 2 ^ (l - t))) (i / 2 ^ (l - (t + 1)) % 2) := by
  show stp (strF n t (i / 2 ^ (l - (t + 1)) / 2)) _ = _
  rw [Nat.div_div_eq_div_mul, ← Nat.pow_succ, show (l - (t + 1)).succ = l - t by omega]
theorem band_one (a : Nat) : Builtin.bitAnd (a : Int) 1 = ((a % 2 : Nat) : Int) := by
  unfold Builtin.bitAnd
  rw [decide_eq_true (Int.natCast_nonneg _), decide_eq_true (by decide)]
  show ((a &&& 1 : Nat) : Int) = _
  rw [Nat.and_one_is_mod]
def sp_hlv : ASp := fun ds m Q => ∃ (p : P3), ds = [pD p] ∧ Q (.tup [pD (stp p 0), pD (stp p 1)]) m
theorem lvs_at {n h g : Int} {i : Nat} {y : D} (e : (lvs n 0).drop i = lvs h g) (hy : (lvs n 0)[i]? = some y) : 3 ≤ h ∧ y = .tup [.int h, .int g, .int (g + h - 1), .int (g + (3 * (h - 1) + 1) / 2)] ∧ (lvs n 0).drop (i + 1) = lvs ((h + 1) / 2) (g + (3 * (h - 1) + 1) / 2) := by
  have hi := (List.getElem?_eq_some_iff.mp hy).1
  have e1 := List.drop_eq_getElem_cons hi
  rw [(List.getElem?_eq_some_iff.mp hy).2, e] at e1
  have hl : 3 ≤ h := Decidable.byContradiction fun z => by
    rw [lvs_no z] at e1; cases e1
  rw [lvs_go hl] at e1
  injection e1 with e1 e2
  exact ⟨hl, e1.symm, e2.symm⟩
theorem lvs_fin {n h g : Int} (e : (lvs n 0).drop (lvs n 0).length = lvs h g) : ¬ 3 ≤ h := fun z => by
  rw [List.drop_length, lvs_go z] at e; cases e
def psF (h g : Int) (k : Nat) (t : Int) : Int := if 3 ≤ h then (if g + (3 * (h - 1) + 1) / 2 ≤ t then (2 - h % 2) * 2 ^ k else 0) + psF ((h + 1) / 2) (g + (3 * (h - 1) + 1) / 2) (k + 1) t else 0
termination_by h.toNat
decreasing_by omega
theorem ps_no {h g : Int} {k : Nat} {t : Int} (hh : ¬ 3 ≤ h) : psF h g k t = 0 := by rw [psF, if_neg hh]
theorem ps_go {h g : Int} {k : Nat} {t : Int} (hh : 3 ≤ h) : psF h g k t = (if g + (3 * (h - 1) + 1) / 2 ≤ t then (2 - h % 2) * 2 ^ k else 0) + psF ((h + 1) / 2) (g + (3 * (h - 1) + 1) / 2) (k + 1) t := by rw [psF, if_pos hh]
def postsF (n t : Int) : Int := 1 + (if n > 1 ∧ t ≥ n - 1 then 1 else 0) + psF n 0 0 t
def sp_posts : ASp := fun ds m Q => ∃ (n t : Int), ds = [.int n, .int t] ∧ n < 2 ^ 250 ∧ Q (.int (postsF n t)) m
theorem b_posts (ds : List D) (m : Mu) (Q : D → Mu → Prop) (h : sp_posts ds m Q) : ds.length = 2 ∧ ((∀ d ∈ ds, okD (fun k => decide (k < m.length)) d = true) → okM m → wS ⟨[("levels", sp_levels)], [], []⟩ m i_posts (AEf m Q) (slots 8 ds) m) := by
  obtain ⟨n, t, rfl, hn, q⟩ := h
  refine ⟨rfl, fun _ hok => s_start ?_⟩
  have hl := lvs_small hn
  unfold postsF at q
  have main : ∀ z : Int, z = (if n > 1 ∧ t ≥ n - 1 then 1 else 0) → xS ⟨[("levels", sp_levels)], [], []⟩ m (.blk (.for_ (.tt (.cons (.tn 3) (.cons (.tt (.cons (.tn 4) (.cons (.tn 5) (.cons (.tn 6) (.cons (.tn 7) .nil))))) .nil))) (.enm (.cons (.call 0 (.cons (.var 0) .nil)) .nil)) i_posts_b0) i_posts_k1) (AEf m Q) [some (.int n), some (.int t), some (.int (1 + z)), none, none, none, none, none] m := by
    intro z hz
    rw [← hz] at q
    and_intros
    refine v_call rfl ⟨n, rfl, hn, ?_⟩
    and_intros
    refine l_for (fun i sl' m' => ∃ (c h g : Int) (x3 x4 x5 x6 x7 : Option D), sl' = [some (.int n), some (.int t), some (.int c), x3, x4, x5, x6, x7] ∧ m' = m ∧ (lvs n 0).drop i = lvs h g ∧ c + psF h g i t = 1 + z + psF n 0 0 t)
      ⟨1 + z, n, 0, none, none, none, none, none, rfl, rfl, by rw [List.drop_zero], rfl⟩ (fun _ _ _ _ => trivial) ?_ ?_
    · rintro sl' m' ⟨c, h, g, x3, x4, x5, x6, x7, rfl, rfl, h4, h5⟩
      rw [List.length_mapIdx] at h4 h5
      have h6 := lvs_fin h4
      rw [ps_no h6] at h5
      unfold i_posts_k1
      and_intros
      rw [← h5, Int.add_zero] at q
      exact drop_same rfl q
    · rintro i y sl' m' hy ⟨c, h, g, x3, x4, x5, x6, x7, rfl, rfl, h4, h5⟩
      rw [List.getElem?_mapIdx] at hy
      obtain ⟨w, hw, rfl⟩ : ∃ w, (lvs n 0)[i]? = some w ∧ y = .tup [.int i, w] := by
        cases e : (lvs n 0)[i]? with
        | none => rw [e] at hy; cases hy
        | some w => rw [e] at hy; exact ⟨w, rfl, (Option.some.inj hy).symm⟩
      have hi := (List.getElem?_eq_some_iff.mp hw).1
      obtain ⟨h3, rfl, h6⟩ := lvs_at h4 hw
      rw [ps_go h3] at h5
      and_intros
      refine f_dec (fun hh => ?_) (fun hh => ?_)
      · rw [if_pos hh] at h5
        and_intros
        · refine ⟨_, _, _, _, _, _, _, _, rfl, rfl, h6, ?_⟩
          rw [← h5, show ((i : Int)).toNat = i from rfl]; omega
        · exact shl_ok2 (n := 2) (by omega) (by decide) (by omega) (by omega)
      · rw [if_neg hh] at h5
        and_intros
        exact ⟨_, _, _, _, _, _, _, _, rfl, rfl, h6, by omega⟩
  unfold i_posts
  and_intros
  refine f_dec (fun h1 => ?_) (fun h1 => ?_)
  · and_intros
    refine k_intD (fun h2 => ?_) (fun h2 => ?_)
    · subst_vars
      exact main 1 (by rw [if_pos ⟨h1, h2⟩])
    · subst_vars
      exact main 0 (by rw [if_neg (fun z => h2 z.2)])
  · and_intros
    refine k_intB ?_
    subst_vars
    exact main 0 (by rw [if_neg (fun z => h1 z.1)])
@[reducible] def i_number_told_j0 : I := (.blk (.ret (.bi .int (.cons (.var 0) .nil))) .skip)
@[reducible] def i_number_told_j1 : I := (.blk (.sif (.and (.cmp .eq (.ix (.var 0) (.int 0)) (.str "0")) (.one (.cmp .gt (.bi .len (.cons (.var 0) .nil)) (.int 1)))) (.blk .nev .skip) .skip) i_number_told_j0)
def i_number_told : I := (.blk (.sif (.or (.cmp .eq (.var 0) (.str "")) (.or (.cmp .gt (.bi .len (.cons (.var 0) .nil)) (.con 1)) (.one (.not (.tru (.dr (.bi .all (.cons (.comp (.cmp .isin (.var 1) (.con 0)) (.tn 1) (.seq (.var 0)) (.bl true) [("sign", 1)]) .nil)))))))) (.blk .nev .skip) .skip) i_number_told_j1)
def i_look_row : I := (.blk (.sif (.or (.cmp .lt (.ix (.var 0) (.int 0)) (.int 1)) (.one (.and (.cmp .gt (.bi .len (.cons (.var 0) .nil)) (.int 1)) (.one (.cmp .ge (.ix (.var 0) (.int 1)) (.ix (.var 0) (.int 0))))))) (.blk .nev .skip) .skip) .skip)
def i_bar : I := (.blk (.ret (.bin .add (.bin .sub (.var 0) (.int 1)) (.bi .max (.cons (.var 1) (.cons (.bin .sub (.bin .sub (.var 0) (.int 1)) (.var 1)) .nil))))) .skip)

/-! numbers in words -/
def numS (n : Nat) : Str := toString (n : Int)
theorem numS_tl (n : Nat) : (numS n).cps.toList = TL.numL n := TL.tl_num n
theorem numS_len (n : Nat) : (numS n).length = (TL.numL n).length := by
  rw [← numS_tl]; exact Array.length_toList.symm
theorem numS_ne (n : Nat) : numS n ≠ "" := fun z => by
  have := numS_tl n
  rw [z] at this
  exact TL.numL_ne n this.symm
theorem numL_head (n : Nat) : ∀ c r, TL.numL n = c :: r → c = 48 → r = [] := by
  induction n using Nat.strongRecOn with
  | ind n ih =>
    intro c r h hc
    by_cases h10 : n < 10
    · rw [TL.numL_lt h10] at h
      exact (List.cons.inj h).2.symm
    · rw [TL.numL_step (by omega)] at h
      cases e : TL.numL (n / 10) with
      | nil => exact absurd e (TL.numL_ne _)
      | cons d s =>
        rw [e] at h
        have h : d :: (s ++ [48 + n % 10]) = c :: r := h
        obtain ⟨h1, h2⟩ := List.cons.inj h
        have hs := ih (n / 10) (by omega) d s e (h1.trans hc)
        have hv := TL.numL_val (n / 10)
        rw [e, hs, h1, hc] at hv
        have : (0 : Nat) = n / 10 := hv
        omega
theorem numS_digit (n : Nat) : ∀ c ∈ (numS n).cps.toList, c ∈ ("0123456789" : Str).cps.toList := fun c hc => by
  rw [numS_tl] at hc
  have h := TL.numL_digits n c hc
  have e : ("0123456789" : Str).cps.toList = [48, 49, 50, 51, 52, 53, 54, 55, 56, 57] := by decide +kernel
  rw [e]
  have h1 : 48 ≤ c ∧ c ≤ 57 := h
  simp only [List.mem_cons, List.not_mem_nil, or_false]
  omega
theorem numS_free (n : Nat) : (32 : Nat) ∉ (numS n).cps.toList := fun h => by
  rw [numS_tl] at h
  exact TL.numL_free (by decide) h
theorem numS_lt {n : Nat} (h : n < 10 ^ 60) : (numS n).length ≤ 60 := by
  rw [numS_len]; exact TL.numL_len (by decide) h
theorem numS_int {n : Nat} (h : n < 10 ^ 60) : PySem.intText? (numS n) = some (n : Int) := TL.int_num (by have := numS_lt h; rw [numS_len] at this; omega)
theorem log_lt {n : Int} (h : n.natAbs < 2 ^ 1900) : n.natAbs.log2 < 1920 := by
  by_cases z : n.natAbs = 0
  · rw [z]; decide
  · exact Nat.lt_trans ((Nat.log2_lt z).mpr h) (by decide)
theorem sgn78_at {x : Str} {i : Nat} {y : D} (h : (sgn x)[i]? = some y) : ∃ c, x.cps.toList[i]? = some c ∧ y = .str ⟨#[c]⟩ := by
  unfold sgn at h
  rw [List.getElem?_map] at h
  cases e : x.cps.toList[i]? with
  | none => rw [e] at h; cases h
  | some c => rw [e] at h; cases h; exact ⟨c, rfl, rfl⟩
def sp_numtold : ASp := fun ds m Q => ∃ n : Nat, ds = [.str (numS n)] ∧ n < 10 ^ 60 ∧ Q (.int (n : Nat)) m
theorem b_numtold (ds : List D) (m : Mu) (Q : D → Mu → Prop) (h : sp_numtold ds m Q) : ds.length = 1 ∧ ((∀ d ∈ ds, okD (fun k => decide (k < m.length)) d = true) → okM m → wS ⟨[], [("FIGURES", .str "0123456789"), ("MOST_FIGURES", .int 60)], []⟩ m i_number_told (AEf m Q) (slots 2 ds) m) := by
  obtain ⟨n, rfl, hn, q⟩ := h
  refine ⟨rfl, fun _ hok => s_start ?_⟩
  have hz := sizeLine_eq
  have hl := numS_lt hn
  unfold i_number_told
  and_intros
  refine f_dec (fun c => absurd c (numS_ne n)) (fun _ => ?_)
  and_intros
  refine k_lenS (by rw [hz]; omega) ?_
  and_intros
  refine f_dec (fun c => absurd c (by omega)) (fun _ => ?_)
  and_intros
  refine r_dr (fun d m' => d = .bl true ∧ m' = m) ?_ ?_
  · and_intros
    refine l_comp (fun i m' => m' = m ++ [.lst ((List.replicate i true).map D.bl)]) rfl (fun _ _ _ => trivial) ?_ ?_
    · rintro m' rfl
      and_intros
      refine k_all at_new ?_
      rw [show (List.replicate (sgn (numS n)).length true).all id = true from List.all_eq_true.mpr fun b hb => by rw [List.eq_of_mem_replicate hb]; rfl]
      exact drop_junk _ rfl ⟨rfl, rfl⟩
    · rintro i y m' hy rfl
      obtain ⟨c, hc, rfl⟩ := sgn78_at hy
      and_intros
      refine c_inS ?_
      rw [decide_eq_true (numS_digit n c (List.mem_of_getElem? hc))]
      have hi := (List.getElem?_eq_some_iff.mp hy).1
      have hi2 : i < 60 := by
        unfold sgn at hi
        rw [List.length_map, Array.length_toList] at hi
        exact Nat.lt_of_lt_of_le hi hl
      refine ⟨_, at_new, by rw [List.length_map, List.length_replicate, hz]; omega, ?_⟩
      rw [set_last, List.replicate_succ', List.map_append]; rfl
  rintro d m' ⟨rfl, rfl⟩
  and_intros
  cases e : (numS n).cps.toList with
  | nil => rw [numS_tl] at e; exact absurd e (TL.numL_ne n)
  | cons c r =>
    have h0 : atI (numS n).cps.toList 0 = some c := by rw [e]; exact atI_nat (j := 0) rfl
    refine x_str (by rw [hz]; omega) h0 ?_
    and_intros
    have last : xS ⟨[], [("FIGURES", .str "0123456789"), ("MOST_FIGURES", .int 60)], []⟩ m' i_number_told_j0 (AEf m' Q) [some (.str (numS n)), none] m' := by
      and_intros
      refine k_intS (numS_int hn) (by omega) ?_
      and_intros
      exact drop_same rfl q
    refine f_dec (fun c1 => ?_) (fun c1 => ?_)
    · have c48 : c = 48 := by
        have := congrArg (fun z : Str => z.cps.toList) c1
        have z : [c] = [48] := this
        exact (List.cons.inj z).1
      have hr : r = [] := numL_head n c r ((numS_tl n).symm.trans e) c48
      have hl1 : (numS n).length = 1 := by
        have : (numS n).length = (numS n).cps.toList.length := Array.length_toList.symm
        rw [this, e, hr]; rfl
      and_intros
      refine k_lenS (by rw [hz]; omega) ?_
      and_intros
      refine f_dec (fun c2 => absurd c2 (by omega)) (fun _ => ?_)
      subst_vars
      exact last
    · subst_vars
      exact last
def sp_lookrow : ASp := fun ds m Q => ∃ (p : Nat) (ns : List Int) (n : Int), ds = [.loc p] ∧ m[p]? = some (.lst ((n :: ns).map D.int)) ∧ 1 ≤ n ∧ (∀ k ∈ ns.head?, k < n) ∧ Q .non m
theorem b_lookrow (ds : List D) (m : Mu) (Q : D → Mu → Prop) (h : sp_lookrow ds m Q) : ds.length = 1 ∧ ((∀ d ∈ ds, okD (fun k => decide (k < m.length)) d = true) → okM m → wS ⟨[], [], []⟩ m i_look_row (AEf m Q) (slots 1 ds) m) := by
  obtain ⟨p, ns, n, rfl, hp, hn, hk, q⟩ := h
  refine ⟨rfl, fun _ hok => s_start ?_⟩
  unfold i_look_row
  and_intros
  refine x_loc hp (atI_nat (j := 0) rfl) ?_
  and_intros
  refine f_dec (fun c => absurd c (by omega)) (fun _ => ?_)
  and_intros
  cases ns with
  | nil =>
    and_intros
    exact drop_same rfl q
  | cons k ns =>
    have hk : k < n := hk k rfl
    and_intros
    refine f_dec (fun c => ?_) (fun _ => ?_)
    · and_intros
      refine x_loc hp (atI_nat (j := 1) rfl) ?_
      and_intros
      refine x_loc hp (atI_nat (j := 0) rfl) ?_
      and_intros
      refine f_dec (fun c => absurd c (by omega)) (fun _ => ?_)
      and_intros
      exact drop_same rfl q
    · and_intros
      exact drop_same rfl q
def sp_bar78 : ASp := fun ds m Q => ∃ (n k : Int), ds = [.int n, .int k] ∧ Q (.int (n - 1 + max k (n - 1 - k))) m
theorem b_bar78 (ds : List D) (m : Mu) (Q : D → Mu → Prop) (h : sp_bar78 ds m Q) : ds.length = 2 ∧ ((∀ d ∈ ds, okD (fun k => decide (k < m.length)) d = true) → okM m → wS ⟨[], [], []⟩ m i_bar (AEf m Q) (slots 2 ds) m) := by
  obtain ⟨n, k, rfl, q⟩ := h
  refine ⟨rfl, fun _ hok => s_start ?_⟩
  unfold i_bar
  and_intros
  exact drop_same rfl q
@[reducible] def i_plain_told_j0 : I := (.blk (.ret (.call 0 (.cons (.ix (.var 1) (.int 0)) (.cons (.ix (.var 1) (.int 1)) (.cons (.ix (.var 1) (.int 2)) .nil))))) .skip)
@[reducible] def i_plain_told_j1 : I := (.blk (.sif (.cmp .eq (.var 0) (.str "bar")) (.blk (.ret (.bi .str (.cons (.call 1 (.cons (.ix (.var 1) (.int 0)) (.cons (.ix (.var 1) (.int 1)) .nil))) .nil))) .skip) .skip) i_plain_told_j0)
@[reducible] def i_plain_told_j2 : I := (.blk (.ex (.call 3 (.cons (.var 1) .nil))) (.blk (.sif (.cmp .eq (.var 0) (.str "beat")) (.blk (.ret (.bi .str (.cons (.call 2 (.cons (.ix (.var 1) (.int 0)) .nil)) .nil))) .skip) .skip) i_plain_told_j1))
def i_plain_told : I := (.blk (.sif (.cmp .eq (.var 0) (.str "posts")) (.blk (.ex (.call 3 (.cons (.sl (.var 1) .non (.pt (.int 1))) .nil))) (.blk (.ret (.bi .str (.cons (.call 4 (.cons (.ix (.var 1) (.int 0)) (.cons (.ix (.var 1) (.int 1)) .nil))) .nil))) .skip)) .skip) i_plain_told_j2)

/-! the desk's plain lines -/
theorem psF_bd : ∀ (j : Nat) (h g : Int) (k : Nat) (t : Int), h ≤ 2 ^ j + 1 → 0 ≤ psF h g k t ∧ psF h g k t + 2 ^ (k + 1) ≤ 2 ^ (k + j + 1)
  | 0, h, g, k, t, hh => by
    have hh : h ≤ 1 + 1 := hh
    rw [ps_no (by omega)]
    exact ⟨Int.le_refl 0, by rw [Int.zero_add]; exact Int.le_refl _⟩
  | j + 1, h, g, k, t, hh => by
    have e0 : (2 : Int) ^ (j + 1) = 2 ^ j * 2 := Int.pow_succ ..
    have e1 : (2 : Int) ^ (k + 1) = 2 ^ k * 2 := Int.pow_succ ..
    have p1 : (0 : Int) < 2 ^ k := Int.pow_pos (by decide)
    by_cases c : 3 ≤ h
    · obtain ⟨i1, i2⟩ := psF_bd j ((h + 1) / 2) (g + (3 * (h - 1) + 1) / 2) (k + 1) t (by omega)
      rw [ps_go c]
      have e2 : (2 : Int) ^ (k + 1 + 1) = 2 ^ k * 2 * 2 := by rw [Int.pow_succ, Int.pow_succ]
      rw [e2, show k + 1 + j + 1 = k + (j + 1) + 1 by omega] at i2
      rw [e1]
      generalize psF ((h + 1) / 2) (g + (3 * (h - 1) + 1) / 2) (k + 1) t = P at i1 i2 ⊢
      generalize (2 : Int) ^ (k + (j + 1) + 1) = B at i2 ⊢
      generalize (2 : Int) ^ k = p at p1 i2 ⊢
      split
      · have hm : h % 2 = 0 ∨ h % 2 = 1 := by omega
        rcases hm with hm | hm
        · rw [hm]; omega
        · rw [hm]; omega
      · omega
    · rw [ps_no c, Int.zero_add]
      refine ⟨Int.le_refl 0, ?_⟩
      rw [e1, show k + (j + 1) + 1 = k + 1 + (j + 1) by omega, Int.pow_add, e1]
      have : (0 : Int) < 2 ^ (j + 1) := Int.pow_pos (by decide)
      have h2 : 2 ^ k * 2 * 1 ≤ 2 ^ k * 2 * (2 : Int) ^ (j + 1) := Int.mul_le_mul_of_nonneg_left (by omega) (by omega)
      omega
theorem posts_bd {n t : Int} (hn : n ≤ 2 ^ 240) : 0 ≤ postsF n t ∧ postsF n t ≤ 2 ^ 242 := by
  obtain ⟨h1, h2⟩ := psF_bd 240 n 0 0 t (by omega)
  unfold postsF
  have e : (2 : Int) ^ (0 + 240 + 1) = 2 ^ 241 := rfl
  rw [e] at h2
  split <;> omega
/-- a line's numbers, and what is answered -/
inductive Ln where
  | beat (n : Nat) | bar (n x : Nat) | seen (n x t : Nat) | posts (n t : Nat)
def Ln.w : Ln → Str
  | .beat _ => "beat" | .bar _ _ => "bar" | .seen _ _ _ => "seen" | .posts _ _ => "posts"
def Ln.ns : Ln → List Nat
  | .beat n => [n] | .bar n x => [n, x] | .seen n x t => [n, x, t] | .posts n t => [n, t]
def Ln.due : Ln → D
  | .beat n => .int (rowb n) | .bar n x => .int ((n : Int) - 1 + max (x : Int) ((n : Int) - 1 - x)) | .seen n x t => .str (seenF n x t) | .posts n t => .int (postsF n t)
def dueS : D → Str
  | .int i => toString i
  | .str s => s
  | _ => ""
def Ln.ok : Ln → Prop
  | .beat n => 1 ≤ n ∧ n < 10 ^ 60
  | .bar n x => 1 ≤ n ∧ n < 10 ^ 60 ∧ x < n
  | .seen n x t => 1 ≤ n ∧ n < 10 ^ 60 ∧ x < n ∧ t < 10 ^ 60
  | .posts n t => 1 ≤ n ∧ n < 10 ^ 60 ∧ t < 10 ^ 60
theorem row_bd (n : Nat) : 0 ≤ rowb n ∧ rowb n ≤ 3 * (n : Int) := by
  have h := pc_le (n - 1)
  unfold rowb lsum
  split
  · omega
  · rw [if_neg (by omega)]; omega
theorem Ln.due_bd {l : Ln} (h : l.ok) : ∀ i, l.due = .int i → i.natAbs.log2 < 1920 := by
  intro i hi
  have hp : (10 : Nat) ^ 60 < 2 ^ 200 := by decide
  refine log_lt ?_
  cases l with
  | beat n =>
    have h : 1 ≤ n ∧ n < 10 ^ 60 := h
    have e : rowb n = i := D.int.inj hi
    have := row_bd n
    have : i.natAbs < 2 ^ 203 := by omega
    exact Nat.lt_trans this (by decide)
  | bar n x =>
    have h : 1 ≤ n ∧ n < 10 ^ 60 ∧ x < n := h
    have e : (n : Int) - 1 + max (x : Int) ((n : Int) - 1 - x) = i := D.int.inj hi
    have : i.natAbs < 2 ^ 203 := by omega
    exact Nat.lt_trans this (by decide)
  | seen n x t => cases hi
  | posts n t =>
    have h : 1 ≤ n ∧ n < 10 ^ 60 ∧ t < 10 ^ 60 := h
    have e : postsF n t = i := D.int.inj hi
    have := posts_bd (n := n) (t := t) (by omega)
    have : i.natAbs < 2 ^ 243 := by omega
    exact Nat.lt_trans this (by decide)
abbrev gPlain : Gm := ⟨[("seen", sp_seen), ("bar", sp_bar78), ("row_beat", sp_row), ("look_row", sp_lookrow), ("posts", sp_posts)], [], []⟩
def sp_ptold : ASp := fun ds m Q => ∃ (l : Ln) (p : Nat), ds = [.str l.w, .loc p] ∧ m[p]? = some (.lst ((l.ns.map fun n : Nat => (n : Int)).map D.int)) ∧ l.ok ∧ Q (.str (dueS l.due)) m
theorem b_ptold (ds : List D) (m : Mu) (Q : D → Mu → Prop) (h : sp_ptold ds m Q) : ds.length = 2 ∧ ((∀ d ∈ ds, okD (fun k => decide (k < m.length)) d = true) → okM m → wS gPlain m i_plain_told (AEf m Q) (slots 2 ds) m) := by
  obtain ⟨l, p, rfl, hp, ok, q⟩ := h
  refine ⟨rfl, fun _ hok => s_start ?_⟩
  have hbd := Ln.due_bd ok
  have hq : ∀ J, Drop m Q (.str (dueS l.due)) (m ++ J) := fun J => drop_junk J rfl q
  have hq0 : Drop m Q (.str (dueS l.due)) m := drop_same rfl q
  have h200 : (10 : Nat) ^ 60 < 2 ^ 200 := by decide
  unfold i_plain_told
  cases l with
  | beat n =>
    have ok : 1 ≤ n ∧ n < 10 ^ 60 := ok
    show xS _ _ _ _ [some (.str "beat"), some (.loc p)] m
    and_intros
    refine v_call rfl ⟨p, [], n, rfl, hp, by omega, fun k hk => (nomatch hk), ?_⟩
    and_intros
    refine v_call rfl ⟨n, rfl, by omega, ?_⟩
    and_intros
    refine k_str (hbd _ rfl) ?_
    and_intros
    exact hq0
  | bar n x =>
    have ok : 1 ≤ n ∧ n < 10 ^ 60 ∧ x < n := ok
    show xS _ _ _ _ [some (.str "bar"), some (.loc p)] m
    and_intros
    refine v_call rfl ⟨p, [(x : Int)], n, rfl, hp, by omega, fun k hk => by cases hk; omega, ?_⟩
    and_intros
    refine v_call rfl ⟨n, x, rfl, ?_⟩
    and_intros
    refine k_str (hbd _ rfl) ?_
    and_intros
    exact hq0
  | seen n x t =>
    have ok : 1 ≤ n ∧ n < 10 ^ 60 ∧ x < n ∧ t < 10 ^ 60 := ok
    show xS _ _ _ _ [some (.str "seen"), some (.loc p)] m
    and_intros
    refine v_call rfl ⟨p, [(x : Int), (t : Int)], n, rfl, hp, by omega, fun k hk => by cases hk; omega, ?_⟩
    and_intros
    refine v_call rfl ⟨n, x, t, rfl, by omega, by omega, by omega, ?_⟩
    and_intros
    exact hq0
  | posts n t =>
    have ok : 1 ≤ n ∧ n < 10 ^ 60 ∧ t < 10 ^ 60 := ok
    show xS _ _ _ _ [some (.str "posts"), some (.loc p)] m
    and_intros
    refine v_call rfl ⟨m.length, [], n, rfl, at_new, by omega, fun k hk => (nomatch hk), ?_⟩
    and_intros
    refine v_call rfl ⟨n, t, rfl, by omega, ?_⟩
    and_intros
    refine k_str (hbd _ rfl) ?_
    and_intros
    exact hq _
/-! lists of texts -/
theorem toPs_strs {m : Mu} : ∀ ns : List Str, toPs m (ns.map D.str) = some (ns.map PyData.str)
  | [] => rfl
  | n :: ns => by
    show (match toP m (.str n), toPs m (ns.map D.str) with | some a, some r => some (a :: r) | _, _ => none) = _
    rw [toPs_strs ns]; rfl
theorem canLay_strs : ∀ ns : List Str, ns.all PyData.strOk = true → PyData.canLayAll0 (ns.map PyData.str) = true
  | [], _ => by simp [PyData.canLayAll0]
  | n :: ns, h => by
    rw [List.all_cons, Bool.and_eq_true] at h
    simp [PyData.canLayAll0, PyData.canLay0, canLay_strs ns h.2, h.1]
theorem depth_strs : ∀ ns : List Str, PyData.depthAll (ns.map PyData.str) ≤ 1
  | [] => by simp [PyData.depthAll]
  | n :: ns => by
    have := depth_strs ns
    simp [PyData.depthAll, PyData.depth]; omega
theorem shapedL_strs (ns : List Str) (h : ns.all PyData.strOk = true) : SeqAt.shaped (.list (ns.map PyData.str)) = true := by
  have := depth_strs ns
  unfold SeqAt.shaped
  simp [PyData.canLay0, canLay_strs ns h, PyData.depth]; omega
theorem eqvAll_strs : ∀ ns ms : List Str, PyData.eqvAll (ns.map PyData.str) (ms.map PyData.str) = decide (ns = ms)
  | [], [] => by simp [PyData.eqvAll]
  | [], m :: ms => by simp [PyData.eqvAll]
  | n :: ns, [] => by simp [PyData.eqvAll]
  | n :: ns, m :: ms => by
    have := eqvAll_strs ns ms
    simp [PyData.eqvAll, PyData.eqv, this]
    by_cases h : n = m <;> simp [h]
theorem c_neLS {m : Mu} {n k : Nat} {ns ms : List Str} {f : Bool → Prop} (h1 : m[n]? = some (.lst (ns.map D.str))) (h2 : m[k]? = some (.lst (ms.map D.str))) (g1 : ns.all PyData.strOk = true) (g2 : ms.all PyData.strOk = true) (h : f (!decide (ns = ms))) : xC .ne (.loc n) (.loc k) m f := by
  refine c_ne (b := decide (ns = ms)) ⟨.list (ns.map PyData.str), .list (ms.map PyData.str), ?_, ?_, shapedL_strs ns g1, shapedL_strs ms g2, ?_⟩ h
  · show (match m[n]? with | some (Ob.lst xs) => (toPs m xs).map PyData.list | _ => none) = _
    rw [h1]; show (toPs m _).map PyData.list = _; rw [toPs_strs]; rfl
  · show (match m[k]? with | some (Ob.lst xs) => (toPs m xs).map PyData.list | _ => none) = _
    rw [h2]; show (toPs m _).map PyData.list = _; rw [toPs_strs]; rfl
  · simp [PyData.eqv, eqvAll_strs]
/-- one thing that was made is kept, its place told anew -/
theorem dropS_keep {m0 m : Mu} {k : Nat} {xs : List D} {sl sl' : Sl} {Q : Sl → Mu → Prop} (hp : m.take m0.length = m0) (hk : m0.length ≤ k) (e : m[k]? = some (.lst xs)) (hx : okDs (fun j => decide (j < m0.length)) xs = true) (hs : subS sl' sl) (ho : okSl (kept m0.length [k]) sl')
    (q : Q (sl'.map (Option.map (ren (moved m0.length [k])))) (m0 ++ [.lst xs])) : DropS m0 Q sl m := by
  have hlt := (List.getElem?_eq_some_iff.mp e).1
  have mono : ∀ j, decide (j < m0.length) = true → kept m0.length [k] j = true := fun j h => by unfold kept; rw [h]; rfl
  have rid : ∀ j, decide (j < m0.length) = true → moved m0.length [k] j = j := fun j h => by unfold moved; rw [if_pos (of_decide_eq_true h)]
  obtain ⟨h1, h2⟩ := subS_ok hs ho
  refine ⟨[k], sl', ⟨by omega, fun j hj => ?_, by simp, fun i hi => .inl ?_, fun j hj o ho2 => ?_⟩, h1, h2, ?_⟩
  · have e : j = k := by simpa using hj
    subst e
    exact ⟨hk, hlt⟩
  · have : (m.take m0.length)[i]? = m0[i]? := by rw [hp]
    rw [List.getElem?_take_of_lt hi] at this
    exact this
  · have e2 : j = k := by simpa using hj
    subst e2
    rw [e] at ho2
    cases ho2
    exact okDs_mono mono xs hx
  · have e2 : cutM m0 m [k] = m0 ++ [.lst xs] := by
      unfold cutM
      rw [hp]
      simp only [List.map_cons, List.map_nil]
      rw [e]
      show m0 ++ [Ob.lst (rens _ xs)] = _
      rw [rens_idp rid xs hx]
    rw [e2]; exact q
theorem moved_k {n k : Nat} (h : n ≤ k) : moved n [k] k = n := by
  unfold moved
  rw [if_neg (by omega)]
  simp
theorem ren_none {f : Nat → Nat} {d : D} (h : okD (fun _ => false) d = true) : ren f d = d := ren_idp (fun _ h => Bool.noConfusion h) d h
theorem kept_k {n k : Nat} : kept n [k] k = true := by unfold kept; simp
@[reducible] def i_Desk_say_j0 : I := (.blk .nev .skip)
@[reducible] def i_Desk_say_j1 : I := (.blk (.sif (.and (.cmp .isin (.var 3) (.con 0)) (.one (.cmp .eq (.bi .len (.cons (.var 2) .nil)) (.bin .add (.int 2) (.ix (.con 0) (.var 3)))))) (.blk .nev .skip) .skip) i_Desk_say_j0)
@[reducible] def i_Desk_say_j2 : I := (.blk (.sif (.and (.cmp .isin (.var 3) (.con 1)) (.one (.cmp .eq (.bi .len (.cons (.var 2) .nil)) (.bin .add (.int 1) (.ix (.con 1) (.var 3)))))) (.blk (.ret (.call 0 (.cons (.var 3) (.cons (.comp (.call 1 (.cons (.var 4) .nil)) (.tn 4) (.seq (.sl (.var 2) (.pt (.int 1)) .non)) (.bl true) [("one", 4)]) .nil)))) .skip) .skip) i_Desk_say_j1)
@[reducible] def i_Desk_say_j3 : I := (.blk (.sif (.cmp .eq (.var 2) (.lst (.cons (.str "names") .nil))) (.blk .nev .skip) .skip) i_Desk_say_j2)
@[reducible] def i_Desk_say_j4 : I := (.blk (.asg (.tn 2) (.sm .split (.var 1) (.cons (.str " ") .nil))) (.blk (.asg (.tn 3) (.ix (.var 2) (.int 0))) (.blk (.sif (.cmp .eq (.var 3) (.str "keep")) (.blk .nev .skip) .skip) i_Desk_say_j3)))
def i_Desk_say : I := (.blk (.sif (.not (.tru (.isi "str" (.var 1)))) (.blk .nev .skip) .skip) i_Desk_say_j4)

/-! a line, said -/
def lineW (l : Ln) : List Str := l.w :: l.ns.map numS
def lineS (l : Ln) : Str := Txt.join " " (lineW l)
theorem Ln.num {l : Ln} (h : l.ok) : ∀ n ∈ l.ns, n < 10 ^ 60 := by
  intro n hn
  cases l with
  | beat a =>
    have h : 1 ≤ a ∧ a < 10 ^ 60 := h
    have hn : n ∈ [a] := hn
    simp only [List.mem_cons, List.not_mem_nil, or_false] at hn
    omega
  | bar a b =>
    have h : 1 ≤ a ∧ a < 10 ^ 60 ∧ b < a := h
    have hn : n ∈ [a, b] := hn
    simp only [List.mem_cons, List.not_mem_nil, or_false] at hn
    omega
  | seen a b c =>
    have h : 1 ≤ a ∧ a < 10 ^ 60 ∧ b < a ∧ c < 10 ^ 60 := h
    have hn : n ∈ [a, b, c] := hn
    simp only [List.mem_cons, List.not_mem_nil, or_false] at hn
    omega
  | posts a b =>
    have h : 1 ≤ a ∧ a < 10 ^ 60 ∧ b < 10 ^ 60 := h
    have hn : n ∈ [a, b] := hn
    simp only [List.mem_cons, List.not_mem_nil, or_false] at hn
    omega
theorem Ln.few (l : Ln) : l.ns.length ≤ 3 := by cases l <;> simp [Ln.ns]
theorem word_facts : ∀ w ∈ [("beat" : Str), "bar", "seen", "posts"], w ≠ "keep" ∧ w ≠ "names" ∧ w.length ≤ 60 ∧ PyData.strOk w = true ∧ ¬ (32 ∈ TL.tl w) := by decide +kernel
theorem Ln.facts (l : Ln) : l.w ≠ "keep" ∧ l.w ≠ "names" ∧ l.w.length ≤ 60 ∧ PyData.strOk l.w = true ∧ ¬ (32 ∈ TL.tl l.w) := word_facts _ (by cases l <;> simp [Ln.w])
theorem line_split (l : Ln) : Txt.split (lineS l) " " = lineW l := by
  refine TL.split_join (s := 32) (S := []) rfl (by decide +kernel) (fun z => nomatch z) fun p hp hc => ?_
  rcases List.mem_cons.mp hp with rfl | hp
  · exact l.facts.2.2.2.2 hc
  · obtain ⟨n, _, rfl⟩ := List.mem_map.mp hp
    exact numS_free n hc
theorem joinL_len78 : ∀ L : List (List Nat), (TL.joinL [32] L).length ≤ (L.map List.length).sum + L.length
  | [] => Nat.zero_le _
  | [p] => by show p.length ≤ _; simp
  | p :: q :: r => by
    have ih := joinL_len78 (q :: r)
    show (p ++ ([32] ++ TL.joinL [32] (q :: r))).length ≤ _
    rw [List.length_append, List.length_append, List.map_cons, List.sum_cons, List.length_cons (a := p)]
    show _ + (1 + _) ≤ _
    omega
theorem sum_le78 {c : Nat} : ∀ {L : List Nat}, (∀ x ∈ L, x ≤ c) → L.sum ≤ c * L.length
  | [], _ => Nat.zero_le _
  | x :: L, h => by
    have := sum_le78 (L := L) fun y hy => h y (List.mem_cons_of_mem _ hy)
    have := h x (List.mem_cons_self ..)
    rw [List.sum_cons, List.length_cons, Nat.mul_succ]
    omega
theorem word_le {l : Ln} (h : l.ok) : ∀ w ∈ lineW l, w.length ≤ 60 := fun w hw => by
  rcases List.mem_cons.mp hw with rfl | hw
  · exact l.facts.2.2.1
  · obtain ⟨n, hn, rfl⟩ := List.mem_map.mp hw
    exact numS_lt (Ln.num h n hn)
theorem lineW_len (l : Ln) : (lineW l).length ≤ 4 := by
  have := l.few
  show (l.ns.map numS).length + 1 ≤ 4
  rw [List.length_map]; omega
theorem line_len {l : Ln} (h : l.ok) : (lineS l).length ≤ 300 := by
  have e : (lineS l).cps.toList = TL.joinL [32] ((lineW l).map TL.tl) := by
    unfold lineS
    rw [TL.join_eq]
    exact TL.tl_join _ _
  have h1 := joinL_len78 ((lineW l).map TL.tl)
  rw [← e, List.map_map, List.length_map] at h1
  have e2 : (lineW l).map (List.length ∘ TL.tl) = (lineW l).map (·.length) := List.map_congr_left fun x _ => Array.length_toList
  rw [e2] at h1
  have h2 := sum_le78 (c := 60) (L := (lineW l).map (·.length)) fun x hx => by
    obtain ⟨w, hw, rfl⟩ := List.mem_map.mp hx
    exact word_le h w hw
  rw [List.length_map] at h2
  have h4 := lineW_len l
  have e3 : (lineS l).length = (lineS l).cps.toList.length := Array.length_toList.symm
  omega
theorem numS_ok (n : Nat) : PyData.strOk (numS n) = true := by
  show (numS n).cps.all (· < 0x110000) = true
  rw [← Array.all_toList, List.all_eq_true]
  intro c hc
  rw [numS_tl] at hc
  have h : 48 ≤ c ∧ c ≤ 57 := TL.numL_digits n c hc
  rw [decide_eq_true_eq]; omega
theorem lineW_ok (l : Ln) : (lineW l).all PyData.strOk = true := by
  rw [List.all_eq_true]
  intro w hw
  rcases List.mem_cons.mp hw with rfl | hw
  · exact l.facts.2.2.2.1
  · obtain ⟨n, _, rfl⟩ := List.mem_map.mp hw
    exact numS_ok n
theorem c_eqLS {m : Mu} {n k : Nat} {ns ms : List Str} {f : Bool → Prop} (h1 : m[n]? = some (.lst (ns.map D.str))) (h2 : m[k]? = some (.lst (ms.map D.str))) (g1 : ns.all PyData.strOk = true) (g2 : ms.all PyData.strOk = true) (h : f (decide (ns = ms))) : xC .eq (.loc n) (.loc k) m f := by
  refine c_eq (b := decide (ns = ms)) ⟨.list (ns.map PyData.str), .list (ms.map PyData.str), ?_, ?_, shapedL_strs ns g1, shapedL_strs ms g2, ?_⟩ h
  · show (match m[n]? with | some (Ob.lst xs) => (toPs m xs).map PyData.list | _ => none) = _
    rw [h1]; show (toPs m _).map PyData.list = _; rw [toPs_strs]; rfl
  · show (match m[k]? with | some (Ob.lst xs) => (toPs m xs).map PyData.list | _ => none) = _
    rw [h2]; show (toPs m _).map PyData.list = _; rw [toPs_strs]; rfl
  · simp [PyData.eqv, eqvAll_strs]
abbrev plainD : D := .dic [.str "beat", .str "bar", .str "seen", .str "posts"] [.int 1, .int 2, .int 3, .int 2]
abbrev namedD : D := .dic [.str "drop", .str "show", .str "plays", .str "first", .str "ring", .str "row", .str "judge", .str "haste", .str "told"] [.int 0, .int 0, .int 0, .int 3, .int 3, .int 3, .int 2, .int 2, .int 2]
theorem plain_at (l : Ln) : valD [.str "beat", .str "bar", .str "seen", .str "posts"] [.int 1, .int 2, .int 3, .int 2] (.str l.w) = some (.int (l.ns.length : Nat)) := by cases l <;> rfl
abbrev gSay : Gm := ⟨[("plain_told", sp_ptold), ("number_told", sp_numtold)], [("NAMED", namedD), ("PLAIN", plainD)], []⟩
def sp_say : ASp := fun ds m Q => ∃ (l : Ln) (d : Nat), ds = [.loc d, .str (lineS l)] ∧ l.ok ∧ Q (.str (dueS l.due)) m
theorem b_say (ds : List D) (m : Mu) (Q : D → Mu → Prop) (h : sp_say ds m Q) : ds.length = 2 ∧ ((∀ d ∈ ds, okD (fun k => decide (k < m.length)) d = true) → okM m → wS gSay m i_Desk_say (AEf m Q) (slots 5 ds) m) := by
  obtain ⟨l, d, rfl, ok, q⟩ := h
  refine ⟨rfl, fun _ hok => s_start ?_⟩
  have hz := sizeLine_eq
  have hl := line_len ok
  have hw : l.w ≠ "keep" := l.facts.1
  have hn : ¬ (lineW l = [("names" : Str)]) := fun z => by
    exact l.facts.2.1 (List.cons.inj z).1
  unfold i_Desk_say
  and_intros
  refine s_split (by decide) (by rw [hz]; omega) ?_
  rw [line_split]
  and_intros
  refine x_loc at_new (d := .str l.w) (atI_nat (j := 0) rfl) ?_
  and_intros
  refine f_dec (fun c => absurd c hw) (fun _ => ?_)
  and_intros
  refine c_eqLS (ns := lineW l) (ms := ["names"]) (at_app at_new) at_new (lineW_ok l) (by decide +kernel) ?_
  and_intros
  refine f_dec (fun c => absurd c hn) (fun _ => ?_)
  and_intros
  refine c_inD rfl (.inr ⟨rfl, rfl⟩) ?_
  rw [plain_at]
  and_intros
  refine k_len (seq_loc (at_app at_new)) ?_
  and_intros
  refine x_dic rfl (.inr ⟨rfl, rfl⟩) (plain_at l) ?_
  and_intros
  refine f_dec (fun _ => ?_) (fun c => absurd (show _ = _ by rw [List.length_map]; unfold lineW; rw [List.length_cons, List.length_map]; omega) c)
  and_intros
  refine z_loc (at_app at_new) ?_
  rw [show Ab.cutD ((lineW l).map D.str) (some 1) none = (l.ns.map numS).map D.str by cases l <;> rfl]
  and_intros
  refine l_comp (fun i m' => m' = m ++ [.lst ((lineW l).map D.str)] ++ [.lst [D.str "names"]] ++ [.lst ((l.ns.map numS).map D.str)] ++ [.lst (((l.ns.map fun n : Nat => (n : Int)).take i).map D.int)]) rfl (fun _ _ e => by subst e; exact at_app at_new) ?_ ?_
  rotate_left
  · rintro i x m' hx rfl
    rw [List.map_map, List.getElem?_map] at hx
    cases hi : l.ns[i]? with
    | none => rw [hi] at hx; cases hx
    | some n =>
      rw [hi] at hx
      cases hx
      and_intros
      refine v_call rfl ⟨n, rfl, Ln.num ok n (List.mem_of_getElem? hi), ?_⟩
      refine ⟨_, at_new, by rw [List.length_map, List.length_take, List.length_map, hz]; have := l.few; omega, ?_⟩
      rw [set_last, List.take_add_one, List.getElem?_map, hi, List.map_append]; rfl
  rintro m' rfl
  rw [List.length_map, List.length_map, show l.ns.length = (l.ns.map fun n : Nat => (n : Int)).length from (List.length_map ..).symm, List.take_length]
  and_intros
  refine v_call rfl ⟨l, _, rfl, at_new, ok, ?_⟩
  and_intros
  simp only [List.append_assoc]
  exact drop_junk _ rfl q
def i_Desk_init : I := (.blk (.sfld (.var 0) "kept" .dnew) (.ghf 0 "kept" .skip))
def i_law_is_told : I := (.blk (.ret (.and (.isi "str" (.var 0)) (.one (.cmp .eq (.var 0) (.bi .str (.cons (.var 1) .nil)))))) .skip)
@[reducible] def i_law_b0 : I := (.blk (.sif (.not (.tru (.call 0 (.cons (.mth "say" 0 (.var 1) (.cons (.sm .join (.str " ") (.cons (.comp (.bi .str (.cons (.var 10) .nil)) (.tn 10) (.seq (.var 8)) (.bl true) [("_law_word", 10)]) .nil)) .nil)) (.cons (.var 9) .nil))))) (.blk (.ret (.bl false)) .skip) .skip) .skip)
@[irreducible] def i_law_k1 : I := (.blk (.asg (.tn 5) (.call 5 (.cons (.var 3) (.cons (.var 4) .nil)))) (.blk (.asg (.tn 6) (.call 5 (.cons (.var 3) (.cons (.bi .min (.cons (.bin .pow (.int 10) (.int 60)) (.cons (.bin .add (.call 4 (.cons (.var 4) .nil)) (.int 3)) .nil))) .nil)))) (.blk (.asg (.tn 7) (.lst (.cons (.tup (.cons (.lst (.cons (.str "beat") (.cons (.var 4) .nil))) (.cons (.call 4 (.cons (.var 4) .nil)) .nil))) (.cons (.tup (.cons (.lst (.cons (.str "bar") (.cons (.var 4) (.cons (.var 5) .nil)))) (.cons (.call 3 (.cons (.var 4) (.cons (.var 5) .nil))) .nil))) .nil)))) (.blk (.ex (.mt .append (.var 7) (.cons (.tup (.cons (.lst (.cons (.str "seen") (.cons (.var 4) (.cons (.var 5) (.cons (.var 6) .nil))))) (.cons (.call 2 (.cons (.var 4) (.cons (.var 5) (.cons (.var 6) .nil)))) .nil))) .nil))) (.blk (.ex (.mt .append (.var 7) (.cons (.tup (.cons (.lst (.cons (.str "posts") (.cons (.var 4) (.cons (.var 6) .nil)))) (.cons (.call 1 (.cons (.var 4) (.cons (.var 6) .nil))) .nil))) .nil))) (.blk (.for_ (.tt (.cons (.tn 8) (.cons (.tn 9) .nil))) (.seq (.var 7)) i_law_b0) .skip))))))
@[reducible] def i_law_b2 : I := (.blk (.asg (.tn 3) (.call 7 (.cons (.var 0) (.cons (.var 2) .nil)))) (.blk (.asg (.tn 4) (.bin .add (.int 1) (.call 6 (.cons (.var 3) (.cons (.int 12) .nil))))) (.blk (.sif (.cmp .gt (.call 6 (.cons (.var 3) (.cons (.int 3) .nil))) (.int 0)) (.blk (.asg (.tn 4) (.bin .add (.int 1) (.call 5 (.cons (.var 3) (.cons (.bin .sub (.bin .pow (.int 10) (.int 60)) (.int 1)) .nil))))) .skip) .skip) i_law_k1)))
@[irreducible] def i_law_k3 : I := (.blk (.ret (.bl true)) .skip)
def i_law : I := (.blk (.asg (.tn 1) (.call 8 .nil)) (.blk (.for_ (.tn 2) (.rng (.cons (.bin .add (.dr (.bi .len (.cons (.sl (.var 0) .non (.pt (.int 40))) .nil))) (.int 1)) .nil)) i_law_b2) i_law_k3))

/-! a desk, made -/
theorem at_mid1 {m l : Mu} {a o : Ob} : (m ++ a :: o :: l)[m.length + 1]? = some o := by
  rw [List.getElem?_append_right (by omega), show m.length + 1 - m.length = 1 by omega]; rfl
theorem at_mid {m l : Mu} {o : Ob} : (m ++ o :: l)[m.length]? = some o := by
  rw [List.getElem?_append_right (Nat.le_refl _), Nat.sub_self]; rfl
theorem set_mid {m l : Mu} {a x : Ob} : (m ++ a :: l).set m.length x = m ++ x :: l := set_last
theorem set_mid1 {m l : Mu} {a o x : Ob} : (m ++ a :: o :: l).set (m.length + 1) x = m ++ a :: x :: l := by
  rw [List.set_append_right _ _ (by omega), show m.length + 1 - m.length = 1 by omega]; rfl
theorem drop_desk {m : Mu} {Q : D → Mu → Prop} {d : D} {o o' : Ob} (l : Mu) (ho : okO (fun k => decide (k < (m ++ [o]).length)) o' = true) (hd : okD (fun k => decide (k < (m ++ [o]).length)) d = true) (q : Q d (m ++ [o'])) : Drop (m ++ [o]) Q d (m ++ o' :: l) :=
  drop_to (m1 := m ++ [o']) (by simp) (by rw [show m ++ o' :: l = (m ++ [o']) ++ l by simp, show (m ++ [o]).length = (m ++ [o']).length by simp, List.take_append_of_le_length (Nat.le_refl _), List.take_length]) (fun i hi => by
    by_cases h : i < m.length
    · exact .inl (by rw [List.getElem?_append_left h, List.getElem?_append_left h])
    · have hi : i < m.length + 1 := by rw [List.length_append] at hi; exact hi
      have e : i = m.length := by omega
      subst e
      exact .inr ⟨o', at_new, ho⟩) hd q
abbrev deskO : Ob := .ins "Desk" ["kept"] [.dic [] []]
def sp_dinit : ASp := fun ds m Q => ∃ m0 : Mu, ds = [.loc m0.length] ∧ m = m0 ++ [.ins "Desk" [] []] ∧ Q .non (m0 ++ [deskO])
def sp_Desk0 : ASp := fun ds m Q => ds = [] ∧ Q (.loc m.length) (m ++ [deskO])
theorem mk_Desk0 : ∀ xs m Q, sp_Desk0 xs m Q → mkSp "Desk" sp_dinit (xs ++ []) m Q := by
  rintro xs m Q ⟨rfl, q⟩
  exact ⟨m, rfl, rfl, rfl, q⟩
theorem b_dinit (ds : List D) (m : Mu) (Q : D → Mu → Prop) (h : sp_dinit ds m Q) : ds.length = 1 ∧ ((∀ d ∈ ds, okD (fun k => decide (k < m.length)) d = true) → okM m → wS ⟨[], [], []⟩ m i_Desk_init (AEf m Q) (slots 1 ds) m) := by
  obtain ⟨m0, rfl, rfl, q⟩ := h
  refine ⟨rfl, fun _ hok => s_start ?_⟩
  unfold i_Desk_init
  and_intros
  rw [show (m0 ++ [Ob.ins "Desk" [] []]).length = m0.length + 1 by simp]
  refine sf_of (ns := []) (fs := []) (ns' := ["kept"]) (fs' := [.dloc (m0.length + 1)]) (at_appO at_new) rfl (by decide) rfl rfl ?_
  rw [List.append_assoc, List.singleton_append, set_last]
  and_intros
  refine q_ghf (ns' := []) (v := .dic [] []) (fs' := [.dic [] []]) rfl at_mid rfl rfl (by omega) at_mid1 rfl rfl rfl ?_
  rw [set_mid1, set_mid]
  and_intros
  exact drop_desk _ rfl rfl q
def sp_istold : ASp := fun ds m Q => ∃ l : Ln, ds = [.str (dueS l.due), l.due] ∧ l.ok ∧ Q (.bl true) m
theorem b_istold (ds : List D) (m : Mu) (Q : D → Mu → Prop) (h : sp_istold ds m Q) : ds.length = 2 ∧ ((∀ d ∈ ds, okD (fun k => decide (k < m.length)) d = true) → okM m → wS ⟨[], [], []⟩ m i_law_is_told (AEf m Q) (slots 2 ds) m) := by
  obtain ⟨l, rfl, ok, q⟩ := h
  refine ⟨rfl, fun _ hok => s_start ?_⟩
  have hb := Ln.due_bd ok
  unfold i_law_is_told
  have hd : (∃ i, l.due = .int i) ∨ ∃ s, l.due = .str s := by
    cases l
    · exact .inl ⟨_, rfl⟩
    · exact .inl ⟨_, rfl⟩
    · exact .inr ⟨_, rfl⟩
    · exact .inl ⟨_, rfl⟩
  rcases hd with ⟨i, e⟩ | ⟨s, e⟩
  · rw [e]
    and_intros
    refine k_str (hb i e) ?_
    and_intros
    exact drop_same rfl (by rw [decide_eq_true (show dueS (D.int i) = (toString i : Str) from rfl)]; exact q)
  · rw [e]
    and_intros
    exact drop_same rfl (by rw [decide_eq_true (show dueS (D.str s) = s from rfl)]; exact q)
/-! the law -/
def lnD (l : Ln) : List D := D.str l.w :: l.ns.map fun n : Nat => D.int (n : Int)
abbrev gL : Gm := ⟨[("_law_is_told", sp_istold), ("posts", sp_posts), ("seen", sp_seen), ("bar", sp_bar78), ("row_beat", sp_row), ("_law_number", sp_number), ("_law_take", sp_take), ("_law_pot", sp_pot), ("Desk", sp_Desk0)], [], [(("Desk", "say"), sp_say)]⟩
theorem nat_log {l : Ln} (ok : l.ok) : ∀ n ∈ l.ns, ((n : Nat) : Int).natAbs.log2 < 1920 := fun n hn => by
  have h := Ln.num ok n hn
  have hp : (10 : Nat) ^ 60 < 2 ^ 1900 := by decide
  exact log_lt (by omega)
theorem setJ78 {C J : Mu} {a b : Ob} : (C ++ [a] ++ J).set C.length b = C ++ [b] ++ J := by
  rw [List.append_assoc, List.set_append_right _ _ (Nat.le_refl _), Nat.sub_self, List.append_assoc]; rfl
theorem setJ78b {C J K : Mu} {a b : Ob} : (C ++ [a] ++ J ++ K).set C.length b = C ++ [b] ++ J ++ K := by
  rw [List.append_assoc, setJ78, List.append_assoc (C ++ [b])]
theorem at_len78 {m m2 : Mu} {o : Ob} (h : m2.length = m.length) : (m ++ [o])[m2.length]? = some o := by rw [h]; exact at_new
theorem lnD_at {l : Ln} {j : Nat} {y : D} (h : (lnD l)[j]? = some y) : ∃ w : Str, (lineW l)[j]? = some w ∧ ((y = .str w) ∨ ∃ n, n ∈ l.ns ∧ y = .int (n : Nat) ∧ w = numS n) := by
  cases j with
  | zero =>
    cases h
    exact ⟨l.w, rfl, .inl rfl⟩
  | succ j =>
    have h : (l.ns.map fun n : Nat => D.int (n : Int))[j]? = some y := h
    rw [List.getElem?_map] at h
    cases e : l.ns[j]? with
    | none => rw [e] at h; cases h
    | some n =>
      rw [e] at h
      cases h
      refine ⟨numS n, ?_, .inr ⟨n, List.mem_of_getElem? e, rfl, rfl⟩⟩
      show (l.ns.map numS)[j]? = _
      rw [List.getElem?_map, e]; rfl
theorem lnD_len (l : Ln) : (lnD l).length = (lineW l).length := by
  show (l.ns.map _).length + 1 = (l.ns.map _).length + 1
  rw [List.length_map, List.length_map]
theorem ask_loop {m0 E : Mu} {A : AE} {d pl : Nat} {items : List D} {a0 a2 a3 a4 a5 a6 x8 x9 x10 : Option D} (hd : E[d]? = some deskO) (hl : E[pl]? = some (.lst items))
    (hi : ∀ (i : Nat) (y : D), items[i]? = some y → ∃ (l : Ln) (p : Nat), y = .tup [.loc p, l.due] ∧ l.ok ∧ E[p]? = some (.lst (lnD l)))
    (hA : ∀ (x8 x9 x10 : Option D) (K : Mu), A.nx [a0, some (.loc d), a2, a3, a4, a5, a6, some (.loc pl), x8, x9, x10] (E ++ K)) :
    xS gL m0 (.blk (.for_ (.tt (.cons (.tn 8) (.cons (.tn 9) .nil))) (.seq (.var 7)) i_law_b0) .skip) A [a0, some (.loc d), a2, a3, a4, a5, a6, some (.loc pl), x8, x9, x10] E := by
  have hz := sizeLine_eq
  and_intros
  refine l_for (fun i sl' m'' => ∃ (x8 x9 x10 : Option D) (K : Mu), sl' = [a0, some (.loc d), a2, a3, a4, a5, a6, some (.loc pl), x8, x9, x10] ∧ m'' = E ++ K) ⟨_, _, _, [], rfl, by rw [List.append_nil]⟩ (fun _ _ _ ⟨_, _, _, _, _, e⟩ => by subst e; exact at_app hl) ?_ ?_
  · rintro sl' m'' ⟨x8, x9, x10, K, rfl, rfl⟩
    and_intros
    exact hA _ _ _ _
  rintro i y sl' m'' hy ⟨x8, x9, x10, K, rfl, rfl⟩
  obtain ⟨l, p, rfl, ok, hp⟩ := hi i y hy
  have hpK : (E ++ K)[p]? = some (.lst (lnD l)) := at_app hp
  and_intros
  refine mo_loc (C := "Desk") (ns := ["kept"]) (fs := [.dic [] []]) (at_appO hd) rfl ?_
  and_intros
  refine l_comp (fun j m3 => m3 = E ++ K ++ [.lst (((lineW l).take j).map D.str)]) rfl (fun _ _ e => by subst e; exact at_app hpK) ?_ ?_
  rotate_left
  · rintro j z m3 hz' rfl
    obtain ⟨w, hw, hk⟩ := lnD_at hz'
    have h4 := lineW_len l
    have add : ((lineW l).take (j + 1)).map D.str = ((lineW l).take j).map D.str ++ [.str w] := by rw [List.take_add_one, hw, List.map_append]; rfl
    have hlt : (((lineW l).take j).map D.str).length < sizeLine := by rw [List.length_map, List.length_take, hz]; omega
    rcases hk with rfl | ⟨n, hn, rfl, rfl⟩
    · and_intros
      refine ⟨_, at_new, hlt, ?_⟩
      rw [set_last, add]
    · and_intros
      refine k_str (nat_log ok n hn) ?_
      and_intros
      refine ⟨_, at_new, hlt, ?_⟩
      rw [set_last, add]; rfl
  rintro m3 rfl
  rw [lnD_len, List.take_length]
  and_intros
  have h4 := lineW_len l
  have h5 := sum_le78 (c := 60) (L := (lineW l).map (·.length)) fun x hx => by
    obtain ⟨w, hw, rfl⟩ := List.mem_map.mp hx
    exact word_le ok w hw
  rw [List.length_map] at h5
  refine s_join (seq_loc at_new) (by show _ + _ * 1 ≤ _; omega) ?_
  and_intros
  refine ⟨ok, ?_⟩
  and_intros
  refine v_call rfl ⟨l, rfl, ok, ?_⟩
  and_intros
  exact ⟨_, _, _, _, rfl, by rw [List.append_assoc]⟩
theorem b_law (ds : List D) (m : Mu) (Q : D → Mu → Prop) (h : aspLaw ds m Q) : ds.length = 1 ∧ ((∀ d ∈ ds, okD (fun k => decide (k < m.length)) d = true) → okM m → wS gL m i_law (AEf m Q) (slots 11 ds) m) := by
  obtain ⟨ns, rfl, hl, _, q⟩ := h
  refine ⟨rfl, fun _ hok => s_start ?_⟩
  have hz := sizeLine_eq
  have h60 : (10 : Int) ^ 60 < 2 ^ 200 := by decide
  have tail : ∀ (B : Mu) (m0 : Mu) (A : AE) (n : Nat) (s : List D) (xk x5 x6 x7 x8 x9 x10 : Option D), B[m.length]? = some deskO → 1 ≤ n → n < 10 ^ 60 → Pot s →
      (∀ (x5 x6 x7 x8 x9 x10 : Option D) (J : Mu), A.nx [some (.ro (ns.map D.int)), some (.loc m.length), xk, some (.loc B.length), some (.int (n : Nat)), x5, x6, x7, x8, x9, x10] (B ++ J)) →
      xS gL m0 i_law_k1 A [some (.ro (ns.map D.int)), some (.loc m.length), xk, some (.loc B.length), some (.int (n : Nat)), x5, x6, x7, x8, x9, x10] (B ++ [.lst s]) := by
    intro B m0 A n s xk x5 x6 x7 x8 x9 x10 hd hn1 hn2 hg hA
    have hr := row_bd n
    unfold i_law_k1
    and_intros
    refine v_call rfl ⟨_, s, (n : Nat), rfl, at_new, hg, by omega, by omega, fun x s1 x0 x1 g1 => ?_⟩
    rw [set_last]
    obtain ⟨x, rfl⟩ : ∃ j : Nat, x = (j : Int) := ⟨x.toNat, by omega⟩
    and_intros
    refine v_call rfl ⟨n, rfl, by omega, ?_⟩
    and_intros
    refine v_call rfl ⟨_, s1, _, rfl, at_new, g1, by omega, by omega, fun t s2 t0 t1 g2 => ?_⟩
    rw [set_last]
    obtain ⟨t, rfl⟩ : ∃ j : Nat, t = (j : Int) := ⟨t.toNat, by omega⟩
    have t60 : t < 10 ^ 60 := by omega
    clear t1
    and_intros
    refine v_call rfl ⟨n, rfl, by omega, ?_⟩
    and_intros
    refine v_call rfl ⟨(n : Nat), (x : Nat), rfl, ?_⟩
    and_intros
    refine v_call rfl ⟨(n : Nat), (x : Nat), (t : Nat), rfl, by omega, by omega, by omega, ?_⟩
    and_intros
    refine m_append (at_app at_new) (by rw [hz]; show 2 < _; omega) ?_
    rw [setJ78]
    and_intros
    refine ⟨⟨_, _, rfl, at_app at_new⟩, ?_⟩
    and_intros
    refine v_call rfl ⟨(n : Nat), (t : Nat), rfl, by omega, ?_⟩
    and_intros
    refine m_append (at_app (at_app at_new)) (by rw [hz]; show 3 < _; omega) ?_
    rw [setJ78b]
    subst_vars
    refine ask_loop ?_ (at_app (at_app at_new)) ?_ ?_
    · exact at_appO (at_appO (at_appO (at_appO (at_appO (at_appO hd)))))
    · intro i y hy
      have hi : i < 4 := (List.getElem?_eq_some_iff.mp hy).1
      have : i = 0 ∨ i = 1 ∨ i = 2 ∨ i = 3 := by omega
      rcases this with rfl | rfl | rfl | rfl
      · cases hy
        exact ⟨.beat n, _, rfl, ⟨hn1, hn2⟩, at_app (at_app (at_app (at_app at_new)))⟩
      · cases hy
        exact ⟨.bar n x, _, rfl, ⟨hn1, hn2, by omega⟩, at_app (at_app (at_app at_new))⟩
      · cases hy
        exact ⟨.seen n x t, _, rfl, ⟨hn1, hn2, by omega, t60⟩, at_app (at_len78 (by simp))⟩
      · cases hy
        exact ⟨.posts n t, _, rfl, ⟨hn1, hn2, t60⟩, at_len78 (by simp)⟩
    · intro y8 y9 y10 K
      simp only [List.append_assoc]
      exact hA _ _ _ _ _ _ _
  unfold i_law
  and_intros
  refine v_call rfl ⟨rfl, ?_⟩
  and_intros
  refine r_dr (fun d m' => ∃ L : Nat, d = .int L ∧ L ≤ 40 ∧ m' = m ++ [deskO]) ?_ ?_
  · and_intros
    refine drop_junk _ rfl ⟨_, rfl, ?_, rfl⟩
    unfold Ab.cutD
    rw [List.length_take, List.length_map]
    have h2 : HT.sIx ns.length ns.length (some 40) ≤ 40 := by
      rw [show (40 : Int) = ((40 : Nat) : Int) from rfl, HT.sIx_nat]
      exact Nat.min_le_left _ _
    omega
  rintro d m' ⟨L, rfl, hL, rfl⟩
  and_intros
  refine l_for (fun i sl' m'' => ∃ (x2 x3 x4 x5 x6 x7 x8 x9 x10 : Option D) (J : Mu), sl' = [some (.ro (ns.map D.int)), some (.loc m.length), x2, x3, x4, x5, x6, x7, x8, x9, x10] ∧ m'' = m ++ [deskO] ++ J)
    ⟨_, _, _, _, _, _, _, _, _, [], rfl, by rw [List.append_nil]⟩ (fun _ _ _ _ => trivial) ?_ ?_
  · rintro sl' m'' ⟨x2, x3, x4, x5, x6, x7, x8, x9, x10, J, rfl, rfl⟩
    show xS _ _ i_law_k3 _ _ _
    unfold i_law_k3
    and_intros
    rw [List.append_assoc]
    exact drop_junk _ rfl (q _)
  · rintro i x sl' m'' hx ⟨x2, x3, x4, x5, x6, x7, x8, x9, x10, J, rfl, rfl⟩
    obtain ⟨hi, rfl⟩ := rngD_get hx
    have hi' : i < 41 := by omega
    and_intros
    refine v_call rfl ⟨ns, _, rfl, by omega, by omega, fun s hg => ?_⟩
    and_intros
    refine v_call rfl ⟨_, s, 12, rfl, at_new, hg, by decide, by decide, fun a s1 a0 a1 g1 => ?_⟩
    rw [set_last]
    and_intros
    refine v_call rfl ⟨_, s1, 3, rfl, at_new, g1, by decide, by decide, fun b s2 b0 b1 g2 => ?_⟩
    rw [set_last]
    generalize hB : m ++ [deskO] ++ J = B
    have hd : B[m.length]? = some deskO := by rw [← hB, List.append_assoc]; exact at_mid
    and_intros
    refine f_dec (fun c => ?_) (fun c => ?_)
    · and_intros
      refine v_call rfl ⟨_, s2, 10 ^ 60 - 1, rfl, at_new, g2, by decide, by decide, fun e s3 e0 e1 g3 => ?_⟩
      rw [set_last]
      obtain ⟨n, en⟩ : ∃ n : Nat, 1 + e = (n : Int) := ⟨(1 + e).toNat, by omega⟩
      and_intros
      rw [en]
      show xS _ _ i_law_k1 _ _ _
      refine tail B _ _ n s3 _ _ _ _ _ _ _ hd (by omega) (by omega) g3 fun x5 x6 x7 x8 x9 x10 K => ?_
      subst hB
      exact ⟨_, _, _, _, _, _, _, _, _, _, rfl, List.append_assoc ..⟩
    · obtain ⟨n, en⟩ : ∃ n : Nat, 1 + a = (n : Int) := ⟨(1 + a).toNat, by omega⟩
      and_intros
      rw [en]
      show xS _ _ i_law_k1 _ _ _
      refine tail B _ _ n s2 _ _ _ _ _ _ _ hd (by omega) (by omega) g2 fun x5 x6 x7 x8 x9 x10 K => ?_
      subst hB
      exact ⟨_, _, _, _, _, _, _, _, _, _, rfl, List.append_assoc ..⟩
end P78

namespace P78
open PySem PySem.Spec PyProof.Rows L2 Ab
def topS (i : Nat) : Stmt := PySem.Challenge.pw_firetogether_k78_desk_reckons.main.body.getD i (.Pass ⟨0, 0, 0, 0⟩)
abbrev st_law_is_told : Stmt := topS 122
theorem sc_law_is_told : FnScope ["_law_found", "_law_due"] ["_law_found", "_law_due"] (defScope st_law_is_told) := ⟨rfl, rfl, rfl, by decide +kernel, rfl, by decide +kernel, by decide +kernel⟩
theorem ck_law_is_told : chk ["_law_found", "_law_due"] [] [] i_law_is_told (defScope st_law_is_told) true (.ss (defBody st_law_is_told)) = true := by decide +kernel
abbrev st_levels : Stmt := topS 71
theorem sc_levels : FnScope ["n", "found", "h", "begun", "met"] ["n"] (defScope st_levels) := ⟨rfl, rfl, rfl, by decide +kernel, rfl, by decide +kernel, by decide +kernel⟩
theorem ck_levels : chk ["n", "found", "h", "begun", "met"] ["LEAST_CUT"] [] i_levels (defScope st_levels) true (.ss (defBody st_levels)) = true := by decide +kernel
abbrev st_posts : Stmt := topS 73
theorem sc_posts : FnScope ["n", "t", "many", "level", "h", "begun", "hit", "met"] ["n", "t"] (defScope st_posts) := ⟨rfl, rfl, rfl, by decide +kernel, rfl, by decide +kernel, by decide +kernel⟩
theorem ck_posts : chk ["n", "t", "many", "level", "h", "begun", "hit", "met"] [] ["levels"] i_posts (defScope st_posts) true (.ss (defBody st_posts)) = true := by decide +kernel
abbrev st_wave_state : Stmt := topS 94
theorem sc_wave_state : FnScope ["h", "gone", "far", "away", "back"] ["h", "gone", "far", "away", "back"] (defScope st_wave_state) := ⟨rfl, rfl, rfl, by decide +kernel, rfl, by decide +kernel, by decide +kernel⟩
theorem ck_wave_state : chk ["h", "gone", "far", "away", "back"] ["QUIET"] [] i_wave_state (defScope st_wave_state) true (.ss (defBody st_wave_state)) = true := by decide +kernel
abbrev st_end_state : Stmt := topS 95
theorem sc_end_state : FnScope ["h", "gone", "first"] ["h", "gone", "first"] (defScope st_end_state) := ⟨rfl, rfl, rfl, by decide +kernel, rfl, by decide +kernel, by decide +kernel⟩
theorem ck_end_state : chk ["h", "gone", "first"] ["QUIET"] [] i_end_state (defScope st_end_state) true (.ss (defBody st_end_state)) = true := by decide +kernel
abbrev st_stretch_state : Stmt := topS 96
theorem sc_stretch_state : FnScope ["begin", "end", "side", "gone", "first", "x", "h", "far"] ["begin", "end", "side", "gone", "first", "x"] (defScope st_stretch_state) := ⟨rfl, rfl, rfl, by decide +kernel, rfl, by decide +kernel, by decide +kernel⟩
theorem ck_stretch_state : chk ["begin", "end", "side", "gone", "first", "x", "h", "far"] ["RIGHT", "LEFT", "POSTS"] ["wave_state", "end_state"] i_stretch_state (defScope st_stretch_state) true (.ss (defBody st_stretch_state)) = true := by decide +kernel
abbrev st_part_with : Stmt := topS 93
theorem sc_part_with : FnScope ["begin", "end", "x", "many", "last"] ["begin", "end", "x"] (defScope st_part_with) := ⟨rfl, rfl, rfl, by decide +kernel, rfl, by decide +kernel, by decide +kernel⟩
theorem ck_part_with : chk ["begin", "end", "x", "many", "last"] [] [] i_part_with (defScope st_part_with) true (.ss (defBody st_part_with)) = true := by decide +kernel
abbrev st_ones : Stmt := topS 2
theorem sc_ones : FnScope ["number", "many", "digit"] ["number"] (defScope st_ones) := ⟨rfl, rfl, rfl, by decide +kernel, rfl, by decide +kernel, by decide +kernel⟩
theorem ck_ones : chk ["number", "many", "digit"] [] [] i_ones (defScope st_ones) true (.ss (defBody st_ones)) = true := by decide +kernel
abbrev st_row_beat : Stmt := topS 3
theorem sc_row_beat : FnScope ["n"] ["n"] (defScope st_row_beat) := ⟨rfl, rfl, rfl, by decide +kernel, rfl, by decide +kernel, by decide +kernel⟩
theorem ck_row_beat : chk ["n"] [] ["ones"] i_row_beat (defScope st_row_beat) true (.ss (defBody st_row_beat)) = true := by decide +kernel
abbrev st_seen : Stmt := topS 97
theorem sc_seen : FnScope ["n", "x", "t", "begin", "end", "side", "begun", "h", "came", "hit", "met"] ["n", "x", "t"] (defScope st_seen) := ⟨rfl, rfl, rfl, by decide +kernel, rfl, by decide +kernel, by decide +kernel⟩
theorem ck_seen : chk ["n", "x", "t", "begin", "end", "side", "begun", "h", "came", "hit", "met"] ["FIRE"] ["stretch_state", "levels", "part_with", "row_beat"] i_seen (defScope st_seen) true (.ss (defBody st_seen)) = true := by decide +kernel
abbrev st_bar : Stmt := topS 36
theorem sc_bar : FnScope ["n", "k"] ["n", "k"] (defScope st_bar) := ⟨rfl, rfl, rfl, by decide +kernel, rfl, by decide +kernel, by decide +kernel⟩
theorem ck_bar : chk ["n", "k"] [] [] i_bar (defScope st_bar) true (.ss (defBody st_bar)) = true := by decide +kernel
abbrev st_law_take : Stmt := topS 120
theorem sc_law_take : FnScope ["_law_pot_here", "_law_many", "_law_digit"] ["_law_pot_here", "_law_many"] (defScope st_law_take) := ⟨rfl, rfl, rfl, by decide +kernel, rfl, by decide +kernel, by decide +kernel⟩
theorem ck_law_take : chk ["_law_pot_here", "_law_many", "_law_digit"] [] [] i_law_take (defScope st_law_take) true (.ss (defBody st_law_take)) = true := by decide +kernel
abbrev st_law_number : Stmt := topS 121
theorem sc_law_number : FnScope ["_law_pot_here", "_law_most", "_law_found", "_law_k"] ["_law_pot_here", "_law_most"] (defScope st_law_number) := ⟨rfl, rfl, rfl, by decide +kernel, rfl, by decide +kernel, by decide +kernel⟩
theorem ck_law_number : chk ["_law_pot_here", "_law_most", "_law_found", "_law_k"] [] ["_law_take"] i_law_number (defScope st_law_number) true (.ss (defBody st_law_number)) = true := by decide +kernel
abbrev st_law_pot : Stmt := topS 119
theorem sc_law_pot : FnScope ["_law_script", "_law_k", "_law_cell", "_law_great"] ["_law_script", "_law_k"] (defScope st_law_pot) := ⟨rfl, rfl, rfl, by decide +kernel, rfl, by decide +kernel, by decide +kernel⟩
theorem ck_law_pot : chk ["_law_script", "_law_k", "_law_cell", "_law_great"] [] [] i_law_pot (defScope st_law_pot) true (.ss (defBody st_law_pot)) = true := by decide +kernel
abbrev st_Desk_init : Stmt := L2.inClass (topS 117) 0
theorem sc_Desk_init : FnScope ["self"] ["self"] (defScope st_Desk_init) := ⟨rfl, rfl, rfl, by decide +kernel, rfl, by decide +kernel, by decide +kernel⟩
theorem ck_Desk_init : chk ["self"] [] [] i_Desk_init (defScope st_Desk_init) true (.ss (defBody st_Desk_init)) = true := by decide +kernel
abbrev st_look_row : Stmt := topS 110
theorem sc_look_row : FnScope ["numbers"] ["numbers"] (defScope st_look_row) := ⟨rfl, rfl, rfl, by decide +kernel, rfl, by decide +kernel, by decide +kernel⟩
theorem ck_look_row : chk ["numbers"] [] [] i_look_row (defScope st_look_row) true (.ss (defBody st_look_row)) = true := by decide +kernel
abbrev st_plain_told : Stmt := topS 112
theorem sc_plain_told : FnScope ["word", "numbers"] ["word", "numbers"] (defScope st_plain_told) := ⟨rfl, rfl, rfl, by decide +kernel, rfl, by decide +kernel, by decide +kernel⟩
theorem ck_plain_told : chk ["word", "numbers"] [] ["seen", "bar", "row_beat", "look_row", "posts"] i_plain_told (defScope st_plain_told) true (.ss (defBody st_plain_told)) = true := by decide +kernel
abbrev st_number_told : Stmt := topS 109
theorem sc_number_told : FnScope ["word", "sign"] ["word"] (defScope st_number_told) := ⟨rfl, rfl, rfl, by decide +kernel, rfl, by decide +kernel, by decide +kernel⟩
theorem ck_number_told : chk ["word", "sign"] ["FIGURES", "MOST_FIGURES"] [] i_number_told (defScope st_number_told) true (.ss (defBody st_number_told)) = true := by decide +kernel
abbrev st_Desk_say : Stmt := L2.inClass (topS 117) 3
theorem sc_Desk_say : FnScope ["self", "line", "words", "word", "one"] ["self", "line"] (defScope st_Desk_say) := ⟨rfl, rfl, rfl, by decide +kernel, rfl, by decide +kernel, by decide +kernel⟩
theorem ck_Desk_say : chk ["self", "line", "words", "word", "one"] ["NAMED", "PLAIN"] ["plain_told", "number_told"] i_Desk_say (defScope st_Desk_say) true (.ss (defBody st_Desk_say)) = true := by decide +kernel
abbrev st_law : Stmt := topS 123
theorem sc_law : FnScope ["_law_script", "_law_desk", "_law_k", "_law_pot_here", "_law_many", "_law_hand", "_law_beat", "_law_lines", "_law_words", "_law_due", "_law_word"] ["_law_script"] (defScope st_law) := ⟨rfl, rfl, rfl, by decide +kernel, rfl, by decide +kernel, by decide +kernel⟩
theorem ck_law : chk ["_law_script", "_law_desk", "_law_k", "_law_pot_here", "_law_many", "_law_hand", "_law_beat", "_law_lines", "_law_words", "_law_due", "_law_word"] [] ["_law_is_told", "posts", "seen", "bar", "row_beat", "_law_number", "_law_take", "_law_pot", "Desk"] i_law (defScope st_law) true (.ss (defBody st_law)) = true := by decide +kernel
section
variable {l : PySem.W.OpenLaw} {w : World} {K : PySem.W.Frag} {h : Heap} {mg : Str → Option Value} {fa f0 f1 f2 f3 f4 f5 f6 f7 f8 f9 f10 f11 f12 f13 f14 f15 f16 f17 f18 f19 C0 : Addr}
theorem all_mk (X : K.In h) (G : h.Ns mainGlobals mg) (hfa : mg "law" = some (.ref fa))
    {od0 an0 : Option Addr} {sl0 : Array (Option Value)} {oc0 kV0 dc0 pm0 cd0 ct0 : Value}
    {od1 an1 : Option Addr} {sl1 : Array (Option Value)} {oc1 kV1 dc1 pm1 cd1 ct1 : Value}
    {od2 an2 : Option Addr} {sl2 : Array (Option Value)} {oc2 kV2 dc2 pm2 cd2 ct2 : Value}
    {od3 an3 : Option Addr} {sl3 : Array (Option Value)} {oc3 kV3 dc3 pm3 cd3 ct3 : Value}
    {od4 an4 : Option Addr} {sl4 : Array (Option Value)} {oc4 kV4 dc4 pm4 cd4 ct4 : Value}
    {od5 an5 : Option Addr} {sl5 : Array (Option Value)} {oc5 kV5 dc5 pm5 cd5 ct5 : Value}
    {od6 an6 : Option Addr} {sl6 : Array (Option Value)} {oc6 kV6 dc6 pm6 cd6 ct6 : Value}
    {od7 an7 : Option Addr} {sl7 : Array (Option Value)} {oc7 kV7 dc7 pm7 cd7 ct7 : Value}
    {od8 an8 : Option Addr} {sl8 : Array (Option Value)} {oc8 kV8 dc8 pm8 cd8 ct8 : Value}
    {od9 an9 : Option Addr} {sl9 : Array (Option Value)} {oc9 kV9 dc9 pm9 cd9 ct9 : Value}
    {od10 an10 : Option Addr} {sl10 : Array (Option Value)} {oc10 kV10 dc10 pm10 cd10 ct10 : Value}
    {od11 an11 : Option Addr} {sl11 : Array (Option Value)} {oc11 kV11 dc11 pm11 cd11 ct11 : Value}
    {od12 an12 : Option Addr} {sl12 : Array (Option Value)} {oc12 kV12 dc12 pm12 cd12 ct12 : Value}
    {od13 an13 : Option Addr} {sl13 : Array (Option Value)} {oc13 kV13 dc13 pm13 cd13 ct13 : Value}
    {od14 an14 : Option Addr} {sl14 : Array (Option Value)} {oc14 kV14 dc14 pm14 cd14 ct14 : Value}
    {od15 an15 : Option Addr} {sl15 : Array (Option Value)} {oc15 kV15 dc15 pm15 cd15 ct15 : Value}
    {od16 an16 : Option Addr} {sl16 : Array (Option Value)} {oc16 kV16 dc16 pm16 cd16 ct16 : Value}
    {od17 an17 : Option Addr} {sl17 : Array (Option Value)} {oc17 kV17 dc17 pm17 cd17 ct17 : Value}
    {od18 an18 : Option Addr} {sl18 : Array (Option Value)} {oc18 kV18 dc18 pm18 cd18 ct18 : Value}
    {od19 an19 : Option Addr} {sl19 : Array (Option Value)} {oc19 kV19 dc19 pm19 cd19 ct19 : Value}
    (aC0 : PySem.W.nsIn K mainGlobals "Desk" = some (some (.ref C0)))
    (pg0 : PySem.W.plainGet K C0 Str.empty = true)
    (hd0 : PySem.W.hasDictIn K C0 = true)
    (po0 : PySem.W.plainOver K C0 = true)
    (sa0 : PySem.W.findIn K (.ref C0) "__setattr__" = some (some (.builtin "object.__setattr__")))
    (mk0 : PySem.W.makesIn K C0 = true)
    (kc0 : PySem.W.keepIn K (.ref C0) = true)
    (nf0_kept : PySem.W.findIn K (.ref C0) "kept" = some none)
    (no_Works : glA ⟨K, w, l.prog⟩ "Works" = none ∨ ∃ c, glA ⟨K, w, l.prog⟩ "Works" = some c ∧ Cls K c ∧ ∀ f ∈ (["machine", "word", "parts", "news", "names"] : List Str), NoAttr K c f)
    (a0 : PySem.W.nsIn K mainGlobals "_law_is_told" = some (some (.ref f0)))
    (l0 : K.lookup f0 = some ⟨oc0, od0, .func (PySem.W.fnOf "_law_is_told" "_law_is_told" (defArgs st_law_is_told) (defBody st_law_is_told) (defScope st_law_is_told) .none kV0 dc0 pm0 an0 cd0 ct0), sl0⟩)
    (c0 : PySem.W.codeIn K cd0 "_law_is_told" = true)
    (k0 : PySem.W.keepIn K (.ref f0) = true)
    (a1 : PySem.W.nsIn K mainGlobals "levels" = some (some (.ref f1)))
    (l1 : K.lookup f1 = some ⟨oc1, od1, .func (PySem.W.fnOf "levels" "levels" (defArgs st_levels) (defBody st_levels) (defScope st_levels) .none kV1 dc1 pm1 an1 cd1 ct1), sl1⟩)
    (c1 : PySem.W.codeIn K cd1 "levels" = true)
    (k1 : PySem.W.keepIn K (.ref f1) = true)
    (a2 : PySem.W.nsIn K mainGlobals "posts" = some (some (.ref f2)))
    (l2 : K.lookup f2 = some ⟨oc2, od2, .func (PySem.W.fnOf "posts" "posts" (defArgs st_posts) (defBody st_posts) (defScope st_posts) .none kV2 dc2 pm2 an2 cd2 ct2), sl2⟩)
    (c2 : PySem.W.codeIn K cd2 "posts" = true)
    (k2 : PySem.W.keepIn K (.ref f2) = true)
    (a3 : PySem.W.nsIn K mainGlobals "wave_state" = some (some (.ref f3)))
    (l3 : K.lookup f3 = some ⟨oc3, od3, .func (PySem.W.fnOf "wave_state" "wave_state" (defArgs st_wave_state) (defBody st_wave_state) (defScope st_wave_state) .none kV3 dc3 pm3 an3 cd3 ct3), sl3⟩)
    (c3 : PySem.W.codeIn K cd3 "wave_state" = true)
    (k3 : PySem.W.keepIn K (.ref f3) = true)
    (a4 : PySem.W.nsIn K mainGlobals "end_state" = some (some (.ref f4)))
    (l4 : K.lookup f4 = some ⟨oc4, od4, .func (PySem.W.fnOf "end_state" "end_state" (defArgs st_end_state) (defBody st_end_state) (defScope st_end_state) .none kV4 dc4 pm4 an4 cd4 ct4), sl4⟩)
    (c4 : PySem.W.codeIn K cd4 "end_state" = true)
    (k4 : PySem.W.keepIn K (.ref f4) = true)
    (a5 : PySem.W.nsIn K mainGlobals "stretch_state" = some (some (.ref f5)))
    (l5 : K.lookup f5 = some ⟨oc5, od5, .func (PySem.W.fnOf "stretch_state" "stretch_state" (defArgs st_stretch_state) (defBody st_stretch_state) (defScope st_stretch_state) .none kV5 dc5 pm5 an5 cd5 ct5), sl5⟩)
    (c5 : PySem.W.codeIn K cd5 "stretch_state" = true)
    (k5 : PySem.W.keepIn K (.ref f5) = true)
    (a6 : PySem.W.nsIn K mainGlobals "part_with" = some (some (.ref f6)))
    (l6 : K.lookup f6 = some ⟨oc6, od6, .func (PySem.W.fnOf "part_with" "part_with" (defArgs st_part_with) (defBody st_part_with) (defScope st_part_with) .none kV6 dc6 pm6 an6 cd6 ct6), sl6⟩)
    (c6 : PySem.W.codeIn K cd6 "part_with" = true)
    (k6 : PySem.W.keepIn K (.ref f6) = true)
    (a7 : PySem.W.nsIn K mainGlobals "ones" = some (some (.ref f7)))
    (l7 : K.lookup f7 = some ⟨oc7, od7, .func (PySem.W.fnOf "ones" "ones" (defArgs st_ones) (defBody st_ones) (defScope st_ones) .none kV7 dc7 pm7 an7 cd7 ct7), sl7⟩)
    (c7 : PySem.W.codeIn K cd7 "ones" = true)
    (k7 : PySem.W.keepIn K (.ref f7) = true)
    (a8 : PySem.W.nsIn K mainGlobals "row_beat" = some (some (.ref f8)))
    (l8 : K.lookup f8 = some ⟨oc8, od8, .func (PySem.W.fnOf "row_beat" "row_beat" (defArgs st_row_beat) (defBody st_row_beat) (defScope st_row_beat) .none kV8 dc8 pm8 an8 cd8 ct8), sl8⟩)
    (c8 : PySem.W.codeIn K cd8 "row_beat" = true)
    (k8 : PySem.W.keepIn K (.ref f8) = true)
    (a9 : PySem.W.nsIn K mainGlobals "seen" = some (some (.ref f9)))
    (l9 : K.lookup f9 = some ⟨oc9, od9, .func (PySem.W.fnOf "seen" "seen" (defArgs st_seen) (defBody st_seen) (defScope st_seen) .none kV9 dc9 pm9 an9 cd9 ct9), sl9⟩)
    (c9 : PySem.W.codeIn K cd9 "seen" = true)
    (k9 : PySem.W.keepIn K (.ref f9) = true)
    (a10 : PySem.W.nsIn K mainGlobals "bar" = some (some (.ref f10)))
    (l10 : K.lookup f10 = some ⟨oc10, od10, .func (PySem.W.fnOf "bar" "bar" (defArgs st_bar) (defBody st_bar) (defScope st_bar) .none kV10 dc10 pm10 an10 cd10 ct10), sl10⟩)
    (c10 : PySem.W.codeIn K cd10 "bar" = true)
    (k10 : PySem.W.keepIn K (.ref f10) = true)
    (a11 : PySem.W.nsIn K mainGlobals "_law_take" = some (some (.ref f11)))
    (l11 : K.lookup f11 = some ⟨oc11, od11, .func (PySem.W.fnOf "_law_take" "_law_take" (defArgs st_law_take) (defBody st_law_take) (defScope st_law_take) .none kV11 dc11 pm11 an11 cd11 ct11), sl11⟩)
    (c11 : PySem.W.codeIn K cd11 "_law_take" = true)
    (k11 : PySem.W.keepIn K (.ref f11) = true)
    (a12 : PySem.W.nsIn K mainGlobals "_law_number" = some (some (.ref f12)))
    (l12 : K.lookup f12 = some ⟨oc12, od12, .func (PySem.W.fnOf "_law_number" "_law_number" (defArgs st_law_number) (defBody st_law_number) (defScope st_law_number) .none kV12 dc12 pm12 an12 cd12 ct12), sl12⟩)
    (c12 : PySem.W.codeIn K cd12 "_law_number" = true)
    (k12 : PySem.W.keepIn K (.ref f12) = true)
    (a13 : PySem.W.nsIn K mainGlobals "_law_pot" = some (some (.ref f13)))
    (l13 : K.lookup f13 = some ⟨oc13, od13, .func (PySem.W.fnOf "_law_pot" "_law_pot" (defArgs st_law_pot) (defBody st_law_pot) (defScope st_law_pot) .none kV13 dc13 pm13 an13 cd13 ct13), sl13⟩)
    (c13 : PySem.W.codeIn K cd13 "_law_pot" = true)
    (k13 : PySem.W.keepIn K (.ref f13) = true)
    (a14 : PySem.W.findIn K (.ref C0) "__init__" = some (some (.ref f14)))
    (i14 : PySem.W.isFn K (.ref f14) = true)
    (l14 : K.lookup f14 = some ⟨oc14, od14, .func (PySem.W.fnOf "__init__" "Desk.__init__" (defArgs st_Desk_init) (defBody st_Desk_init) (defScope st_Desk_init) .none kV14 dc14 pm14 an14 cd14 ct14), sl14⟩)
    (c14 : PySem.W.codeIn K cd14 "Desk.__init__" = true)
    (k14 : PySem.W.keepIn K (.ref f14) = true)
    (a15 : PySem.W.nsIn K mainGlobals "look_row" = some (some (.ref f15)))
    (l15 : K.lookup f15 = some ⟨oc15, od15, .func (PySem.W.fnOf "look_row" "look_row" (defArgs st_look_row) (defBody st_look_row) (defScope st_look_row) .none kV15 dc15 pm15 an15 cd15 ct15), sl15⟩)
    (c15 : PySem.W.codeIn K cd15 "look_row" = true)
    (k15 : PySem.W.keepIn K (.ref f15) = true)
    (a16 : PySem.W.nsIn K mainGlobals "plain_told" = some (some (.ref f16)))
    (l16 : K.lookup f16 = some ⟨oc16, od16, .func (PySem.W.fnOf "plain_told" "plain_told" (defArgs st_plain_told) (defBody st_plain_told) (defScope st_plain_told) .none kV16 dc16 pm16 an16 cd16 ct16), sl16⟩)
    (c16 : PySem.W.codeIn K cd16 "plain_told" = true)
    (k16 : PySem.W.keepIn K (.ref f16) = true)
    (a17 : PySem.W.nsIn K mainGlobals "number_told" = some (some (.ref f17)))
    (l17 : K.lookup f17 = some ⟨oc17, od17, .func (PySem.W.fnOf "number_told" "number_told" (defArgs st_number_told) (defBody st_number_told) (defScope st_number_told) .none kV17 dc17 pm17 an17 cd17 ct17), sl17⟩)
    (c17 : PySem.W.codeIn K cd17 "number_told" = true)
    (k17 : PySem.W.keepIn K (.ref f17) = true)
    (a18 : PySem.W.findIn K (.ref C0) "say" = some (some (.ref f18)))
    (i18 : PySem.W.isFn K (.ref f18) = true)
    (l18 : K.lookup f18 = some ⟨oc18, od18, .func (PySem.W.fnOf "say" "Desk.say" (defArgs st_Desk_say) (defBody st_Desk_say) (defScope st_Desk_say) .none kV18 dc18 pm18 an18 cd18 ct18), sl18⟩)
    (c18 : PySem.W.codeIn K cd18 "Desk.say" = true)
    (k18 : PySem.W.keepIn K (.ref f18) = true)
    (a19 : PySem.W.nsIn K mainGlobals "law" = some (some (.ref f19)))
    (l19 : K.lookup f19 = some ⟨oc19, od19, .func (PySem.W.fnOf "law" "law" (defArgs st_law) (defBody st_law) (defScope st_law) .none kV19 dc19 pm19 an19 cd19 ct19), sl19⟩)
    (c19 : PySem.W.codeIn K cd19 "law" = true)
    (k19 : PySem.W.keepIn K (.ref f19) = true)
    {et0 : Tok}
    (e0 : PySem.W.nsIn K mainGlobals "LEAST_CUT" = some (some (.int 3 et0)))
    {et1 : Tok}
    (e1 : PySem.W.nsIn K mainGlobals "QUIET" = some (some (.str "o" et1)))
    {ea2 : Addr} {ed2 : Option Addr} {en2 : Nat} {es2 : Array (Option Value)} {et2_0 et2_1 et2_2 et2_3 : Tok}
    (e2 : PySem.W.nsIn K mainGlobals "RIGHT" = some (some (.ref ea2)))
    (o2 : K.lookup ea2 = some ⟨.type "tuple", ed2, .seq #[.str "r" et2_0, .str "ra" et2_1, .str "rb" et2_2, .str "rc" et2_3] en2, es2⟩)
    {ea3 : Addr} {ed3 : Option Addr} {en3 : Nat} {es3 : Array (Option Value)} {et3_0 et3_1 et3_2 et3_3 : Tok}
    (e3 : PySem.W.nsIn K mainGlobals "LEFT" = some (some (.ref ea3)))
    (o3 : K.lookup ea3 = some ⟨.type "tuple", ed3, .seq #[.str "l" et3_0, .str "la" et3_1, .str "lb" et3_2, .str "lc" et3_3] en3, es3⟩)
    {ea4 : Addr} {ed4 : Option Addr} {en4 : Nat} {es4 : Array (Option Value)} {et4_0 et4_1 et4_2 et4_3 : Tok}
    (e4 : PySem.W.nsIn K mainGlobals "POSTS" = some (some (.ref ea4)))
    (o4 : K.lookup ea4 = some ⟨.type "tuple", ed4, .seq #[.str "g" et4_0, .str "ga" et4_1, .str "gb" et4_2, .str "p" et4_3] en4, es4⟩)
    {et5 : Tok}
    (e5 : PySem.W.nsIn K mainGlobals "FIRE" = some (some (.str "f" et5)))
    {et6 : Tok}
    (e6 : PySem.W.nsIn K mainGlobals "FIGURES" = some (some (.str "0123456789" et6)))
    {et7 : Tok}
    (e7 : PySem.W.nsIn K mainGlobals "MOST_FIGURES" = some (some (.int 60 et7)))
    {ea8 : Addr} {en8 : Nat} {et8_0 eu8_0 et8_1 eu8_1 et8_2 eu8_2 et8_3 eu8_3 et8_4 eu8_4 et8_5 eu8_5 et8_6 eu8_6 et8_7 eu8_7 et8_8 eu8_8 : Tok}
    (e8 : PySem.W.nsIn K mainGlobals "NAMED" = some (some (.ref ea8)))
    (o8 : K.lookup ea8 = some ⟨.type "dict", none, .dict #[⟨hashStr w "drop", .str "drop" et8_0, .int 0 eu8_0⟩, ⟨hashStr w "show", .str "show" et8_1, .int 0 eu8_1⟩, ⟨hashStr w "plays", .str "plays" et8_2, .int 0 eu8_2⟩, ⟨hashStr w "first", .str "first" et8_3, .int 3 eu8_3⟩, ⟨hashStr w "ring", .str "ring" et8_4, .int 3 eu8_4⟩, ⟨hashStr w "row", .str "row" et8_5, .int 3 eu8_5⟩, ⟨hashStr w "judge", .str "judge" et8_6, .int 2 eu8_6⟩, ⟨hashStr w "haste", .str "haste" et8_7, .int 2 eu8_7⟩, ⟨hashStr w "told", .str "told" et8_8, .int 2 eu8_8⟩] en8, #[]⟩)
    (s8 : (ea8 == sysModules) = false)
    {ea9 : Addr} {en9 : Nat} {et9_0 eu9_0 et9_1 eu9_1 et9_2 eu9_2 et9_3 eu9_3 : Tok}
    (e9 : PySem.W.nsIn K mainGlobals "PLAIN" = some (some (.ref ea9)))
    (o9 : K.lookup ea9 = some ⟨.type "dict", none, .dict #[⟨hashStr w "beat", .str "beat" et9_0, .int 1 eu9_0⟩, ⟨hashStr w "bar", .str "bar" et9_1, .int 2 eu9_1⟩, ⟨hashStr w "seen", .str "seen" et9_2, .int 3 eu9_2⟩, ⟨hashStr w "posts", .str "posts" et9_3, .int 2 eu9_3⟩] en9, #[]⟩)
    (s9 : (ea9 == sysModules) = false)
    (z0 : PySem.W.nsIn K mainGlobals "len" = some none)
    (z1 : PySem.W.nsIn K mainGlobals "abs" = some none)
    (z2 : PySem.W.nsIn K mainGlobals "max" = some none)
    (z3 : PySem.W.nsIn K mainGlobals "min" = some none)
    (z4 : PySem.W.nsIn K mainGlobals "int" = some none)
    (z5 : PySem.W.nsIn K mainGlobals "divmod" = some none)
    (z6 : PySem.W.nsIn K mainGlobals "tuple" = some none)
    (z7 : PySem.W.nsIn K mainGlobals "list" = some none)
    (z8 : PySem.W.nsIn K mainGlobals "all" = some none)
    (z9 : PySem.W.nsIn K mainGlobals "any" = some none)
    (z10 : PySem.W.nsIn K mainGlobals "range" = some none)
    (z11 : PySem.W.nsIn K mainGlobals "enumerate" = some none)
    (z12 : PySem.W.nsIn K mainGlobals "zip" = some none)
    (z13 : PySem.W.nsIn K mainGlobals "isinstance" = some none)
    (z14 : PySem.W.nsIn K mainGlobals "bool" = some none)
    (z15 : PySem.W.nsIn K mainGlobals "str" = some none)
    (z16 : PySem.W.nsIn K mainGlobals "sum" = some none)
    (z17 : PySem.W.nsIn K mainGlobals "sorted" = some none)
    (z18 : PySem.W.nsIn K mainGlobals "dict" = some none)
    (z19 : PySem.W.nsIn K mainGlobals "set" = some none)
    (z20 : PySem.W.nsIn K mainGlobals "reversed" = some none)
    : ∃ fd : FuncData, (∀ (s : Shared) (v : Value), BindsTo s fd ⟨[v], []⟩ [("_law_script", v)]) ∧ ∀ base : Heap, K.In base → base.Ns mainGlobals mg → FnOk l.prog w K mg base CX0 6 fa fd ["_law_script"] (SpOf ⟨K, w, l.prog⟩ aspLaw) := by
  have e := hfa.symm.trans (PySem.W.mg_of X G a19)
  cases e
  have blt : ∀ y ∈ bnames, mg y = none := blt_of (by
    show [mg "len", mg "abs", mg "max", mg "min", mg "int", mg "divmod", mg "tuple", mg "list", mg "all", mg "any", mg "range", mg "enumerate", mg "zip", mg "isinstance", mg "bool", mg "str", mg "sum", mg "sorted", mg "dict", mg "set", mg "reversed"] = _
    rw [PySem.W.mg_none_of X G z0, PySem.W.mg_none_of X G z1, PySem.W.mg_none_of X G z2, PySem.W.mg_none_of X G z3, PySem.W.mg_none_of X G z4, PySem.W.mg_none_of X G z5, PySem.W.mg_none_of X G z6, PySem.W.mg_none_of X G z7, PySem.W.mg_none_of X G z8, PySem.W.mg_none_of X G z9, PySem.W.mg_none_of X G z10, PySem.W.mg_none_of X G z11, PySem.W.mg_none_of X G z12, PySem.W.mg_none_of X G z13, PySem.W.mg_none_of X G z14, PySem.W.mg_none_of X G z15, PySem.W.mg_none_of X G z16, PySem.W.mg_none_of X G z17, PySem.W.mg_none_of X G z18, PySem.W.mg_none_of X G z19, PySem.W.mg_none_of X G z20]; rfl)
  have CL0 : Cls K C0 := ⟨pg0, hd0, po0, sa0⟩
  have cls : ClsAll ⟨K, w, l.prog⟩ := cls_all (fun c hc => by
    rcases no_Works with h | ⟨c', h, h1, h2⟩
    · rw [hc] at h; cases h
    · rw [hc] at h; cases h; exact ⟨h1, h2⟩) (fun c hc => by
    rw [glA_of aC0] at hc
    cases hc
    exact ⟨CL0, fun f hf => by
      simp only [List.mem_cons, List.not_mem_nil, or_false] at hf
      rcases hf with rfl
      · exact nf0_kept⟩)
  have F0 := fun_mk (st := st_law_is_told) l0 c0 k0
  have B0 := F0.binds (ps := ["_law_found", "_law_due"]) fun _ _ _ _ _ _ us hl => match us, hl with | [_, _], _ => rfl
  have F1 := fun_mk (st := st_levels) l1 c1 k1
  have B1 := F1.binds (ps := ["n"]) fun _ _ _ _ _ _ us hl => match us, hl with | [_], _ => rfl
  have F2 := fun_mk (st := st_posts) l2 c2 k2
  have B2 := F2.binds (ps := ["n", "t"]) fun _ _ _ _ _ _ us hl => match us, hl with | [_, _], _ => rfl
  have F3 := fun_mk (st := st_wave_state) l3 c3 k3
  have B3 := F3.binds (ps := ["h", "gone", "far", "away", "back"]) fun _ _ _ _ _ _ us hl => match us, hl with | [_, _, _, _, _], _ => rfl
  have F4 := fun_mk (st := st_end_state) l4 c4 k4
  have B4 := F4.binds (ps := ["h", "gone", "first"]) fun _ _ _ _ _ _ us hl => match us, hl with | [_, _, _], _ => rfl
  have F5 := fun_mk (st := st_stretch_state) l5 c5 k5
  have B5 := F5.binds (ps := ["begin", "end", "side", "gone", "first", "x"]) fun _ _ _ _ _ _ us hl => match us, hl with | [_, _, _, _, _, _], _ => rfl
  have F6 := fun_mk (st := st_part_with) l6 c6 k6
  have B6 := F6.binds (ps := ["begin", "end", "x"]) fun _ _ _ _ _ _ us hl => match us, hl with | [_, _, _], _ => rfl
  have F7 := fun_mk (st := st_ones) l7 c7 k7
  have B7 := F7.binds (ps := ["number"]) fun _ _ _ _ _ _ us hl => match us, hl with | [_], _ => rfl
  have F8 := fun_mk (st := st_row_beat) l8 c8 k8
  have B8 := F8.binds (ps := ["n"]) fun _ _ _ _ _ _ us hl => match us, hl with | [_], _ => rfl
  have F9 := fun_mk (st := st_seen) l9 c9 k9
  have B9 := F9.binds (ps := ["n", "x", "t"]) fun _ _ _ _ _ _ us hl => match us, hl with | [_, _, _], _ => rfl
  have F10 := fun_mk (st := st_bar) l10 c10 k10
  have B10 := F10.binds (ps := ["n", "k"]) fun _ _ _ _ _ _ us hl => match us, hl with | [_, _], _ => rfl
  have F11 := fun_mk (st := st_law_take) l11 c11 k11
  have B11 := F11.binds (ps := ["_law_pot_here", "_law_many"]) fun _ _ _ _ _ _ us hl => match us, hl with | [_, _], _ => rfl
  have F12 := fun_mk (st := st_law_number) l12 c12 k12
  have B12 := F12.binds (ps := ["_law_pot_here", "_law_most"]) fun _ _ _ _ _ _ us hl => match us, hl with | [_, _], _ => rfl
  have F13 := fun_mk (st := st_law_pot) l13 c13 k13
  have B13 := F13.binds (ps := ["_law_script", "_law_k"]) fun _ _ _ _ _ _ us hl => match us, hl with | [_, _], _ => rfl
  have F14 := fun_mk (st := st_Desk_init) l14 c14 k14
  have B14 := F14.binds (ps := ["self"]) fun _ _ _ _ _ _ us hl => match us, hl with | [_], _ => rfl
  have F15 := fun_mk (st := st_look_row) l15 c15 k15
  have B15 := F15.binds (ps := ["numbers"]) fun _ _ _ _ _ _ us hl => match us, hl with | [_], _ => rfl
  have F16 := fun_mk (st := st_plain_told) l16 c16 k16
  have B16 := F16.binds (ps := ["word", "numbers"]) fun _ _ _ _ _ _ us hl => match us, hl with | [_, _], _ => rfl
  have F17 := fun_mk (st := st_number_told) l17 c17 k17
  have B17 := F17.binds (ps := ["word"]) fun _ _ _ _ _ _ us hl => match us, hl with | [_], _ => rfl
  have F18 := fun_mk (st := st_Desk_say) l18 c18 k18
  have B18 := F18.binds (ps := ["self", "line"]) fun _ _ _ _ _ _ us hl => match us, hl with | [_, _], _ => rfl
  have F19 := fun_mk (st := st_law) l19 c19 k19
  refine ⟨PySem.W.fnOf "law" "law" (defArgs st_law) (defBody st_law) (defScope st_law) .none kV19 dc19 pm19 an19 cd19 ct19, fun s v => .of_eq rfl, fun base _ _ => ?_⟩
  have A0 : FnA l.prog w K mg base 1 "_law_is_told" sp_istold := fnA F0 (PySem.W.mg_of X G a0) (glA_of a0) (by decide +kernel) B0 (fn_ok (base := base) (P := l.prog) (w := w) (k := 0) (G := ⟨[], [], []⟩) F0 sc_law_is_told ck_law_is_told rfl rfl blt (cs_nil (K := ⟨K, w, l.prog⟩)) fns_nil ms_nil cls b_istold)
  have A1 : FnA l.prog w K mg base 1 "levels" sp_levels := fnA F1 (PySem.W.mg_of X G a1) (glA_of a1) (by decide +kernel) B1 (fn_ok (base := base) (P := l.prog) (w := w) (k := 0) (G := ⟨[], [("LEAST_CUT", .int 3)], []⟩) F1 sc_levels ck_levels rfl rfl blt (cs_cons (K := ⟨K, w, l.prog⟩) ⟨_, .int 3, PySem.W.mg_of X G e0, ⟨_, rfl⟩, fun _ _ => rfl⟩ (cs_nil (K := ⟨K, w, l.prog⟩))) fns_nil ms_nil cls b_levels)
  have A2 : FnA l.prog w K mg base 2 "posts" sp_posts := fnA F2 (PySem.W.mg_of X G a2) (glA_of a2) (by decide +kernel) B2 (fn_ok (base := base) (P := l.prog) (w := w) (k := 1) (G := ⟨[("levels", sp_levels)], [], []⟩) F2 sc_posts ck_posts rfl rfl blt (cs_nil (K := ⟨K, w, l.prog⟩)) (fns_cons A1 (by decide) fns_nil) ms_nil cls b_posts)
  have A3 : FnA l.prog w K mg base 1 "wave_state" sp_wave := fnA F3 (PySem.W.mg_of X G a3) (glA_of a3) (by decide +kernel) B3 (fn_ok (base := base) (P := l.prog) (w := w) (k := 0) (G := ⟨[], [("QUIET", .str "o")], []⟩) F3 sc_wave_state ck_wave_state rfl rfl blt (cs_cons (K := ⟨K, w, l.prog⟩) ⟨_, .str "o", PySem.W.mg_of X G e1, ⟨_, rfl⟩, fun _ _ => rfl⟩ (cs_nil (K := ⟨K, w, l.prog⟩))) fns_nil ms_nil cls b_wave)
  have A4 : FnA l.prog w K mg base 1 "end_state" sp_end := fnA F4 (PySem.W.mg_of X G a4) (glA_of a4) (by decide +kernel) B4 (fn_ok (base := base) (P := l.prog) (w := w) (k := 0) (G := ⟨[], [("QUIET", .str "o")], []⟩) F4 sc_end_state ck_end_state rfl rfl blt (cs_cons (K := ⟨K, w, l.prog⟩) ⟨_, .str "o", PySem.W.mg_of X G e1, ⟨_, rfl⟩, fun _ _ => rfl⟩ (cs_nil (K := ⟨K, w, l.prog⟩))) fns_nil ms_nil cls b_end)
  have A5 : FnA l.prog w K mg base 2 "stretch_state" sp_st := fnA F5 (PySem.W.mg_of X G a5) (glA_of a5) (by decide +kernel) B5 (fn_ok (base := base) (P := l.prog) (w := w) (k := 1) (G := ⟨[("wave_state", sp_wave), ("end_state", sp_end)], [("RIGHT", .tup [.str "r", .str "ra", .str "rb", .str "rc"]), ("LEFT", .tup [.str "l", .str "la", .str "lb", .str "lc"]), ("POSTS", .tup [.str "g", .str "ga", .str "gb", .str "p"])], []⟩) F5 sc_stretch_state ck_stretch_state rfl rfl blt (cs_cons (K := ⟨K, w, l.prog⟩) ⟨_, .ref ea2, PySem.W.mg_of X G e2, rfl, rp_strs (K := ⟨K, w, l.prog⟩) o2 (show 4 ≤ sizeLine by decide) ["r", "ra", "rb", "rc"] rfl⟩ (cs_cons (K := ⟨K, w, l.prog⟩) ⟨_, .ref ea3, PySem.W.mg_of X G e3, rfl, rp_strs (K := ⟨K, w, l.prog⟩) o3 (show 4 ≤ sizeLine by decide) ["l", "la", "lb", "lc"] rfl⟩ (cs_cons (K := ⟨K, w, l.prog⟩) ⟨_, .ref ea4, PySem.W.mg_of X G e4, rfl, rp_strs (K := ⟨K, w, l.prog⟩) o4 (show 4 ≤ sizeLine by decide) ["g", "ga", "gb", "p"] rfl⟩ (cs_nil (K := ⟨K, w, l.prog⟩))))) (fns_cons A3 (by decide) (fns_cons A4 (by decide) fns_nil)) ms_nil cls b_st)
  have A6 : FnA l.prog w K mg base 1 "part_with" sp_part := fnA F6 (PySem.W.mg_of X G a6) (glA_of a6) (by decide +kernel) B6 (fn_ok (base := base) (P := l.prog) (w := w) (k := 0) (G := ⟨[], [], []⟩) F6 sc_part_with ck_part_with rfl rfl blt (cs_nil (K := ⟨K, w, l.prog⟩)) fns_nil ms_nil cls b_part)
  have A7 : FnA l.prog w K mg base 1 "ones" sp_ones := fnA F7 (PySem.W.mg_of X G a7) (glA_of a7) (by decide +kernel) B7 (fn_ok (base := base) (P := l.prog) (w := w) (k := 0) (G := ⟨[], [], []⟩) F7 sc_ones ck_ones rfl rfl blt (cs_nil (K := ⟨K, w, l.prog⟩)) fns_nil ms_nil cls b_ones)
  have A8 : FnA l.prog w K mg base 2 "row_beat" sp_row := fnA F8 (PySem.W.mg_of X G a8) (glA_of a8) (by decide +kernel) B8 (fn_ok (base := base) (P := l.prog) (w := w) (k := 1) (G := ⟨[("ones", sp_ones)], [], []⟩) F8 sc_row_beat ck_row_beat rfl rfl blt (cs_nil (K := ⟨K, w, l.prog⟩)) (fns_cons A7 (by decide) fns_nil) ms_nil cls b_row)
  have A9 : FnA l.prog w K mg base 3 "seen" sp_seen := fnA F9 (PySem.W.mg_of X G a9) (glA_of a9) (by decide +kernel) B9 (fn_ok (base := base) (P := l.prog) (w := w) (k := 2) (G := ⟨[("stretch_state", sp_st), ("levels", sp_levels), ("part_with", sp_part), ("row_beat", sp_row)], [("FIRE", .str "f")], []⟩) F9 sc_seen ck_seen rfl rfl blt (cs_cons (K := ⟨K, w, l.prog⟩) ⟨_, .str "f", PySem.W.mg_of X G e5, ⟨_, rfl⟩, fun _ _ => rfl⟩ (cs_nil (K := ⟨K, w, l.prog⟩))) (fns_cons A5 (by decide) (fns_cons A1 (by decide) (fns_cons A6 (by decide) (fns_cons A8 (by decide) fns_nil)))) ms_nil cls b_seen)
  have A10 : FnA l.prog w K mg base 1 "bar" sp_bar78 := fnA F10 (PySem.W.mg_of X G a10) (glA_of a10) (by decide +kernel) B10 (fn_ok (base := base) (P := l.prog) (w := w) (k := 0) (G := ⟨[], [], []⟩) F10 sc_bar ck_bar rfl rfl blt (cs_nil (K := ⟨K, w, l.prog⟩)) fns_nil ms_nil cls b_bar78)
  have A11 : FnA l.prog w K mg base 1 "_law_take" sp_take := fnA F11 (PySem.W.mg_of X G a11) (glA_of a11) (by decide +kernel) B11 (fn_ok (base := base) (P := l.prog) (w := w) (k := 0) (G := ⟨[], [], []⟩) F11 sc_law_take ck_law_take rfl rfl blt (cs_nil (K := ⟨K, w, l.prog⟩)) fns_nil ms_nil cls b_take)
  have A12 : FnA l.prog w K mg base 2 "_law_number" sp_number := fnA F12 (PySem.W.mg_of X G a12) (glA_of a12) (by decide +kernel) B12 (fn_ok (base := base) (P := l.prog) (w := w) (k := 1) (G := ⟨[("_law_take", sp_take)], [], []⟩) F12 sc_law_number ck_law_number rfl rfl blt (cs_nil (K := ⟨K, w, l.prog⟩)) (fns_cons A11 (by decide) fns_nil) ms_nil cls b_number)
  have A13 : FnA l.prog w K mg base 1 "_law_pot" sp_pot := fnA F13 (PySem.W.mg_of X G a13) (glA_of a13) (by decide +kernel) B13 (fn_ok (base := base) (P := l.prog) (w := w) (k := 0) (G := ⟨[], [], []⟩) F13 sc_law_pot ck_law_pot rfl rfl blt (cs_nil (K := ⟨K, w, l.prog⟩)) fns_nil ms_nil cls b_pot)
  have A14 : FnOk l.prog w K mg base CX0 1 f14 (PySem.W.fnOf "__init__" "Desk.__init__" (defArgs st_Desk_init) (defBody st_Desk_init) (defScope st_Desk_init) .none kV14 dc14 pm14 an14 cd14 ct14) ["self"] (SpOf ⟨K, w, l.prog⟩ sp_dinit) := fn_ok (base := base) (P := l.prog) (w := w) (k := 0) (G := ⟨[], [], []⟩) F14 sc_Desk_init ck_Desk_init rfl rfl blt (cs_nil (K := ⟨K, w, l.prog⟩)) fns_nil ms_nil cls b_dinit
  have W_Desk_0 : FnA l.prog w K mg base 2 "Desk" sp_Desk0 := fnC (dvs := []) (dds := []) (PySem.W.mg_of X G aC0) (glA_of aC0) (by decide +kernel) ⟨mk0, a14, i14, kc0⟩ B14 .nil (fun _ _ => rfl) A14 mk_Desk0
  have A15 : FnA l.prog w K mg base 1 "look_row" sp_lookrow := fnA F15 (PySem.W.mg_of X G a15) (glA_of a15) (by decide +kernel) B15 (fn_ok (base := base) (P := l.prog) (w := w) (k := 0) (G := ⟨[], [], []⟩) F15 sc_look_row ck_look_row rfl rfl blt (cs_nil (K := ⟨K, w, l.prog⟩)) fns_nil ms_nil cls b_lookrow)
  have A16 : FnA l.prog w K mg base 4 "plain_told" sp_ptold := fnA F16 (PySem.W.mg_of X G a16) (glA_of a16) (by decide +kernel) B16 (fn_ok (base := base) (P := l.prog) (w := w) (k := 3) (G := ⟨[("seen", sp_seen), ("bar", sp_bar78), ("row_beat", sp_row), ("look_row", sp_lookrow), ("posts", sp_posts)], [], []⟩) F16 sc_plain_told ck_plain_told rfl rfl blt (cs_nil (K := ⟨K, w, l.prog⟩)) (fns_cons A9 (by decide) (fns_cons A10 (by decide) (fns_cons A8 (by decide) (fns_cons A15 (by decide) (fns_cons A2 (by decide) fns_nil))))) ms_nil cls b_ptold)
  have A17 : FnA l.prog w K mg base 1 "number_told" sp_numtold := fnA F17 (PySem.W.mg_of X G a17) (glA_of a17) (by decide +kernel) B17 (fn_ok (base := base) (P := l.prog) (w := w) (k := 0) (G := ⟨[], [("FIGURES", .str "0123456789"), ("MOST_FIGURES", .int 60)], []⟩) F17 sc_number_told ck_number_told rfl rfl blt (cs_cons (K := ⟨K, w, l.prog⟩) ⟨_, .str "0123456789", PySem.W.mg_of X G e6, ⟨_, rfl⟩, fun _ _ => rfl⟩ (cs_cons (K := ⟨K, w, l.prog⟩) ⟨_, .int 60, PySem.W.mg_of X G e7, ⟨_, rfl⟩, fun _ _ => rfl⟩ (cs_nil (K := ⟨K, w, l.prog⟩)))) fns_nil ms_nil cls b_numtold)
  have A18 : MtA l.prog w K mg base 5 "Desk" "say" sp_say := mtA (glA_of aC0) CL0 ⟨a18, i18, k18⟩ B18 (fn_ok (base := base) (P := l.prog) (w := w) (k := 4) (G := ⟨[("plain_told", sp_ptold), ("number_told", sp_numtold)], [("NAMED", .dic [.str "drop", .str "show", .str "plays", .str "first", .str "ring", .str "row", .str "judge", .str "haste", .str "told"] [.int 0, .int 0, .int 0, .int 3, .int 3, .int 3, .int 2, .int 2, .int 2]), ("PLAIN", .dic [.str "beat", .str "bar", .str "seen", .str "posts"] [.int 1, .int 2, .int 3, .int 2])], []⟩) F18 sc_Desk_say ck_Desk_say rfl rfl blt (cs_cons (K := ⟨K, w, l.prog⟩) ⟨_, .ref ea8, PySem.W.mg_of X G e8, rfl, rp_dict (K := ⟨K, w, l.prog⟩) o8 s8 rfl rfl (by decide +kernel) (by decide) (.cons ⟨_, rfl⟩ (.cons ⟨_, rfl⟩ (.cons ⟨_, rfl⟩ (.cons ⟨_, rfl⟩ (.cons ⟨_, rfl⟩ (.cons ⟨_, rfl⟩ (.cons ⟨_, rfl⟩ (.cons ⟨_, rfl⟩ (.cons ⟨_, rfl⟩ .nil))))))))) (.cons ⟨_, rfl⟩ (.cons ⟨_, rfl⟩ (.cons ⟨_, rfl⟩ (.cons ⟨_, rfl⟩ (.cons ⟨_, rfl⟩ (.cons ⟨_, rfl⟩ (.cons ⟨_, rfl⟩ (.cons ⟨_, rfl⟩ (.cons ⟨_, rfl⟩ .nil))))))))) rfl⟩ (cs_cons (K := ⟨K, w, l.prog⟩) ⟨_, .ref ea9, PySem.W.mg_of X G e9, rfl, rp_dict (K := ⟨K, w, l.prog⟩) o9 s9 rfl rfl (by decide +kernel) (by decide) (.cons ⟨_, rfl⟩ (.cons ⟨_, rfl⟩ (.cons ⟨_, rfl⟩ (.cons ⟨_, rfl⟩ .nil)))) (.cons ⟨_, rfl⟩ (.cons ⟨_, rfl⟩ (.cons ⟨_, rfl⟩ (.cons ⟨_, rfl⟩ .nil)))) rfl⟩ (cs_nil (K := ⟨K, w, l.prog⟩)))) (fns_cons A16 (by decide) (fns_cons A17 (by decide) fns_nil)) ms_nil cls b_say)
  exact fn_ok (base := base) (P := l.prog) (w := w) (k := 5) (G := ⟨[("_law_is_told", sp_istold), ("posts", sp_posts), ("seen", sp_seen), ("bar", sp_bar78), ("row_beat", sp_row), ("_law_number", sp_number), ("_law_take", sp_take), ("_law_pot", sp_pot), ("Desk", sp_Desk0)], [], [(("Desk", "say"), sp_say)]⟩) F19 sc_law ck_law rfl rfl blt (cs_nil (K := ⟨K, w, l.prog⟩)) (fns_cons A0 (by decide) (fns_cons A2 (by decide) (fns_cons A9 (by decide) (fns_cons A10 (by decide) (fns_cons A8 (by decide) (fns_cons A12 (by decide) (fns_cons A11 (by decide) (fns_cons A13 (by decide) (fns_cons W_Desk_0 (by decide) fns_nil))))))))) (ms_cons A18 (by decide) ms_nil) cls b_law
end
end P78

open PySem PySem.W PyProof.Rows
set_option maxHeartbeats 0 in
theorem PySem.Challenge.cw_firetogether_k78_desk_reckons_holds : PySem.Challenge.rw_firetogether_k78_desk_reckons.Holds := by
  w_on; o_law; k_head; (case hw => w_witness2)
  k_fill
  refine L2.walk_ofB (l := PySem.Challenge.rw_firetogether_k78_desk_reckons) (n := 63) (k := 6) (x := "_law_script") (CX := fun _ => L2.CX0) (sp := fun w => Ab.SpOf ⟨_, w, PySem.Challenge.rw_firetogether_k78_desk_reckons.prog⟩ Ab.aspLaw) rfl (by decide) rfl ⟨rfl, by decide, by decide⟩
    (fun w h Y => PySem.W.kIn_of Y) ?F (fun _ _ a ns hl hb hO hS => Ab.law_start hl hb hO hS) (fun _ _ _ _ _ h => h)
  case F =>
    intro w mg fa h KX G hmg
    refine' P78.all_mk KX G hmg ?aC0 ?pg0 ?hd0 ?po0 ?sa0 ?mk0 ?kc0 ?nf0_kept ?no_Works ?a0 ?l0 ?c0 ?k0 ?a1 ?l1 ?c1 ?k1 ?a2 ?l2 ?c2 ?k2 ?a3 ?l3 ?c3 ?k3 ?a4 ?l4 ?c4 ?k4 ?a5 ?l5 ?c5 ?k5 ?a6 ?l6 ?c6 ?k6 ?a7 ?l7 ?c7 ?k7 ?a8 ?l8 ?c8 ?k8 ?a9 ?l9 ?c9 ?k9 ?a10 ?l10 ?c10 ?k10 ?a11 ?l11 ?c11 ?k11 ?a12 ?l12 ?c12 ?k12 ?a13 ?l13 ?c13 ?k13 ?a14 ?i14 ?l14 ?c14 ?k14 ?a15 ?l15 ?c15 ?k15 ?a16 ?l16 ?c16 ?k16 ?a17 ?l17 ?c17 ?k17 ?a18 ?i18 ?l18 ?c18 ?k18 ?a19 ?l19 ?c19 ?k19 ?e0 ?e1 ?e2 ?o2 ?e3 ?o3 ?e4 ?o4 ?e5 ?e6 ?e7 ?e8 ?o8 ?s8 ?e9 ?o9 ?s9 ?z0 ?z1 ?z2 ?z3 ?z4 ?z5 ?z6 ?z7 ?z8 ?z9 ?z10 ?z11 ?z12 ?z13 ?z14 ?z15 ?z16 ?z17 ?z18 ?z19 ?z20
    (case aC0 => k_is); (case pg0 => k_is); (case hd0 => k_is); (case po0 => k_is); (case sa0 => k_is); (case mk0 => k_is); (case kc0 => k_is); (case nf0_kept => k_is); (case no_Works => first | exact .inl (Ab.glA_no (by k_is)) | exact .inr ⟨_, Ab.glA_of (by k_is), ⟨by k_is, by k_is, by k_is, by k_is⟩, fun f hf => by (simp only [List.mem_cons, List.not_mem_nil, or_false] at hf; rcases hf with rfl | rfl | rfl | rfl | rfl <;> (show PySem.W.findIn _ _ _ = _; k_is))⟩ | exact .inl rfl); (case a0 => k_is); (case l0 => k_is); (case c0 => k_is); (case k0 => k_is); (case a1 => k_is); (case l1 => k_is); (case c1 => k_is); (case k1 => k_is); (case a2 => k_is); (case l2 => k_is); (case c2 => k_is); (case k2 => k_is); (case a3 => k_is); (case l3 => k_is); (case c3 => k_is); (case k3 => k_is); (case a4 => k_is); (case l4 => k_is); (case c4 => k_is); (case k4 => k_is); (case a5 => k_is); (case l5 => k_is); (case c5 => k_is); (case k5 => k_is); (case a6 => k_is); (case l6 => k_is); (case c6 => k_is); (case k6 => k_is); (case a7 => k_is); (case l7 => k_is); (case c7 => k_is); (case k7 => k_is); (case a8 => k_is); (case l8 => k_is); (case c8 => k_is); (case k8 => k_is); (case a9 => k_is); (case l9 => k_is); (case c9 => k_is); (case k9 => k_is); (case a10 => k_is); (case l10 => k_is); (case c10 => k_is); (case k10 => k_is); (case a11 => k_is); (case l11 => k_is); (case c11 => k_is); (case k11 => k_is); (case a12 => k_is); (case l12 => k_is); (case c12 => k_is); (case k12 => k_is); (case a13 => k_is); (case l13 => k_is); (case c13 => k_is); (case k13 => k_is); (case a14 => k_is); (case i14 => k_is); (case l14 => k_is); (case c14 => k_is); (case k14 => k_is); (case a15 => k_is); (case l15 => k_is); (case c15 => k_is); (case k15 => k_is); (case a16 => k_is); (case l16 => k_is); (case c16 => k_is); (case k16 => k_is); (case a17 => k_is); (case l17 => k_is); (case c17 => k_is); (case k17 => k_is); (case a18 => k_is); (case i18 => k_is); (case l18 => k_is); (case c18 => k_is); (case k18 => k_is); (case a19 => k_is); (case l19 => k_is); (case c19 => k_is); (case k19 => k_is); (case e0 => k_is); (case e1 => k_is); (case e2 => k_is); (case o2 => k_is); (case e3 => k_is); (case o3 => k_is); (case e4 => k_is); (case o4 => k_is); (case e5 => k_is); (case e6 => k_is); (case e7 => k_is); (case e8 => k_is); (case o8 => k_is); (case s8 => first | rfl | decide +kernel); (case e9 => k_is); (case o9 => k_is); (case s9 => first | rfl | decide +kernel); (case z0 => k_is); (case z1 => k_is); (case z2 => k_is); (case z3 => k_is); (case z4 => k_is); (case z5 => k_is); (case z6 => k_is); (case z7 => k_is); (case z8 => k_is); (case z9 => k_is); (case z10 => k_is); (case z11 => k_is); (case z12 => k_is); (case z13 => k_is); (case z14 => k_is); (case z15 => k_is); (case z16 => k_is); (case z17 => k_is); (case z18 => k_is); (case z19 => k_is); (case z20 => k_is)
