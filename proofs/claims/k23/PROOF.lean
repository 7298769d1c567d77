import PyProof.Rows.All
import Wide.All
import OpenK.AllK
import Wide.FinOn
import KE.KStateDown
import KE.KDictKeyed
import HandS.Base
import HandS.Call
import HandS.List
import HandS.Comp
import HandS.Ends
import HandS.Dict
import HandS.Iter
import HandS.Text
import HandS.More
import HandS.Exc
import HandS.Deep
import HandS.Words
import HandS.WordsExc
import HandS.Defaults
import HandS.Conv
import HandS.TupLe
import HandS.TupAny
import HandS.TupMul
import HandS.IsInst
import HandS.Head0
import HandS.Head1
import HandS.Head2
import HandS.HeadEnd
import HandS.HeadHook1
import HandS.HeadHook2
import PyProof.ListMulRoad
import PyProof.FactsAll.tuple_2
import HandS.TryOnly
import HandS.DictComp
import PySem.Challenge.RW_holdagainst_k23_whole_counters_on_rings
set_option Elab.async false
set_option linter.all false
set_option maxRecDepth 100000
set_option maxHeartbeats 1000000
/-! V1: plain data, the evaluator's monad -/
namespace Vl
open PySem L2

/-- a Python value as data: frozen trees, names of shared boxes, the script -/
inductive D where
  | non | bl (b : Bool) | int (i : Int) | str (x : Str)
  | lst (xs : List D) | tup (xs : List D) | dct (kvs : List (D × D)) | box (i : Nat) | scr (ns : List Int)
instance : Inhabited D := ⟨.non⟩
/-- what stands in a box, or in an own slot -/
inductive Box where
  | lst (xs : List D) | dct (kvs : List (D × D)) | ins (C : Str) (fs : List (Str × D))
/-- a result: data, or a fresh object that nobody else holds -/
inductive Rz where
  | dat (d : D) | own (b : Box)
structure S where
  env : List (Option Rz)
  sto : List Box
structure Exn where
  cls : Str
  fs : List (Str × D)
inductive Res (α : Type) where
  | ok (a : α) (s : S) | exn (x : Exn) (s : S) | stuck
def M (α : Type) : Type := S → Res α
def M.pure {α : Type} (a : α) : M α := fun s => .ok a s
def M.bind {α β : Type} (m : M α) (f : α → M β) : M β := fun s => match m s with
  | .ok a s' => f a s'
  | .exn x s' => .exn x s'
  | .stuck => .stuck
instance : Monad M where
  pure := M.pure
  bind := M.bind
def stuck {α : Type} : M α := fun _ => .stuck
def getS : M S := fun s => .ok s s
def setS (s : S) : M Unit := fun _ => .ok () s
def orStuck {α : Type} : Option α → M α
  | some a => Pure.pure a
  | none => stuck
/-- what is wanted of a run -/
def Wp {α : Type} (m : M α) (s : S) (Φ : α → S → Prop) (Ψ : Exn → S → Prop) : Prop := match m s with
  | .ok a s' => Φ a s'
  | .exn x s' => Ψ x s'
  | .stuck => False
section
variable {α β : Type} {m : M α} {f : α → M β} {s : S} {Φ : α → S → Prop} {Φb : β → S → Prop} {Ψ : Exn → S → Prop}
theorem wp_bind : Wp (m >>= f) s Φb Ψ ↔ Wp m s (fun a s' => Wp (f a) s' Φb Ψ) Ψ := by
  show Wp (M.bind m f) s Φb Ψ ↔ _
  unfold Wp M.bind
  cases m s <;> exact Iff.rfl
theorem wp_pure {a : α} : Wp (Pure.pure a : M α) s Φ Ψ ↔ Φ a s := Iff.rfl
theorem wp_stuck : Wp (stuck : M α) s Φ Ψ ↔ False := Iff.rfl
theorem wp_getS {Φ : S → S → Prop} : Wp getS s Φ Ψ ↔ Φ s s := Iff.rfl
theorem wp_setS {s' : S} {Φ : Unit → S → Prop} : Wp (setS s') s Φ Ψ ↔ Φ () s' := Iff.rfl
theorem wp_mono {Φ' : α → S → Prop} {Ψ' : Exn → S → Prop} (h : Wp m s Φ Ψ) (h1 : ∀ a s', Φ a s' → Φ' a s') (h2 : ∀ x s', Ψ x s' → Ψ' x s') : Wp m s Φ' Ψ' := by
  unfold Wp at *
  cases e : m s <;> rw [e] at h
  · exact h1 _ _ h
  · exact h2 _ _ h
  · exact h
theorem wp_orStuck {o : Option α} (h : Wp (orStuck o) s Φ Ψ) : ∃ a, o = some a ∧ Φ a s := by
  cases o with
  | none => exact h.elim
  | some a => exact ⟨a, rfl, h⟩
end

/-! ### data -/
mutual
def pyD : D → PyData
  | .non => .none
  | .bl b => .bool b
  | .int i => .int i
  | .str x => .str x
  | .lst xs => .list (pyDs xs)
  | .tup xs => .tuple (pyDs xs)
  | .dct _ => .dict []
  | .box _ => .dict []
  | .scr _ => .dict []
def pyDs : List D → List PyData
  | [] => []
  | x :: xs => pyD x :: pyDs xs
end
theorem pyDs_map : ∀ xs : List D, pyDs xs = xs.map pyD
  | [] => rfl
  | x :: xs => by rw [pyDs, pyDs_map xs, List.map_cons]
/-! a key of a dict -/
mutual
def keyN : D → Option NestedKey
  | .non => some .none
  | .int i => some (.num i)
  | .str x => some (.text x)
  | .tup xs => (keysN xs).map .tup
  | _ => none
def keysN : List D → Option (List NestedKey)
  | [] => some []
  | x :: xs => match keyN x, keysN xs with
    | some k, some ks => some (k :: ks)
    | _, _ => none
end
/-- keys that are compared by what they are -/
def keyEq (x y : D) : Bool := match keyN x, keyN y with
  | some a, some b => decide (a = b)
  | _, _ => false
def dLook (kvs : List (D × D)) (x : D) : Option D := (kvs.find? fun p => keyEq p.1 x).map (·.2)
def dPut (kvs : List (D × D)) (x v : D) : List (D × D) :=
  if (kvs.any fun p => keyEq p.1 x) = true then kvs.map (fun p => if keyEq p.1 x = true then (p.1, v) else p) else kvs ++ [(x, v)]
def frz : Box → Option D
  | .lst xs => some (.lst xs)
  | .dct kvs => some (.dct kvs)
  | .ins _ _ => none
end Vl
set_option Elab.async false
set_option linter.all false
set_option maxRecDepth 100000
set_option maxHeartbeats 1000000
/-! V2: what a value in the heap is as data -/
namespace Vl
open PySem PySem.Spec PyProof.Rows L2
abbrev Sl := L2.St

structure Wd where
  G : Hp
  B : List Addr
def kD : Key → D
  | .inl i => .int i
  | .inr x => .str x
mutual
def nD : NestedKey → D
  | .none => .non
  | .num i => .int i
  | .text x => .str x
  | .tup ks => .tup (nDs ks)
def nDs : List NestedKey → List D
  | [] => []
  | k :: ks => nD k :: nDs ks
end
section
variable (P : Program) (w : World)
/-- at a stands a dict whose keys are tuples: key, where its tuple stands, value -/
def DXf (a : Addr) (en : List (NestedKey × Addr × V)) : Heap → Prop := fun h => ∃ xs : List (NestedKey × Addr × Value),
  Paired (fun (p : NestedKey × Addr × V) (q : NestedKey × Addr × Value) => p.1 = q.1 ∧ p.2.1 = q.2.1 ∧ RelV p.2.2 q.2.2) en xs ∧
  ∃ o es ep, h.get? a = some o ∧ o.ExactDict ∧ o.data = .dict es ep ∧ es.toList = xs.map (entryOfKey (nestedKind P w)) ∧ (xs.map (·.1)).Nodup ∧ en.length ≤ sizeLine ∧ (a == sysModules) = false
def DX (a : Addr) (en : List (NestedKey × Addr × V)) : HO := .ext (DXf P w a en)
end
/-- keys and values of the two forms -/
abbrev EnX := List (NestedKey × Addr × V)
section
variable (P : Program) (w : World) (K : PySem.W.Frag) (W : Wd)
/-- v is the datum d in the world W -/
inductive Rp : V → D → Prop where
  | non : Rp .non .non
  | bl (b : Bool) : Rp (.bl b) (.bl b)
  | int (i : Int) : Rp (.int i) (.int i)
  | str (x : Str) : Rp (.str x) (.str x)
  | lst {a : Addr} {vs : List V} {xs : List D} (h : W.G a = some (.lst vs)) (hl : vs.length = xs.length) (hr : ∀ (i : Nat) v d, vs[i]? = some v → xs[i]? = some d → Rp v d) : Rp (.ref a) (.lst xs)
  | tup {a : Addr} {vs : List V} {xs : List D} (h : SqT K W.G a vs) (hl : vs.length = xs.length) (hr : ∀ (i : Nat) v d, vs[i]? = some v → xs[i]? = some d → Rp v d) : Rp (.ref a) (.tup xs)
  | dk {a : Addr} {ob : Obj} {en : List (Key × V)} {kvs : List (D × D)} (h : W.G a = some (.frz ob (.dK en))) (hl : en.length = kvs.length) (hk : ∀ (i : Nat) e p, en[i]? = some e → kvs[i]? = some p → p.1 = kD e.1)
      (hr : ∀ (i : Nat) e p, en[i]? = some e → kvs[i]? = some p → Rp e.2 p.2) : Rp (.ref a) (.dct kvs)
  | dx {a : Addr} {ob : Obj} {en : EnX} {kvs : List (D × D)} (h : W.G a = some (.frz ob (DX P w a en))) (hne : en ≠ []) (hl : en.length = kvs.length) (hk : ∀ (i : Nat) e p, en[i]? = some e → kvs[i]? = some p → p.1 = nD e.1 ∧ e.1.depth ≤ 8)
      (hr : ∀ (i : Nat) e p, en[i]? = some e → kvs[i]? = some p → Rp e.2.2 p.2) (hq : ∀ (i : Nat) e p, en[i]? = some e → kvs[i]? = some p → Rp (.ref e.2.1) p.1) : Rp (.ref a) (.dct kvs)
  | box {i : Nat} {a : Addr} (h : W.B[i]? = some a) : Rp (.ref a) (.box i)
  | scr {a : Addr} {ns : List Int} (h : SqL K W.G a (ns.map V.int)) : Rp (.ref a) (.scr ns)
/-- a list of them -/
def Rps (vs : List V) (xs : List D) : Prop := vs.length = xs.length ∧ ∀ (i : Nat) v d, vs[i]? = some v → xs[i]? = some d → Rp P w K W v d
/-- a dict's entries -/
def RpK (en : List (Key × V)) (kvs : List (D × D)) : Prop := en.length = kvs.length ∧ ∀ (i : Nat) e p, en[i]? = some e → kvs[i]? = some p → p.1 = kD e.1 ∧ Rp P w K W e.2 p.2
def RpX (en : EnX) (kvs : List (D × D)) : Prop := en.length = kvs.length ∧
  ∀ (i : Nat) e p, en[i]? = some e → kvs[i]? = some p → (p.1 = nD e.1 ∧ e.1.depth ≤ 8) ∧ Rp P w K W (.ref e.2.1) p.1 ∧ Rp P w K W e.2.2 p.2
def RpF (fs : List (Str × V)) (gs : List (Str × D)) : Prop := fs.length = gs.length ∧ ∀ (i : Nat) e p, fs[i]? = some e → gs[i]? = some p → p.1 = e.1 ∧ Rp P w K W e.2 p.2
/-- at a stands the content b -/
inductive Bx (H : Hp) (a : Addr) : Box → Prop where
  | lst {vs : List V} {xs : List D} (h : H a = some (.lst vs)) (hr : Rps P w K W vs xs) : Bx H a (.lst xs)
  | dk {en : List (Key × V)} {kvs : List (D × D)} (h : H a = some (.dK en)) (hr : RpK P w K W en kvs) : Bx H a (.dct kvs)
  | dx {en : EnX} {kvs : List (D × D)} (h : H a = some (DX P w a en)) (hne : en ≠ []) (hr : RpX P w K W en kvs) : Bx H a (.dct kvs)
  | ins {C : Str} {dx : Addr} {fs : List (Str × V)} {gs : List (Str × D)} (h : H a = some (.ins (He.ga K C) dx fs)) (hr : RpF P w K W fs gs) : Bx H a (.ins C gs)
end
/-- W' knows all that W knows; what is new in it was not protected -/
structure Wle (F : Hp) (W W' : Wd) : Prop where
  g : ∀ p o, W.G p = some o → W'.G p = some o
  b : ∃ t, W'.B = W.B ++ t
  n : ∀ p o, W'.G p = some o → W.G p = some o ∨ F p = none
theorem Wle.refl {F : Hp} {W : Wd} : Wle F W W := ⟨fun _ _ h => h, ⟨[], by simp⟩, fun _ _ h => .inl h⟩
theorem Wle.trans {F : Hp} {W W1 W2 : Wd} (a : Wle F W W1) (b : Wle F W1 W2) : Wle F W W2 := by
  obtain ⟨t1, e1⟩ := a.b
  obtain ⟨t2, e2⟩ := b.b
  refine ⟨fun p o h => b.g p o (a.g p o h), ⟨t1 ++ t2, by rw [e2, e1, List.append_assoc]⟩, fun p o h => ?_⟩
  rcases b.n p o h with h | h
  · exact a.n p o h
  · exact .inr h
theorem Wle.less {F F' : Hp} {W W' : Wd} (a : Wle F' W W') (h : ∀ p o, F p = some o → F' p = some o) : Wle F W W' := ⟨a.g, a.b, fun p o e => by
  rcases a.n p o e with e | e
  · exact .inl e
  · refine .inr ?_
    cases q : F p with
    | none => rfl
    | some o => rw [h p o q] at e; cases e⟩
theorem Wle.bx {F : Hp} {W W' : Wd} (a : Wle F W W') {i : Nat} {x : Addr} (h : W.B[i]? = some x) : W'.B[i]? = some x := by
  obtain ⟨t, e⟩ := a.b
  rw [e, List.getElem?_append_left (List.getElem?_eq_some_iff.mp h).1]
  exact h
section
variable {P : Program} {w : World} {K : PySem.W.Frag} {W W' : Wd} {F H H' : Hp} {a : Addr}
theorem sqT_up {G G' : Hp} {vs : List V} (h : SqT K G a vs) (g : ∀ p o, G p = some o → G' p = some o) : SqT K G' a vs := by
  rcases h with (h | ⟨o, h⟩) | h
  · exact .inl (.inl (g _ _ h))
  · exact .inl (.inr ⟨o, g _ _ h⟩)
  · exact .inr h
theorem sqL_up {G G' : Hp} {vs : List V} (h : SqL K G a vs) (g : ∀ p o, G p = some o → G' p = some o) : SqL K G' a vs := by
  rcases h with (h | ⟨o, h⟩) | h
  · exact .inl (.inl (g _ _ h))
  · exact .inl (.inr ⟨o, g _ _ h⟩)
  · exact .inr h
theorem Rp.up {v : V} {d : D} (h : Rp P w K W v d) (l : Wle F W W') : Rp P w K W' v d := by
  induction h with
  | non => exact .non
  | bl b => exact .bl b
  | int i => exact .int i
  | str x => exact .str x
  | lst h hl _ ih => exact .lst (l.g _ _ h) hl ih
  | tup h hl _ ih => exact .tup (sqT_up h l.g) hl ih
  | dk h hl hk _ ih => exact .dk (l.g _ _ h) hl hk ih
  | dx h hne hl hk _ _ ih1 ih2 => exact .dx (l.g _ _ h) hne hl hk ih1 ih2
  | box h => exact .box (l.bx h)
  | scr h => exact .scr (sqL_up h l.g)
theorem Rps.up {vs : List V} {xs : List D} (h : Rps P w K W vs xs) (l : Wle F W W') : Rps P w K W' vs xs := ⟨h.1, fun i v d e1 e2 => (h.2 i v d e1 e2).up l⟩
theorem RpK.up {en : List (Key × V)} {kvs : List (D × D)} (h : RpK P w K W en kvs) (l : Wle F W W') : RpK P w K W' en kvs := ⟨h.1, fun i v d e1 e2 => let q := h.2 i v d e1 e2; ⟨q.1, q.2.up l⟩⟩
theorem RpX.up {en : EnX} {kvs : List (D × D)} (h : RpX P w K W en kvs) (l : Wle F W W') : RpX P w K W' en kvs := ⟨h.1, fun i v d e1 e2 => let q := h.2 i v d e1 e2; ⟨q.1, q.2.1.up l, q.2.2.up l⟩⟩
theorem RpF.up {fs : List (Str × V)} {gs : List (Str × D)} (h : RpF P w K W fs gs) (l : Wle F W W') : RpF P w K W' fs gs := ⟨h.1, fun i v d e1 e2 => let q := h.2 i v d e1 e2; ⟨q.1, q.2.up l⟩⟩
/-- the content stays where its object stays -/
theorem Bx.up {b : Box} (h : Bx P w K W H a b) (l : Wle F W W') (e : H' a = H a) : Bx P w K W' H' a b := by
  cases h with
  | lst h hr => exact .lst (e.trans h) (hr.up l)
  | dk h hr => exact .dk (e.trans h) (hr.up l)
  | dx h hne hr => exact .dx (e.trans h) hne (hr.up l)
  | ins h hr => exact .ins (e.trans h) (hr.up l)
theorem bx_some {b : Box} (h : Bx P w K W H a b) : ∃ o, H a = Option.some o := by
  cases h with
  | lst h hr => exact ⟨_, h⟩
  | dk h hr => exact ⟨_, h⟩
  | dx h hne hr => exact ⟨_, h⟩
  | ins h hr => exact ⟨_, h⟩
end

/-- how the evaluator's state lies in the heap. F: what is not touched; A: where the own slots' objects stand -/
structure Rel (P : Program) (w : World) (K : PySem.W.Frag) (F : Hp) (W : Wd) (A : Nat → Addr) (s : S) (σ : Sl) (H : Hp) : Prop where
  g : ∀ p o, W.G p = some o → H p = some o
  f : ∀ p o, F p = some o → H p = some o
  bn : ∀ a ∈ W.B, W.G a = none ∧ F a = none
  nd : W.B.Nodup
  bl : W.B.length = s.sto.length
  bx : ∀ (i : Nat) a b, W.B[i]? = some a → s.sto[i]? = some b → Bx P w K W H a b
  len : σ.length = s.env.length
  sl : ∀ (i : Nat) d, s.env[i]? = some (some (.dat d)) → ∃ v, σ[i]? = some (some v) ∧ Rp P w K W v d
  ow : ∀ (i : Nat) b, s.env[i]? = some (some (.own b)) → σ[i]? = some (some (.ref (A i))) ∧ Bx P w K W H (A i) b ∧ W.G (A i) = none ∧ F (A i) = none ∧ A i ∉ W.B
  inj : ∀ (i j : Nat) b c, s.env[i]? = some (some (.own b)) → s.env[j]? = some (some (.own c)) → A i = A j → i = j
/-- a fresh object at a, held by nobody -/
structure Fr (P : Program) (w : World) (K : PySem.W.Frag) (F : Hp) (W : Wd) (A : Nat → Addr) (s : S) (H : Hp) (a : Addr) (b : Box) : Prop where
  bx : Bx P w K W H a b
  g : W.G a = none
  f : F a = none
  b : a ∉ W.B
  ow : ∀ (i : Nat) c, s.env[i]? = some (some (.own c)) → A i ≠ a
/-- a result -/
def RR (P : Program) (w : World) (K : PySem.W.Frag) (F : Hp) (W : Wd) (A : Nat → Addr) (s : S) (H : Hp) (v : V) : Rz → Prop
  | .dat d => Rp P w K W v d
  | .own b => ∃ a, v = .ref a ∧ Fr P w K F W A s H a b
/-- what is looked at: data, or an object's content as it stands (its items data) -/
def Vw (P : Program) (w : World) (K : PySem.W.Frag) (W : Wd) (H : Hp) (v : V) (d : D) : Prop := Rp P w K W v d ∨ ∃ a b, v = .ref a ∧ Bx P w K W H a b ∧ frz b = some d
section
variable {P : Program} {w : World} {K : PySem.W.Frag} {F H : Hp} {W : Wd} {A : Nat → Addr} {s : S} {σ : Sl}
/-- a world that knows one more object -/
def Wd.more (W : Wd) (a : Addr) (o : HO) : Wd := ⟨upd W.G a o, W.B⟩
theorem Wle.more {a : Addr} {o : HO} (h1 : W.G a = none) (h2 : F a = none) : Wle F W (W.more a o) := by
  refine ⟨fun p u e => ?_, ⟨[], by simp [Wd.more]⟩, fun p u e => ?_⟩
  · show upd W.G a o p = _
    rw [upd_ne (ne_of_none e h1)]
    exact e
  · by_cases q : p = a
    · subst q; exact .inr h2
    · have e : upd W.G a o p = some u := e
      rw [upd_ne q] at e
      exact .inl e
/-- a dict that becomes data is locked for good; a list stays -/
def Frzd (H : Hp) (a : Addr) (Q : Hp → Prop) : Prop := match H a with
  | some (.lst _) => Q H
  | some o => Mut (some o) ∧ ∀ ob, Q (upd H a (.frz ob o))
  | none => False
theorem frzd_imp {a : Addr} {Q Q' : Hp → Prop} (h : Frzd H a Q) (q : ∀ H', Q H' → Q' H') : Frzd H a Q' := by
  unfold Frzd at *
  split at h
  · exact q _ h
  · exact ⟨h.1, fun ob => q _ (h.2 ob)⟩
  · exact h
/-- the relation where a fresh object of the heap H becomes known, another heap object in its place -/
theorem Rel.more {a : Addr} {b : Box} {o : HO} (R : Rel P w K F W A s σ H) (f : Fr P w K F W A s H a b) : Rel P w K F (W.more a o) A s σ (upd H a o) := by
  have l : Wle F W (W.more a o) := Wle.more f.g f.f
  have hn : ∀ {p u}, W.G p = some u → p ≠ a := fun e => ne_of_none e f.g
  refine ⟨fun p u e => ?_, fun p u e => ?_, fun c hc => ⟨?_, (R.bn c hc).2⟩, R.nd, R.bl, fun i c d e1 e2 => (R.bx i c d e1 e2).up l (upd_ne fun z => f.b (z ▸ List.mem_of_getElem? e1)), R.len, fun i d e => ?_, fun i d e => ?_, R.inj⟩
  · have e : upd W.G a o p = some u := e
    by_cases q : p = a
    · subst q
      rw [upd_same] at e ⊢; exact e
    · rw [upd_ne q] at e ⊢
      exact R.g p u e
  · rw [upd_ne (ne_of_none e f.f)]; exact R.f p u e
  · show upd W.G a o c = none
    have hc : c ∈ W.B := hc
    rw [upd_ne (fun q => f.b (by rw [← q]; exact hc))]
    exact (R.bn c hc).1
  · obtain ⟨v, e1, e2⟩ := R.sl i d e
    exact ⟨v, e1, e2.up l⟩
  · obtain ⟨e1, e2, e3, e4, e5⟩ := R.ow i d e
    refine ⟨e1, e2.up l (upd_ne (f.ow i d e)), ?_, e4, e5⟩
    show upd W.G a o (A i) = none
    rw [upd_ne (f.ow i d e)]
    exact e3
theorem upd_self {a : Addr} {o : HO} (e : H a = some o) : upd H a o = H := by
  funext p
  by_cases q : p = a
  · subst q; rw [upd_same, e]
  · rw [upd_ne q]
/-- a fresh object becomes data -/
theorem Rel.seal {a : Addr} {b : Box} {d : D} (R : Rel P w K F W A s σ H) (f : Fr P w K F W A s H a b) (hf : Vl.frz b = some d) :
    Frzd H a fun H' => ∃ W', Wle F W W' ∧ Rel P w K F W' A s σ H' ∧ Rp P w K W' (.ref a) d := by
  have l : ∀ o, Wle F W (W.more a o) := fun o => Wle.more f.g f.f
  have g : ∀ o, (W.more a o).G a = some o := fun o => upd_same
  have bx := f.bx
  unfold Frzd
  cases bx with
  | @lst vs xs h hr =>
    cases hf
    rw [h]
    have R1 := R.more (o := .lst vs) f
    rw [upd_self h] at R1
    exact ⟨_, l _, R1, .lst (g _) hr.1 fun i v d e1 e2 => (hr.2 i v d e1 e2).up (l _)⟩
  | dk h hr =>
    cases hf
    rw [h]
    exact ⟨trivial, fun ob => ⟨_, l _, R.more f, .dk (g _) hr.1 (fun i v d e1 e2 => (hr.2 i v d e1 e2).1) fun i v d e1 e2 => (hr.2 i v d e1 e2).2.up (l _)⟩⟩
  | dx h hne hr =>
    cases hf
    rw [h]
    exact ⟨trivial, fun ob => ⟨_, l _, R.more f, .dx (g _) hne hr.1 (fun i v d e1 e2 => (hr.2 i v d e1 e2).1) (fun i v d e1 e2 => (hr.2 i v d e1 e2).2.2.up (l _)) fun i v d e1 e2 => (hr.2 i v d e1 e2).2.1.up (l _)⟩⟩
  | ins h hr => cases hf
/-- an own slot frozen -/
theorem Rel.freeze {i : Nat} {b : Box} {d : D} (R : Rel P w K F W A s σ H) (e : s.env[i]? = some (some (.own b))) (hf : Vl.frz b = some d) :
    Frzd H (A i) fun H' => ∃ W', Wle F W W' ∧ Rel P w K F W' A { s with env := s.env.set i (some (.dat d)) } σ H' ∧ Rp P w K W' (.ref (A i)) d := by
  obtain ⟨e1, e2, e3, e4, e5⟩ := R.ow i b e
  have hi : i < s.env.length := (List.getElem?_eq_some_iff.mp e).1
  have own : ∀ (j : Nat) c, (s.env.set i (some (.dat d)))[j]? = some (some (.own c)) → s.env[j]? = some (some (.own c)) ∧ j ≠ i := fun j c q => by
    by_cases z : i = j
    · subst z
      rw [List.getElem?_set_self hi] at q; cases q
    · rw [List.getElem?_set_ne z] at q
      exact ⟨q, fun k => z k.symm⟩
  have R1 : Rel P w K F W A { s with env := s.env.set i none } σ H := by
    have own' : ∀ (j : Nat) c, (s.env.set i none)[j]? = some (some c) → s.env[j]? = some (some c) := fun j c q => by
      by_cases z : i = j
      · subst z
        rw [List.getElem?_set_self hi] at q; cases q
      · rw [List.getElem?_set_ne z] at q; exact q
    exact ⟨R.g, R.f, R.bn, R.nd, R.bl, R.bx, by rw [List.length_set]; exact R.len, fun j c q => R.sl j c (own' j _ q), fun j c q => R.ow j c (own' j _ q), fun j k c c' q q' => R.inj j k c c' (own' j _ q) (own' k _ q')⟩
  have f : Fr P w K F W A { s with env := s.env.set i none } H (A i) b := ⟨e2, e3, e4, e5, fun j c q z => by
    by_cases y : i = j
    · subst y
      have q : (s.env.set i none)[i]? = some (some (.own c)) := q
      rw [List.getElem?_set_self hi] at q; cases q
    · have q : (s.env.set i none)[j]? = some (some (.own c)) := q
      rw [List.getElem?_set_ne y] at q
      exact y (R.inj i j b c e q z.symm)⟩
  refine frzd_imp (R1.seal f hf) fun H' ⟨W', l, R2, rp⟩ => ?_
  refine ⟨W', l, ⟨R2.g, R2.f, R2.bn, R2.nd, R2.bl, R2.bx, by rw [List.length_set]; exact R.len, fun j c q => ?_, fun j c q => ?_, fun j k c c' q q' => R.inj j k c c' (own j _ q).1 (own k _ q').1⟩, rp⟩
  · by_cases z : i = j
    · subst z
      have q : (s.env.set i (some (.dat d)))[i]? = some (some (.dat c)) := q
      rw [List.getElem?_set_self hi] at q; cases q
      exact ⟨_, e1, rp⟩
    · have q : (s.env.set i (some (.dat d)))[j]? = some (some (.dat c)) := q
      rw [List.getElem?_set_ne z] at q
      exact R2.sl j c (by show (s.env.set i none)[j]? = _; rw [List.getElem?_set_ne z]; exact q)
  · obtain ⟨q, z⟩ := own j c q
    exact R2.ow j c (by show (s.env.set i none)[j]? = _; rw [List.getElem?_set_ne (Ne.symm z)]; exact q)
end
end Vl
set_option Elab.async false
set_option linter.all false
set_option maxRecDepth 100000
set_option maxHeartbeats 1000000
/-! V3: judgements; new objects; names, constants, operators -/
namespace Vl
open PySem PySem.Spec PyProof.Rows L2

/-! ### readings as they are -/
def TX (X : Cx) (e : Expr) : TE := fun σ H Q => ∀ pins s, Inv X pins σ H s → wpAny (model X.prog X.w) X.A (eval e X.env) (EP X pins σ Q) X.xe s
theorem pe_tx {X : Cx} {e : Expr} : PE X e (TX X e) := ⟨fun pins s σ H Q I h => h pins s I⟩
theorem tx_of {X : Cx} {e : Expr} {t : TE} {σ : Sl} {H : Hp} {Q : VK} (h : PE X e t) (q : t σ H Q) : TX X e σ H Q := fun pins s I => h.run pins s σ H Q I q
def TT1 (X : Cx) (e : Expr) : TT := fun σ H Q => ∀ pins s, Inv X pins σ H s → wpAny (model X.prog X.w) X.A (isTrue e X.env (eval e X.env)) (TP X pins σ Q) X.xe s
theorem pt_tt {X : Cx} {e : Expr} : PT X e (TT1 X e) := ⟨fun pins s σ H Q I h => h pins s I⟩
theorem tt_of {X : Cx} {e : Expr} {t : TT} {σ : Sl} {H : Hp} {Q : Bool → Hp → Prop} (h : PT X e t) (q : t σ H Q) : TT1 X e σ H Q := fun pins s I => h.run pins s σ H Q I q
def TW1 (X : Cx) (e : Expr) : TT := fun σ H Q => ∀ wh pins s, Inv X pins σ H s → wpAny (model X.prog X.w) X.A (isTrue e X.env wh) (TP X pins σ Q) X.xe s
theorem pw_tw {X : Cx} {e : Expr} : PW X e (TW1 X e) := ⟨fun wh pins s σ H Q I h => h wh pins s I⟩
def TO2 (X : Cx) (f : Value → Value → Sem Value) : R2 := fun x y H Q => ∀ pins s σ v u, Inv X pins σ H s → RelV x v → RelV y u → wpAny (model X.prog X.w) X.A (f v u) (EP X pins σ Q) X.xe s
theorem or_to {X : Cx} {f : Value → Value → Sem Value} : OpR X f (TO2 X f) := fun pins s σ H x y v u Q I rx ry h => h pins s σ v u I rx ry
theorem to_of {X : Cx} {f : Value → Value → Sem Value} {r : R2} {x y : V} {H : Hp} {Q : VK} (h : OpR X f r) (q : r x y H Q) : TO2 X f x y H Q := fun pins s σ v u I rx ry => h pins s σ H x y v u Q I rx ry q

/-- behind an expression a thing becomes data for good -/
theorem tx_seal {X : Cx} {e : Expr} {σ : Sl} {H : Hp} {Q : VK} (h : TX X e σ H fun v H1 => Q v H1 ∨ ∃ a, v = .ref a ∧ Frzd H1 a (Q v)) : TX X e σ H Q := fun pins s I => by
  refine thn (h pins s I) fun u s1 ⟨v, H1, I1, r, q⟩ => ?_
  rcases q with q | ⟨a, rfl, q⟩
  · exact ⟨v, H1, I1, r, q⟩
  · unfold Frzd at q
    split at q
    · exact ⟨_, H1, I1, r, q⟩
    · rename_i o _ ho
      obtain ⟨ob, I2⟩ := I1.lock ho q.1
      exact ⟨_, _, I2, r, q.2 ob⟩
    · exact q.elim
/-- nothing is raised -/
abbrev NoX : Exn → S → Prop := fun _ _ => False
/-- what a result is, by its kind -/
abbrev RK (ρ : Type) := Hp → Wd → (Nat → Addr) → S → Sl → Hp → V → ρ → Prop
/-- the expression e does in the heap what m does to the state -/
def VG {ρ : Type} (X : Cx) (C : RK ρ) (e : Expr) (m : M ρ) : Prop := ∀ (F : Hp) (W : Wd) (A : Nat → Addr) (s : S) (σ : Sl) (H : Hp) (Q : VK), Rel X.prog X.w X.K F W A s σ H →
  Wp m s (fun r s' => ∀ W' A' v H', Wle F W W' → Rel X.prog X.w X.K F W' A' s' σ H' → C F W' A' s' σ H' v r → Q v H') NoX → TX X e σ H Q
/-- what an operand is looked at by: data, or the slot that holds it -/
inductive Ref where
  | dat (d : D) | slot (i : Nat)
section
variable (X : Cx)
def cE : RK Rz := fun F W A s _ H v r => RR X.prog X.w X.K F W A s H v r
def cD : RK D := fun _ W _ _ _ _ v d => Rp X.prog X.w X.K W v d
def cR : RK Ref := fun _ W _ _ σ _ v r => match r with
  | .dat d => Rp X.prog X.w X.K W v d
  | .slot i => σ[i]? = some (some v)
end
abbrev VE (X : Cx) := VG X (cE X)
abbrev VD (X : Cx) := VG X (cD X)
abbrev VR (X : Cx) := VG X (cR X)
def VT (X : Cx) (e : Expr) (m : M Bool) : Prop := ∀ (F : Hp) (W : Wd) (A : Nat → Addr) (s : S) (σ : Sl) (H : Hp) (Q : Bool → Hp → Prop), Rel X.prog X.w X.K F W A s σ H →
  Wp m s (fun b s' => ∀ W' A' H', Wle F W W' → Rel X.prog X.w X.K F W' A' s' σ H' → Q b H') NoX → TT1 X e σ H Q
def VW (X : Cx) (e : Expr) (m : M Bool) : Prop := ∀ (F : Hp) (W : Wd) (A : Nat → Addr) (s : S) (σ : Sl) (H : Hp) (Q : Bool → Hp → Prop), Rel X.prog X.w X.K F W A s σ H →
  Wp m s (fun b s' => ∀ W' A' H', Wle F W W' → Rel X.prog X.w X.K F W' A' s' σ H' → Q b H') NoX → TW1 X e σ H Q
theorem VW.vt {X : Cx} {e : Expr} {m : M Bool} (h : VW X e m) : VT X e m := fun F W A s σ H Q R hw pins sh I => h F W A s σ H Q R hw _ pins sh I

/-! ### new objects -/
section
variable {P : Program} {w : World} {K : PySem.W.Frag} {F H : Hp} {W : Wd} {A : Nat → Addr} {s : S} {σ : Sl} {p : Addr} {o : HO}
theorem Rel.bxs (R : Rel P w K F W A s σ H) {a : Addr} (ha : a ∈ W.B) : ∃ o, H a = some o := by
  obtain ⟨i, hi⟩ := List.mem_iff_getElem?.mp ha
  have h1 : i < s.sto.length := by rw [← R.bl]; exact (List.getElem?_eq_some_iff.mp hi).1
  exact bx_some (R.bx i a _ hi (List.getElem?_eq_getElem h1))
/-- what is new is known to nobody -/
theorem Rel.newF (R : Rel P w K F W A s σ H) (hp : H p = none) : W.G p = none ∧ F p = none ∧ p ∉ W.B ∧ ∀ (i : Nat) c, s.env[i]? = some (some (.own c)) → A i ≠ p := by
  refine ⟨?_, ?_, fun h => ?_, fun i c e z => ?_⟩
  · cases q : W.G p with
    | none => rfl
    | some o => rw [R.g p o q] at hp; cases hp
  · cases q : F p with
    | none => rfl
    | some o => rw [R.f p o q] at hp; cases hp
  · obtain ⟨o, e⟩ := R.bxs h
    rw [hp] at e; cases e
  · obtain ⟨_, b, _⟩ := R.ow i c e
    obtain ⟨o, e⟩ := bx_some b
    rw [z, hp] at e; cases e
/-- the heap with another object at p, where p is neither known nor protected nor held -/
theorem Rel.other (R : Rel P w K F W A s σ H) (h1 : W.G p = none) (h2 : F p = none) (h3 : p ∉ W.B) (h4 : ∀ (i : Nat) c, s.env[i]? = some (some (.own c)) → A i ≠ p) : Rel P w K F W A s σ (upd H p o) := by
  refine ⟨fun q u e => ?_, fun q u e => ?_, R.bn, R.nd, R.bl, fun i a b e1 e2 => ?_, R.len, R.sl, fun i b e => ?_, R.inj⟩
  · rw [upd_ne (ne_of_none e h1)]; exact R.g q u e
  · rw [upd_ne (ne_of_none e h2)]; exact R.f q u e
  · have hn : a ≠ p := fun z => h3 (z ▸ List.mem_of_getElem? e1)
    exact (R.bx i a b e1 e2).up (Wle.refl (F := F)) (upd_ne hn)
  · obtain ⟨e1, e2, e3, e4, e5⟩ := R.ow i b e
    exact ⟨e1, e2.up (Wle.refl (F := F)) (upd_ne (h4 i b e)), e3, e4, e5⟩
theorem Rel.laid (R : Rel P w K F W A s σ H) (hp : H p = none) : Rel P w K F W A s σ (upd H p o) :=
  let ⟨h1, h2, h3, h4⟩ := R.newF hp
  R.other h1 h2 h3 h4
/-- .. and it is a result of its own -/
theorem Rel.fresh (R : Rel P w K F W A s σ H) (hp : H p = none) {b : Box} (hb : Bx P w K W (upd H p o) p b) : Fr P w K F W A s (upd H p o) p b :=
  let ⟨h1, h2, h3, h4⟩ := R.newF hp
  ⟨hb, h1, h2, h3, h4⟩
/-- .. or becomes known (a tuple) -/
theorem Rel.tup (R : Rel P w K F W A s σ H) (hp : H p = none) {vs : List V} {xs : List D} (r : Rps P w K W vs xs) :
    Wle F W (W.more p (.tup vs)) ∧ Rel P w K F (W.more p (.tup vs)) A s σ (upd H p (.tup vs)) ∧ Rp P w K (W.more p (.tup vs)) (.ref p) (.tup xs) := by
  obtain ⟨h1, h2, h3, h4⟩ := R.newF hp
  have l : Wle F W (W.more p (.tup vs)) := Wle.more h1 h2
  have R1 : Rel P w K F W A s σ (upd H p (.tup vs)) := R.laid hp
  refine ⟨l, ⟨fun q u e => ?_, R1.f, fun c hc => ⟨?_, (R1.bn c hc).2⟩, R1.nd, R1.bl, fun i a b e1 e2 => (R1.bx i a b e1 e2).up l rfl, R1.len, fun i d e => ?_, fun i b e => ?_, R1.inj⟩, ?_⟩
  · by_cases z : q = p
    · subst z
      have e : upd W.G q (.tup vs) q = some u := e
      rw [upd_same] at e
      rw [upd_same]
      exact e
    · have e : upd W.G p (.tup vs) q = some u := e
      rw [upd_ne z] at e
      exact R1.g q u e
  · have hc : c ∈ W.B := hc
    show upd W.G p (.tup vs) c = none
    rw [upd_ne (fun z => h3 (by rw [← z]; exact hc))]
    exact (R.bn c hc).1
  · obtain ⟨v, e1, e2⟩ := R1.sl i d e
    exact ⟨v, e1, e2.up l⟩
  · obtain ⟨e1, e2, e3, e4, e5⟩ := R1.ow i b e
    refine ⟨e1, e2.up l rfl, ?_, e4, e5⟩
    show upd W.G p (.tup vs) (A i) = none
    rw [upd_ne (h4 i b e)]
    exact e3
  · have r' := r.up l
    exact .tup (.inl (.inl upd_same)) r'.1 r'.2
end

/-! ### results turned into data -/
def toD : Rz → M D
  | .dat d => Pure.pure d
  | .own b => orStuck (frz b)
section
variable {X : Cx} {e : Expr}
theorem VE.vd {m : M Rz} (h : VE X e m) : VD X e (m >>= toD) := by
  intro F W A s σ H Q R hw
  rw [wp_bind] at hw
  refine tx_seal (h F W A s σ H _ R (wp_mono hw (fun r s' h1 => ?_) fun _ _ z => z))
  intro W' A' v H' l R' c
  cases r with
  | dat d => exact .inl (h1 W' A' v H' l R' c)
  | own b =>
    obtain ⟨d, e1, q⟩ := wp_orStuck h1
    obtain ⟨a, rfl, f⟩ := c
    exact .inr ⟨a, rfl, frzd_imp (R'.seal f e1) fun H2 ⟨W2, l2, R2, c2⟩ => q W2 A' _ H2 (l.trans l2) R2 c2⟩
theorem VD.vr {m : M D} (h : VD X e m) : VR X e (do let d ← m; Pure.pure (.dat d)) := by
  intro F W A s σ H Q R hw
  rw [wp_bind] at hw
  exact h F W A s σ H Q R (wp_mono hw (fun r s' h1 W' A' v H' l R' c => h1 W' A' v H' l R' c) fun _ _ z => z)
theorem VD.ve {m : M D} (h : VD X e m) : VE X e (do let d ← m; Pure.pure (.dat d)) := by
  intro F W A s σ H Q R hw
  rw [wp_bind] at hw
  exact h F W A s σ H Q R (wp_mono hw (fun r s' h1 W' A' v H' l R' c => h1 W' A' v H' l R' c) fun _ _ z => z)
end
/-- data that a box's content is -/
def derefD (s : S) : D → Option D
  | .box k => (s.sto[k]?).bind frz
  | d => some d
def deref (rf : Ref) (s : S) : Option D := match rf with
  | .dat d => derefD s d
  | .slot i => match s.env[i]? with
    | some (some (.own b)) => frz b
    | some (some (.dat d)) => derefD s d
    | _ => none
def look (rf : Ref) : M D := fun s => match deref rf s with
  | some d => .ok d s
  | none => .stuck
theorem wp_look {rf : Ref} {s : S} {Φ : D → S → Prop} {Ψ : Exn → S → Prop} (h : Wp (look rf) s Φ Ψ) : ∃ d, deref rf s = some d ∧ Φ d s := by
  unfold Wp look at h
  cases e : deref rf s with
  | none => rw [e] at h; exact h.elim
  | some d => rw [e] at h; exact ⟨d, rfl, h⟩
section
variable {X : Cx} {F H : Hp} {W W' : Wd} {A : Nat → Addr} {s : S} {σ : Sl} {v : V} {d : D}
theorem derefD_vw (R : Rel X.prog X.w X.K F W A s σ H) {d0 : D} (c : Rp X.prog X.w X.K W v d0) (e : derefD s d0 = some d) : Vw X.prog X.w X.K W H v d := by
  unfold derefD at e
  split at e
  · rename_i k
    cases c with
    | box hb =>
      obtain ⟨b, e1, e2⟩ := Option.bind_eq_some_iff.mp e
      exact .inr ⟨_, b, rfl, R.bx k _ b hb e1, e2⟩
  · cases e
    exact .inl c
theorem deref_vw (R : Rel X.prog X.w X.K F W A s σ H) {rf : Ref} (c : cR X F W A s σ H v rf) (e : deref rf s = some d) : Vw X.prog X.w X.K W H v d := by
  unfold deref at e
  cases rf with
  | dat d0 => exact derefD_vw R c e
  | slot i =>
    have c : σ[i]? = some (some v) := c
    simp only at e
    split at e
    · rename_i b hb
      obtain ⟨e1, e2, _⟩ := R.ow i b hb
      rw [c] at e1; cases e1
      exact .inr ⟨_, b, rfl, e2, e⟩
    · rename_i d1 hd
      obtain ⟨v', e1, e2⟩ := R.sl i d1 hd
      rw [c] at e1; cases e1
      exact derefD_vw R e2 e
    · cases e
theorem cR_up {rf : Ref} {A' : Nat → Addr} {s' : S} {H' : Hp} (c : cR X F W A s σ H v rf) (l : Wle F W W') : cR X F W' A' s' σ H' v rf := by
  cases rf with
  | dat d => exact Rp.up c l
  | slot i => exact c
end

/-! ### looking at values -/
section
variable {P : Program} {w : World} {K : PySem.W.Frag} {W : Wd} {H : Hp} {v : V}
theorem Vw.non (h : Vw P w K W H v .non) : v = .non := by
  rcases h with h | ⟨a, b, rfl, h, e⟩
  · cases h; rfl
  · cases b <;> cases e
theorem Vw.bl {b : Bool} (h : Vw P w K W H v (.bl b)) : v = .bl b := by
  rcases h with h | ⟨a, b, rfl, h, e⟩
  · cases h; rfl
  · cases b <;> cases e
theorem Vw.int {i : Int} (h : Vw P w K W H v (.int i)) : v = .int i := by
  rcases h with h | ⟨a, b, rfl, h, e⟩
  · cases h; rfl
  · cases b <;> cases e
theorem Vw.str {x : Str} (h : Vw P w K W H v (.str x)) : v = .str x := by
  rcases h with h | ⟨a, b, rfl, h, e⟩
  · cases h; rfl
  · cases b <;> cases e
theorem Vw.lst {xs : List D} (h : Vw P w K W H v (.lst xs)) (g : ∀ p o, W.G p = some o → H p = some o) : ∃ a vs, v = .ref a ∧ H a = some (.lst vs) ∧ Rps P w K W vs xs := by
  rcases h with h | ⟨a, b, rfl, h, e⟩
  · cases h with
    | lst h hl hr => exact ⟨_, _, rfl, g _ _ h, hl, hr⟩
  · cases b <;> cases e
    cases h with
    | lst h hr => exact ⟨_, _, rfl, h, hr⟩
theorem Vw.tup {xs : List D} (h : Vw P w K W H v (.tup xs)) (g : ∀ p o, W.G p = some o → H p = some o) : ∃ a vs, v = .ref a ∧ SqT K H a vs ∧ Rps P w K W vs xs ∧ SqT K W.G a vs := by
  rcases h with h | ⟨a, b, rfl, h, e⟩
  · cases h with
    | tup h hl hr => exact ⟨_, _, rfl, sqT_up h g, ⟨hl, hr⟩, h⟩
  · cases b <;> cases e
theorem Vw.dct {kvs : List (D × D)} (h : Vw P w K W H v (.dct kvs)) (g : ∀ p o, W.G p = some o → H p = some o) :
    ∃ a, v = .ref a ∧ ((∃ en, Rd H a (.dK en) ∧ RpK P w K W en kvs) ∨ ∃ en, Rd H a (DX P w a en) ∧ RpX P w K W en kvs ∧ en ≠ []) := by
  rcases h with h | ⟨a, b, rfl, h, e⟩
  · cases h with
    | dk h hl hk hr => exact ⟨_, rfl, .inl ⟨_, .inr ⟨_, g _ _ h⟩, hl, fun i e p e1 e2 => ⟨hk i e p e1 e2, hr i e p e1 e2⟩⟩⟩
    | dx h hne hl hk hr hq => exact ⟨_, rfl, .inr ⟨_, .inr ⟨_, g _ _ h⟩, ⟨hl, fun i e p e1 e2 => ⟨hk i e p e1 e2, hq i e p e1 e2, hr i e p e1 e2⟩⟩, hne⟩⟩
  · cases b <;> cases e
    cases h with
    | dk h hr => exact ⟨_, rfl, .inl ⟨_, .inl h, hr⟩⟩
    | dx h hne hr => exact ⟨_, rfl, .inr ⟨_, .inl h, hr, hne⟩⟩
theorem Vw.scr {ns : List Int} (h : Vw P w K W H v (.scr ns)) (g : ∀ p o, W.G p = some o → H p = some o) : ∃ a, v = .ref a ∧ SqL K H a (ns.map V.int) := by
  rcases h with h | ⟨a, b, rfl, h, e⟩
  · cases h with
    | scr h => exact ⟨_, rfl, sqL_up h g⟩
  · cases b <;> cases e
theorem Vw.box {i : Nat} (h : Vw P w K W H v (.box i)) : ∃ a, v = .ref a ∧ W.B[i]? = some a := by
  rcases h with h | ⟨a, b, rfl, h, e⟩
  · cases h with
    | box h => exact ⟨_, rfl, h⟩
  · cases b <;> cases e
theorem Rps.append {vs us : List V} {xs ys : List D} (a : Rps P w K W vs xs) (b : Rps P w K W us ys) : Rps P w K W (vs ++ us) (xs ++ ys) := by
  refine ⟨by rw [List.length_append, List.length_append, a.1, b.1], fun i v d e1 e2 => ?_⟩
  by_cases h : i < vs.length
  · rw [List.getElem?_append_left h] at e1
    rw [List.getElem?_append_left (by rw [← a.1]; exact h)] at e2
    exact a.2 i v d e1 e2
  · rw [List.getElem?_append_right (by omega)] at e1
    rw [List.getElem?_append_right (by rw [← a.1]; omega)] at e2
    rw [← a.1] at e2
    exact b.2 _ v d e1 e2
theorem Rps.nil : Rps P w K W [] [] := ⟨rfl, fun i v d e => by cases i <;> cases e⟩
theorem Rps.cons {v : V} {d : D} {vs : List V} {xs : List D} (a : Rp P w K W v d) (b : Rps P w K W vs xs) : Rps P w K W (v :: vs) (d :: xs) := by
  refine ⟨by rw [List.length_cons, List.length_cons, b.1], fun i v' d' e1 e2 => ?_⟩
  cases i with
  | zero => cases e1; cases e2; exact a
  | succ i => exact b.2 i v' d' e1 e2
theorem Rps.get {vs : List V} {xs : List D} (r : Rps P w K W vs xs) {i : Nat} {d : D} (e : xs[i]? = some d) : ∃ v, vs[i]? = some v ∧ Rp P w K W v d := by
  have h : i < vs.length := by rw [r.1]; exact (List.getElem?_eq_some_iff.mp e).1
  exact ⟨vs[i], List.getElem?_eq_getElem h, r.2 i _ d (List.getElem?_eq_getElem h) e⟩
theorem Rps.drop {vs : List V} {xs : List D} (r : Rps P w K W vs xs) (n : Nat) : Rps P w K W (vs.drop n) (xs.drop n) := by
  refine ⟨by rw [List.length_drop, List.length_drop, r.1], fun i v d e1 e2 => ?_⟩
  rw [List.getElem?_drop] at e1 e2
  exact r.2 _ v d e1 e2
theorem Rps.take {vs : List V} {xs : List D} (r : Rps P w K W vs xs) (n : Nat) : Rps P w K W (vs.take n) (xs.take n) := by
  refine ⟨by rw [List.length_take, List.length_take, r.1], fun i v d e1 e2 => ?_⟩
  rw [List.getElem?_take] at e1 e2
  split at e1
  · rename_i h
    rw [if_pos h] at e2
    exact r.2 _ v d e1 e2
  · cases e1
theorem Rps.cut {vs : List V} {xs : List D} (r : Rps P w K W vs xs) (lo hi : Option Int) : Rps P w K W (cutV vs lo hi) ((xs.drop (HT.sIx xs.length 0 lo)).take (HT.sIx xs.length xs.length hi - HT.sIx xs.length 0 lo)) := by
  unfold cutV
  rw [r.1]
  exact (r.drop _).take _
theorem rps_ints {vs : List V} {ns : List Int} (r : Rps P w K W vs (ns.map D.int)) : vs = ns.map V.int := by
  refine List.ext_getElem? fun i => ?_
  rw [List.getElem?_map]
  cases e : ns[i]? with
  | none =>
    have := List.getElem?_eq_none_iff.mp e
    rw [List.getElem?_eq_none_iff.mpr (by rw [r.1, List.length_map]; exact this)]
    rfl
  | some n =>
    obtain ⟨v, e1, e2⟩ := r.get (i := i) (d := .int n) (by rw [List.getElem?_map, e]; rfl)
    cases e2
    exact e1
theorem rps_bls {vs : List V} {ns : List Bool} (r : Rps P w K W vs (ns.map D.bl)) : vs = ns.map V.bl := by
  refine List.ext_getElem? fun i => ?_
  rw [List.getElem?_map]
  cases e : ns[i]? with
  | none =>
    have := List.getElem?_eq_none_iff.mp e
    rw [List.getElem?_eq_none_iff.mpr (by rw [r.1, List.length_map]; exact this)]
    rfl
  | some n =>
    obtain ⟨v, e1, e2⟩ := r.get (i := i) (d := .bl n) (by rw [List.getElem?_map, e]; rfl)
    cases e2
    exact e1
theorem rps_of_ints {ns : List Int} : Rps P w K W (ns.map V.int) (ns.map D.int) := by
  refine ⟨by simp, fun i v d e1 e2 => ?_⟩
  rw [List.getElem?_map] at e1 e2
  cases e : ns[i]? with
  | none => rw [e] at e1; cases e1
  | some n => rw [e] at e1 e2; cases e1; cases e2; exact .int n
end

/-! ### names and constants -/
def rdSlot (i : Nat) : M D := fun s => match s.env[i]? with
  | some (some (.dat d)) => .ok d s
  | some (some (.own b)) => match frz b with
    | some d => .ok d { s with env := s.env.set i (some (.dat d)) }
    | none => .stuck
  | _ => .stuck
def rfSlot (i : Nat) : M Ref := fun s => match s.env[i]? with
  | some (some _) => .ok (.slot i) s
  | _ => .stuck
section
variable {X : Cx} {pos : Pos}
theorem vd_name {i : Nat} {x : Str} (hN : X.N[i]? = some x) (hv : Vis X.env.scope x) (hd : (x == ("__debug__" : Str)) = false) (hcd : (x == ("__classdict__" : Str)) = false) : VD X (.Name x pos) (rdSlot i) := by
  intro F W A s σ H Q R hw
  refine tx_seal (tx_of (pe_var hN hv hd hcd) ?_)
  unfold Wp rdSlot at hw
  cases e : s.env[i]? with
  | none => rw [e] at hw; exact hw.elim
  | some o =>
    rw [e] at hw
    cases o with
    | none => exact hw.elim
    | some r =>
      cases r with
      | dat d =>
        obtain ⟨v, e1, e2⟩ := R.sl i d e
        exact ⟨v, e1, .inl (hw W A v H Wle.refl R e2)⟩
      | own b =>
        simp only at hw
        cases ef : frz b with
        | none => rw [ef] at hw; exact hw.elim
        | some d =>
          rw [ef] at hw
          exact ⟨_, (R.ow i b e).1, .inr ⟨_, rfl, frzd_imp (R.freeze e ef) fun H' ⟨W', l, R', c⟩ => hw W' A _ H' l R' c⟩⟩
theorem vr_name {i : Nat} {x : Str} (hN : X.N[i]? = some x) (hv : Vis X.env.scope x) (hd : (x == ("__debug__" : Str)) = false) (hcd : (x == ("__classdict__" : Str)) = false) :
    VR X (.Name x pos) (rfSlot i) := by
  intro F W A s σ H Q R hw
  refine tx_of (pe_var hN hv hd hcd) ?_
  unfold Wp rfSlot at hw
  cases e : s.env[i]? with
  | none => rw [e] at hw; exact hw.elim
  | some o =>
    rw [e] at hw
    cases o with
    | none => exact hw.elim
    | some r =>
      have : ∃ v, σ[i]? = some (some v) := by
        cases r with
        | dat d => obtain ⟨v, e1, _⟩ := R.sl i d e; exact ⟨v, e1⟩
        | own b => exact ⟨_, (R.ow i b e).1⟩
      obtain ⟨v, e1⟩ := this
      exact ⟨v, e1, hw W A v H Wle.refl R e1⟩
theorem vd_const {e : Expr} {v : V} {d : D} (h : PE X e (tC v)) (c : ∀ W, Rp X.prog X.w X.K W v d) : VD X e (Pure.pure d) := by
  intro F W A s σ H Q R hw
  exact tx_of h (hw W A v H Wle.refl R (c W))
theorem vd_int {i j} : VD X (.Constant (.int i) j pos) (Pure.pure (.int i)) := vd_const pe_int fun _ => .int i
theorem vd_bl {b j} : VD X (.Constant (.bool b) j pos) (Pure.pure (.bl b)) := vd_const pe_bl fun _ => .bl b
theorem vd_non {j} : VD X (.Constant .none j pos) (Pure.pure .non) := vd_const pe_non fun _ => .non
theorem vd_str {x j} : VD X (.Constant (.str x) j pos) (Pure.pure (.str x)) := vd_const pe_str fun _ => .str x

/-! ### operators -/
def mBin (ma mb : M Ref) (g : D → D → Option Rz) : M Rz := do
  let ra ← ma
  let rb ← mb
  let x ← look ra
  let y ← look rb
  orStuck (g x y)
/-- an operation by values does what g does to data -/
def Op2 (X : Cx) (f : Value → Value → Sem Value) (g : D → D → Option Rz) : Prop := ∀ (F : Hp) (W : Wd) (A : Nat → Addr) (s : S) (σ : Sl) (H : Hp) (v u : V) (x y : D) (r : Rz) (Q : VK), Rel X.prog X.w X.K F W A s σ H →
  Vw X.prog X.w X.K W H v x → Vw X.prog X.w X.K W H u y → g x y = some r → (∀ W' z H', Wle F W W' → Rel X.prog X.w X.K F W' A s σ H' → RR X.prog X.w X.K F W' A s H' z r → Q z H') → TO2 X f v u H Q
theorem mBin_run {a b : Expr} {ma mb : M Ref} {f : Value → Value → Sem Value} {g : D → D → Option Rz} (ha : VR X a ma) (hb : VR X b mb) (hf : Op2 X f g) {F : Hp} {W : Wd} {A : Nat → Addr} {s : S} {σ : Sl} {H : Hp} {Q : VK} (R : Rel X.prog X.w X.K F W A s σ H)
    (hw : Wp (mBin ma mb g) s (fun r s' => ∀ W' A' v H', Wle F W W' → Rel X.prog X.w X.K F W' A' s' σ H' → cE X F W' A' s' σ H' v r → Q v H') NoX) : tOp (TO2 X f) (TX X a) (TX X b) σ H Q := by
  unfold mBin at hw
  rw [wp_bind] at hw
  refine ha F W A s σ H _ R (wp_mono hw (fun ra s1 h1 => ?_) fun _ _ z => z)
  intro W1 A1 v H1 l1 R1 c1
  rw [wp_bind] at h1
  refine hb F W1 A1 s1 σ H1 _ R1 (wp_mono h1 (fun rb s2 h2 => ?_) fun _ _ z => z)
  intro W2 A2 u H2 l2 R2 c2
  rw [wp_bind] at h2
  obtain ⟨x, ex, h2⟩ := wp_look h2
  rw [wp_bind] at h2
  obtain ⟨y, ey, h2⟩ := wp_look h2
  obtain ⟨r, er, h2⟩ := wp_orStuck h2
  exact hf F W2 A2 s2 σ H2 v u x y r Q R2 (deref_vw R2 (cR_up c1 l2) ex) (deref_vw R2 c2 ey) er fun W' z H' l R' c => h2 W' A2 z H' ((l1.trans l2).trans l) R' c
theorem ve_bin {a b : Expr} {op : Operator} {ma mb : M Ref} {g : D → D → Option Rz} (ha : VR X a ma) (hb : VR X b mb) (hf : Op2 X (binaryOp op) g) : VE X (.BinOp a op b pos) (mBin ma mb g) := by
  intro F W A s σ H Q R hw
  exact tx_of (pe_op or_to pe_tx pe_tx) (mBin_run ha hb hf R hw)
theorem ve_cmp {a b : Expr} {op : CmpOp} {ma mb : M Ref} {g : D → D → Option Rz} (ha : VR X a ma) (hb : VR X b mb) (hf : Op2 X (compareOp op) g) (hm : behindInMarks op b = false) : VE X (.Compare a [op] [b] pos) (mBin ma mb g) := by
  intro F W A s σ H Q R hw
  exact tx_of (pe_cmpR or_to pe_tx pe_tx hm) (mBin_run ha hb hf R hw)
/-- a op b op' c -/
def mChain (ma mb mc : M Ref) (g g' : D → D → Option Rz) : M Rz := do
  let ra ← ma
  let rb ← mb
  let x ← look ra
  let y ← look rb
  match g x y with
  | some (.dat (.bl true)) => do
    let rc ← mc
    let y ← look rb
    let z ← look rc
    orStuck (g' y z)
  | some (.dat (.bl false)) => Pure.pure (.dat (.bl false))
  | _ => stuck
theorem ve_chain {a b c : Expr} {op op' : CmpOp} {ma mb mc : M Ref} {g g' : D → D → Option Rz} (ha : VR X a ma) (hb : VR X b mb) (hc : VR X c mc) (hf : Op2 X (compareOp op) g) (hf' : Op2 X (compareOp op') g')
    (hm : lastMarks [op, op'] [b, c] = false) : VE X (.Compare a [op, op'] [b, c] pos) (mChain ma mb mc g g') := by
  intro F W A s σ H Q R hw
  refine tx_of (pe_chain or_to or_to pe_tx pe_tx pe_tx hm) ?_
  unfold mChain at hw
  rw [wp_bind] at hw
  refine ha F W A s σ H _ R (wp_mono hw (fun ra s1 h1 => ?_) fun _ _ z => z)
  intro W1 A1 v H1 l1 R1 c1
  rw [wp_bind] at h1
  refine hb F W1 A1 s1 σ H1 _ R1 (wp_mono h1 (fun rb s2 h2 => ?_) fun _ _ z => z)
  intro W2 A2 u H2 l2 R2 c2
  rw [wp_bind] at h2
  obtain ⟨x, ex, h2⟩ := wp_look h2
  rw [wp_bind] at h2
  obtain ⟨y, ey, h2⟩ := wp_look h2
  have l12 := l1.trans l2
  have c1' : cR X F W2 A2 s2 σ H2 v ra := cR_up c1 l2
  cases er : g x y with
  | none => rw [er] at h2; exact h2.elim
  | some r =>
    rw [er] at h2
    cases r with
    | own b => exact h2.elim
    | dat d =>
      cases d with
      | bl k =>
        refine hf F W2 A2 s2 σ H2 v u x y _ _ R2 (deref_vw R2 c1' ex) (deref_vw R2 c2 ey) er fun W3 z H3 l3 R3 c3 => ?_
        have c3 : Rp X.prog X.w X.K W3 z (.bl k) := c3
        cases c3
        refine ⟨k, rfl, ?_⟩
        cases k with
        | false => exact iteF (h2 W3 A2 _ H3 (l12.trans l3) R3 (.bl false))
        | true =>
          refine iteT ?_
          have h2 : Wp (mc >>= _) s2 _ _ := h2
          rw [wp_bind] at h2
          refine hc F W3 A2 s2 σ H3 _ R3 (wp_mono h2 (fun rc s4 h4 => ?_) fun _ _ z => z)
          intro W4 A4 t H4 l4 R4 c4
          rw [wp_bind] at h4
          obtain ⟨y', ey', h4⟩ := wp_look h4
          rw [wp_bind] at h4
          obtain ⟨z', ez', h4⟩ := wp_look h4
          obtain ⟨r', er', h4⟩ := wp_orStuck h4
          have c3 : cR X F W3 A2 s2 σ H3 u rb := cR_up c2 l3
          have c5 : cR X F W4 A4 s4 σ H4 u rb := cR_up c3 l4
          exact hf' F W4 A4 s4 σ H4 u t y' z' r' Q R4 (deref_vw R4 c5 ey') (deref_vw R4 c4 ez') er' fun W' z H' l R' c => h4 W' A4 z H' (((l12.trans l3).trans l4).trans l) R' c
      | _ => exact h2.elim
end
end Vl
set_option Elab.async false
set_option linter.all false
set_option maxRecDepth 100000
set_option maxHeartbeats 4000000
/-! V4: operators on data -/
namespace Vl
open PySem PySem.Spec PyProof.Rows L2

/-! ### a tuple repeated once, or not at all -/
section
theorem tup_mul_same (l : Addr) (items : Array Value) (n : Nat) (dd : Option Addr) (sl : Array (Option Value)) (x : Int) (u : Tok) (c0 : (decide (x < -(2 ^ 63)) || decide (x ≥ 2 ^ 63)) = false) (c1 : (items.isEmpty || x == 1) = true) :
    Meets (Builtin.«tuple.__mul__» ⟨[.ref l, .int x u], []⟩) (fun _ R s => s.heap.get? l = some { cls := .type "tuple", dict := dd, data := .seq items n, slots := sl } ∧ R (.ok (.ret (Value.ref l))) s) :=
  .of_wp fun prog w A R s h => by
    obtain ⟨hp, g, d, tk, os⟩ := s
    obtain ⟨hl, h⟩ := h
    have f1 := AutoSeq1.idx_int
    wp_walk using wpAny_loadPart' hl
    repeat (first
      | (refine wpAny_ite_false (decide_eq_false (by rw [c0]; exact Bool.false_ne_true)) ?_; wp_walk using wpAny_loadPart' hl)
      | (refine wpAny_ite_true (decide_eq_true (by rw [c1])) ?_; wp_walk using wpAny_loadPart' hl))
    exact ⟨_, rfl, h⟩
theorem tup_mul_none (l : Addr) (items : Array Value) (n : Nat) (dd : Option Addr) (sl : Array (Option Value)) (x : Int) (u : Tok) (c0 : (decide (x < -(2 ^ 63)) || decide (x ≥ 2 ^ 63)) = false) (c1 : (items.isEmpty || x == 1) = false) (c2 : (decide (x ≤ 0) || items.isEmpty) = true) :
    Meets (Builtin.«tuple.__mul__» ⟨[.ref l, .int x u], []⟩) (fun _ R s => s.heap.get? l = some { cls := .type "tuple", dict := dd, data := .seq items n, slots := sl } ∧
      R (.ok (.ret (Value.ref s.heap.objs.size))) { s with heap := s.heap.push { cls := Value.type "tuple", data := Data.seq #[] } }) :=
  .of_wp fun prog w A R s h => by
    obtain ⟨hp, g, d, tk, os⟩ := s
    obtain ⟨hl, h⟩ := h
    have f1 := AutoSeq1.idx_int
    wp_walk using wpAny_loadPart' hl
    repeat (first
      | (refine wpAny_ite_false (decide_eq_false (by rw [c0]; exact Bool.false_ne_true)) ?_; wp_walk using wpAny_loadPart' hl)
      | (refine wpAny_ite_false (decide_eq_false (by rw [c1]; exact Bool.false_ne_true)) ?_; wp_walk using wpAny_loadPart' hl)
      | (refine wpAny_ite_true (decide_eq_true (by rw [c2])) ?_; wp_walk using wpAny_loadPart' hl)
      | (refine wpAny_ite_false (decide_eq_false (by show ¬ (0 > sizeLine); omega)) ?_; wp_walk using wpAny_loadPart' hl))
    exact ⟨_, rfl, h⟩
def rRepS (K : PySem.W.Frag) : R2 := fun x y H Q => ∃ l k xs, x = .ref l ∧ y = .int k ∧ SqT K H l xs ∧ ((xs = [] ∧ -(2 ^ 63) ≤ k ∧ k < 2 ^ 63) ∨ k = 1) ∧ Q (.ref l) H
def rRepN (K : PySem.W.Frag) : R2 := fun x y H Q => ∃ l k xs, x = .ref l ∧ y = .int k ∧ SqT K H l xs ∧ xs ≠ [] ∧ -(2 ^ 63) ≤ k ∧ k ≤ 0 ∧ ∀ p, H p = none → Q (.ref p) (upd H p (.tup []))
variable {X : Cx}
theorem op_repS : OpR X (binaryOp .Mult) (rRepS X.K) := by
  intro pins s σ H x y v u Q I rx ry h
  obtain ⟨l, k, xs, rfl, rfl, hT, hk, q⟩ := h
  cases rx
  obtain ⟨t, rfl⟩ := ry
  obtain ⟨its, r, ⟨⟨cls, dd, data, sl⟩, ho, hc, n, hd⟩, hs⟩ := I.tuple hT
  simp only at hc hd
  subst hc hd
  have c0 : (decide (k < -(2 ^ 63)) || decide (k ≥ 2 ^ 63)) = false := by
    rw [decide_eq_false (by omega), decide_eq_false (by omega)] <;> rfl
  have c1 : (its.toArray.isEmpty || k == 1) = true := by
    rcases hk with ⟨rfl, _⟩ | rfl
    · cases r; rfl
    · simp
  exact wpAny_binaryOp_repeat_ref (T := "tuple") (U := "int") (by decide) ⟨_, ho, rfl⟩ (fun s' => typeIs_int s' k t) noFill_tuple_mul F.fills_int_mul F.slot_int_rmul repeat_tuple F.slot_int_index.lookup
    (call_meets F.slot_int_rmul (typeIs_int s k t) F.entry_int_rmul (F.args_int_rmul_2 _ _) (int_rmul_tuple k t l its.toArray n dd sl)
      ⟨ho, rfl, ⟨_, ho, rfl⟩, call_meets F.slot_tuple_mul ⟨_, ho, rfl⟩ F.entry_tuple_mul (F.args_tuple_mul_2 _ _) (tup_mul_same l its.toArray n dd sl k t c0 c1) ⟨ho, .ref l, H, I, rfl, q⟩⟩)
theorem op_repN : OpR X (binaryOp .Mult) (rRepN X.K) := by
  intro pins s σ H x y v u Q I rx ry h
  obtain ⟨l, k, xs, rfl, rfl, hT, hne, h1, h2, q⟩ := h
  cases rx
  obtain ⟨t, rfl⟩ := ry
  obtain ⟨its, r, ⟨⟨cls, dd, data, sl⟩, ho, hc, n, hd⟩, hs⟩ := I.tuple hT
  simp only at hc hd
  subst hc hd
  have c0 : (decide (k < -(2 ^ 63)) || decide (k ≥ 2 ^ 63)) = false := by
    rw [decide_eq_false (by omega), decide_eq_false (by omega)] <;> rfl
  have hi : its.toArray.isEmpty = false := by
    cases r with
    | nil => exact absurd rfl hne
    | cons _ _ => rfl
  have c1 : (its.toArray.isEmpty || k == 1) = false := by
    rw [hi, Bool.false_or]
    exact beq_eq_false_iff_ne.mpr (by omega)
  have c2 : (decide (k ≤ 0) || its.toArray.isEmpty) = true := by
    rw [decide_eq_true h2, Bool.true_or]
  refine wpAny_binaryOp_repeat_ref (T := "tuple") (U := "int") (by decide) ⟨_, ho, rfl⟩ (fun s' => typeIs_int s' k t) noFill_tuple_mul F.fills_int_mul F.slot_int_rmul repeat_tuple F.slot_int_index.lookup
    (call_meets F.slot_int_rmul (typeIs_int s k t) F.entry_int_rmul (F.args_int_rmul_2 _ _) (int_rmul_tuple k t l its.toArray n dd sl)
      ⟨ho, rfl, ⟨_, ho, rfl⟩, call_meets F.slot_tuple_mul ⟨_, ho, rfl⟩ F.entry_tuple_mul (F.args_tuple_mul_2 _ _) (tup_mul_none l its.toArray n dd sl k t c0 c1 c2) ⟨ho, ?_⟩⟩)
  refine ⟨.ref s.heap.objs.size, _, I.laid (t' := s.toks) (o := .tup []) (fun b ob q => Heap.get?_push_of_some _ q) (Nat.le_refl _) ?_, rfl, q _ (I.hok.fresh (Nat.le_refl _))⟩
  exact ⟨Nat.zero_le _, [], .nil, IsTup.new _ _⟩
end

/-! ### the operators -/
def dAdd : D → D → Option Rz
  | .int i, .int j => some (.dat (.int (i + j)))
  | .str a, .str b => if a.length + b.length ≤ sizeLine then some (.dat (.str (a ++ b))) else none
  | .lst a, .lst b => if a.length + b.length ≤ sizeLine then some (.own (.lst (a ++ b))) else none
  | .tup a, .tup b => if a.length + b.length ≤ sizeLine then some (.dat (.tup (a ++ b))) else none
  | _, _ => none
def dSub : D → D → Option Rz
  | .int i, .int j => some (.dat (.int (i - j)))
  | _, _ => none
def dMul : D → D → Option Rz
  | .int i, .int j => if i.natAbs < 18446744073709551616 ∨ j.natAbs < 18446744073709551616 then some (.dat (.int (i * j))) else none
  | .lst a, .int k => if k.natAbs < 9223372036854775808 ∧ a.length * k.toNat ≤ sizeLine then some (.own (.lst (List.replicate k.toNat a).flatten)) else none
  | .tup a, .int k => if -1000 ≤ k ∧ k ≤ 1000 ∧ a.length ≤ 1000 then some (.dat (.tup (List.replicate k.toNat a).flatten)) else none
  | _, _ => none
def dDiv : D → D → Option Rz
  | .int i, .int j => if j ≠ 0 ∧ j.natAbs < 1073741824 then some (.dat (.int (i.fdiv j))) else none
  | _, _ => none
def dMod : D → D → Option Rz
  | .int i, .int j => if j ≠ 0 then some (.dat (.int (i.fmod j))) else none
  | _, _ => none
def dPow : D → D → Option Rz
  | .int i, .int j => if 0 ≤ j ∧ j ≤ 1000000 ∧ i.natAbs < 18446744073709551616 then some (.dat (.int (i ^ j.toNat))) else none
  | _, _ => none
section
variable {X : Cx}
theorem rps_flat {P : Program} {w : World} {K : PySem.W.Frag} {W : Wd} {vs : List V} {xs : List D} (r : Rps P w K W vs xs) : ∀ k : Nat, Rps P w K W (List.replicate k vs).flatten (List.replicate k xs).flatten
  | 0 => Rps.nil
  | k + 1 => by
    rw [List.replicate_succ, List.replicate_succ, List.flatten_cons, List.flatten_cons]
    exact r.append (rps_flat r k)
/-- ends: a datum that needs no heap; a new list; a new tuple -/
theorem end_dat {F : Hp} {W : Wd} {A : Nat → Addr} {s : S} {σ : Sl} {H : Hp} {Q : VK} {v : V} {d : D} (R : Rel X.prog X.w X.K F W A s σ H)
    (q : ∀ W' z H', Wle F W W' → Rel X.prog X.w X.K F W' A s σ H' → RR X.prog X.w X.K F W' A s H' z (.dat d) → Q z H') (c : Rp X.prog X.w X.K W v d) : Q v H := q W v H Wle.refl R c
theorem end_lst {F : Hp} {W : Wd} {A : Nat → Addr} {s : S} {σ : Sl} {H : Hp} {Q : VK} {vs : List V} {xs : List D} (R : Rel X.prog X.w X.K F W A s σ H)
    (q : ∀ W' z H', Wle F W W' → Rel X.prog X.w X.K F W' A s σ H' → RR X.prog X.w X.K F W' A s H' z (.own (.lst xs)) → Q z H') (r : Rps X.prog X.w X.K W vs xs) : ∀ p, H p = none → Q (.ref p) (upd H p (.lst vs)) := fun p hp =>
  q W _ _ Wle.refl (R.laid hp) ⟨p, rfl, R.fresh hp (.lst upd_same r)⟩
theorem end_tup {F : Hp} {W : Wd} {A : Nat → Addr} {s : S} {σ : Sl} {H : Hp} {Q : VK} {vs : List V} {xs : List D} (R : Rel X.prog X.w X.K F W A s σ H)
    (q : ∀ W' z H', Wle F W W' → Rel X.prog X.w X.K F W' A s σ H' → RR X.prog X.w X.K F W' A s H' z (.dat (.tup xs)) → Q z H') (r : Rps X.prog X.w X.K W vs xs) : ∀ p, H p = none → Q (.ref p) (upd H p (.tup vs)) := fun p hp =>
  let ⟨l, R', c⟩ := R.tup hp r
  q _ _ _ l R' c
theorem op2_add : Op2 X (binaryOp .Add) dAdd := by
  intro F W A s σ H v u x y r Q R cx cy e q
  unfold dAdd at e
  split at e
  · cases e
    obtain rfl := cx.int
    obtain rfl := cy.int
    exact to_of op_add ⟨_, _, rfl, rfl, end_dat R q (.int _)⟩
  · split at e
    · cases e
      obtain rfl := cx.str
      obtain rfl := cy.str
      exact to_of op_add_str ⟨_, _, rfl, rfl, by assumption, end_dat R q (.str _)⟩
    · cases e
  · split at e
    · cases e
      rename_i hz
      obtain ⟨a, vs, rfl, ha, ra⟩ := cx.lst R.g
      obtain ⟨b, us, rfl, hb, rb⟩ := cy.lst R.g
      exact to_of op_cat ⟨_, _, _, _, rfl, rfl, ha, hb, by rw [ra.1, rb.1]; exact hz, end_lst R q (ra.append rb)⟩
    · cases e
  · split at e
    · cases e
      rename_i hz
      obtain ⟨a, vs, rfl, ha, ra, ga⟩ := cx.tup R.g
      obtain ⟨b, us, rfl, hb, rb, gb⟩ := cy.tup R.g
      refine to_of op_catA ⟨_, _, _, _, rfl, rfl, ha, hb, by rw [ra.1, rb.1]; exact hz, fun e1 => ?_, fun _ e2 => ?_, fun _ _ => end_tup R q (ra.append rb)⟩
      · subst e1
        have : (_ : List D) = [] := List.eq_nil_of_length_eq_zero ra.1.symm
        subst this
        exact end_dat R q (.tup gb rb.1 rb.2)
      · subst e2
        have : (_ : List D) = [] := List.eq_nil_of_length_eq_zero rb.1.symm
        subst this
        rw [List.append_nil] at q
        exact end_dat R q (.tup ga ra.1 ra.2)
    · cases e
  · cases e
theorem op2_sub : Op2 X (binaryOp .Sub) dSub := by
  intro F W A s σ H v u x y r Q R cx cy e q
  unfold dSub at e
  split at e
  · cases e
    obtain rfl := cx.int
    obtain rfl := cy.int
    exact to_of op_sub ⟨_, _, rfl, rfl, end_dat R q (.int _)⟩
  · cases e
theorem op2_mul : Op2 X (binaryOp .Mult) dMul := by
  intro F W A s σ H v u x y r Q R cx cy e q
  unfold dMul at e
  split at e
  · split at e
    · cases e
      obtain rfl := cx.int
      obtain rfl := cy.int
      rename_i hz
      exact to_of op_mul ⟨_, _, rfl, rfl, by unfold CMul; omega, end_dat R q (.int _)⟩
    · cases e
  · split at e
    · cases e
      rename_i hz
      obtain ⟨a, vs, rfl, ha, ra⟩ := cx.lst R.g
      obtain rfl := cy.int
      exact to_of op_rep ⟨_, _, _, rfl, rfl, ha, by omega, by omega, by rw [ra.1]; exact hz.2, end_lst R q (rps_flat ra _)⟩
    · cases e
  · split at e
    · cases e
      rename_i a k hz
      obtain ⟨l, vs, rfl, ha, ra, ga⟩ := cx.tup R.g
      obtain rfl := cy.int
      by_cases e0 : vs = []
      · subst e0
        have : a = [] := List.eq_nil_of_length_eq_zero ra.1.symm
        subst this
        refine to_of op_repS ⟨_, _, _, rfl, rfl, ha, .inl ⟨rfl, by omega, by omega⟩, end_dat R q ?_⟩
        have : (List.replicate k.toNat ([] : List D)).flatten = [] := by simp
        rw [this]
        exact .tup ga ra.1 ra.2
      · by_cases e1 : k = 1
        · subst e1
          refine to_of op_repS ⟨_, _, _, rfl, rfl, ha, .inr rfl, end_dat R q ?_⟩
          have : (List.replicate (Int.toNat 1) a).flatten = a := by simp
          rw [this]
          exact .tup ga ra.1 ra.2
        · by_cases e2 : k ≤ 0
          · refine to_of op_repN ⟨_, _, _, rfl, rfl, ha, e0, by omega, e2, end_tup R q ?_⟩
            have : k.toNat = 0 := by omega
            rw [this]
            exact Rps.nil
          · exact to_of op_repT ⟨_, _, _, rfl, rfl, ha, e0, by omega, by omega, by rw [ra.1]; exact hz.2.2, end_tup R q (rps_flat ra _)⟩
    · cases e
  · cases e
theorem op2_div : Op2 X (binaryOp .FloorDiv) dDiv := by
  intro F W A s σ H v u x y r Q R cx cy e q
  unfold dDiv at e
  split at e
  · split at e
    · cases e
      obtain rfl := cx.int
      obtain rfl := cy.int
      exact to_of op_fdivN ⟨_, _, rfl, rfl, by assumption, end_dat R q (.int _)⟩
    · cases e
  · cases e
theorem op2_mod : Op2 X (binaryOp .Mod) dMod := by
  intro F W A s σ H v u x y r Q R cx cy e q
  unfold dMod at e
  split at e
  · split at e
    · cases e
      obtain rfl := cx.int
      obtain rfl := cy.int
      exact to_of op_modN ⟨_, _, rfl, rfl, by assumption, end_dat R q (.int _)⟩
    · cases e
  · cases e
theorem op2_pow : Op2 X (binaryOp .Pow) dPow := by
  intro F W A s σ H v u x y r Q R cx cy e q
  unfold dPow at e
  split at e
  · split at e
    · cases e
      obtain rfl := cx.int
      obtain rfl := cy.int
      exact to_of op_pow ⟨_, _, rfl, rfl, by assumption, end_dat R q (.int _)⟩
    · cases e
  · cases e
end

/-! ### comparisons -/
def scalD : D → D → Option Bool
  | .non, .non => some true | .non, .int _ => some false | .int _, .non => some false | .non, .bl _ => some false | .bl _, .non => some false | .non, .str _ => some false | .str _, .non => some false
  | .int i, .int j => some (decide (i = j)) | .bl i, .bl j => some (decide (i = j)) | .str i, .str j => some (decide (i = j))
  | .int _, .str _ => some false | .str _, .int _ => some false | .bl _, .str _ => some false | .str _, .bl _ => some false
  | _, _ => none
def dEqB (x y : D) : Option Bool := match scalD x y with
  | some b => some b
  | none => if SeqAt.shaped (pyD x) = true ∧ SeqAt.shaped (pyD y) = true then some (PyData.eqv (pyD x) (pyD y)) else none
def blR (o : Option Bool) : Option Rz := o.map fun b => .dat (.bl b)
def dEq (x y : D) : Option Rz := blR (dEqB x y)
def dNe (x y : D) : Option Rz := blR ((dEqB x y).map not)
def intsD : List D → Option (List Int)
  | [] => some []
  | .int i :: r => (intsD r).map (i :: ·)
  | _ :: _ => none
theorem intsD_some : ∀ {xs : List D} {ns : List Int}, intsD xs = some ns → xs = ns.map D.int
  | [], ns, e => by cases e; rfl
  | .int i :: r, ns, e => by
    obtain ⟨ms, e1, e2⟩ := Option.map_eq_some_iff.mp (show (intsD r).map (i :: ·) = some ns from e)
    subst e2
    rw [intsD_some e1]; rfl
  | .non :: _, _, e => nomatch e
  | .bl _ :: _, _, e => nomatch e
  | .str _ :: _, _, e => nomatch e
  | .lst _ :: _, _, e => nomatch e
  | .tup _ :: _, _, e => nomatch e
  | .dct _ :: _, _, e => nomatch e
  | .box _ :: _, _, e => nomatch e
  | .scr _ :: _, _, e => nomatch e
/-- the order of tuples of ints: strict or not -/
def lexB (strict : Bool) : List Int → List Int → Bool
  | [], [] => !strict
  | [], _ :: _ => true
  | _ :: _, [] => false
  | x :: xs, y :: ys => if x = y then lexB strict xs ys else decide (x < y)
def dOrd (strict : Bool) : D → D → Option Bool
  | .int i, .int j => some (if strict then decide (i < j) else decide (i ≤ j))
  | .str a, .str b => some (if strict then decide (a.cps.toList < b.cps.toList) else !decide (b.cps.toList < a.cps.toList))
  | .tup a, .tup b => match intsD a, intsD b with
    | some ns, some ms => some (lexB strict ns ms)
    | _, _ => none
  | _, _ => none
def dLt (x y : D) : Option Rz := blR (dOrd true x y)
def dLe (x y : D) : Option Rz := blR (dOrd false x y)
def dGt (x y : D) : Option Rz := blR (dOrd true y x)
def dGe (x y : D) : Option Rz := blR (dOrd false y x)
def dIs : D → D → Option Rz
  | .non, .non => some (.dat (.bl true))
  | _, .non => some (.dat (.bl false))
  | _, _ => none
def dIsNot : D → D → Option Rz
  | .non, .non => some (.dat (.bl false))
  | _, .non => some (.dat (.bl true))
  | _, _ => none
section
variable {X : Cx}
theorem Rp.dp {P : Program} {w : World} {K : PySem.W.Frag} {W : Wd} {H : Hp} {v : V} {d : D} (h : Rp P w K W v d) (g : ∀ p o, W.G p = some o → H p = some o) (hc : (pyD d).canLay0 = true) : Dp K H v (pyD d) := by
  induction h with
  | non => rw [pyD]; exact .non
  | bl b => rw [pyD]; exact .bl b
  | int i => rw [pyD]; exact .int i
  | str x => rw [pyD]; exact .str x
  | @lst a vs xs h hl _ ih =>
    rw [pyD] at hc ⊢
    refine .lst (SqL.of (g _ _ h)) ?_
    have hc : PyData.canLayAll0 (pyDs xs) = true := by simpa only [PyData.canLay0] using hc
    have all : ∀ (vs : List V) (xs : List D), vs.length = xs.length → (∀ (i : Nat) v d, vs[i]? = some v → xs[i]? = some d → (pyD d).canLay0 = true → Dp K H v (pyD d)) → PyData.canLayAll0 (pyDs xs) = true → DpAll K H vs (pyDs xs) := by
      intro vs
      induction vs with
      | nil => intro xs hl _ _; cases xs with | nil => rw [pyDs]; exact .nil | cons _ _ => cases hl
      | cons v vs ihv =>
        intro xs hl hi hc
        cases xs with
        | nil => cases hl
        | cons d xs =>
          rw [pyDs] at hc ⊢
          simp only [PyData.canLayAll0, Bool.and_eq_true] at hc
          exact .cons (hi 0 v d rfl rfl hc.1) (ihv xs (Nat.succ.inj hl) (fun i => hi (i + 1)) hc.2)
    exact all vs xs hl ih hc
  | @tup a vs xs h hl _ ih =>
    rw [pyD] at hc ⊢
    refine .tup (sqT_up h g) ?_
    have hc : PyData.canLayAll0 (pyDs xs) = true := by simpa only [PyData.canLay0] using hc
    have all : ∀ (vs : List V) (xs : List D), vs.length = xs.length → (∀ (i : Nat) v d, vs[i]? = some v → xs[i]? = some d → (pyD d).canLay0 = true → Dp K H v (pyD d)) → PyData.canLayAll0 (pyDs xs) = true → DpAll K H vs (pyDs xs) := by
      intro vs
      induction vs with
      | nil => intro xs hl _ _; cases xs with | nil => rw [pyDs]; exact .nil | cons _ _ => cases hl
      | cons v vs ihv =>
        intro xs hl hi hc
        cases xs with
        | nil => cases hl
        | cons d xs =>
          rw [pyDs] at hc ⊢
          simp only [PyData.canLayAll0, Bool.and_eq_true] at hc
          exact .cons (hi 0 v d rfl rfl hc.1) (ihv xs (Nat.succ.inj hl) (fun i => hi (i + 1)) hc.2)
    exact all vs xs hl ih hc
  | dk => rw [pyD] at hc; simp [PyData.canLay0] at hc
  | dx => rw [pyD] at hc; simp [PyData.canLay0] at hc
  | box => rw [pyD] at hc; simp [PyData.canLay0] at hc
  | scr => rw [pyD] at hc; simp [PyData.canLay0] at hc
theorem Vw.dp {P : Program} {w : World} {K : PySem.W.Frag} {W : Wd} {H : Hp} {v : V} {d : D} (h : Vw P w K W H v d) (g : ∀ p o, W.G p = some o → H p = some o) (hc : (pyD d).canLay0 = true) : Dp K H v (pyD d) := by
  rcases h with h | ⟨a, b, rfl, h, e⟩
  · exact h.dp g hc
  · cases b with
    | ins _ _ => cases e
    | dct _ => cases e; rw [pyD] at hc; simp [PyData.canLay0] at hc
    | lst xs =>
      cases e
      cases h with
      | @lst vs _ h hr =>
        rw [pyD] at hc ⊢
        refine .lst (SqL.of h) ?_
        have hc : PyData.canLayAll0 (pyDs xs) = true := by simpa only [PyData.canLay0] using hc
        have all : ∀ (vs : List V) (xs : List D), Rps P w K W vs xs → PyData.canLayAll0 (pyDs xs) = true → DpAll K H vs (pyDs xs) := by
          intro vs
          induction vs with
          | nil => intro xs r _; cases xs with | nil => rw [pyDs]; exact .nil | cons _ _ => cases r.1
          | cons v vs ihv =>
            intro xs r hc
            cases xs with
            | nil => cases r.1
            | cons d xs =>
              rw [pyDs] at hc ⊢
              simp only [PyData.canLayAll0, Bool.and_eq_true] at hc
              exact .cons ((r.2 0 v d rfl rfl).dp g hc.1) (ihv xs ⟨Nat.succ.inj r.1, fun i => r.2 (i + 1)⟩ hc.2)
        exact all vs xs hr hc
theorem scal_of {P : Program} {w : World} {K : PySem.W.Frag} {W : Wd} {H : Hp} {v u : V} {x y : D} {b : Bool} (cx : Vw P w K W H v x) (cy : Vw P w K W H u y) (e : scalD x y = some b) : scal v u = true ∧ decide (v = u) = b := by
  unfold scalD at e
  split at e <;> first | cases e | skip
  all_goals first
    | (obtain rfl := cx.non; obtain rfl := cy.non; exact ⟨rfl, by simp⟩)
    | (obtain rfl := cx.non; obtain rfl := cy.int; exact ⟨rfl, by simp⟩)
    | (obtain rfl := cx.int; obtain rfl := cy.non; exact ⟨rfl, by simp⟩)
    | (obtain rfl := cx.non; obtain rfl := cy.bl; exact ⟨rfl, by simp⟩)
    | (obtain rfl := cx.bl; obtain rfl := cy.non; exact ⟨rfl, by simp⟩)
    | (obtain rfl := cx.non; obtain rfl := cy.str; exact ⟨rfl, by simp⟩)
    | (obtain rfl := cx.str; obtain rfl := cy.non; exact ⟨rfl, by simp⟩)
    | (obtain rfl := cx.int; obtain rfl := cy.int; exact ⟨rfl, by simp⟩)
    | (obtain rfl := cx.bl; obtain rfl := cy.bl; exact ⟨rfl, by simp⟩)
    | (obtain rfl := cx.str; obtain rfl := cy.str; exact ⟨rfl, by simp⟩)
    | (obtain rfl := cx.int; obtain rfl := cy.str; exact ⟨rfl, by simp⟩)
    | (obtain rfl := cx.str; obtain rfl := cy.int; exact ⟨rfl, by simp⟩)
    | (obtain rfl := cx.bl; obtain rfl := cy.str; exact ⟨rfl, by simp⟩)
    | (obtain rfl := cx.str; obtain rfl := cy.bl; exact ⟨rfl, by simp⟩)
theorem op2_eq (hu : X.A.units + 64 < cLine) : Op2 X (compareOp .Eq) dEq := by
  intro F W A s σ H v u x y r Q R cx cy e q
  obtain ⟨b, e0, rfl⟩ := Option.map_eq_some_iff.mp e
  clear e
  have e := e0
  unfold dEqB at e
  split at e
  · rename_i c hs
    cases e
    obtain ⟨h1, h2⟩ := scal_of cx cy hs
    exact to_of op_eq ⟨h1, by rw [h2]; exact end_dat R q (.bl _)⟩
  · split at e
    · rename_i hs
      cases e
      exact to_of (op_eqD hu) ⟨_, _, cx.dp R.g (SeqAt.canLay_of_shaped hs.1), cy.dp R.g (SeqAt.canLay_of_shaped hs.2), hs.1, hs.2, end_dat R q (.bl _)⟩
    · cases e
theorem op2_ne (hu : X.A.units + 64 < cLine) : Op2 X (compareOp .NotEq) dNe := by
  intro F W A s σ H v u x y r Q R cx cy e q
  obtain ⟨b0, e0, rfl⟩ := Option.map_eq_some_iff.mp e
  clear e
  obtain ⟨b, e, rfl⟩ := Option.map_eq_some_iff.mp e0
  clear e0
  unfold dEqB at e
  split at e
  · rename_i c hs
    cases e
    obtain ⟨h1, h2⟩ := scal_of cx cy hs
    exact to_of op_ne ⟨h1, by rw [h2]; exact end_dat R q (.bl _)⟩
  · split at e
    · rename_i hs
      cases e
      exact to_of (op_neD hu) ⟨_, _, cx.dp R.g (SeqAt.canLay_of_shaped hs.1), cy.dp R.g (SeqAt.canLay_of_shaped hs.2), hs.1, hs.2, end_dat R q (.bl _)⟩
    · cases e
theorem op2_is : Op2 X (compareOp .Is) dIs := by
  intro F W A s σ H v u x y r Q R cx cy e q
  unfold dIs at e
  split at e
  · cases e
    obtain rfl := cx.non
    obtain rfl := cy.non
    exact to_of op_isN ⟨rfl, by rw [decide_eq_true rfl]; exact end_dat R q (.bl _)⟩
  · cases e
    rename_i hx
    obtain rfl := cy.non
    have hv : v ≠ .non := by
      rintro rfl
      rcases cx with c | ⟨a, b, z, _⟩
      · cases c; exact hx rfl
      · cases z
    exact to_of op_isN ⟨rfl, by rw [decide_eq_false hv]; exact end_dat R q (.bl _)⟩
  · cases e
theorem op2_isNot : Op2 X (compareOp .IsNot) dIsNot := by
  intro F W A s σ H v u x y r Q R cx cy e q
  unfold dIsNot at e
  split at e
  · cases e
    obtain rfl := cx.non
    obtain rfl := cy.non
    exact to_of op_notN ⟨rfl, by rw [decide_eq_true rfl]; exact end_dat R q (.bl _)⟩
  · cases e
    rename_i hx
    obtain rfl := cy.non
    have hv : v ≠ .non := by
      rintro rfl
      rcases cx with c | ⟨a, b, z, _⟩
      · cases c; exact hx rfl
      · cases z
    exact to_of op_notN ⟨rfl, by rw [decide_eq_false hv]; exact end_dat R q (.bl _)⟩
  · cases e
end
end Vl
set_option Elab.async false
set_option linter.all false
set_option maxRecDepth 100000
set_option maxHeartbeats 4000000
/-! V5: order, in, subscripts, slices -/
namespace Vl
open PySem PySem.Spec PyProof.Rows L2

/-! ### the order of tuples -/
theorem lexAt_shift (e r : Nat → Bool) (z : Bool) : ∀ (k i : Nat), Ob.lexAt e r z (i + 1) k = Ob.lexAt (fun j => e (j + 1)) (fun j => r (j + 1)) z i k
  | 0, i => rfl
  | k + 1, i => by rw [Ob.lexAt_succ, Ob.lexAt_succ, lexAt_shift e r z k (i + 1)]
theorem lexAt_lt (st : Bool) : ∀ ns ms : List Int, Ob.lexAt (fun j => decide (ns.getD j 0 = ms.getD j 0)) (fun j => if st then decide (ns.getD j 0 < ms.getD j 0) else decide (ns.getD j 0 ≤ ms.getD j 0))
    (if st then decide (ns.length < ms.length) else decide (ns.length ≤ ms.length)) 0 (min ns.length ms.length) = lexB st ns ms
  | [], [] => by cases st <;> rfl
  | [], _ :: _ => by cases st <;> simp [Ob.lexAt_zero, lexB]
  | _ :: _, [] => by cases st <;> simp [Ob.lexAt_zero, lexB]
  | x :: xs, y :: ys => by
    have ih := lexAt_lt st xs ys
    have em : min (x :: xs).length (y :: ys).length = min xs.length ys.length + 1 := by simp only [List.length_cons]; omega
    rw [em, Ob.lexAt_succ, lexAt_shift]
    simp only [List.getD_cons_zero, List.getD_cons_succ]
    rw [lexB]
    by_cases h : x = y
    · rw [if_pos h, if_pos (decide_eq_true h), ← ih]
      cases st <;> simp [List.length_cons]
    · rw [if_neg h, if_neg (by simpa using h)]
      cases st
      · have : decide (x ≤ y) = decide (x < y) := by
          by_cases q : x < y
          · rw [decide_eq_true q, decide_eq_true (by omega)]
          · rw [decide_eq_false q, decide_eq_false (by omega)]
        simpa using this
      · rfl
theorem lexAt_gt (st : Bool) : ∀ ns ms : List Int, Ob.lexAt (fun j => decide (ns.getD j 0 = ms.getD j 0)) (fun j => if st then decide (ms.getD j 0 < ns.getD j 0) else decide (ms.getD j 0 ≤ ns.getD j 0))
    (if st then decide (ns.length > ms.length) else decide (ns.length ≥ ms.length)) 0 (min ns.length ms.length) = lexB st ms ns := fun ns ms => by
  rw [← lexAt_lt st ms ns, Nat.min_comm]
  have e1 : (fun j => decide (ns.getD j 0 = ms.getD j 0)) = fun j => decide (ms.getD j 0 = ns.getD j 0) := by funext j; rw [decide_eq_decide]; exact eq_comm
  rw [e1]
section
variable {X : Cx}
/-- an order of two tuples of ints, by its rule -/
theorem ord_tup {op : CmpOp} {r : Int → Int → Bool} {z : Nat → Nat → Bool} (hu : X.A.units < cLine) (ri : ∀ {s : Shared} (a b : Int) (t u : Tok), Ob.RcOp op X.A.in1 s (.int a t) (.int b u) (r a b))
    (hop : ∀ {s : Shared} {l b : Addr} {items items2 : Array Value} {e r : Nat → Bool}, s.heap.IsTuple l items → s.heap.IsTuple b items2 → (∀ j (h1 : j < items.size) (h2 : j < items2.size), SeqAt.EqAt X.A.in1 s items[j] items2[j] (e j)) →
      (∀ j (h1 : j < items.size) (h2 : j < items2.size), e j = false → Ob.RcOp op X.A.in1 s items[j] items2[j] (r j)) → Ob.RcOp op X.A s (.ref l) (.ref b) (Ob.lexAt e r (z items.size items2.size) 0 (min items.size items2.size)))
    (hc : ∀ v u, compareOp op v u = richCompare op v u) :
    OpR X (compareOp op) (fun x y H Q => ∃ (a b : Addr) (ns ms : List Int), x = .ref a ∧ y = .ref b ∧ SqT X.K H a (ns.map V.int) ∧ SqT X.K H b (ms.map V.int) ∧
      Q (.bl (Ob.lexAt (fun j => decide (ns.getD j 0 = ms.getD j 0)) (fun j => r (ns.getD j 0) (ms.getD j 0)) (z ns.length ms.length) 0 (min ns.length ms.length))) H) := by
  intro pins s σ H x y v u Q I rx ry h
  obtain ⟨a, b, ns, ms, rfl, rfl, ha, hb, q⟩ := h
  cases rx
  cases ry
  obtain ⟨its, r1, p1, _⟩ := I.tuple ha
  obtain ⟨its2, r2, p2, _⟩ := I.tuple hb
  have i1 : IntsAre its ns := Vals.ints r1
  have i2 : IntsAre its2 ms := Vals.ints r2
  have e1 : its.toArray.size = ns.length := by rw [List.size_toArray]; exact i1.length
  have e2 : its2.toArray.size = ms.length := by rw [List.size_toArray]; exact i2.length
  have at1 : ∀ j (h1 : j < its.toArray.size), ∃ t, its.toArray[j] = .int (ns.getD j 0) t := fun j h1 => PyProof.Rows.IntsAre.int_at i1 _ _ (by simp at h1; simp [h1])
  have at2 : ∀ j (h1 : j < its2.toArray.size), ∃ t, its2.toArray[j] = .int (ms.getD j 0) t := fun j h1 => PyProof.Rows.IntsAre.int_at i2 _ _ (by simp at h1; simp [h1])
  have R := hop (s := s) (e := fun j => decide (ns.getD j 0 = ms.getD j 0)) (r := fun j => r (ns.getD j 0) (ms.getD j 0)) p1 p2 (fun j h1 h2 => by
    obtain ⟨t, et⟩ := at1 j h1
    obtain ⟨t', et'⟩ := at2 j h2
    rw [et, et']
    have z : (ns.getD j 0 == ms.getD j 0) = decide (ns.getD j 0 = ms.getD j 0) := by
      by_cases q : ns.getD j 0 = ms.getD j 0
      · rw [decide_eq_true q]; exact beq_iff_eq.mpr q
      · rw [decide_eq_false q]; exact beq_eq_false_iff_ne.mpr q
    rw [← z]
    exact SeqAt.EqAt.int_int _ _ _ _) (fun j h1 h2 _ => by
    obtain ⟨t, et⟩ := at1 j h1
    obtain ⟨t', et'⟩ := at2 j h2
    rw [et, et']
    exact ri _ _ _ _)
  rw [e1, e2] at R
  rw [hc]
  exact R X.prog X.w X.xe (EP X pins σ Q) ⟨.bl _, H, I, rfl, q⟩
theorem op_ltT' (hu : X.A.units < cLine) : OpR X (compareOp .Lt) (fun x y H Q => ∃ (a b : Addr) (ns ms : List Int), x = .ref a ∧ y = .ref b ∧ SqT X.K H a (ns.map V.int) ∧ SqT X.K H b (ms.map V.int) ∧ Q (.bl (lexB true ns ms)) H) := by
  have h := ord_tup (X := X) (op := .Lt) (r := fun a b => decide (a < b)) (z := fun a b => decide (a < b)) hu (fun a b t u => Ob.RcOp.lt_int a b t u) (fun p1 p2 he hr => Ob.RcOp.tuples_lt p1 p2 hu he hr) (fun _ _ => rfl)
  intro pins s σ H x y v u Q I rx ry ⟨a, b, ns, ms, e1, e2, h1, h2, q⟩
  exact h pins s σ H x y v u Q I rx ry ⟨a, b, ns, ms, e1, e2, h1, h2, by have e := lexAt_lt true ns ms; simp only [Bool.false_eq_true, ↓reduceIte] at e; rw [e]; exact q⟩
theorem op_leT' (hu : X.A.units < cLine) : OpR X (compareOp .LtE) (fun x y H Q => ∃ (a b : Addr) (ns ms : List Int), x = .ref a ∧ y = .ref b ∧ SqT X.K H a (ns.map V.int) ∧ SqT X.K H b (ms.map V.int) ∧ Q (.bl (lexB false ns ms)) H) := by
  have h := ord_tup (X := X) (op := .LtE) (r := fun a b => decide (a ≤ b)) (z := fun a b => decide (a ≤ b)) hu (fun a b t u => Ob.RcOp.le_int a b t u) (fun p1 p2 he hr => Ob.RcOp.tuples_le p1 p2 hu he hr) (fun _ _ => rfl)
  intro pins s σ H x y v u Q I rx ry ⟨a, b, ns, ms, e1, e2, h1, h2, q⟩
  exact h pins s σ H x y v u Q I rx ry ⟨a, b, ns, ms, e1, e2, h1, h2, by have e := lexAt_lt false ns ms; simp only [Bool.false_eq_true, ↓reduceIte] at e; rw [e]; exact q⟩
theorem op_gtT' (hu : X.A.units < cLine) : OpR X (compareOp .Gt) (fun x y H Q => ∃ (a b : Addr) (ns ms : List Int), x = .ref a ∧ y = .ref b ∧ SqT X.K H a (ns.map V.int) ∧ SqT X.K H b (ms.map V.int) ∧ Q (.bl (lexB true ms ns)) H) := by
  have h := ord_tup (X := X) (op := .Gt) (r := fun a b => decide (b < a)) (z := fun a b => decide (a > b)) hu (fun a b t u => Ob.RcOp.gt_int a b t u) (fun p1 p2 he hr => Ob.RcOp.tuples_gt p1 p2 hu he hr) (fun _ _ => rfl)
  intro pins s σ H x y v u Q I rx ry ⟨a, b, ns, ms, e1, e2, h1, h2, q⟩
  exact h pins s σ H x y v u Q I rx ry ⟨a, b, ns, ms, e1, e2, h1, h2, by have e := lexAt_gt true ns ms; simp only [Bool.false_eq_true, ↓reduceIte] at e; rw [e]; exact q⟩
theorem op_geT' (hu : X.A.units < cLine) : OpR X (compareOp .GtE) (fun x y H Q => ∃ (a b : Addr) (ns ms : List Int), x = .ref a ∧ y = .ref b ∧ SqT X.K H a (ns.map V.int) ∧ SqT X.K H b (ms.map V.int) ∧ Q (.bl (lexB false ms ns)) H) := by
  have h := ord_tup (X := X) (op := .GtE) (r := fun a b => decide (b ≤ a)) (z := fun a b => decide (a ≥ b)) hu (fun a b t u => Ob.RcOp.ge_int a b t u) (fun p1 p2 he hr => Ob.RcOp.tuples_ge p1 p2 hu he hr) (fun _ _ => rfl)
  intro pins s σ H x y v u Q I rx ry ⟨a, b, ns, ms, e1, e2, h1, h2, q⟩
  exact h pins s σ H x y v u Q I rx ry ⟨a, b, ns, ms, e1, e2, h1, h2, by have e := lexAt_gt false ns ms; simp only [Bool.false_eq_true, ↓reduceIte] at e; rw [e]; exact q⟩
end

section
variable {X : Cx}
theorem op2_lt (hu : X.A.units < cLine) : Op2 X (compareOp .Lt) dLt := by
  intro F W A s σ H v u x y r Q R cx cy e q
  obtain ⟨b, e0, rfl⟩ := Option.map_eq_some_iff.mp e
  clear e
  have e := e0
  unfold dOrd at e
  split at e
  · cases e
    obtain rfl := cx.int
    obtain rfl := cy.int
    exact to_of op_lt ⟨_, _, rfl, rfl, end_dat R q (.bl _)⟩
  · cases e
    obtain rfl := cx.str
    obtain rfl := cy.str
    exact to_of op_lt_str ⟨_, _, rfl, rfl, end_dat R q (.bl _)⟩
  · split at e
    · rename_i ns ms hn hm
      cases e
      obtain rfl := intsD_some hn
      obtain rfl := intsD_some hm
      obtain ⟨l, vs, rfl, ha, ra, _⟩ := cx.tup R.g
      obtain ⟨l2, us, rfl, hb, rb, _⟩ := cy.tup R.g
      obtain rfl := rps_ints ra
      obtain rfl := rps_ints rb
      exact to_of (op_ltT' hu) ⟨_, _, _, _, rfl, rfl, ha, hb, end_dat R q (.bl _)⟩
    · cases e
  · cases e
theorem op2_le (hu : X.A.units < cLine) : Op2 X (compareOp .LtE) dLe := by
  intro F W A s σ H v u x y r Q R cx cy e q
  obtain ⟨b, e0, rfl⟩ := Option.map_eq_some_iff.mp e
  clear e
  have e := e0
  unfold dOrd at e
  split at e
  · cases e
    obtain rfl := cx.int
    obtain rfl := cy.int
    exact to_of op_le ⟨_, _, rfl, rfl, end_dat R q (.bl _)⟩
  · cases e
    obtain rfl := cx.str
    obtain rfl := cy.str
    exact to_of op_le_str ⟨_, _, rfl, rfl, end_dat R q (.bl _)⟩
  · split at e
    · rename_i ns ms hn hm
      cases e
      obtain rfl := intsD_some hn
      obtain rfl := intsD_some hm
      obtain ⟨l, vs, rfl, ha, ra, _⟩ := cx.tup R.g
      obtain ⟨l2, us, rfl, hb, rb, _⟩ := cy.tup R.g
      obtain rfl := rps_ints ra
      obtain rfl := rps_ints rb
      exact to_of (op_leT' hu) ⟨_, _, _, _, rfl, rfl, ha, hb, end_dat R q (.bl _)⟩
    · cases e
  · cases e
theorem op2_gt (hu : X.A.units < cLine) : Op2 X (compareOp .Gt) dGt := by
  intro F W A s σ H v u x y r Q R cx cy e q
  obtain ⟨b, e0, rfl⟩ := Option.map_eq_some_iff.mp e
  clear e
  have e := e0
  unfold dOrd at e
  split at e
  · cases e
    obtain rfl := cx.int
    obtain rfl := cy.int
    exact to_of op_gt ⟨_, _, rfl, rfl, end_dat R q (.bl _)⟩
  · cases e
    obtain rfl := cx.str
    obtain rfl := cy.str
    exact to_of op_gt_str ⟨_, _, rfl, rfl, end_dat R q (.bl _)⟩
  · split at e
    · rename_i ns ms hn hm
      cases e
      obtain rfl := intsD_some hn
      obtain rfl := intsD_some hm
      obtain ⟨l, vs, rfl, ha, ra, _⟩ := cx.tup R.g
      obtain ⟨l2, us, rfl, hb, rb, _⟩ := cy.tup R.g
      obtain rfl := rps_ints ra
      obtain rfl := rps_ints rb
      exact to_of (op_gtT' hu) ⟨_, _, _, _, rfl, rfl, ha, hb, end_dat R q (.bl _)⟩
    · cases e
  · cases e
theorem op2_ge (hu : X.A.units < cLine) : Op2 X (compareOp .GtE) dGe := by
  intro F W A s σ H v u x y r Q R cx cy e q
  obtain ⟨b, e0, rfl⟩ := Option.map_eq_some_iff.mp e
  clear e
  have e := e0
  unfold dOrd at e
  split at e
  · cases e
    obtain rfl := cx.int
    obtain rfl := cy.int
    exact to_of op_ge ⟨_, _, rfl, rfl, end_dat R q (.bl _)⟩
  · cases e
    obtain rfl := cx.str
    obtain rfl := cy.str
    exact to_of op_ge_str ⟨_, _, rfl, rfl, end_dat R q (.bl _)⟩
  · split at e
    · rename_i ns ms hn hm
      cases e
      obtain rfl := intsD_some hn
      obtain rfl := intsD_some hm
      obtain ⟨l, vs, rfl, ha, ra, _⟩ := cx.tup R.g
      obtain ⟨l2, us, rfl, hb, rb, _⟩ := cy.tup R.g
      obtain rfl := rps_ints ra
      obtain rfl := rps_ints rb
      exact to_of (op_geT' hu) ⟨_, _, _, _, rfl, rfl, ha, hb, end_dat R q (.bl _)⟩
    · cases e
  · cases e
end
end Vl
set_option Elab.async false
set_option linter.all false
set_option maxRecDepth 100000
set_option maxHeartbeats 4000000
/-! V6: dicts -/
namespace Vl
open PySem PySem.Spec PyProof.Rows L2

/-! ### keys -/
mutual
theorem keyN_nD : ∀ k : NestedKey, keyN (nD k) = some k
  | .none => rfl
  | .num _ => rfl
  | .text _ => rfl
  | .tup ks => by
    show (keysN (nDs ks)).map NestedKey.tup = _
    rw [keysN_nDs ks]; rfl
theorem keysN_nDs : ∀ ks : List NestedKey, keysN (nDs ks) = some ks
  | [] => rfl
  | k :: ks => by
    rw [nDs, keysN, keyN_nD k, keysN_nDs ks]
end
mutual
theorem nD_keyN : ∀ (d : D) (k : NestedKey), keyN d = some k → d = nD k
  | .non, k, e => by cases e; rfl
  | .int _, k, e => by cases e; rfl
  | .str _, k, e => by cases e; rfl
  | .tup xs, k, e => by
    obtain ⟨ks, e1, e2⟩ := Option.map_eq_some_iff.mp (show (keysN xs).map NestedKey.tup = some k from e)
    subst e2
    rw [nDs_keysN xs ks e1]; rfl
  | .bl _, k, e => nomatch e
  | .lst _, k, e => nomatch e
  | .dct _, k, e => nomatch e
  | .box _, k, e => nomatch e
  | .scr _, k, e => nomatch e
theorem nDs_keysN : ∀ (xs : List D) (ks : List NestedKey), keysN xs = some ks → xs = nDs ks
  | [], ks, e => by cases e; rfl
  | x :: xs, ks, e => by
    rw [keysN] at e
    cases e1 : keyN x with
    | none => rw [e1] at e; cases e
    | some k =>
      cases e2 : keysN xs with
      | none => rw [e1, e2] at e; cases e
      | some r =>
        rw [e1, e2] at e
        cases e
        rw [nDs, nD_keyN x k e1, nDs_keysN xs r e2]
end
theorem keyEq_nD (a b : NestedKey) : keyEq (nD a) (nD b) = decide (a = b) := by
  unfold keyEq
  rw [keyN_nD, keyN_nD]
def kN : Key → NestedKey
  | .inl i => .num i
  | .inr x => .text x
theorem kD_nD (k : Key) : kD k = nD (kN k) := by cases k <;> rfl
theorem keyEq_kD (a b : Key) : keyEq (kD a) (kD b) = decide (a = b) := by
  rw [kD_nD, kD_nD, keyEq_nD]
  cases a <;> cases b <;> simp [kN]

/-! ### lists side by side -/
theorem Paired.of_get {α β : Type} {R : α → β → Prop} : ∀ {xs : List α} {ys : List β}, xs.length = ys.length → (∀ (i : Nat) x y, xs[i]? = some x → ys[i]? = some y → R x y) → Paired R xs ys
  | [], [], _, _ => .nil
  | x :: xs, y :: ys, hl, h => .cons (h 0 x y rfl rfl) (Paired.of_get (Nat.succ.inj hl) fun i => h (i + 1))
  | [], _ :: _, hl, _ => nomatch hl
  | _ :: _, [], hl, _ => nomatch hl
theorem Paired.get {α β : Type} {R : α → β → Prop} : ∀ {xs : List α} {ys : List β}, Paired R xs ys → ∀ (i : Nat) x y, xs[i]? = some x → ys[i]? = some y → R x y
  | _, _, .nil, i, x, y, e, _ => by cases i <;> cases e
  | _, _, .cons r t, 0, x, y, e, e' => by cases e; cases e'; exact r
  | _, _, .cons r t, i + 1, x, y, e, e' => Paired.get t i x y e e'
theorem Paired.and3 {α β γ : Type} {R : α → β → Prop} {T : α → γ → Prop} : ∀ {xs : List α} {ys : List β} {zs : List γ}, Paired R xs ys → Paired T xs zs → Paired (fun y z => ∃ x, R x y ∧ T x z) ys zs
  | _, _, _, .nil, .nil => .nil
  | _, _, _, .cons r t, .cons r' t' => .cons ⟨_, r, r'⟩ (Paired.and3 t t')
theorem Paired.find {α β : Type} {R : α → β → Prop} {p : α → Bool} {q : β → Bool} (h : ∀ x y, R x y → p x = q y) : ∀ {xs : List α} {ys : List β}, Paired R xs ys →
    (xs.find? p = none ∧ ys.find? q = none) ∨ ∃ x y, xs.find? p = some x ∧ ys.find? q = some y ∧ R x y
  | _, _, .nil => .inl ⟨rfl, rfl⟩
  | x :: xs, y :: ys, .cons r t => by
    cases e : p x with
    | true => exact .inr ⟨x, y, List.find?_cons_of_pos e, List.find?_cons_of_pos (by rw [← h x y r]; exact e), r⟩
    | false =>
      have e' : ¬ q y = true := by rw [← h x y r, e]; exact Bool.false_ne_true
      rw [List.find?_cons_of_neg (by rw [e]; exact Bool.false_ne_true), List.find?_cons_of_neg e']
      exact Paired.find h t
theorem Paired.any {α β : Type} {R : α → β → Prop} {p : α → Bool} {q : β → Bool} (h : ∀ x y, R x y → p x = q y) : ∀ {xs : List α} {ys : List β}, Paired R xs ys → xs.any p = ys.any q
  | _, _, .nil => rfl
  | x :: xs, y :: ys, .cons r t => by rw [List.any_cons, List.any_cons, h x y r, Paired.any h t]
theorem Paired.mapB {α β α' β' : Type} {R : α → β → Prop} {T : α' → β' → Prop} {f : α → α'} {g : β → β'} (h : ∀ x y, R x y → T (f x) (g y)) : ∀ {xs : List α} {ys : List β}, Paired R xs ys → Paired T (xs.map f) (ys.map g)
  | _, _, .nil => .nil
  | _, _, .cons r t => .cons (h _ _ r) (Paired.mapB h t)
theorem Paired.app {α β : Type} {R : α → β → Prop} : ∀ {xs xs' : List α} {ys ys' : List β}, Paired R xs ys → Paired R xs' ys' → Paired R (xs ++ xs') (ys ++ ys')
  | _, _, _, _, .nil, t => t
  | _, _, _, _, .cons r t, t' => .cons r (Paired.app t t')
/-- stored in its place or at the end, on both sides -/
theorem Paired.store {α β : Type} {R : α → β → Prop} {p : α → Bool} {q : β → Bool} {f : α → α} {g : β → β} {x : α} {y : β} {xs : List α} {ys : List β} (r : Paired R xs ys) (h : ∀ x y, R x y → p x = q y) (hf : ∀ x y, R x y → R (f x) (g y)) (hn : R x y) :
    Paired R (if xs.any p = true then xs.map (fun z => if p z = true then f z else z) else xs ++ [x]) (if ys.any q = true then ys.map (fun z => if q z = true then g z else z) else ys ++ [y]) := by
  rw [Paired.any h r]
  cases ys.any q with
  | true =>
    simp only [if_true]
    refine Paired.mapB (fun a b rab => ?_) r
    rw [h a b rab]
    cases q b with
    | true => simp only [if_true]; exact hf a b rab
    | false => simp only [Bool.false_eq_true, if_false]; exact rab
  | false =>
    simp only [Bool.false_eq_true, if_false]
    exact Paired.app r (.cons hn .nil)
theorem atKey_any {κ : Type} [DecidableEq κ] (k : κ) : ∀ xs : List (κ × Addr × Value), (atKey xs k).isSome = xs.any fun x => decide (x.1 = k)
  | [] => rfl
  | x :: xs => by
    rw [List.any_cons, ← atKey_any k xs]
    unfold atKey
    by_cases e : x.1 = k
    · rw [List.find?_cons_of_pos (by simpa using e), decide_eq_true e]; rfl
    · rw [List.find?_cons_of_neg (by simpa using e), decide_eq_false e]; rfl
theorem storedH_if (xs : List (NestedKey × Addr × Value)) (k : NestedKey) (a : Addr) (v : Value) :
    storedH xs k a v = if (xs.any fun x => decide (x.1 = k)) = true then xs.map (fun z => if decide (z.1 = k) = true then (z.1, z.2.1, v) else z) else xs ++ [(k, a, v)] := by
  unfold storedH
  rw [atKey_any]
  split
  · refine List.map_congr_left fun z _ => ?_
    unfold putAt
    by_cases e : z.1 = k
    · rw [if_pos e, if_pos (decide_eq_true e)]
    · rw [if_neg e, if_neg (by simpa using e)]
  · rfl
/-- the entries behind d[k] = v -/
def putX (en : EnX) (k : NestedKey) (b : Addr) (v : V) : EnX :=
  if (en.any fun x => decide (x.1 = k)) = true then en.map (fun z => if decide (z.1 = k) = true then (z.1, z.2.1, v) else z) else en ++ [(k, b, v)]

/-! ### what a dict of tuple keys is in the heap -/
abbrev KX3 (P : Program) (w : World) (K : PySem.W.Frag) (W : Wd) (p : D × D) (q : NestedKey × Addr × Value) : Prop := ∃ e : NestedKey × Addr × V, ((p.1 = nD e.1 ∧ e.1.depth ≤ 8) ∧ Rp P w K W (.ref e.2.1) p.1 ∧ Rp P w K W e.2.2 p.2) ∧ (e.1 = q.1 ∧ e.2.1 = q.2.1 ∧ RelV e.2.2 q.2.2)
section
variable {X : Cx} {pins : List (Addr × Obj)} {σ : Sl} {H : Hp} {s : Shared} {W : Wd} {a : Addr}
mutual
theorem rp_nested (I : Inv X pins σ H s) (g : ∀ p o, W.G p = some o → H p = some o) : ∀ (k : NestedKey) (v : V) (u : Value), Rp X.prog X.w X.K W v (nD k) → RelV v u → NestedIs s.heap k u
  | .none, v, u, h, r => by cases h; cases r; exact .none
  | .num i, v, u, h, r => by cases h; obtain ⟨t, rfl⟩ := r; exact .int i t
  | .text x, v, u, h, r => by cases h; obtain ⟨t, rfl⟩ := r; exact .text x t
  | .tup ks, v, u, h, r => by
    have h : Rp X.prog X.w X.K W v (.tup (nDs ks)) := h
    cases h with
    | @tup _ _ _ hs hl hr =>
      cases r
      obtain ⟨its, rv, ⟨o, e, c, n, d⟩, _⟩ := I.tuple (sqT_up hs g)
      exact .tup e c d (rp_nesteds I g ks _ its hl hr rv)
theorem rp_nesteds (I : Inv X pins σ H s) (g : ∀ p o, W.G p = some o → H p = some o) : ∀ (ks : List NestedKey) (vs : List V) (us : List Value), vs.length = (nDs ks).length → (∀ (i : Nat) v d, vs[i]? = some v → (nDs ks)[i]? = some d → Rp X.prog X.w X.K W v d) → Vals vs us → NestedAll s.heap ks us
  | [], vs, us, hl, _, r => by
    cases vs with
    | nil => cases r; exact .nil
    | cons _ _ => cases hl
  | k :: ks, vs, us, hl, hr, r => by
    cases vs with
    | nil => cases hl
    | cons v vs =>
      cases r with
      | cons r1 r2 => exact .cons (rp_nested I g k v _ (hr 0 v (nD k) rfl rfl) r1) (rp_nesteds I g ks vs _ (Nat.succ.inj hl) (fun i => hr (i + 1)) r2)
end
theorem key_is (I : Inv X pins σ H s) (g : ∀ p o, W.G p = some o → H p = some o) {k : NestedKey} {b : Addr} (h : Rp X.prog X.w X.K W (.ref b) (nD k)) (hd : k.depth ≤ 8) : (nestedKind X.prog X.w).is s.heap k b := ⟨rp_nested I g k _ _ h rfl, hd⟩
/-- a dict whose keys are tuples (or one without entries), in the heap -/
theorem dx_of (I : Inv X pins σ H s) (g : ∀ p o, W.G p = some o → H p = some o) {en : EnX} {kvs : List (D × D)} (e : Rd H a (DX X.prog X.w a en)) (r : RpX X.prog X.w X.K W en kvs) :
    en.length ≤ sizeLine ∧ (a == sysModules) = false ∧ ∃ xs : List (NestedKey × Addr × Value), Paired (fun (p : NestedKey × Addr × V) (q : NestedKey × Addr × Value) => p.1 = q.1 ∧ p.2.1 = q.2.1 ∧ RelV p.2.2 q.2.2) en xs ∧
      s.heap.DictOfH (nestedKind X.prog X.w) a xs ∧ Paired (KX3 X.prog X.w X.K W) kvs xs := by
  obtain ⟨⟨xs, rel, o, es, ep, ho, hc, hd, he, hn, hz, hs⟩, _⟩ : ObjOk X.prog X.w H s.heap a (DX X.prog X.w a en) := e.ok I.hok
  have p3 : Paired (KX3 X.prog X.w X.K W) kvs xs := Paired.and3 (Paired.of_get r.1 r.2) rel
  refine ⟨hz, hs, xs, rel, ⟨o, es, ep, ho, hc, hd, he, fun x hx => ?_, hn⟩, p3⟩
  obtain ⟨i, hi⟩ := List.mem_iff_getElem?.mp hx
  have hi' : i < kvs.length := by rw [Paired.length p3]; exact (List.getElem?_eq_some_iff.mp hi).1
  obtain ⟨y, ⟨⟨h1, h2⟩, h3, h4⟩, h5, h6, h7⟩ := Paired.get p3 i _ _ (List.getElem?_eq_getElem hi') hi
  rw [← h5, ← h6]
  exact key_is I g (by rw [← h1]; exact h3) h2
theorem dk_none (I : Inv X pins σ H s) (e : Rd H a (.dK [])) : (a == sysModules) = false ∧ s.heap.DictOfH (nestedKind X.prog X.w) a [] := by
  obtain ⟨_, hs, vs, rel, o, es, ep, ho, hc, hd, hk, hp, hn⟩ := dk_rd I.hok e
  cases rel
  have : es.toList = [] := by
    cases e1 : es.toList with
    | nil => rfl
    | cons x xs => rw [e1] at hp; cases hp
  exact ⟨hs, o, es, ep, ho, hc, hd, by rw [this]; rfl, ⟨(fun _ hx => nomatch hx), List.nodup_nil⟩⟩
/-- both -/
theorem dt_all (I : Inv X pins σ H s) (g : ∀ p o, W.G p = some o → H p = some o) {kvs : List (D × D)} (h : (∃ en, Rd H a (.dK en) ∧ RpK X.prog X.w X.K W en kvs ∧ en = []) ∨ ∃ en, Rd H a (DX X.prog X.w a en) ∧ RpX X.prog X.w X.K W en kvs) :
    kvs.length ≤ sizeLine ∧ (a == sysModules) = false ∧ ∃ (en : EnX) (xs : List (NestedKey × Addr × Value)), Paired (fun (p : NestedKey × Addr × V) (q : NestedKey × Addr × Value) => p.1 = q.1 ∧ p.2.1 = q.2.1 ∧ RelV p.2.2 q.2.2) en xs ∧ RpX X.prog X.w X.K W en kvs ∧
      s.heap.DictOfH (nestedKind X.prog X.w) a xs ∧ Paired (KX3 X.prog X.w X.K W) kvs xs := by
  rcases h with ⟨en, e, r, rfl⟩ | ⟨en, e, r⟩
  · obtain ⟨h1, h2⟩ := dk_none I e
    have : kvs = [] := List.eq_nil_of_length_eq_zero r.1.symm
    subst this
    exact ⟨Nat.zero_le _, h1, [], [], .nil, ⟨rfl, fun i _ _ q => by cases i <;> cases q⟩, h2, .nil⟩
  · obtain ⟨h1, h2, xs, h3, h4, h5⟩ := dx_of I g e r
    exact ⟨by rw [← r.1]; exact h1, h2, en, xs, h3, r, h4, h5⟩
/-- a look at a key -/
theorem KX3.look {kvs : List (D × D)} {xs : List (NestedKey × Addr × Value)} (r : Paired (KX3 X.prog X.w X.K W) kvs xs) (k : NestedKey) :
    (dLook kvs (nD k) = none ∧ atKey xs k = none) ∨ ∃ d p v, dLook kvs (nD k) = some d ∧ atKey xs k = some p ∧ RelV v p.2 ∧ Rp X.prog X.w X.K W v d := by
  rcases Paired.find (p := fun p => keyEq p.1 (nD k)) (q := fun x => decide (x.1 = k)) (fun x y hxy => by
    obtain ⟨e, ⟨⟨h1, _⟩, _⟩, h2, _⟩ := hxy
    rw [h1, keyEq_nD, h2]) r with ⟨e1, e2⟩ | ⟨x, y, e1, e2, e, ⟨_, h3⟩, _, _, h5⟩
  · exact .inl ⟨by unfold dLook; rw [e1]; rfl, by unfold atKey; rw [e2]; rfl⟩
  · exact .inr ⟨x.2, y.2, e.2.2, by unfold dLook; rw [e1]; rfl, by unfold atKey; rw [e2]; rfl, h5, h3.2⟩
/-- a look at a key of a dict with plain keys -/
theorem RpK.look {en : List (Key × V)} {kvs : List (D × D)} {P : Program} {w : World} {K : PySem.W.Frag} (r : RpK P w K W en kvs) (k : Key) :
    (dLook kvs (kD k) = none ∧ valV en k = none) ∨ ∃ d v, dLook kvs (kD k) = some d ∧ valV en k = some v ∧ Rp P w K W v d := by
  rcases Paired.find (p := fun (p : Key × V) => decide (p.1 = k)) (q := fun (p : D × D) => keyEq p.1 (kD k)) (fun x y hxy => by
    have h := hxy.1
    rw [h, keyEq_kD]) (Paired.of_get r.1 r.2) with ⟨e1, e2⟩ | ⟨x, y, e1, e2, h⟩
  · exact .inl ⟨by unfold dLook; rw [e2]; rfl, by unfold valV; rw [e1]; rfl⟩
  · exact .inr ⟨y.2, x.2, by unfold dLook; rw [e2]; rfl, by unfold valV; rw [e1]; rfl, h.2⟩
end

/-! ### which kind of keys; looks by data -/
/-- x may be asked for in a dict of these entries -/
def keyOk (x : D) (kvs : List (D × D)) : Bool := match x, kvs with
  | .int _, [] => true
  | .str _, [] => true
  | .int _, (.int _, _) :: _ => true
  | .int _, (.str _, _) :: _ => true
  | .str _, (.int _, _) :: _ => true
  | .str _, (.str _, _) :: _ => true
  | .tup xs, [] => (match keyN (.tup xs) with | some k => decide (k.depth ≤ 8) | none => false)
  | .tup xs, (.tup _, _) :: _ => (match keyN (.tup xs) with | some k => decide (k.depth ≤ 8) | none => false)
  | _, _ => false
section
variable {X : Cx} {pins : List (Addr × Obj)} {σ : Sl} {H : Hp} {s : Shared} {W : Wd} {a : Addr}
/-- the dict of a key that may be asked -/
theorem keyOk_kind {P : Program} {w : World} {K : PySem.W.Frag} {x : D} {kvs : List (D × D)} (h : keyOk x kvs = true) (d : (∃ en, Rd H a (.dK en) ∧ RpK P w K W en kvs) ∨ ∃ en, Rd H a (DX P w a en) ∧ RpX P w K W en kvs ∧ en ≠ []) :
    (∃ k en, x = kD k ∧ Rd H a (.dK en) ∧ RpK P w K W en kvs) ∨
      ∃ ks, x = nD (.tup ks) ∧ (NestedKey.tup ks).depth ≤ 8 ∧ ((∃ en, Rd H a (.dK en) ∧ RpK P w K W en kvs ∧ en = []) ∨ ∃ en, Rd H a (DX P w a en) ∧ RpX P w K W en kvs) := by
  have hx : ∀ en : EnX, RpX P w K W en kvs → en ≠ [] → ∃ ys v r, kvs = (.tup ys, v) :: r := fun en r hne => by
    cases en with
    | nil => exact absurd rfl hne
    | cons e en =>
      cases kvs with
      | nil => cases r.1
      | cons p kvs =>
        obtain ⟨⟨h1, _⟩, h2, _⟩ := r.2 0 e p rfl rfl
        obtain ⟨y, v⟩ := p
        cases q : e.1 with
        | tup ks => rw [q] at h1; exact ⟨_, v, kvs, by rw [show y = _ from h1]; rfl⟩
        | none => rw [q] at h1; rw [show y = _ from h1] at h2; cases h2
        | num _ => rw [q] at h1; rw [show y = _ from h1] at h2; cases h2
        | text _ => rw [q] at h1; rw [show y = _ from h1] at h2; cases h2
  have hk : ∀ en : List (Key × V), RpK P w K W en kvs → ∀ ys v r, kvs ≠ (.tup ys, v) :: r := fun en r ys v t q => by
    subst q
    cases en with
    | nil => cases r.1
    | cons e en =>
      have h1 := (r.2 0 e _ rfl rfl).1
      cases q : e.1 with
      | inl _ => rw [q] at h1; cases h1
      | inr _ => rw [q] at h1; cases h1
  have key : ∀ xs : List D, x = .tup xs → (match keyN (.tup xs) with | some k => decide (k.depth ≤ 8) | none => false) = true → ∃ ks, x = nD (.tup ks) ∧ (NestedKey.tup ks).depth ≤ 8 := fun xs e q => by
    cases e1 : keyN (.tup xs) with
    | none => rw [e1] at q; cases q
    | some k =>
      rw [e1] at q
      have e2 := nD_keyN _ _ e1
      cases k with
      | tup ks => exact ⟨ks, e.trans e2, of_decide_eq_true q⟩
      | none => cases e2
      | num _ => cases e2
      | text _ => cases e2
  unfold keyOk at h
  split at h
  · rcases d with ⟨en, h1, h2⟩ | ⟨en, h1, h2, h3⟩
    · exact .inl ⟨.inl _, en, rfl, h1, h2⟩
    · obtain ⟨_, _, _, q⟩ := hx en h2 h3; cases q
  · rcases d with ⟨en, h1, h2⟩ | ⟨en, h1, h2, h3⟩
    · exact .inl ⟨.inr _, en, rfl, h1, h2⟩
    · obtain ⟨_, _, _, q⟩ := hx en h2 h3; cases q
  · rcases d with ⟨en, h1, h2⟩ | ⟨en, h1, h2, h3⟩
    · exact .inl ⟨.inl _, en, rfl, h1, h2⟩
    · obtain ⟨_, _, _, q⟩ := hx en h2 h3; cases q
  · rcases d with ⟨en, h1, h2⟩ | ⟨en, h1, h2, h3⟩
    · exact .inl ⟨.inl _, en, rfl, h1, h2⟩
    · obtain ⟨_, _, _, q⟩ := hx en h2 h3; cases q
  · rcases d with ⟨en, h1, h2⟩ | ⟨en, h1, h2, h3⟩
    · exact .inl ⟨.inr _, en, rfl, h1, h2⟩
    · obtain ⟨_, _, _, q⟩ := hx en h2 h3; cases q
  · rcases d with ⟨en, h1, h2⟩ | ⟨en, h1, h2, h3⟩
    · exact .inl ⟨.inr _, en, rfl, h1, h2⟩
    · obtain ⟨_, _, _, q⟩ := hx en h2 h3; cases q
  · obtain ⟨ks, e1, e2⟩ := key _ rfl h
    refine .inr ⟨ks, e1, e2, ?_⟩
    rcases d with ⟨en, h1, h2⟩ | ⟨en, h1, h2, h3⟩
    · exact .inl ⟨en, h1, h2, List.eq_nil_of_length_eq_zero h2.1⟩
    · exact .inr ⟨en, h1, h2⟩
  · obtain ⟨ks, e1, e2⟩ := key _ rfl h
    refine .inr ⟨ks, e1, e2, ?_⟩
    rcases d with ⟨en, h1, h2⟩ | ⟨en, h1, h2, h3⟩
    · exact absurd rfl (hk en h2 _ _ _)
    · exact .inr ⟨en, h1, h2⟩
  · cases h
theorem vw_kD {k : Key} {v : V} {P : Program} {w : World} {K : PySem.W.Frag} (h : Vw P w K W H v (kD k)) : v = kV k := by
  cases k with
  | inl i => exact h.int
  | inr x => exact h.str
theorem vw_tupKey {ks : List NestedKey} {v : V} {P : Program} {w : World} {K : PySem.W.Frag} (h : Vw P w K W H v (nD (.tup ks))) : ∃ b, v = .ref b ∧ Rp P w K W (.ref b) (nD (.tup ks)) := by
  rcases h with h | ⟨b, bb, rfl, h, e⟩
  · have h' : Rp P w K W v (.tup (nDs ks)) := h
    cases h' with
    | tup h1 h2 h3 => exact ⟨_, rfl, .tup h1 h2 h3⟩
  · cases bb <;> cases e
def dHas (x : D) (kvs : List (D × D)) : Option Bool := if keyOk x kvs = true then some (dLook kvs x).isSome else none
theorem dict_in (hu : X.A.units + 9 < cLine) (neg : Bool) {F : Hp} {A : Nat → Addr} {s : S} {σ : Sl} {v u : V} {x : D} {kvs : List (D × D)} {b : Bool} {Q : VK} (R : Rel X.prog X.w X.K F W A s σ H) (cx : Vw X.prog X.w X.K W H v x) (cy : Vw X.prog X.w X.K W H u (.dct kvs))
    (e : dHas x kvs = some b) (q : Q (.bl (if neg then !b else b)) H) : TO2 X (compareOp (if neg then .NotIn else .In)) v u H Q := by
  unfold dHas at e
  split at e
  · rename_i hk
    cases e
    obtain ⟨a, rfl, d⟩ := cy.dct R.g
    rcases keyOk_kind hk d with ⟨k, en, rfl, h1, h2⟩ | ⟨ks, rfl, hd, d⟩
    · obtain rfl := vw_kD cx
      intro pins sh σ' v' u' I rx ry
      cases ry
      have e1 : (dLook kvs (kD k)).isSome = (valV en k).isSome := by
        rcases h2.look k with ⟨e1, e2⟩ | ⟨_, _, e1, e2, _⟩ <;> rw [e1, e2] <;> rfl
      rw [e1] at q
      cases neg
      · exact d_in (by omega) I (.inl ⟨en, k, h1, rfl, rfl⟩) rx fun s' I' => ⟨.bl _, H, I', rfl, q⟩
      · exact d_notIn (by omega) I (.inl ⟨en, k, h1, rfl, rfl⟩) rx fun s' I' => ⟨.bl _, H, I', rfl, q⟩
    · obtain ⟨b, rfl, rb⟩ := vw_tupKey cx
      intro pins sh σ' v' u' I rx ry
      cases ry
      cases rx
      obtain ⟨_, hs, en, xs, _, _, hm, hp⟩ := dt_all I R.g d
      have e1 : (dLook kvs (nD (.tup ks))).isSome = (atKey xs (.tup ks)).isSome := by
        rcases KX3.look hp (.tup ks) with ⟨e1, e2⟩ | ⟨_, _, _, e1, e2, _⟩ <;> rw [e1, e2] <;> rfl
      rw [e1] at q
      have hr : (nestedKind X.prog X.w).room X.A.in1 := by show X.A.units + 1 + 8 < cLine; omega
      have hkey := key_is I R.g rb hd
      cases neg
      · exact wpAny_in_heap hr hkey hs hm ⟨.bl _, H, I.tok _, rfl, q⟩
      · show wpAny _ _ (do return Value.bool (!(← contains (.ref a) (.ref b)))) _ _ _
        exact wpAny_bind (wpAny_contains_heap hr hkey hs hm (wpAny_pure ⟨.bl _, H, I.tok _, rfl, q⟩))
  · cases e

/-! ### in -/
def flatD : D → Bool
  | .non => true
  | .bl _ => true
  | .int _ => true
  | .str _ => true
  | _ => false
def dSeqIn (x : D) (xs : List D) (deep : Bool) : Option Bool :=
  if flatD x = true ∧ xs.all flatD = true then some (xs.any fun z => PyData.eqv (pyD z) (pyD x))
  else if deep = true ∧ SeqAt.shaped (pyD x) = true ∧ SeqAt.shaped (pyD (.lst xs)) = true then some (xs.any fun z => PyData.eqv (pyD z) (pyD x)) else none
def dInB (x : D) : D → Option Bool
  | .dct kvs => dHas x kvs
  | .lst xs => dSeqIn x xs true
  | .tup xs => dSeqIn x xs false
  | .str y => (match x with
    | .str z => some (!(Builtin.Str.occurrences y z 0 y.length 1).isEmpty)
    | _ => none)
  | _ => none
def dIn (x y : D) : Option Rz := blR (dInB x y)
def dNotIn (x y : D) : Option Rz := blR ((dInB x y).map not)
theorem rp_flat {P : Program} {w : World} {K : PySem.W.Frag} {v : V} {d : D} (h : Rp P w K W v d) (f : flatD d = true) : flatV v = true := by
  cases h <;> first | rfl | cases f
theorem rp_eqv {P : Program} {w : World} {K : PySem.W.Frag} {v u : V} {d e : D} (h : Rp P w K W v d) (h' : Rp P w K W u e) (f : flatD d = true) (f' : flatD e = true) : eqV v u = PyData.eqv (pyD d) (pyD e) := by
  cases h <;> first | cases f | skip
  all_goals (cases h' <;> first | cases f' | skip)
  all_goals (simp only [pyD, PyData.eqv, eqV])
theorem vw_flat {P : Program} {w : World} {K : PySem.W.Frag} {v : V} {d : D} (h : Vw P w K W H v d) (f : flatD d = true) : Rp P w K W v d := by
  rcases h with h | ⟨a, b, rfl, h, e⟩
  · exact h
  · cases b <;> cases e <;> cases f
theorem rps_any {P : Program} {w : World} {K : PySem.W.Frag} {v : V} {d : D} (h : Rp P w K W v d) (f : flatD d = true) : ∀ {vs : List V} {xs : List D}, Rps P w K W vs xs → xs.all flatD = true → vs.all flatV = true ∧ inV v vs = xs.any fun z => PyData.eqv (pyD z) (pyD d)
  | [], [], _, _ => ⟨rfl, rfl⟩
  | [], _ :: _, r, _ => nomatch r.1
  | _ :: _, [], r, _ => nomatch r.1
  | u :: vs, x :: xs, r, hf => by
    simp only [List.all_cons, Bool.and_eq_true] at hf
    have r0 := r.2 0 u x rfl rfl
    obtain ⟨h1, h2⟩ := rps_any h f (vs := vs) (xs := xs) ⟨Nat.succ.inj r.1, fun i => r.2 (i + 1)⟩ hf.2
    refine ⟨by rw [List.all_cons, rp_flat r0 hf.1, h1]; rfl, ?_⟩
    unfold inV at h2 ⊢
    rw [List.any_cons, List.any_cons, h2, rp_eqv r0 h hf.1 f]
theorem seq_in (hu : X.A.units + 65 < cLine) (neg : Bool) {F : Hp} {A : Nat → Addr} {s : S} {σ : Sl} {v u : V} {x : D} {xs : List D} {b deep : Bool} {Q : VK} (R : Rel X.prog X.w X.K F W A s σ H) (cx : Vw X.prog X.w X.K W H v x)
    (cy : Vw X.prog X.w X.K W H u (.lst xs) ∨ (Vw X.prog X.w X.K W H u (.tup xs) ∧ deep = false)) (e : dSeqIn x xs deep = some b) (q : Q (.bl (if neg then !b else b)) H) : TO2 X (compareOp (if neg then .NotIn else .In)) v u H Q := by
  unfold dSeqIn at e
  split at e
  · rename_i hf
    cases e
    have cx' := vw_flat cx hf.1
    have seq : ∃ p vs, u = .ref p ∧ (SqL X.K H p vs ∨ SqT X.K H p vs) ∧ Rps X.prog X.w X.K W vs xs := by
      rcases cy with cy | ⟨cy, _⟩
      · obtain ⟨p, vs, rfl, h, r⟩ := cy.lst R.g
        exact ⟨p, vs, rfl, .inl (SqL.of h), r⟩
      · obtain ⟨p, vs, rfl, h, r, _⟩ := cy.tup R.g
        exact ⟨p, vs, rfl, .inr h, r⟩
    obtain ⟨p, vs, rfl, h, r⟩ := seq
    obtain ⟨h1, h2⟩ := rps_any cx' hf.1 r hf.2
    rw [← h2] at q
    cases neg
    · exact to_of op_in_seq ⟨p, vs, rfl, h, rp_flat cx' hf.1, h1, q⟩
    · exact to_of op_notIn_seq ⟨p, vs, rfl, h, rp_flat cx' hf.1, h1, q⟩
  · split at e
    · rename_i hs
      cases e
      obtain ⟨hd, h1, h2⟩ := hs
      rcases cy with cy | ⟨_, z⟩
      · have d1 := cx.dp R.g (SeqAt.canLay_of_shaped h1)
        have d2 := cy.dp R.g (SeqAt.canLay_of_shaped h2)
        have e1 : (xs.any fun z => PyData.eqv (pyD z) (pyD x)) = (pyDs xs).any fun z => PyData.eqv z (pyD x) := by rw [pyDs_map, List.any_map]; rfl
        rw [e1] at q
        cases neg
        · exact to_of (op_inD hu) ⟨_, pyDs xs, d1, by simpa only [pyD] using d2, h1, by simpa only [pyD] using h2, q⟩
        · exact to_of (op_notInD hu) ⟨_, pyDs xs, d1, by simpa only [pyD] using d2, h1, by simpa only [pyD] using h2, q⟩
      · rw [z] at hd; cases hd
    · cases e
theorem any_in (hu : X.A.units + 65 < cLine) (neg : Bool) {F : Hp} {A : Nat → Addr} {s : S} {σ : Sl} {v u : V} {x y : D} {b : Bool} {Q : VK} (R : Rel X.prog X.w X.K F W A s σ H) (cx : Vw X.prog X.w X.K W H v x) (cy : Vw X.prog X.w X.K W H u y)
    (e : dInB x y = some b) (q : Q (.bl (if neg then !b else b)) H) : TO2 X (compareOp (if neg then .NotIn else .In)) v u H Q := by
  unfold dInB at e
  split at e
  · exact dict_in (by omega) neg R cx cy e q
  · exact seq_in hu neg R cx (.inl cy) e q
  · exact seq_in hu neg R cx (.inr ⟨cy, rfl⟩) e q
  · split at e
    · cases e
      obtain rfl := cx.str
      obtain rfl := cy.str
      cases neg
      · exact to_of op_in_str ⟨_, _, rfl, rfl, q⟩
      · exact to_of op_notin_str ⟨_, _, rfl, rfl, q⟩
    · cases e
  · cases e
theorem op2_in (hu : X.A.units + 65 < cLine) : Op2 X (compareOp .In) dIn := by
  intro F W A s σ H v u x y r Q R cx cy e q
  obtain ⟨b, e0, rfl⟩ := Option.map_eq_some_iff.mp e
  exact any_in hu false R cx cy e0 (end_dat R q (.bl _))
theorem op2_notIn (hu : X.A.units + 65 < cLine) : Op2 X (compareOp .NotIn) dNotIn := by
  intro F W A s σ H v u x y r Q R cx cy e q
  obtain ⟨b, e0, rfl⟩ := Option.map_eq_some_iff.mp e
  obtain ⟨b, e1, rfl⟩ := Option.map_eq_some_iff.mp e0
  exact any_in hu true R cx cy e1 (end_dat R q (.bl _))

/-! ### subscripts -/
def dGet : D → D → Option D
  | .lst xs, .int i => atI xs i
  | .tup xs, .int i => atI xs i
  | .str z, .int i => if z.length ≤ sizeLine then (atI z.cps.toList i).map fun c => .str ⟨#[c]⟩ else none
  | .dct kvs, x => if keyOk x kvs = true then dLook kvs x else none
  | _, _ => none
theorem ix_dk (hu : X.A.units + 1 < cLine) : IxR X (fun x y H Q => ∃ a en k v, x = .ref a ∧ y = kV k ∧ Rd H a (.dK en) ∧ valV en k = some v ∧ Q v H) := by
  intro value slice pins s σ H x y v u Q I rx ry h hs
  obtain ⟨a, en, k, z, rfl, rfl, ha, hv, q⟩ := h
  cases rx
  have g : DGet H a (kV k) (some z) := by rw [← hv]; exact .inl ⟨en, k, ha, rfl, rfl⟩
  exact tail_any (dict_typeIs I g) PySem.F.slot_dict_getitem.lookup (d_getItem hu I g ry fun w' s' I' r' => ⟨z, H, I', r', q⟩) hs
theorem ix_dx (hu : X.A.units + 9 < cLine) : IxR X (fun x y H Q => ∃ (W : Wd) (a b : Addr) (ks : List NestedKey) (d : D) (kvs : List (D × D)), x = .ref a ∧ y = .ref b ∧ (∀ p o, W.G p = some o → H p = some o) ∧ Rp X.prog X.w X.K W (.ref b) (nD (.tup ks)) ∧ (NestedKey.tup ks).depth ≤ 8 ∧
    ((∃ en, Rd H a (.dK en) ∧ RpK X.prog X.w X.K W en kvs ∧ en = []) ∨ ∃ en, Rd H a (DX X.prog X.w a en) ∧ RpX X.prog X.w X.K W en kvs) ∧ dLook kvs (nD (.tup ks)) = some d ∧ ∀ v, Rp X.prog X.w X.K W v d → Q v H) := by
  intro value slice pins s σ H x y v u Q I rx ry h hs
  obtain ⟨W, a, b, ks, d, kvs, rfl, rfl, g, rb, hd, dd, hl, q⟩ := h
  cases rx
  cases ry
  obtain ⟨_, hsm, en, xs, _, _, hm, hp⟩ := dt_all I g dd
  rcases KX3.look hp (.tup ks) with ⟨e1, _⟩ | ⟨d', p, z, e1, e2, r1, r2⟩
  · rw [hl] at e1; cases e1
  · rw [hl] at e1; cases e1
    exact tail_any hm.typeIs PySem.F.slot_dict_getitem.lookup (wpAny_getItem_heap (by show X.A.units + 1 + 8 < cLine; omega) (key_is I g rb hd) hm e2 ⟨z, H, I.tok _, r1, q z r2⟩) hs
end
theorem atI_rp {P : Program} {w : World} {K : PySem.W.Frag} {W : Wd} {vs : List V} {xs : List D} (r : Rps P w K W vs xs) {i : Int} {d : D} (e : atI xs i = some d) : ∃ v, atI vs i = some v ∧ Rp P w K W v d := by
  unfold atI at e ⊢
  rw [r.1]
  obtain ⟨j, e1, e2⟩ := Option.bind_eq_some_iff.mp e
  obtain ⟨v, e3, e4⟩ := r.get e2
  exact ⟨v, by rw [e1]; exact e3, e4⟩
def mGet (ma mb : M Ref) : M D := do
  let ra ← ma
  let rb ← mb
  let x ← look ra
  let y ← look rb
  orStuck (dGet x y)
section
variable {X : Cx} {pos : Pos}
theorem vd_get {a b : Expr} {ma mb : M Ref} (hu : X.A.units + 9 < cLine) (ha : VR X a ma) (hb : VR X b mb) (hs : PlainIx b) : VD X (.Subscript a b pos) (mGet ma mb) := by
  intro F W A s σ H Q R hw
  unfold mGet at hw
  rw [wp_bind] at hw
  have key : ∀ {r : R2}, IxR X r → tOp r (TX X a) (TX X b) σ H Q → TX X (.Subscript a b pos) σ H Q := fun h q => tx_of (pe_ix h pe_tx pe_tx hs) q
  have r0 : IxR X (fun x y H Q => (rIx X.K x y H Q ∨ ∃ a en k v, x = .ref a ∧ y = kV k ∧ Rd H a (.dK en) ∧ valV en k = some v ∧ Q v H) ∨ ∃ (W : Wd) (a b : Addr) (ks : List NestedKey) (d : D) (kvs : List (D × D)), x = .ref a ∧ y = .ref b ∧ (∀ p o, W.G p = some o → H p = some o) ∧ Rp X.prog X.w X.K W (.ref b) (nD (.tup ks)) ∧ (NestedKey.tup ks).depth ≤ 8 ∧
    ((∃ en, Rd H a (.dK en) ∧ RpK X.prog X.w X.K W en kvs ∧ en = []) ∨ ∃ en, Rd H a (DX X.prog X.w a en) ∧ RpX X.prog X.w X.K W en kvs) ∧ dLook kvs (nD (.tup ks)) = some d ∧ ∀ v, Rp X.prog X.w X.K W v d → Q v H) :=
    (ix_seq.or (ix_dk (by omega))).or (ix_dx hu)
  refine key r0 ?_
  refine ha F W A s σ H _ R (wp_mono hw (fun ra s1 h1 => ?_) fun _ _ z => z)
  intro W1 A1 v H1 l1 R1 c1
  rw [wp_bind] at h1
  refine hb F W1 A1 s1 σ H1 _ R1 (wp_mono h1 (fun rb s2 h2 => ?_) fun _ _ z => z)
  intro W2 A2 u H2 l2 R2 c2
  rw [wp_bind] at h2
  obtain ⟨x, ex, h2⟩ := wp_look h2
  rw [wp_bind] at h2
  obtain ⟨y, ey, h2⟩ := wp_look h2
  obtain ⟨d, ed, h2⟩ := wp_orStuck h2
  have c1' : cR X F W2 A2 s2 σ H2 v ra := cR_up c1 l2
  have vx := deref_vw R2 c1' ex
  have vy := deref_vw R2 c2 ey
  have q : ∀ z, Rp X.prog X.w X.K W2 z d → Q z H2 := fun z c => h2 W2 A2 z H2 (l1.trans l2) R2 c
  unfold dGet at ed
  split at ed
  · obtain ⟨p, vs, rfl, hp, r⟩ := vx.lst R2.g
    obtain rfl := vy.int
    obtain ⟨z, e1, e2⟩ := atI_rp r ed
    exact .inl (.inl (.inl ⟨p, vs, _, z, rfl, rfl, SqL.of hp, e1, q z e2⟩))
  · obtain ⟨p, vs, rfl, hp, r, _⟩ := vx.tup R2.g
    obtain rfl := vy.int
    obtain ⟨z, e1, e2⟩ := atI_rp r ed
    exact .inl (.inl (.inr (.inl ⟨p, vs, _, z, rfl, rfl, hp, e1, q z e2⟩)))
  · split at ed
    · obtain ⟨c, e1, rfl⟩ := Option.map_eq_some_iff.mp ed
      obtain rfl := vx.str
      obtain rfl := vy.int
      exact .inl (.inl (.inr (.inr ⟨_, _, c, rfl, rfl, by assumption, e1, q _ (.str _)⟩)))
    · cases ed
  · split at ed
    · rename_i hk
      obtain ⟨p, rfl, dd⟩ := vx.dct R2.g
      rcases keyOk_kind hk dd with ⟨k, en, rfl, e1, e2⟩ | ⟨ks, rfl, hd, dd⟩
      · obtain rfl := vw_kD vy
        rcases e2.look k with ⟨e3, _⟩ | ⟨d', z, e3, e4, e5⟩
        · rw [e3] at ed; cases ed
        · rw [e3] at ed; cases ed
          exact .inl (.inr ⟨p, en, k, z, rfl, rfl, e1, e4, q z e5⟩)
      · obtain ⟨b, rfl, rb⟩ := vw_tupKey vy
        exact .inr ⟨W2, p, b, ks, d, _, rfl, rfl, R2.g, rb, hd, dd, ed, q⟩
    · cases ed
  · cases ed
end
end Vl
set_option Elab.async false
set_option linter.all false
set_option maxRecDepth 100000
set_option maxHeartbeats 4000000
/-! V7: slices, tests, displays -/
namespace Vl
open PySem PySem.Spec PyProof.Rows L2

/-! ### slices -/
def TOp (X : Cx) (e : Option Expr) : TO := fun σ H Q => ∀ pins s, Inv X pins σ H s → wpAny (model X.prog X.w) X.A (evalPart e X.env) (fun u s' => ∃ o H', Inv X pins σ H' s' ∧ IsPart u o ∧ Q o H') X.xe s
theorem po_top {X : Cx} {e : Option Expr} : PO X e (TOp X e) := ⟨fun pins s σ H Q I h => h pins s I⟩
def VO (X : Cx) (e : Option Expr) (m : M (Option Int)) : Prop := ∀ (F : Hp) (W : Wd) (A : Nat → Addr) (s : S) (σ : Sl) (H : Hp) (Q : Option Int → Hp → Prop), Rel X.prog X.w X.K F W A s σ H →
  Wp m s (fun o s' => ∀ W' A' H', Wle F W W' → Rel X.prog X.w X.K F W' A' s' σ H' → Q o H') NoX → TOp X e σ H Q
def asInt : D → M Int
  | .int i => Pure.pure i
  | _ => stuck
def cut {α : Type} (xs : List α) (lo hi : Option Int) : List α := (xs.drop (HT.sIx xs.length 0 lo)).take (HT.sIx xs.length xs.length hi - HT.sIx xs.length 0 lo)
def dSlice : D → Option Int → Option Int → Option Rz
  | .lst xs, lo, hi => some (.own (.lst (cut xs lo hi)))
  | .tup xs, lo, hi => some (.dat (.tup (cut xs lo hi)))
  | .str z, lo, hi => if z.length ≤ sizeLine then some (.dat (.str (cutS z lo hi))) else none
  | _, _, _ => none
def mSlice (ma : M Ref) (ml mh : M (Option Int)) : M Rz := do
  let ra ← ma
  let lo ← ml
  let hi ← mh
  let x ← look ra
  orStuck (dSlice x lo hi)
section
variable {X : Cx} {pos p2 : Pos}
theorem vo_none : VO X none (Pure.pure none) := by
  intro F W A s σ H Q R hw pins sh I
  exact po_none.run pins sh σ H Q I (hw W A H Wle.refl R)
theorem vo_some {e : Expr} {m : M D} (h : VD X e m) : VO X (some e) (do let d ← m; let i ← asInt d; Pure.pure (some i)) := by
  intro F W A s σ H Q R hw pins sh I
  refine (po_some (pe_tx (X := X) (e := e))).run pins sh σ H Q I ?_
  rw [wp_bind] at hw
  refine h F W A s σ H _ R (wp_mono hw (fun d s1 h1 => ?_) fun _ _ z => z)
  intro W1 A1 v H1 l1 R1 c1
  rw [wp_bind] at h1
  cases d with
  | int i =>
    have c1 : Rp X.prog X.w X.K W1 v (.int i) := c1
    cases c1
    exact ⟨i, rfl, h1 W1 A1 H1 l1 R1⟩
  | _ => exact h1.elim
theorem ve_slice {e : Expr} {lo hi : Option Expr} {ma : M Ref} {ml mh : M (Option Int)} (ha : VR X e ma) (hl : VO X lo ml) (hh : VO X hi mh) : VE X (.Subscript e (.Slice lo hi none p2) pos) (mSlice ma ml mh) := by
  intro F W A s σ H Q R hw
  have r0 : SlR X (fun x lo hi H Q => (rSlL X.K x lo hi H Q ∨ rSlA X.K x lo hi H Q) ∨ rSlS x lo hi H Q) := (sl_list.or sl_tupA).or sl_str
  refine tx_of (pe_slice r0 pe_tx po_top po_top) ?_
  unfold mSlice at hw
  rw [wp_bind] at hw
  refine ha F W A s σ H _ R (wp_mono hw (fun ra s1 h1 => ?_) fun _ _ z => z)
  intro W1 A1 v H1 l1 R1 c1
  rw [wp_bind] at h1
  refine hl F W1 A1 s1 σ H1 _ R1 (wp_mono h1 (fun lo s2 h2 => ?_) fun _ _ z => z)
  intro W2 A2 H2 l2 R2
  rw [wp_bind] at h2
  refine hh F W2 A2 s2 σ H2 _ R2 (wp_mono h2 (fun hi s3 h3 => ?_) fun _ _ z => z)
  intro W3 A3 H3 l3 R3
  rw [wp_bind] at h3
  obtain ⟨x, ex, h3⟩ := wp_look h3
  obtain ⟨r, er, h3⟩ := wp_orStuck h3
  have l13 := l2.trans l3
  have c3 : cR X F W3 A3 s3 σ H3 v ra := cR_up c1 l13
  have vx := deref_vw R3 c3 ex
  have q : ∀ W' z H', Wle F W3 W' → Rel X.prog X.w X.K F W' A3 s3 σ H' → RR X.prog X.w X.K F W' A3 s3 H' z r → Q z H' := fun W' z H' l R' c => h3 W' A3 z H' ((l1.trans l13).trans l) R' c
  unfold dSlice at er
  split at er
  · cases er
    obtain ⟨p, vs, rfl, hp, r⟩ := vx.lst R3.g
    exact .inl (.inl ⟨p, vs, rfl, SqL.of hp, end_lst R3 q (r.cut _ _)⟩)
  · cases er
    obtain ⟨p, vs, rfl, hp, r, gp⟩ := vx.tup R3.g
    refine .inl (.inr ⟨p, vs, rfl, hp, fun hw => end_dat R3 q ?_, fun _ => end_tup R3 q (r.cut _ _)⟩)
    unfold cut
    rw [← r.1, hw.1, hw.2, List.drop_zero, Nat.sub_zero, r.1, List.take_length]
    exact .tup gp r.1 r.2
  · split at er
    · cases er
      obtain rfl := vx.str
      exact .inr ⟨_, rfl, by assumption, end_dat R3 q (.str _)⟩
    · cases er
  · cases er
end

theorem len_empty {α β : Type} : ∀ {vs : List α} {xs : List β}, vs.length = xs.length → (!xs.isEmpty) = !vs.isEmpty
  | [], [], _ => rfl
  | _ :: _, _ :: _, _ => rfl
  | [], _ :: _, h => nomatch h
  | _ :: _, [], h => nomatch h
/-! ### tests -/
def asB : Rz → M Bool
  | .dat (.bl b) => Pure.pure b
  | _ => stuck
def dTruth : D → Option Bool
  | .non => some false
  | .bl b => some b
  | .int i => some (i != 0)
  | .str y => if y.length ≤ sizeLine then some ((y.length : Int) != 0) else none
  | .lst xs => some (!xs.isEmpty)
  | .tup xs => some (!xs.isEmpty)
  | _ => none
section
variable {X : Cx} {pos : Pos}
theorem vt_cmp {a b : Expr} {op : CmpOp} {ma mb : M Ref} {g : D → D → Option Rz} (ha : VR X a ma) (hb : VR X b mb) (hf : Op2 X (compareOp op) g) (hm : behindInMarks op b = false) : VT X (.Compare a [op] [b] pos) (mBin ma mb g >>= asB) := by
  intro F W A s σ H Q R hw
  refine tt_of (pt_cmpR or_to pe_tx pe_tx hm) ?_
  rw [wp_bind] at hw
  refine mBin_run ha hb hf R (wp_mono hw (fun r s1 h1 => ?_) fun _ _ z => z)
  intro W' A' v H' l R' c
  cases r with
  | own b => exact h1.elim
  | dat d =>
    cases d with
    | bl k =>
      have c : Rp X.prog X.w X.K W' v (.bl k) := c
      cases c
      exact ⟨k, rfl, h1 W' A' H' l R'⟩
    | _ => exact h1.elim
/-- the bool of an expression's value, where its test is that of its value -/
theorem vt_of_ve {e : Expr} {m : M Rz} (h : VE X e m) (ht : ∀ σ H (Q : Bool → Hp → Prop), TX X e σ H (fun x H1 => ∃ c, x = .bl c ∧ Q c H1) → TT1 X e σ H Q) : VT X e (m >>= asB) := by
  intro F W A s σ H Q R hw
  refine ht σ H Q ?_
  rw [wp_bind] at hw
  refine h F W A s σ H _ R (wp_mono hw (fun r s1 h1 => ?_) fun _ _ z => z)
  intro W' A' v H' l R' c
  cases r with
  | own b => exact h1.elim
  | dat d =>
    cases d with
    | bl k =>
      have c : Rp X.prog X.w X.K W' v (.bl k) := c
      cases c
      exact ⟨k, rfl, h1 W' A' H' l R'⟩
    | _ => exact h1.elim
theorem vt_chain {a b c : Expr} {op op' : CmpOp} {ma mb mc : M Ref} {g g' : D → D → Option Rz} (ha : VR X a ma) (hb : VR X b mb) (hc : VR X c mc) (hf : Op2 X (compareOp op) g) (hf' : Op2 X (compareOp op') g')
    (hm : lastMarks [op, op'] [b, c] = false) : VT X (.Compare a [op, op'] [b, c] pos) (mChain ma mb mc g g' >>= asB) := by
  intro F W A s σ H Q R hw
  refine tt_of (pt_chain or_to or_to pe_tx pe_tx pe_tx hm) ?_
  unfold mChain at hw
  rw [wp_bind, wp_bind] at hw
  refine ha F W A s σ H _ R (wp_mono hw (fun ra s1 h1 => ?_) fun _ _ z => z)
  intro W1 A1 v H1 l1 R1 c1
  rw [wp_bind] at h1
  refine hb F W1 A1 s1 σ H1 _ R1 (wp_mono h1 (fun rb s2 h2 => ?_) fun _ _ z => z)
  intro W2 A2 u H2 l2 R2 c2
  rw [wp_bind] at h2
  obtain ⟨x, ex, h2⟩ := wp_look h2
  rw [wp_bind] at h2
  obtain ⟨y, ey, h2⟩ := wp_look h2
  have l12 := l1.trans l2
  have c1' : cR X F W2 A2 s2 σ H2 v ra := cR_up c1 l2
  cases er : g x y with
  | none => rw [er] at h2; exact h2.elim
  | some r =>
    rw [er] at h2
    cases r with
    | own b => exact h2.elim
    | dat d =>
      cases d with
      | bl k =>
        refine hf F W2 A2 s2 σ H2 v u x y _ _ R2 (deref_vw R2 c1' ex) (deref_vw R2 c2 ey) er fun W3 z H3 l3 R3 c3 => ?_
        have c3 : Rp X.prog X.w X.K W3 z (.bl k) := c3
        cases c3
        refine ⟨k, rfl, ?_⟩
        cases k with
        | false => exact iteF ⟨false, rfl, h2 W3 A2 H3 (l12.trans l3) R3⟩
        | true =>
          refine iteT ?_
          have h2 : Wp (mc >>= _) s2 _ _ := h2
          rw [wp_bind] at h2
          refine hc F W3 A2 s2 σ H3 _ R3 (wp_mono h2 (fun rc s4 h4 => ?_) fun _ _ z => z)
          intro W4 A4 t H4 l4 R4 c4
          rw [wp_bind] at h4
          obtain ⟨y', ey', h4⟩ := wp_look h4
          rw [wp_bind] at h4
          obtain ⟨z', ez', h4⟩ := wp_look h4
          obtain ⟨r', er', h4⟩ := wp_orStuck h4
          have c3 : cR X F W3 A2 s2 σ H3 u rb := cR_up c2 l3
          have c5 : cR X F W4 A4 s4 σ H4 u rb := cR_up c3 l4
          refine hf' F W4 A4 s4 σ H4 u t y' z' r' _ R4 (deref_vw R4 c5 ey') (deref_vw R4 c4 ez') er' fun W' z H' l R' c => ?_
          cases r' with
          | own b => exact h4.elim
          | dat d =>
            cases d with
            | bl k =>
              have c : Rp X.prog X.w X.K W' z (.bl k) := c
              cases c
              exact ⟨k, rfl, h4 W' A4 H' (((l12.trans l3).trans l4).trans l) R'⟩
            | _ => exact h4.elim
      | _ => exact h2.elim
/-- any other expression: the truth of what it is -/
theorem vt_truth {e : Expr} {m : M Ref} (h : VR X e m) (he : ∀ whole, isTrue e X.env whole = (do let v ← whole; standAt e.pos; holding [v] (truthy v))) : VT X e (do let r ← m; let d ← look r; orStuck (dTruth d)) := by
  intro F W A s σ H Q R hw
  refine tt_of (pt_truth pe_tx he) ?_
  rw [wp_bind] at hw
  refine h F W A s σ H _ R (wp_mono hw (fun r s1 h1 => ?_) fun _ _ z => z)
  intro W1 A1 v H1 l1 R1 c1
  rw [wp_bind] at h1
  obtain ⟨d, ed, h1⟩ := wp_look h1
  obtain ⟨k, ek, h1⟩ := wp_orStuck h1
  have vx := deref_vw R1 c1 ed
  refine ⟨k, ?_, h1 W1 A1 H1 l1 R1⟩
  unfold dTruth at ek
  split at ek
  · cases ek; obtain rfl := vx.non; exact rfl
  · cases ek; obtain rfl := vx.bl; exact rfl
  · cases ek; obtain rfl := vx.int; exact rfl
  · split at ek
    · cases ek; obtain rfl := vx.str; exact ⟨by assumption, rfl⟩
    · cases ek
  · cases ek
    obtain ⟨p, vs, rfl, hp, r⟩ := vx.lst R1.g
    exact .inl ⟨vs, SqL.of hp, len_empty r.1⟩
  · cases ek
    obtain ⟨p, vs, rfl, hp, r, _⟩ := vx.tup R1.g
    exact .inr (.inl ⟨vs, hp, len_empty r.1⟩)
  · cases ek
theorem vt_not {a : Expr} {m : M Bool} (h : VT X a m) : VT X (.UnaryOp .Not a pos) (do let b ← m; Pure.pure (!b)) := by
  intro F W A s σ H Q R hw
  refine tt_of (pt_not pt_tt) ?_
  rw [wp_bind] at hw
  exact h F W A s σ H _ R (wp_mono hw (fun b s1 h1 W1 A1 H1 l1 R1 => h1 W1 A1 H1 l1 R1) fun _ _ z => z)
theorem vw_and1 {a : Expr} {m : M Bool} (h : VT X a m) : VW X (.BoolOp .And [a] pos) m := by
  intro F W A s σ H Q R hw wh pins sh I
  exact (pw_and1 (pt_tt (X := X) (e := a))).run wh pins sh σ H Q I (h F W A s σ H Q R hw)
theorem vw_or1 {a : Expr} {m : M Bool} (h : VT X a m) : VW X (.BoolOp .Or [a] pos) m := by
  intro F W A s σ H Q R hw wh pins sh I
  exact (pw_or1 (pt_tt (X := X) (e := a))).run wh pins sh σ H Q I (h F W A s σ H Q R hw)
theorem vw_and {a b : Expr} {rest : List Expr} {m n : M Bool} (h : VT X a m) (h' : VW X (.BoolOp .And (b :: rest) pos) n) : VW X (.BoolOp .And (a :: b :: rest) pos) (do let c ← m; if c then n else Pure.pure false) := by
  intro F W A s σ H Q R hw wh pins sh I
  refine (pw_and (pt_tt (X := X) (e := a)) (pw_tw (X := X))).run wh pins sh σ H Q I ?_
  rw [wp_bind] at hw
  refine h F W A s σ H _ R (wp_mono hw (fun c s1 h1 => ?_) fun _ _ z => z)
  intro W1 A1 H1 l1 R1
  cases c with
  | true => exact iteT (h' F W1 A1 s1 σ H1 Q R1 (wp_mono h1 (fun c s2 h2 W2 A2 H2 l2 R2 => h2 W2 A2 H2 (l1.trans l2) R2) fun _ _ z => z))
  | false => exact iteF (h1 W1 A1 H1 l1 R1)
theorem vw_or {a b : Expr} {rest : List Expr} {m n : M Bool} (h : VT X a m) (h' : VW X (.BoolOp .Or (b :: rest) pos) n) : VW X (.BoolOp .Or (a :: b :: rest) pos) (do let c ← m; if c then Pure.pure true else n) := by
  intro F W A s σ H Q R hw wh pins sh I
  refine (pw_or (pt_tt (X := X) (e := a)) (pw_tw (X := X))).run wh pins sh σ H Q I ?_
  rw [wp_bind] at hw
  refine h F W A s σ H _ R (wp_mono hw (fun c s1 h1 => ?_) fun _ _ z => z)
  intro W1 A1 H1 l1 R1
  cases c with
  | false => exact iteF (h' F W1 A1 s1 σ H1 Q R1 (wp_mono h1 (fun c s2 h2 W2 A2 H2 l2 R2 => h2 W2 A2 H2 (l1.trans l2) R2) fun _ _ z => z))
  | true => exact iteT (h1 W1 A1 H1 l1 R1)
/-! ### and, or, not as values; if -/
def mAndV (ma mb : M D) : M D := do
  match ← ma with
  | .bl true => mb
  | .bl false => Pure.pure (.bl false)
  | _ => stuck
def mOrV (ma mb : M D) : M D := do
  match ← ma with
  | .bl false => mb
  | .bl true => Pure.pure (.bl true)
  | _ => stuck
def mNotV (ma : M D) : M D := do
  match ← ma with
  | .bl b => Pure.pure (.bl (!b))
  | _ => stuck
theorem vd_one {a : Expr} {op : BoolOp} {m : M D} (h : VD X a m) : VD X (.BoolOp op [a] pos) m := by
  intro F W A s σ H Q R hw
  exact tx_of (pe_one pe_tx) (h F W A s σ H Q R hw)
theorem vd_and {a b : Expr} {rest : List Expr} {m n : M D} (h : VD X a m) (h' : VD X (.BoolOp .And (b :: rest) pos) n) : VD X (.BoolOp .And (a :: b :: rest) pos) (mAndV m n) := by
  intro F W A s σ H Q R hw
  refine tx_of (pe_and pe_tx pe_tx) ?_
  unfold mAndV at hw
  rw [wp_bind] at hw
  refine h F W A s σ H _ R (wp_mono hw (fun d s1 h1 => ?_) fun _ _ z => z)
  intro W1 A1 v H1 l1 R1 c1
  cases d with
  | bl k =>
    have c1 : Rp X.prog X.w X.K W1 v (.bl k) := c1
    cases c1
    refine ⟨k, rfl, ?_⟩
    cases k with
    | true => exact iteT (h' F W1 A1 s1 σ H1 Q R1 (wp_mono h1 (fun c s2 h2 W2 A2 v2 H2 l2 R2 c2 => h2 W2 A2 v2 H2 (l1.trans l2) R2 c2) fun _ _ z => z))
    | false => exact iteF (h1 W1 A1 _ H1 l1 R1 (.bl false))
  | _ => exact h1.elim
theorem vd_or {a b : Expr} {rest : List Expr} {m n : M D} (h : VD X a m) (h' : VD X (.BoolOp .Or (b :: rest) pos) n) : VD X (.BoolOp .Or (a :: b :: rest) pos) (mOrV m n) := by
  intro F W A s σ H Q R hw
  refine tx_of (pe_or pe_tx pe_tx) ?_
  unfold mOrV at hw
  rw [wp_bind] at hw
  refine h F W A s σ H _ R (wp_mono hw (fun d s1 h1 => ?_) fun _ _ z => z)
  intro W1 A1 v H1 l1 R1 c1
  cases d with
  | bl k =>
    have c1 : Rp X.prog X.w X.K W1 v (.bl k) := c1
    cases c1
    refine ⟨k, rfl, ?_⟩
    cases k with
    | false => exact iteF (h' F W1 A1 s1 σ H1 Q R1 (wp_mono h1 (fun c s2 h2 W2 A2 v2 H2 l2 R2 c2 => h2 W2 A2 v2 H2 (l1.trans l2) R2 c2) fun _ _ z => z))
    | true => exact iteT (h1 W1 A1 _ H1 l1 R1 (.bl true))
  | _ => exact h1.elim
theorem vd_not {a : Expr} {m : M D} (h : VD X a m) : VD X (.UnaryOp .Not a pos) (mNotV m) := by
  intro F W A s σ H Q R hw
  refine tx_of (pe_not pe_tx) ?_
  unfold mNotV at hw
  rw [wp_bind] at hw
  refine h F W A s σ H _ R (wp_mono hw (fun d s1 h1 => ?_) fun _ _ z => z)
  intro W1 A1 v H1 l1 R1 c1
  cases d with
  | bl k =>
    have c1 : Rp X.prog X.w X.K W1 v (.bl k) := c1
    cases c1
    exact ⟨k, rfl, h1 W1 A1 _ H1 l1 R1 (.bl _)⟩
  | _ => exact h1.elim
theorem vd_neg {a : Expr} {m : M D} (h : VD X a m) : VD X (.UnaryOp .USub a pos) (do let d ← m; let i ← asInt d; Pure.pure (.int (-i))) := by
  intro F W A s σ H Q R hw
  refine tx_of (pe_un un_neg pe_tx) ?_
  rw [wp_bind] at hw
  refine h F W A s σ H _ R (wp_mono hw (fun d s1 h1 => ?_) fun _ _ z => z)
  intro W1 A1 v H1 l1 R1 c1
  cases d with
  | int i =>
    have c1 : Rp X.prog X.w X.K W1 v (.int i) := c1
    cases c1
    exact ⟨i, rfl, h1 W1 A1 _ H1 l1 R1 (.int _)⟩
  | _ => exact h1.elim
theorem ve_if {c a b : Expr} {mc : M Bool} {ma mb : M Rz} (hc : VT X c mc) (ha : VE X a ma) (hb : VE X b mb) : VE X (.IfExp c a b pos) (do let k ← mc; if k then ma else mb) := by
  intro F W A s σ H Q R hw
  refine tx_of (pe_ifExp pt_tt pe_tx pe_tx) ?_
  rw [wp_bind] at hw
  refine hc F W A s σ H _ R (wp_mono hw (fun k s1 h1 => ?_) fun _ _ z => z)
  intro W1 A1 H1 l1 R1
  cases k with
  | true => exact iteT (ha F W1 A1 s1 σ H1 Q R1 (wp_mono h1 (fun c s2 h2 W2 A2 v2 H2 l2 R2 c2 => h2 W2 A2 v2 H2 (l1.trans l2) R2 c2) fun _ _ z => z))
  | false => exact iteF (hb F W1 A1 s1 σ H1 Q R1 (wp_mono h1 (fun c s2 h2 W2 A2 v2 H2 l2 R2 c2 => h2 W2 A2 v2 H2 (l1.trans l2) R2 c2) fun _ _ z => z))
end

/-! ### lists of expressions -/
def TAx (X : Cx) (es : List Expr) : TA := fun σ H Q => ∀ pos pins s, Inv X pins σ H s → wpAny (model X.prog X.w) X.A (spliced (backTo pos (starEach es X.env))) (AP X pins σ Q) X.xe s
theorem pa_ta {X : Cx} {es : List Expr} : PA X es (TAx X es) := ⟨fun pos pins s σ H Q I h => h pos pins s I⟩
theorem ta_of {X : Cx} {es : List Expr} {t : TA} {σ : Sl} {H : Hp} {Q : List V → Hp → Prop} (h : PA X es t) (q : t σ H Q) : TAx X es σ H Q := fun pos pins s I => h.run pos pins s σ H Q I q
def VA (X : Cx) (es : List Expr) (m : M (List D)) : Prop := ∀ (F : Hp) (W : Wd) (A : Nat → Addr) (s : S) (σ : Sl) (H : Hp) (Q : List V → Hp → Prop), Rel X.prog X.w X.K F W A s σ H →
  Wp m s (fun ds s' => ∀ W' A' vs H', Wle F W W' → Rel X.prog X.w X.K F W' A' s' σ H' → Rps X.prog X.w X.K W' vs ds → ds.length = es.length → Q vs H') NoX → TAx X es σ H Q
def isStar : Expr → Bool
  | .Starred _ _ => true
  | _ => false
theorem star_cons {X : Cx} {e : Expr} {es : List Expr} (h : isStar e = false) : starEach (e :: es) X.env = (false, eval e X.env) :: starEach es X.env := by
  cases e <;> first | rfl | cases h
theorem star_none {X : Cx} {pos : Pos} : ∀ {es : List Expr}, es.all (fun e => !isStar e) = true → (backTo pos (starEach es X.env)).any (·.1) = false
  | [], _ => rfl
  | e :: es, h => by
    simp only [List.all_cons, Bool.and_eq_true, Bool.not_eq_true'] at h
    rw [star_cons h.1]
    show (false || (backTo pos (starEach es X.env)).any (·.1)) = false
    rw [star_none h.2]; rfl
section
variable {X : Cx} {pos : Pos}
theorem va_nil : VA X [] (Pure.pure []) := by
  intro F W A s σ H Q R hw
  exact ta_of pa_nil (hw W A [] H Wle.refl R Rps.nil rfl)
theorem va_cons {e : Expr} {es : List Expr} {m : M D} {n : M (List D)} (h : VD X e m) (h' : VA X es n) (hs : isStar e = false) : VA X (e :: es) (do let d ← m; let ds ← n; Pure.pure (d :: ds)) := by
  intro F W A s σ H Q R hw
  refine ta_of (pa_cons pe_tx pa_ta (star_cons hs)) ?_
  rw [wp_bind] at hw
  refine h F W A s σ H _ R (wp_mono hw (fun d s1 h1 => ?_) fun _ _ z => z)
  intro W1 A1 v H1 l1 R1 c1
  rw [wp_bind] at h1
  refine h' F W1 A1 s1 σ H1 _ R1 (wp_mono h1 (fun ds s2 h2 => ?_) fun _ _ z => z)
  intro W2 A2 vs H2 l2 R2 c2 n2
  exact h2 W2 A2 (v :: vs) H2 (l1.trans l2) R2 (.cons (Rp.up c1 l2) c2) (by rw [List.length_cons, List.length_cons, n2])
theorem vd_tup {es : List Expr} {x1 : Nat} {m : M (List D)} (h : VA X es m) (hl : es.length ≤ 1000) : VD X (.Tuple es x1 pos) (do let ds ← m; Pure.pure (.tup ds)) := by
  intro F W A s σ H Q R hw
  refine tx_of (pe_tup pa_ta) ?_
  rw [wp_bind] at hw
  refine h F W A s σ H _ R (wp_mono hw (fun ds s1 h1 => ?_) fun _ _ z => z)
  intro W1 A1 vs H1 l1 R1 c1 n1
  refine ⟨by rw [c1.1, n1, sizeLine_eq]; omega, fun p hp => ?_⟩
  obtain ⟨l, R2, c⟩ := R1.tup hp c1
  exact h1 _ A1 _ _ (l1.trans l) R2 c
theorem ve_lst {es : List Expr} {m : M (List D)} (h : VA X es m) (hl : es.length ≤ 1000) : VE X (.List es pos) (do let ds ← m; Pure.pure (.own (.lst ds))) := by
  intro F W A s σ H Q R hw
  refine tx_of (pe_lst pa_ta) ?_
  rw [wp_bind] at hw
  refine h F W A s σ H _ R (wp_mono hw (fun ds s1 h1 => ?_) fun _ _ z => z)
  intro W1 A1 vs H1 l1 R1 c1 n1
  exact ⟨by rw [c1.1, n1, sizeLine_eq]; omega, fun p hp => h1 W1 A1 _ _ l1 (R1.laid hp) ⟨p, rfl, R1.fresh hp (.lst upd_same c1)⟩⟩
/-- {} -/
theorem ve_dict0 : VE X (.Dict [] [] pos) (Pure.pure (.own (.dct []))) := by
  intro F W A s σ H Q R hw
  refine tx_of pe_dnewK fun p hp => ?_
  exact hw W A _ _ Wle.refl (R.laid hp) ⟨p, rfl, R.fresh hp (.dk upd_same ⟨rfl, fun i _ _ e => by cases i <;> cases e⟩)⟩
end
end Vl
set_option Elab.async false
set_option linter.all false
set_option maxRecDepth 100000
set_option maxHeartbeats 4000000
/-! V8: dict displays, calls of what is built in -/
namespace Vl
open PySem PySem.Spec PyProof.Rows L2

/-! ### a new object that is protected while it is filled -/
section
variable {P : Program} {w : World} {K : PySem.W.Frag} {F H : Hp} {W : Wd} {A : Nat → Addr} {s : S} {σ : Sl} {p : Addr} {o : HO}
theorem Rel.guard (R : Rel P w K F W A s σ H) (hp : H p = none) : Rel P w K (upd F p o) W A s σ (upd H p o) := by
  obtain ⟨h1, h2, h3, h4⟩ := R.newF hp
  have R1 : Rel P w K F W A s σ (upd H p o) := R.laid hp
  refine ⟨R1.g, fun q u e => ?_, fun a ha => ⟨(R1.bn a ha).1, ?_⟩, R1.nd, R1.bl, R1.bx, R1.len, R1.sl, fun i b e => ?_, R1.inj⟩
  · by_cases z : q = p
    · subst z; rw [upd_same] at e ⊢; exact e
    · rw [upd_ne z] at e ⊢; exact R.f q u e
  · rw [upd_ne (fun z => h3 (by rw [← z]; exact ha))]; exact (R1.bn a ha).2
  · obtain ⟨e1, e2, e3, e4, e5⟩ := R1.ow i b e
    exact ⟨e1, e2, e3, by rw [upd_ne (h4 i b e)]; exact e4, e5⟩
/-- behind: the object is there, known to nobody; another content may stand in its place -/
theorem Rel.unguard {W0 : Wd} {o' : HO} (R : Rel P w K (upd F p o) W A s σ H) (hF : F p = none) (l : Wle (upd F p o) W0 W) (h0 : W0.G p = none) :
    H p = some o ∧ Rel P w K F W A s σ (upd H p o') ∧ Wle F W0 W ∧ (∀ {b : Box}, Bx P w K W (upd H p o') p b → Fr P w K F W A s (upd H p o') p b) := by
  have hH : H p = some o := R.f p o upd_same
  have n1 : W.G p = none := by
    cases q : W.G p with
    | none => rfl
    | some u =>
      rcases l.n p u q with z | z
      · rw [h0] at z; cases z
      · rw [upd_same] at z; cases z
  have n3 : p ∉ W.B := fun h => by have := (R.bn p h).2; rw [upd_same] at this; cases this
  have n4 : ∀ (i : Nat) c, s.env[i]? = some (some (.own c)) → A i ≠ p := fun i c e z => by
    have := (R.ow i c e).2.2.2.1
    rw [z, upd_same] at this; cases this
  have sub : ∀ q u, F q = some u → upd F p o q = some u := fun q u e => by
    rw [upd_ne (ne_of_none e hF)]; exact e
  have R1 : Rel P w K F W A s σ H := ⟨R.g, fun q u e => R.f q u (sub q u e), fun a ha => ⟨(R.bn a ha).1, by
    have := (R.bn a ha).2
    rw [upd_ne (fun z => n3 (by rw [← z]; exact ha))] at this; exact this⟩, R.nd, R.bl, R.bx, R.len, R.sl, fun i b e => by
    obtain ⟨e1, e2, e3, e4, e5⟩ := R.ow i b e
    rw [upd_ne (n4 i b e)] at e4
    exact ⟨e1, e2, e3, e4, e5⟩, R.inj⟩
  exact ⟨hH, R1.other n1 hF n3 n4, l.less sub, fun b => ⟨b, n1, hF, n3, n4⟩⟩
end

/-! ### {"a": e, ..} -/
theorem putK_off {ks : List (Key × V)} {k : Key} {v : V} (h : k ∉ ks.map (·.1)) : putK ks k v = ks ++ [(k, v)] := by
  unfold putK
  rw [if_neg]
  intro e
  obtain ⟨x, hx, e⟩ := List.any_eq_true.mp e
  exact h (List.mem_map.mpr ⟨x, hx, of_decide_eq_true e⟩)
theorem merge_nd : ∀ (more ks : List (Key × V)), (ks.map (·.1) ++ more.map (·.1)).Nodup → mergeK ks more = ks ++ more
  | [], ks, _ => by simp [mergeK]
  | p :: r, ks, h => by
    show mergeK (putK ks p.1 p.2) r = _
    have h' : (ks.map (·.1) ++ p.1 :: r.map (·.1)).Nodup := h
    have hp : p.1 ∉ ks.map (·.1) := fun hm => by
      have := (List.nodup_append.mp h').2.2
      exact this p.1 hm p.1 List.mem_cons_self rfl
    rw [putK_off hp, merge_nd r (ks ++ [(p.1, p.2)]) (by rw [List.map_append]; simpa using h'), List.append_assoc]
    rfl
def mAll {α : Type} : List (M α) → M (List α)
  | [] => Pure.pure []
  | m :: ms => do
    let d ← m
    let ds ← mAll ms
    Pure.pure (d :: ds)
def strKey : Option Expr → Option Str
  | some (.Constant (.str x) _ _) => some x
  | _ => none
def strKeys : List (Option Expr) → Option (List Str)
  | [] => some []
  | k :: r => match strKey k, strKeys r with
    | some x, some xs => some (x :: xs)
    | _, _ => none
theorem strKey_some {k : Option Expr} {x : Str} (h : strKey k = some x) : ∃ j p, k = some (.Constant (.str x) j p) := by
  unfold strKey at h
  split at h
  · cases h; exact ⟨_, _, rfl⟩
  · cases h
theorem strKeys_cons {k : Option Expr} {r : List (Option Expr)} {xs : List Str} (h : strKeys (k :: r) = some xs) : ∃ x ys, xs = x :: ys ∧ strKey k = some x ∧ strKeys r = some ys := by
  unfold strKeys at h
  split at h
  · cases h; exact ⟨_, _, rfl, by assumption, by assumption⟩
  · cases h
section
variable {X : Cx} {pos : Pos}
theorem disp_pps : ∀ {keys : List (Option Expr)} {values : List Expr} {xs : List Str}, strKeys keys = some xs → keys.length = values.length → PPs X pos keys values ((xs.zip values).map fun p => (tC (.str p.1), TX X p.2))
  | [], [], xs, e, _ => by cases e; exact pps_nil
  | k :: r, v :: vs, xs, e, hl => by
    obtain ⟨x, ys, rfl, e1, e2⟩ := strKeys_cons e
    obtain ⟨j, p, rfl⟩ := strKey_some e1
    exact pps_cons pe_str pe_tx (disp_pps e2 (Nat.succ.inj hl))
  | [], _ :: _, _, _, hl => nomatch hl
  | _ :: _, [], _, _, hl => nomatch hl
theorem strKeys_len : ∀ {keys : List (Option Expr)} {xs : List Str}, strKeys keys = some xs → xs.length = keys.length ∧ keys.all (·.isSome) = true
  | [], xs, e => by cases e; exact ⟨rfl, rfl⟩
  | k :: r, xs, e => by
    obtain ⟨x, ys, rfl, e1, e2⟩ := strKeys_cons e
    obtain ⟨j, p, rfl⟩ := strKey_some e1
    obtain ⟨h1, h2⟩ := strKeys_len e2
    exact ⟨by rw [List.length_cons, List.length_cons, h1], by rw [List.all_cons, h2]; rfl⟩
/-- expressions one behind another, as data -/
inductive VDs (X : Cx) : List Expr → List (M D) → Prop
  | nil : VDs X [] []
  | cons {e : Expr} {es : List Expr} {m : M D} {ms : List (M D)} (h : VD X e m) (t : VDs X es ms) : VDs X (e :: es) (m :: ms)
theorem VDs.len {es : List Expr} {ms : List (M D)} (h : VDs X es ms) : es.length = ms.length := by
  induction h with
  | nil => rfl
  | cons _ _ ih => rw [List.length_cons, List.length_cons, ih]
theorem disp_run : ∀ {xs : List Str} {es : List Expr} {ms : List (M D)}, VDs X es ms → xs.length = es.length → ∀ (F : Hp) (W : Wd) (A : Nat → Addr) (s : S) (σ : Sl) (H : Hp) (Q : List (V × V) → Hp → Prop), Rel X.prog X.w X.K F W A s σ H →
    Wp (mAll ms) s (fun ds s' => ∀ W' A' vs H', Wle F W W' → Rel X.prog X.w X.K F W' A' s' σ H' → Rps X.prog X.w X.K W' vs ds → vs.length = xs.length → Q ((xs.zip vs).map fun p => (V.str p.1, p.2)) H') NoX →
    tPairs ((xs.zip es).map fun p => (tC (.str p.1), TX X p.2)) σ H Q
  | [], _, _, .nil, _, F, W, A, s, σ, H, Q, R, hw => hw W A [] H Wle.refl R Rps.nil rfl
  | x :: xs, _, _, .cons (e := e) (m := m) (ms := ms) h t, hl, F, W, A, s, σ, H, Q, R, hw => by
    have hw : Wp (m >>= fun d => mAll ms >>= fun ds => Pure.pure (d :: ds)) s _ _ := hw
    rw [wp_bind] at hw
    show TX X e σ H fun y H2 => tPairs _ σ H2 fun ps H3 => Q ((.str x, y) :: ps) H3
    refine h F W A s σ H _ R (wp_mono hw (fun d s1 h1 => ?_) fun _ _ z => z)
    intro W1 A1 v H1 l1 R1 c1
    rw [wp_bind] at h1
    refine disp_run t (Nat.succ.inj hl) F W1 A1 s1 σ H1 _ R1 (wp_mono h1 (fun ds s2 h2 => ?_) fun _ _ z => z)
    intro W2 A2 vs H2 l2 R2 c2 n2
    exact h2 W2 A2 (v :: vs) H2 (l1.trans l2) R2 (.cons (Rp.up c1 l2) c2) (by rw [List.length_cons, List.length_cons, n2])
  | _ :: _, _, _, .nil, hl, _, _, _, _, _, _, _, _, _ => nomatch hl
  | [], _, _, .cons _ _, hl, _, _, _, _, _, _, _, _, _ => nomatch hl
/-- {"a": e, ..}: keys written texts, none twice -/
theorem ve_dict {keys : List (Option Expr)} {values : List Expr} {xs : List Str} {ms : List (M D)} (hk : strKeys keys = some xs) (hn : xs.Nodup) (hl : keys.length = values.length) (h0 : keys ≠ []) (h15 : keys.length ≤ 15) (h : VDs X values ms) :
    VE X (.Dict keys values pos) (do let ds ← mAll ms; Pure.pure (.own (.dct ((xs.map D.str).zip ds)))) := by
  intro F W A s σ H Q R hw
  obtain ⟨n1, n2⟩ := strKeys_len hk
  refine tx_of (pe_disp (disp_pps hk hl) n2 hl h0 h15) fun p hp => ?_
  rw [wp_bind] at hw
  obtain ⟨g1, g2, g3, g4⟩ := R.newF hp
  refine disp_run h (by rw [n1, hl]) (upd F p (.dK [])) W A s σ _ _ (R.guard hp) (wp_mono hw (fun ds s1 h1 => ?_) fun _ _ z => z)
  intro W1 A1 vs H1 l1 R1 c1 nv
  obtain ⟨e1, R2, l2, fr⟩ := R1.unguard (o' := .dK (xs.map Sum.inr |>.zip vs)) g2 l1 g1
  have ez : (xs.zip vs).map (fun p => (V.str p.1, p.2)) = ((xs.map (Sum.inr : Str → Key)).zip vs).map fun kv => (kV kv.1, kv.2) := by
    rw [List.zip_map_left, List.map_map]
    rfl
  have ek : ((xs.map (Sum.inr : Str → Key)).zip vs).map (·.1) = xs.map Sum.inr := by
    rw [List.map_fst_zip]
    rw [List.length_map, nv]; exact Nat.le_refl _
  have em : mergeK [] ((xs.map (Sum.inr : Str → Key)).zip vs) = (xs.map (Sum.inr : Str → Key)).zip vs := by
    rw [merge_nd _ [] (by rw [ek]; exact List.pairwise_map.mpr (List.Pairwise.imp (fun h z => h (Sum.inr.inj z)) hn))]
    rfl
  refine ⟨e1, _, ez, by rw [List.length_zip, List.length_map, nv, Nat.min_self, n1]; exact h15, ?_⟩
  rw [em]
  refine h1 W1 A1 _ _ l2 R2 ⟨p, rfl, fr (.dk upd_same ⟨?_, fun i e q e2 e3 => ?_⟩)⟩
  · rw [List.length_zip, List.length_zip, List.length_map, List.length_map, c1.1]
  · rw [List.getElem?_zip_eq_some] at e2 e3
    obtain ⟨a1, a2⟩ := e2
    obtain ⟨b1, b2⟩ := e3
    rw [List.getElem?_map] at a1 b1
    cases ex : xs[i]? with
    | none => rw [ex] at a1; cases a1
    | some x =>
      rw [ex] at a1 b1
      have a1 : e.1 = Sum.inr x := (Option.some.inj a1).symm
      have b1 : q.1 = D.str x := (Option.some.inj b1).symm
      exact ⟨by rw [a1, b1]; rfl, c1.2 i _ _ a2 b2⟩
end

/-! ### calls of what is built in -/
/-- operands, one behind another -/
inductive VRs (X : Cx) : List Expr → List (M Ref) → Prop
  | nil : VRs X [] []
  | cons {e : Expr} {es : List Expr} {m : M Ref} {ms : List (M Ref)} (h : VR X e m) (hs : isStar e = false) (t : VRs X es ms) : VRs X (e :: es) (m :: ms)
theorem VRs.stars {X : Cx} {es : List Expr} {ms : List (M Ref)} (h : VRs X es ms) : es.all (fun e => !isStar e) = true := by
  induction h with
  | nil => rfl
  | cons h hs t ih => rw [List.all_cons, hs, ih]; rfl
def lookAll : List Ref → M (List D)
  | [] => Pure.pure []
  | r :: rs => do
    let d ← look r
    let ds ← lookAll rs
    Pure.pure (d :: ds)
section
variable {X : Cx} {pos : Pos}
/-- the values of operands: each its reference -/
def cRs (X : Cx) (F : Hp) (W : Wd) (A : Nat → Addr) (s : S) (σ : Sl) (H : Hp) (vs : List V) (rs : List Ref) : Prop := Paired (cR X F W A s σ H) vs rs
theorem va_refs : ∀ {es : List Expr} {ms : List (M Ref)}, VRs X es ms → ∀ (F : Hp) (W : Wd) (A : Nat → Addr) (s : S) (σ : Sl) (H : Hp) (Q : List V → Hp → Prop), Rel X.prog X.w X.K F W A s σ H →
    Wp (mAll ms) s (fun rs s' => ∀ W' A' vs H', Wle F W W' → Rel X.prog X.w X.K F W' A' s' σ H' → cRs X F W' A' s' σ H' vs rs → Q vs H') NoX → TAx X es σ H Q
  | _, _, .nil, F, W, A, s, σ, H, Q, R, hw => ta_of pa_nil (hw W A [] H Wle.refl R .nil)
  | _, _, .cons (e := e) (es := es) (m := m) (ms := ms) h hs t, F, W, A, s, σ, H, Q, R, hw => by
    have hw : Wp (m >>= fun d => mAll ms >>= fun ds => Pure.pure (d :: ds)) s _ _ := hw
    refine ta_of (pa_cons pe_tx pa_ta (star_cons hs)) ?_
    rw [wp_bind] at hw
    refine h F W A s σ H _ R (wp_mono hw (fun r s1 h1 => ?_) fun _ _ z => z)
    intro W1 A1 v H1 l1 R1 c1
    rw [wp_bind] at h1
    refine va_refs t F W1 A1 s1 σ H1 _ R1 (wp_mono h1 (fun rs s2 h2 => ?_) fun _ _ z => z)
    intro W2 A2 vs H2 l2 R2 c2
    exact h2 W2 A2 (v :: vs) H2 (l1.trans l2) R2 (.cons (cR_up c1 l2) c2)
theorem wp_lookAll {F : Hp} {W : Wd} {A : Nat → Addr} {σ : Sl} {H : Hp} {Ψ : Exn → S → Prop} : ∀ {rs : List Ref} {vs : List V} {s : S} {Φ : List D → S → Prop}, Rel X.prog X.w X.K F W A s σ H → cRs X F W A s σ H vs rs → Wp (lookAll rs) s Φ Ψ →
    ∃ ds, Paired (Vw X.prog X.w X.K W H) vs ds ∧ Φ ds s
  | [], _, s, Φ, R, .nil, h => ⟨[], .nil, h⟩
  | r :: rs, _, s, Φ, R, .cons c t, h => by
    have h : Wp (look r >>= fun d => lookAll rs >>= fun ds => Pure.pure (d :: ds)) s Φ Ψ := h
    rw [wp_bind] at h
    obtain ⟨d, ed, h⟩ := wp_look h
    rw [wp_bind] at h
    obtain ⟨ds, e, h⟩ := wp_lookAll R t h
    exact ⟨d :: ds, .cons (deref_vw R c ed) e, h⟩
def TCl (X : Cx) (f : Value) : List V → Hp → VK → Prop := fun vs H Q => ∀ pins s σ us, Inv X pins σ H s → Vals vs us → wpAny (model X.prog X.w) X.A (call f us) (EP X pins σ Q) X.xe s
theorem cl_tc {f : Value} : CallR X f (TCl X f) := fun pins s σ H xs us Q I r h => h pins s σ us I r
theorem tc_of {f : Value} {r : List V → Hp → VK → Prop} {vs : List V} {H : Hp} {Q : VK} (h : CallR X f r) (q : r vs H Q) : TCl X f vs H Q := fun pins s σ us I rv => h pins s σ H vs us Q I rv q
/-- a built-in by values does what g does to data -/
def OpN (X : Cx) (f : Value) (g : List D → Option Rz) : Prop := ∀ (F : Hp) (W : Wd) (A : Nat → Addr) (s : S) (σ : Sl) (H : Hp) (vs : List V) (ds : List D) (r : Rz) (Q : VK), Rel X.prog X.w X.K F W A s σ H →
  Paired (Vw X.prog X.w X.K W H) vs ds → g ds = some r → (∀ W' z H', Wle F W W' → Rel X.prog X.w X.K F W' A s σ H' → RR X.prog X.w X.K F W' A s H' z r → Q z H') → TCl X f vs H Q
def mCallB (ms : List (M Ref)) (g : List D → Option Rz) : M Rz := do
  let rs ← mAll ms
  let ds ← lookAll rs
  orStuck (g ds)
theorem mCallB_run {es : List Expr} {ms : List (M Ref)} {f : Value} {g : List D → Option Rz} (h : VRs X es ms) (hf : OpN X f g) {F : Hp} {W : Wd} {A : Nat → Addr} {s : S} {σ : Sl} {H : Hp} {Q : VK} (R : Rel X.prog X.w X.K F W A s σ H)
    (hw : Wp (mCallB ms g) s (fun r s' => ∀ W' A' v H', Wle F W W' → Rel X.prog X.w X.K F W' A' s' σ H' → cE X F W' A' s' σ H' v r → Q v H') NoX) : tCB (TCl X f) (TAx X es) σ H Q := by
  unfold mCallB at hw
  rw [wp_bind] at hw
  refine va_refs h F W A s σ H _ R (wp_mono hw (fun rs s1 h1 => ?_) fun _ _ z => z)
  intro W1 A1 vs H1 l1 R1 c1
  rw [wp_bind] at h1
  obtain ⟨ds, e, h1⟩ := wp_lookAll R1 c1 h1
  obtain ⟨r, er, h1⟩ := wp_orStuck h1
  exact hf F W1 A1 s1 σ H1 vs ds r Q R1 e er fun W' z H' l R' c => h1 W' A1 z H' (l1.trans l) R' c
theorem ve_callB {x : Str} {p : Pos} {id : String} {e : Expr} {es : List Expr} {ms : List (M Ref)} {g : List D → Option Rz} (hf : OpN X (.builtin id) g) (hg : Gl X x) (hm : X.mg x = none) (hv : bootBuiltins x = some (.builtin id)) (h : VRs X (e :: es) ms)
    (hn : x ≠ "__name__") (hdb : (x == ("__debug__" : Str)) = false) : VE X (.Call (.Name x p) (e :: es) [] pos) (mCallB ms g) := by
  intro F W A s σ H Q R hw
  have hs := h.stars
  simp only [List.all_cons, Bool.and_eq_true, Bool.not_eq_true'] at hs
  exact tx_of (pe_callB cl_tc hg hm hv pa_ta hn hdb (star_cons hs.1) (star_none hs.2)) (mCallB_run h hf R hw)
theorem ve_callTy {x : Str} {p : Pos} {T : String} {e : Expr} {es : List Expr} {ms : List (M Ref)} {g : List D → Option Rz} (hf : OpN X (.type T) g) (hg : Gl X x) (hm : X.mg x = none) (hv : bootBuiltins x = some (.type T)) (h : VRs X (e :: es) ms)
    (hn : x ≠ "__name__") (hdb : (x == ("__debug__" : Str)) = false) : VE X (.Call (.Name x p) (e :: es) [] pos) (mCallB ms g) := by
  intro F W A s σ H Q R hw
  have hs := h.stars
  simp only [List.all_cons, Bool.and_eq_true, Bool.not_eq_true'] at hs
  exact tx_of (pe_callTy cl_tc hg hm hv pa_ta hn hdb (star_cons hs.1) (star_none hs.2)) (mCallB_run h hf R hw)
end
end Vl
set_option Elab.async false
set_option linter.all false
set_option maxRecDepth 100000
set_option maxHeartbeats 4000000
/-! V9: what is built in, by name -/
namespace Vl
open PySem PySem.Spec PyProof.Rows L2

theorem pair1 {α β : Type} {R : α → β → Prop} {vs : List α} {y : β} (h : Paired R vs [y]) : ∃ v, vs = [v] ∧ R v y := by
  cases h with
  | cons r t => cases t; exact ⟨_, rfl, r⟩
theorem pair2 {α β : Type} {R : α → β → Prop} {vs : List α} {y z : β} (h : Paired R vs [y, z]) : ∃ v u, vs = [v, u] ∧ R v y ∧ R u z := by
  cases h with
  | cons r t =>
    obtain ⟨u, rfl, q⟩ := pair1 t
    exact ⟨_, u, rfl, r, q⟩
def blsD : List D → Option (List Bool)
  | [] => some []
  | x :: r => match x, blsD r with
    | .bl b, some bs => some (b :: bs)
    | _, _ => none
theorem blsD_some : ∀ {xs : List D} {bs : List Bool}, blsD xs = some bs → xs = bs.map D.bl
  | [], bs, e => by cases e; rfl
  | x :: r, bs, e => by
    unfold blsD at e
    split at e
    · rename_i b cs h
      cases e
      rw [blsD_some h]; rfl
    · cases e
def gLen : List D → Option Rz
  | [.lst xs] => some (.dat (.int xs.length))
  | [.tup xs] => some (.dat (.int xs.length))
  | [.str x] => if x.length ≤ sizeLine then some (.dat (.int x.length)) else none
  | [.dct kvs] => some (.dat (.int kvs.length))
  | _ => none
def gAbs : List D → Option Rz
  | [.int i] => some (.dat (.int (if i < 0 then -i else i)))
  | _ => none
/-- the greatest, the least of a list -/
def maxI : List Int → Int
  | [] => 0
  | [x] => x
  | x :: r => max x (maxI r)
def minI : List Int → Int
  | [] => 0
  | [x] => x
  | x :: r => min x (minI r)
def gMax : List D → Option Rz
  | [.int i, .int j] => some (.dat (.int (if j > i then j else i)))
  | [.lst xs] => (match intsD xs with
    | some (n :: ns) => some (.dat (.int (maxI (n :: ns))))
    | _ => none)
  | _ => none
def gMin : List D → Option Rz
  | [.int i, .int j] => some (.dat (.int (if j < i then j else i)))
  | [.lst xs] => (match intsD xs with
    | some (n :: ns) => some (.dat (.int (minI (n :: ns))))
    | _ => none)
  | _ => none
def gSum : List D → Option Rz
  | [.lst xs] => (intsD xs).map fun ns => .dat (.int ns.sum)
  | _ => none
def gAny : List D → Option Rz
  | [.lst xs] => (blsD xs).map fun bs => .dat (.bl (bs.any id))
  | _ => none
def gAll : List D → Option Rz
  | [.lst xs] => (blsD xs).map fun bs => .dat (.bl (bs.all id))
  | _ => none
def gInt : List D → Option Rz
  | [.int i] => some (.dat (.int i))
  | [.bl b] => some (.dat (.int (if b then 1 else 0)))
  | _ => none
def gList : List D → Option Rz
  | [.lst xs] => some (.own (.lst xs))
  | [.tup xs] => some (.own (.lst xs))
  | [.scr ns] => some (.own (.lst (ns.map D.int)))
  | _ => none
def gTuple : List D → Option Rz
  | [.lst xs] => some (.dat (.tup xs))
  | [.tup xs] => some (.dat (.tup xs))
  | _ => none
def plainKeys : List (D × D) → Bool
  | (.tup _, _) :: _ => false
  | _ => true
def gDict : List D → Option Rz
  | [.dct kvs] => if plainKeys kvs = true then some (.own (.dct kvs)) else none
  | _ => none
theorem maxI_mem : ∀ (n : Int) (ns : List Int), maxI (n :: ns) ∈ n :: ns ∧ ∀ y ∈ n :: ns, y ≤ maxI (n :: ns)
  | n, [] => ⟨List.mem_cons_self, fun y hy => by simp at hy; subst hy; exact Int.le_refl _⟩
  | n, m :: ns => by
    obtain ⟨h1, h2⟩ := maxI_mem m ns
    have e : maxI (n :: m :: ns) = max n (maxI (m :: ns)) := rfl
    rw [e]
    refine ⟨?_, fun y hy => ?_⟩
    · by_cases h : n ≤ maxI (m :: ns)
      · rw [Int.max_eq_right h]; exact List.mem_cons_of_mem _ h1
      · rw [Int.max_eq_left (by omega)]; exact List.mem_cons_self
    · rcases List.mem_cons.mp hy with rfl | hy
      · exact Int.le_max_left _ _
      · exact Int.le_trans (h2 y hy) (Int.le_max_right _ _)
theorem minI_mem : ∀ (n : Int) (ns : List Int), minI (n :: ns) ∈ n :: ns ∧ ∀ y ∈ n :: ns, minI (n :: ns) ≤ y
  | n, [] => ⟨List.mem_cons_self, fun y hy => by simp at hy; subst hy; exact Int.le_refl _⟩
  | n, m :: ns => by
    obtain ⟨h1, h2⟩ := minI_mem m ns
    have e : minI (n :: m :: ns) = min n (minI (m :: ns)) := rfl
    rw [e]
    refine ⟨?_, fun y hy => ?_⟩
    · by_cases h : n ≤ minI (m :: ns)
      · rw [Int.min_eq_left h]; exact List.mem_cons_self
      · rw [Int.min_eq_right (by omega)]; exact List.mem_cons_of_mem _ h1
    · rcases List.mem_cons.mp hy with rfl | hy
      · exact Int.min_le_left _ _
      · exact Int.le_trans (Int.min_le_right _ _) (h2 y hy)
section
variable {X : Cx}
theorem opN_len : OpN X (.builtin "len") gLen := by
  intro F W A s σ H vs ds r Q R hp e q
  unfold gLen at e
  split at e
  · cases e
    obtain ⟨v, rfl, c⟩ := pair1 hp
    obtain ⟨a, ws, rfl, h, rr⟩ := c.lst R.g
    exact tc_of call_len ⟨_, _, rfl, .inl ⟨ws, SqL.of h, rfl⟩, by rw [rr.1]; exact end_dat R q (.int _)⟩
  · cases e
    obtain ⟨v, rfl, c⟩ := pair1 hp
    obtain ⟨a, ws, rfl, h, rr, _⟩ := c.tup R.g
    exact tc_of call_len ⟨_, _, rfl, .inr ⟨ws, h, rfl⟩, by rw [rr.1]; exact end_dat R q (.int _)⟩
  · split at e
    · cases e
      obtain ⟨v, rfl, c⟩ := pair1 hp
      obtain rfl := c.str
      exact tc_of call_len ⟨_, _, rfl, ⟨by assumption, rfl⟩, end_dat R q (.int _)⟩
    · cases e
  · cases e
    obtain ⟨v, rfl, c⟩ := pair1 hp
    obtain ⟨a, rfl, d⟩ := c.dct R.g
    intro pins sh σ' us I rv
    cases rv with
    | cons r1 r2 =>
      cases r2
      cases r1
      rcases d with ⟨en, h1, h2⟩ | ⟨en, h1, h2, h3⟩
      · exact d_len I h1 fun t s' I' => ⟨.int _, H, I', ⟨t, rfl⟩, by rw [h2.1]; exact end_dat R q (.int _)⟩
      · obtain ⟨hz, hs, xs, _, hm, hp3⟩ := dx_of I R.g h1 h2
        have hk : sh.heap.DictKeyed (nestedKind X.prog X.w) a (pairsH xs) := ⟨xs, hm, rfl⟩
        have el : (pairsH xs).length = _ := pairsH_length xs
        have e2 : xs.length = _ := (Paired.length hp3).symm
        have hz' : en.length = _ := h2.1
        have hsl := sizeLine_eq
        refine PyProof.Rows.call_len_slot (n := (pairsH xs).length) hm.typeIs PySem.F.slot_dict_len (fun Q' hq => len_keyed hs hk hq) (by omega) (by omega) ?_
        exact ⟨.int _, H, I.tok _, ⟨_, rfl⟩, by rw [el, e2]; exact end_dat R q (.int _)⟩
  · cases e
theorem opN_abs : OpN X (.builtin "abs") gAbs := by
  intro F W A s σ H vs ds r Q R hp e q
  unfold gAbs at e
  split at e
  · cases e
    obtain ⟨v, rfl, c⟩ := pair1 hp
    obtain rfl := c.int
    exact tc_of call_abs ⟨_, rfl, end_dat R q (.int _)⟩
  · cases e
theorem opN_max (hc : X.calm = true) : OpN X (.builtin "max") gMax := by
  intro F W A s σ H vs ds r Q R hp e q
  unfold gMax at e
  split at e
  · cases e
    obtain ⟨v, u, rfl, c, c'⟩ := pair2 hp
    obtain rfl := c.int
    obtain rfl := c'.int
    exact tc_of (call_max2 hc) ⟨_, _, rfl, end_dat R q (.int _)⟩
  · split at e
    · rename_i n ns h
      cases e
      obtain rfl := intsD_some h
      obtain ⟨v, rfl, c⟩ := pair1 hp
      obtain ⟨a, ws, rfl, hw, rr⟩ := c.lst R.g
      obtain rfl := rps_ints rr
      refine tc_of (cr_max hc) ⟨a, n :: ns, rfl, SqL.of hw, Nat.succ_pos _, fun m hm hle => ?_⟩
      obtain ⟨h1, h2⟩ := maxI_mem n ns
      have : m = maxI (n :: ns) := Int.le_antisymm (h2 m hm) (hle _ h1)
      rw [this]
      exact end_dat R q (.int _)
    · cases e
  · cases e
theorem opN_min (hc : X.calm = true) : OpN X (.builtin "min") gMin := by
  intro F W A s σ H vs ds r Q R hp e q
  unfold gMin at e
  split at e
  · cases e
    obtain ⟨v, u, rfl, c, c'⟩ := pair2 hp
    obtain rfl := c.int
    obtain rfl := c'.int
    exact tc_of (call_min2 hc) ⟨_, _, rfl, end_dat R q (.int _)⟩
  · split at e
    · rename_i n ns h
      cases e
      obtain rfl := intsD_some h
      obtain ⟨v, rfl, c⟩ := pair1 hp
      obtain ⟨a, ws, rfl, hw, rr⟩ := c.lst R.g
      obtain rfl := rps_ints rr
      refine tc_of (cr_min hc) ⟨a, n :: ns, rfl, SqL.of hw, Nat.succ_pos _, fun m hm hle => ?_⟩
      obtain ⟨h1, h2⟩ := minI_mem n ns
      have : m = minI (n :: ns) := Int.le_antisymm (hle _ h1) (h2 m hm)
      rw [this]
      exact end_dat R q (.int _)
    · cases e
  · cases e
theorem opN_sum (hc : X.calm = true) : OpN X (.builtin "sum") gSum := by
  intro F W A s σ H vs ds r Q R hp e q
  unfold gSum at e
  split at e
  · obtain ⟨ns, h, rfl⟩ := Option.map_eq_some_iff.mp e
    obtain rfl := intsD_some h
    obtain ⟨v, rfl, c⟩ := pair1 hp
    obtain ⟨a, ws, rfl, hw, rr⟩ := c.lst R.g
    obtain rfl := rps_ints rr
    exact tc_of (cr_sum hc) ⟨a, ns, rfl, SqL.of hw, end_dat R q (.int _)⟩
  · cases e
theorem opN_any (hc : X.calm = true) : OpN X (.builtin "any") gAny := by
  intro F W A s σ H vs ds r Q R hp e q
  unfold gAny at e
  split at e
  · obtain ⟨ns, h, rfl⟩ := Option.map_eq_some_iff.mp e
    obtain rfl := blsD_some h
    obtain ⟨v, rfl, c⟩ := pair1 hp
    obtain ⟨a, ws, rfl, hw, rr⟩ := c.lst R.g
    obtain rfl := rps_bls rr
    exact tc_of (cr_any hc) ⟨a, ns, rfl, SqL.of hw, end_dat R q (.bl _)⟩
  · cases e
theorem opN_all (hc : X.calm = true) : OpN X (.builtin "all") gAll := by
  intro F W A s σ H vs ds r Q R hp e q
  unfold gAll at e
  split at e
  · obtain ⟨ns, h, rfl⟩ := Option.map_eq_some_iff.mp e
    obtain rfl := blsD_some h
    obtain ⟨v, rfl, c⟩ := pair1 hp
    obtain ⟨a, ws, rfl, hw, rr⟩ := c.lst R.g
    obtain rfl := rps_bls rr
    exact tc_of (cr_all hc) ⟨a, ns, rfl, SqL.of hw, end_dat R q (.bl _)⟩
  · cases e
theorem opN_int : OpN X (.type "int") gInt := by
  intro F W A s σ H vs ds r Q R hp e q
  unfold gInt at e
  split at e
  · cases e
    obtain ⟨v, rfl, c⟩ := pair1 hp
    obtain rfl := c.int
    exact tc_of call_int1 (.inl ⟨_, rfl, end_dat R q (.int _)⟩)
  · cases e
    obtain ⟨v, rfl, c⟩ := pair1 hp
    obtain rfl := c.bl
    exact tc_of call_int1 (.inr ⟨_, rfl, end_dat R q (.int _)⟩)
  · cases e
theorem opN_list : OpN X (.type "list") gList := by
  intro F W A s σ H vs ds r Q R hp e q
  unfold gList at e
  split at e
  · cases e
    obtain ⟨v, rfl, c⟩ := pair1 hp
    obtain ⟨a, ws, rfl, hw, rr⟩ := c.lst R.g
    exact tc_of call_list_of ⟨a, ws, rfl, .inl (SqL.of hw), end_lst R q rr⟩
  · cases e
    obtain ⟨v, rfl, c⟩ := pair1 hp
    obtain ⟨a, ws, rfl, hw, rr, _⟩ := c.tup R.g
    exact tc_of call_list_of ⟨a, ws, rfl, .inr hw, end_lst R q rr⟩
  · cases e
    obtain ⟨v, rfl, c⟩ := pair1 hp
    obtain ⟨a, rfl, hw⟩ := c.scr R.g
    exact tc_of call_list_of ⟨a, _, rfl, .inl hw, end_lst R q rps_of_ints⟩
  · cases e
theorem opN_tuple : OpN X (.type "tuple") gTuple := by
  intro F W A s σ H vs ds r Q R hp e q
  unfold gTuple at e
  split at e
  · cases e
    obtain ⟨v, rfl, c⟩ := pair1 hp
    obtain ⟨a, ws, rfl, hw, rr⟩ := c.lst R.g
    exact tc_of call_tuple_of ⟨a, ws, rfl, .inl ⟨SqL.of hw, end_tup R q rr⟩⟩
  · cases e
    obtain ⟨v, rfl, c⟩ := pair1 hp
    obtain ⟨a, ws, rfl, hw, rr, g⟩ := c.tup R.g
    exact tc_of call_tuple_of ⟨a, ws, rfl, .inr ⟨hw, end_dat R q (.tup g rr.1 rr.2)⟩⟩
  · cases e
theorem opN_dict : OpN X (.type "dict") gDict := by
  intro F W A s σ H vs ds r Q R hp e q
  unfold gDict at e
  split at e
  · rename_i kvs
    split at e
    · rename_i hk
      cases e
      obtain ⟨v, rfl, c⟩ := pair1 hp
      obtain ⟨a, rfl, d⟩ := c.dct R.g
      have hd : ∃ en, Rd H a (.dK en) ∧ RpK X.prog X.w X.K W en kvs := by
        rcases d with d | ⟨en, h1, h2, h3⟩
        · exact d
        · exfalso
          cases en with
          | nil => exact h3 rfl
          | cons e en =>
            cases kvs with
            | nil => cases h2.1
            | cons p kvs =>
              obtain ⟨⟨z1, _⟩, z2, _⟩ := h2.2 0 e p rfl rfl
              obtain ⟨y, v⟩ := p
              have z1 : y = nD e.1 := z1
              have z2 : Rp X.prog X.w X.K W (.ref e.2.1) y := z2
              cases q : e.1 with
              | tup ks =>
                rw [q] at z1; subst z1
                exact absurd hk (by show ¬ (false = true); exact Bool.false_ne_true)
              | none => rw [q] at z1; subst z1; cases z2
              | num _ => rw [q] at z1; subst z1; cases z2
              | text _ => rw [q] at z1; subst z1; cases z2
      obtain ⟨en, h1, h2⟩ := hd
      intro pins sh σ' us I rv
      cases rv with
      | cons r1 r2 =>
        cases r2
        cases r1
        refine d_copyOf I h1 fun p s' hp' I' => ⟨.ref p, _, I', rfl, ?_⟩
        exact q W _ _ Wle.refl (R.laid hp') ⟨p, rfl, R.fresh hp' (.dk upd_same h2)⟩
    · cases e
  · cases e
end

/-! ### isinstance -/
inductive Ty where
  | int | bool | str | list | tuple | dict
def Ty.nm : Ty → String
  | .int => "int"
  | .bool => "bool"
  | .str => "str"
  | .list => "list"
  | .tuple => "tuple"
  | .dict => "dict"
def dIsi : Ty → D → Option Bool
  | .int, .int _ => some true
  | .int, .bl _ => some true
  | .bool, .bl _ => some true
  | .str, .str _ => some true
  | .list, .lst _ => some true
  | .tuple, .tup _ => some true
  | .dict, .dct _ => some true
  | _, .box _ => none
  | _, .scr _ => none
  | _, _ => some false
def tyN : D → String
  | .non => "NoneType"
  | .bl _ => "bool"
  | .int _ => "int"
  | .str _ => "str"
  | .lst _ => "list"
  | .tup _ => "tuple"
  | _ => "dict"
theorem kitB_all : ["NoneType", "bool", "int", "str", "list", "tuple", "dict"].all (fun a => ["int", "bool", "str", "list", "tuple", "dict"].all fun b => decide (kitB a b = some (a == b || (a == "bool" && b == "int")))) = true := by decide +kernel
theorem kitB_of (a b : String) (ha : a ∈ ["NoneType", "bool", "int", "str", "list", "tuple", "dict"]) (hb : b ∈ ["int", "bool", "str", "list", "tuple", "dict"]) : kitB a b = some (a == b || (a == "bool" && b == "int")) :=
  of_decide_eq_true (List.all_eq_true.mp (List.all_eq_true.mp kitB_all a ha) b hb)
section
variable {X : Cx} {pos : Pos}
theorem tyN_mem (d : D) : tyN d ∈ ["NoneType", "bool", "int", "str", "list", "tuple", "dict"] := by cases d <;> simp [tyN]
theorem nm_mem (t : Ty) : t.nm ∈ ["int", "bool", "str", "list", "tuple", "dict"] := by cases t <;> decide
theorem isi_val {t : Ty} {d : D} {b : Bool} (h : dIsi t d = some b) : kitB (tyN d) t.nm = some b ∧ (∀ k, d ≠ .box k) ∧ ∀ ns, d ≠ .scr ns := by
  cases d <;> cases t <;> cases h <;> exact ⟨kitB_of _ _ (tyN_mem _) (nm_mem _), ⟨(fun k z => by cases z), (fun k z => by cases z)⟩⟩
theorem opN_isi (t : Ty) {F : Hp} {W : Wd} {A : Nat → Addr} {s : S} {σ : Sl} {H : Hp} {v : V} {d : D} {b : Bool} {Q : VK} (R : Rel X.prog X.w X.K F W A s σ H) (c : Vw X.prog X.w X.K W H v d) (e : dIsi t d = some b) (q : Q (.bl b) H) :
    TCl X (.builtin "isinstance") [v, .ty t.nm] H Q := by
  obtain ⟨hk, nb, ns⟩ := isi_val e
  have go : TyX X.K H v (.type (tyN d)) → TCl X (.builtin "isinstance") [v, .ty t.nm] H Q := fun ty => tc_of call_isi ⟨v, .ty t.nm, _, _, b, rfl, .ty _, ty, kit_ty hk, q⟩
  cases d with
  | non => obtain rfl := c.non; exact go (.base .non)
  | bl k => obtain rfl := c.bl; exact go (.base (.bl k))
  | int i => obtain rfl := c.int; exact go (.base (.int i))
  | str x => obtain rfl := c.str; exact go (.base (.str x))
  | lst xs => obtain ⟨a, vs, rfl, h, _⟩ := c.lst R.g; exact go (.base (.lst h))
  | tup xs =>
    obtain ⟨a, vs, rfl, h, _⟩ := c.tup R.g
    rcases h with (h | ⟨o, h⟩) | ⟨o, its, n, h1, h2, _⟩
    · exact go (.base (.tup h))
    · exact go (.fTuple h)
    · exact go (.kTuple h1 h2)
  | dct kvs =>
    obtain ⟨a, rfl, dd⟩ := c.dct R.g
    rcases dd with ⟨en, h, _⟩ | ⟨en, h1, h2, _⟩
    · intro pins sh σ' us I rv
      cases rv with
      | cons r1 r2 =>
        cases r2 with
        | cons r3 r4 =>
          cases r4
          cases r1
          cases r3
          obtain ⟨_, _, _, _, o, es, ep, h4, h5, _⟩ := dk_rd I.hok h
          exact PySem.W.kia_one PySem.W.kitx_dict I.kIn ⟨o, h4, h5.1⟩ (kit_ty (K := X.K) hk) (fun z => nomatch z) fun tk => ⟨.bl b, H, I.tok tk, rfl, q⟩
    · intro pins sh σ' us I rv
      cases rv with
      | cons r1 r2 =>
        cases r2 with
        | cons r3 r4 =>
          cases r4
          cases r1
          cases r3
          obtain ⟨_, _, xs, _, ⟨o, es, ep, h4, h5, _⟩, _⟩ := dx_of I R.g h1 h2
          exact PySem.W.kia_one PySem.W.kitx_dict I.kIn ⟨o, h4, h5.1⟩ (kit_ty (K := X.K) hk) (fun z => nomatch z) fun tk => ⟨.bl b, H, I.tok tk, rfl, q⟩
  | box k => exact absurd rfl (nb k)
  | scr k => exact absurd rfl (ns k)
/-- isinstance(e, T) -/
theorem ve_isi {t : Ty} {x y : Str} {p p2 : Pos} {e : Expr} {m : M Ref} (h : VR X e m) (hs : isStar e = false) (hg : Gl X x) (hm : X.mg x = none) (hv : bootBuiltins x = some (.builtin "isinstance")) (hn : x ≠ "__name__") (hdb : (x == ("__debug__" : Str)) = false)
    (hg' : Gl X y) (hm' : X.mg y = none) (hv' : bootBuiltins y = some (.type t.nm)) (hn' : y ≠ "__name__") (hdb' : (y == ("__debug__" : Str)) = false) :
    VE X (.Call (.Name x p) [e, .Name y p2] [] pos) (do let r ← m; let d ← look r; let b ← orStuck (dIsi t d); Pure.pure (.dat (.bl b))) := by
  intro F W A s σ H Q R hw
  refine tx_of (pe_callB cl_tc hg hm hv (pa_cons pe_tx (pa_cons (pe_bltn (v := .ty t.nm) hg' hm' hv' rfl hn' hdb') pa_nil) (star_cons hs)) hn hdb (star_cons hs) rfl) ?_
  rw [wp_bind] at hw
  refine h F W A s σ H _ R (wp_mono hw (fun r s1 h1 => ?_) fun _ _ z => z)
  intro W1 A1 v H1 l1 R1 c1
  rw [wp_bind] at h1
  obtain ⟨d, ed, h1⟩ := wp_look h1
  rw [wp_bind] at h1
  obtain ⟨b, eb, h1⟩ := wp_orStuck h1
  exact opN_isi t R1 (deref_vw R1 c1 ed) eb (h1 W1 A1 _ H1 l1 R1 (.bl b))
end
end Vl
set_option Elab.async false
set_option linter.all false
set_option maxRecDepth 100000
set_option maxHeartbeats 4000000
/-! V10: calls of the program's own defs, methods, instances; attributes; global names -/
namespace Vl
open PySem PySem.Spec PyProof.Rows L2

/-- the end of a call -/
inductive FR where
  | ok (r : Rz) (sto : List Box) | exn (x : Exn) (sto : List Box) | stuck
abbrev FV := List D → List Box → FR
section
variable (P : Program) (w : World) (K : PySem.W.Frag)
/-- the relation where no frame is -/
abbrev Rel0 (F : Hp) (W : Wd) (sto : List Box) (H : Hp) : Prop := Rel P w K F W (fun _ => 0) ⟨[], sto⟩ [] H
/-- what a def promises that does what fn does -/
def spV (n : Nat) (fn : FV) : Sp := fun vs H Q _ => ∃ F W sto ds, Rel0 P w K F W sto H ∧ Rps P w K W vs ds ∧ vs.length = n ∧ match fn ds sto with
  | .ok r sto' => ∀ W' v H', Wle F W W' → Rel0 P w K F W' sto' H' → RR P w K F W' (fun _ => 0) ⟨[], sto'⟩ H' v r → Q v H'
  | _ => False
end
section
variable {P : Program} {w : World} {K : PySem.W.Frag} {F H H' : Hp} {W W' : Wd} {A : Nat → Addr} {s : S} {σ : Sl} {sto' : List Box}
open Classical in
/-- what a callee may not touch: all but the boxes -/
noncomputable def Fcl (H : Hp) (W : Wd) : Hp := fun p => if p ∈ W.B then none else H p
theorem fcl_some {p : Addr} {o : HO} (h : Fcl H W p = some o) : H p = some o ∧ p ∉ W.B := by
  unfold Fcl at h
  split at h
  · cases h
  · exact ⟨h, by assumption⟩
theorem fcl_of {p : Addr} {o : HO} (h : H p = some o) (hb : p ∉ W.B) : Fcl H W p = some o := by
  unfold Fcl
  rw [if_neg hb]; exact h
theorem fcl_box {p : Addr} (hb : p ∈ W.B) : Fcl H W p = none := by
  unfold Fcl
  rw [if_pos hb]
theorem fcl_none (R : Rel P w K F W A s σ H) {p : Addr} (h : Fcl H W p = none) : F p = none := by
  by_cases hb : p ∈ W.B
  · exact (R.bn p hb).2
  · cases e : F p with
    | none => rfl
    | some o => rw [fcl_of (R.f p o e) hb] at h; cases h
theorem Rel.enter (R : Rel P w K F W A s σ H) : Rel0 P w K (Fcl H W) W s.sto H :=
  ⟨R.g, fun p o e => (fcl_some e).1, fun a ha => ⟨(R.bn a ha).1, fcl_box ha⟩, R.nd, R.bl, R.bx, rfl, fun i d e => (by cases i <;> cases e), fun i d e => (by cases i <;> cases e), fun i j b c e => (by cases i <;> cases e)⟩
theorem Rel.leave (R : Rel P w K F W A s σ H) (l : Wle (Fcl H W) W W') (R' : Rel0 P w K (Fcl H W) W' sto' H') : Wle F W W' ∧ Rel P w K F W' A { s with sto := sto' } σ H' ∧
    ∀ {v : V} {r : Rz}, RR P w K (Fcl H W) W' (fun _ => 0) ⟨[], sto'⟩ H' v r → RR P w K F W' A { s with sto := sto' } H' v r := by
  have fn : ∀ p, Fcl H W p = none → F p = none := fun p => fcl_none R
  have ownF : ∀ (i : Nat) b, s.env[i]? = some (some (.own b)) → ∃ o, H (A i) = some o ∧ Fcl H W (A i) = some o := fun i b e => by
    obtain ⟨_, e2, _, _, e5⟩ := R.ow i b e
    obtain ⟨o, ho⟩ := bx_some e2
    exact ⟨o, ho, fcl_of ho e5⟩
  refine ⟨⟨l.g, l.b, fun p o e => (l.n p o e).imp id (fn p)⟩, ⟨R'.g, fun p o e => ?_, fun a ha => ⟨(R'.bn a ha).1, fn a (R'.bn a ha).2⟩, R'.nd, R'.bl, R'.bx, R.len, fun i d e => ?_, fun i b e => ?_, R.inj⟩, fun {v r} c => ?_⟩
  · exact R'.f p o (fcl_of (R.f p o e) fun hb => by rw [(R.bn p hb).2] at e; cases e)
  · obtain ⟨v, e1, e2⟩ := R.sl i d e
    exact ⟨v, e1, e2.up l⟩
  · obtain ⟨e1, e2, e3, e4, e5⟩ := R.ow i b e
    obtain ⟨o, ho, hF⟩ := ownF i b e
    refine ⟨e1, e2.up l (by rw [R'.f _ _ hF, ho]), ?_, e4, fun hb => ?_⟩
    · cases q : W'.G (A i) with
      | none => rfl
      | some u =>
        rcases l.n _ u q with z | z
        · rw [e3] at z; cases z
        · rw [hF] at z; cases z
    · have := (R'.bn _ hb).2
      rw [hF] at this; cases this
  · cases r with
    | dat d => exact c
    | own b =>
      obtain ⟨a, rfl, f⟩ := c
      exact ⟨a, rfl, f.bx, f.g, fn a f.f, f.b, fun i c' e z => by
        obtain ⟨o, _, hF⟩ := ownF i c' e
        rw [z, f.f] at hF; cases hF⟩
/-- a fresh object becomes a box -/
theorem Rel.box {a : Addr} {b : Box} (R : Rel P w K F W A s σ H) (f : Fr P w K F W A s H a b) : Wle F W ⟨W.G, W.B ++ [a]⟩ ∧ Rel P w K F ⟨W.G, W.B ++ [a]⟩ A { s with sto := s.sto ++ [b] } σ H ∧ Rp P w K ⟨W.G, W.B ++ [a]⟩ (.ref a) (.box s.sto.length) := by
  have l : Wle F W ⟨W.G, W.B ++ [a]⟩ := ⟨fun _ _ h => h, ⟨[a], rfl⟩, fun _ _ h => .inl h⟩
  refine ⟨l, ⟨R.g, R.f, fun c hc => ?_, ?_, by simp [R.bl], fun i c d e1 e2 => ?_, R.len, fun i d e => ?_, fun i c e => ?_, R.inj⟩, .box (by
    show (W.B ++ [a])[s.sto.length]? = some a
    rw [← R.bl, List.getElem?_append_right (Nat.le_refl _), Nat.sub_self]; rfl)⟩
  · rcases List.mem_append.mp hc with h | h
    · exact R.bn c h
    · rw [List.mem_singleton.mp h]; exact ⟨f.g, f.f⟩
  · refine List.nodup_append.mpr ⟨R.nd, by simp, fun x hx y hy e => ?_⟩
    rw [List.mem_singleton.mp hy] at e
    exact f.b (e ▸ hx)
  · by_cases h : i < W.B.length
    · rw [List.getElem?_append_left h] at e1
      rw [List.getElem?_append_left (by rw [← R.bl]; exact h)] at e2
      exact (R.bx i c d e1 e2).up l rfl
    · rw [List.getElem?_append_right (by omega)] at e1
      rw [List.getElem?_append_right (by rw [← R.bl]; omega), ← R.bl] at e2
      cases q : i - W.B.length with
      | zero => rw [q] at e1 e2; cases e1; cases e2; exact f.bx.up l rfl
      | succ n => rw [q] at e1; cases e1
  · obtain ⟨v, e1, e2⟩ := R.sl i d e
    exact ⟨v, e1, e2.up l⟩
  · obtain ⟨e1, e2, e3, e4, e5⟩ := R.ow i c e
    refine ⟨e1, e2.up l rfl, e3, e4, fun h => ?_⟩
    rcases List.mem_append.mp h with h | h
    · exact e5 h
    · exact f.ow i c e (List.mem_singleton.mp h)
end

/-! ### calls -/
/-- the callee's run as the caller sees it -/
def mRun (fn : FV) (ds : List D) : M Rz := fun s => match fn ds s.sto with
  | .ok r sto' => .ok r { s with sto := sto' }
  | .exn x sto' => .exn x { s with sto := sto' }
  | .stuck => .stuck
def mCall (fn : FV) (m : M (List D)) (df : List D) : M Rz := do
  let ds ← m
  mRun fn (ds ++ df)
section
variable {X : Cx} {pos p apos : Pos} {x : Str}
/-- the promise is kept where the caller's relation holds -/
theorem spV_of {F : Hp} {W : Wd} {A : Nat → Addr} {s : S} {σ : Sl} {H : Hp} {vs : List V} {ds : List D} {n : Nat} {fn : FV} {Q : VK} {E : XK} (R : Rel X.prog X.w X.K F W A s σ H) (c : Rps X.prog X.w X.K W vs ds) (hn : ds.length = n)
    (hw : Wp (mRun fn ds) s (fun r s' => ∀ W' A' v H', Wle F W W' → Rel X.prog X.w X.K F W' A' s' σ H' → cE X F W' A' s' σ H' v r → Q v H') NoX) : spV X.prog X.w X.K n fn vs H Q E := by
  refine ⟨Fcl H W, W, s.sto, ds, R.enter, c, c.1.trans hn, ?_⟩
  unfold Wp mRun at hw
  cases e : fn ds s.sto with
  | ok r sto' =>
    rw [e] at hw
    intro W' v H' l R' c'
    obtain ⟨l1, R1, q⟩ := R.leave l R'
    exact hw W' A v H' l1 R1 (q c')
  | exn x sto' => rw [e] at hw; exact hw.elim
  | stuck => rw [e] at hw; exact hw.elim
section
variable {k : Nat} {f : Addr} {fd : FuncData} {ps : List Str} {fn : FV} {dvs : List V} {dv : List Value} {df : List D} {e : Expr} {es : List Expr} {m : M (List D)} {n : Nat}
theorem callE_run {ea : List Expr} (ha : VA X ea m) (hdf : ∀ W, Rps X.prog X.w X.K W dvs df) (hn : ea.length + df.length = n) {F : Hp} {W : Wd} {A : Nat → Addr} {s : S} {σ : Sl} {H : Hp} {Q : VK} (R : Rel X.prog X.w X.K F W A s σ H)
    (hw : Wp (mCall fn m df) s (fun r s' => ∀ W' A' v H', Wle F W W' → Rel X.prog X.w X.K F W' A' s' σ H' → cE X F W' A' s' σ H' v r → Q v H') NoX) : tCall (spV X.prog X.w X.K n fn) dvs E0 (TAx X ea) σ H Q := by
  unfold mCall at hw
  rw [wp_bind] at hw
  refine ha F W A s σ H _ R (wp_mono hw (fun ds s1 h1 => ?_) fun _ _ z => z)
  intro W1 A1 vs H1 l1 R1 c1 n1
  refine spV_of R1 (c1.append (hdf W1)) (by rw [List.length_append, n1, hn]) (wp_mono h1 (fun r s2 h2 W2 A2 v H2 l2 R2 c2 => h2 W2 A2 v H2 (l1.trans l2) R2 c2) fun _ _ z => z)
theorem ve_call (F : FnOk X.prog X.w X.K X.mg X.base CX0 k f fd ps (spV X.prog X.w X.K n fn)) (hr : Room k X.A) (hg : Gl X x) (hm : X.mg x = some (.ref f)) (hk : PySem.W.keepIn X.K (.ref f) = true) (hb : Binds X.K fd ps dv) (hd : Vals dvs dv) (hdf : ∀ W, Rps X.prog X.w X.K W dvs df)
    (hn : (e :: es).length + df.length = n) (ha : VA X (e :: es) m) (hs : (e :: es).all (fun e => !isStar e) = true) (hdb : (x == ("__debug__" : Str)) = false) : VE X (.Call (.Name x p) (e :: es) [] pos) (mCall fn m df) := by
  intro F' W A s σ H Q R hw
  have hs' := hs
  simp only [List.all_cons, Bool.and_eq_true, Bool.not_eq_true'] at hs'
  exact tx_of (pe_call F hr hg hm hk hb hd pass0 pa_ta hdb (star_cons hs'.1) (star_none hs'.2)) (callE_run ha hdf hn R hw)
theorem ta_nil : ∀ {σ : Sl} {H : Hp} {Q : List V → Hp → Prop}, TAx X [] σ H Q → True := fun _ => trivial
theorem ve_call0 (F : FnOk X.prog X.w X.K X.mg X.base CX0 k f fd ps (spV X.prog X.w X.K n fn)) (hr : Room k X.A) (hg : Gl X x) (hm : X.mg x = some (.ref f)) (hk : PySem.W.keepIn X.K (.ref f) = true) (hb : Binds X.K fd ps dv) (hd : Vals dvs dv) (hdf : ∀ W, Rps X.prog X.w X.K W dvs df)
    (hn : df.length = n) (hdb : (x == ("__debug__" : Str)) = false) : VE X (.Call (.Name x p) [] [] pos) (mRun fn df) := by
  intro F' W A s σ H Q R hw
  refine tx_of (pe_call0 F hr hg hm hk hb hd pass0 hdb) ?_
  show spV X.prog X.w X.K n fn ([] ++ dvs) H Q E0
  exact spV_of R (hdf W) hn hw
end
end

/-! ### fields -/
def putG (f : Str) (d : D) : List (Str × D) → List (Str × D)
  | [] => [(f, d)]
  | p :: r => if p.1 = f then (f, d) :: r else p :: putG f d r
def dField (s : S) (d : D) (f : Str) : Option (Str × Option D) := match d with
  | .box i => match s.sto[i]? with
    | some (.ins C gs) => some (C, gs.lookup f)
    | _ => none
  | _ => none
section
variable {P : Program} {w : World} {K : PySem.W.Frag} {W : Wd}
theorem RpF.look : ∀ {fs : List (Str × V)} {gs : List (Str × D)}, RpF P w K W fs gs → ∀ f, (∀ d, gs.lookup f = some d → ∃ v, fs.lookup f = some v ∧ Rp P w K W v d) ∧ (gs.lookup f = none → fs.lookup f = none)
  | [], [], _, f => ⟨fun d e => (by cases e), fun _ => rfl⟩
  | e :: fs, p :: gs, r, f => by
    obtain ⟨e1, e2⟩ := e
    obtain ⟨p1, p2⟩ := p
    obtain ⟨q1, q2⟩ := r.2 0 _ _ rfl rfl
    have q1 : p1 = e1 := q1
    subst q1
    have ih := RpF.look (fs := fs) (gs := gs) ⟨Nat.succ.inj r.1, fun i e p a b => r.2 (i + 1) e p a b⟩ f
    rw [List.lookup_cons, List.lookup_cons]
    cases f == p1 with
    | true => exact ⟨fun d e => (by cases e; exact ⟨_, rfl, q2⟩), fun e => (by cases e)⟩
    | false => exact ih
  | [], _ :: _, r, _ => nomatch r.1
  | _ :: _, [], r, _ => nomatch r.1
theorem RpF.nil : RpF P w K W [] [] := ⟨rfl, fun i _ _ e => by cases i <;> cases e⟩
theorem RpF.cons {e : Str × V} {p : Str × D} {fs : List (Str × V)} {gs : List (Str × D)} (h : p.1 = e.1 ∧ Rp P w K W e.2 p.2) (r : RpF P w K W fs gs) : RpF P w K W (e :: fs) (p :: gs) :=
  ⟨by rw [List.length_cons, List.length_cons, r.1], fun i a b e1 e2 => by
    cases i with
    | zero => cases e1; cases e2; exact h
    | succ i => exact r.2 i a b e1 e2⟩
theorem RpF.tail {e : Str × V} {p : Str × D} {fs : List (Str × V)} {gs : List (Str × D)} (r : RpF P w K W (e :: fs) (p :: gs)) : RpF P w K W fs gs := ⟨Nat.succ.inj r.1, fun i e p a b => r.2 (i + 1) e p a b⟩
theorem RpF.put {f : Str} {v : V} {d : D} (c : Rp P w K W v d) : ∀ {fs : List (Str × V)} {gs : List (Str × D)}, RpF P w K W fs gs → RpF P w K W (putF f v fs) (putG f d gs)
  | [], [], _ => RpF.cons ⟨rfl, c⟩ RpF.nil
  | e :: fs, p :: gs, r => by
    obtain ⟨q1, q2⟩ := r.2 0 _ _ rfl rfl
    obtain ⟨e1, e2⟩ := e
    obtain ⟨p1, p2⟩ := p
    have q1 : p1 = e1 := q1
    subst q1
    unfold putF putG
    by_cases h : p1 = f
    · rw [if_pos h, if_pos h]
      exact RpF.cons ⟨h.symm, c⟩ r.tail
    · rw [if_neg h, if_neg h]
      exact RpF.cons ⟨rfl, q2⟩ (RpF.put c r.tail)
  | [], _ :: _, r => nomatch r.1
  | _ :: _, [], r => nomatch r.1
end
/-- a field's base is read as it is -/
def noSuper : Expr → Bool
  | .Call (.Name _ _) [] [] _ => false
  | _ => true
theorem base_of {o : Expr} {f : Str} {env : Env} (h : noSuper o = true) : attributeBase o f env (eval o env) = eval o env := by
  unfold noSuper at h
  split at h
  · cases h
  · rename_i hn
    unfold attributeBase
    split
    · rename_i id p pos
      exact (hn id p pos rfl).elim
    · rfl
/-- the tree of a method call -/
theorem few_of {cpos : Pos} {env : Env} : ∀ {args : List Expr}, args.all (fun e => !isStar e) = true → (backTo cpos (starEach args env)).all (fun x => !x.1) = true
  | [], _ => rfl
  | e :: es, h => by
    simp only [List.all_cons, Bool.and_eq_true, Bool.not_eq_true'] at h
    have hs : starEach (e :: es) env = (false, eval e env) :: starEach es env := by
      cases e <;> first | rfl | cases h.1
    rw [hs]
    show ((!false) && (backTo cpos (starEach es env)).all (fun x => !x.1)) = true
    rw [few_of h.2]; rfl
theorem form_of {cpos : Pos} {env : Env} {args : List Expr} (hs : args.all (fun e => !isStar e) = true) (hn : args.length < 30) : ((backTo cpos (starEach args env)).all (fun x => !x.1) && (backToKw cpos (keywordEach [] env)).all (fun x => x.1.isSome)
      && decide (args.length + ([] : List Keyword).length + (if ([] : List Keyword).isEmpty then 0 else 1) < 30)) = true := by
  rw [few_of hs]
  exact decide_eq_true hn
theorem meth_tree {o : Expr} {m : Str} {apos cpos : Pos} {args : List Expr} {env : Env} (hb : noSuper o = true) (hs : args.all (fun e => !isStar e) = true) (hn : args.length < 30) (hl : (apos.endLine == cpos.line) = true) :
    eval (.Call (.Attribute o m apos) args [] cpos) env = (do
      let ov ← eval o env
      standAt apos.atName
      let (f, first) ← holding [ov] (getMethod ov m (do return (← importBound o env).getD true))
      callWith cpos f first (backTo cpos (starEach args env)) (backToKw cpos (keywordEach [] env))) := by
  show (do
    let ov ← attributeBase o m env (eval o env)
    standAt apos.atName
    methodCall o m apos cpos env ov (args.length + ([] : List Keyword).length) (backTo cpos (starEach args env)) (backToKw cpos (keywordEach [] env))) = _
  rw [base_of hb]
  have few : methodCallForm (args.length + ([] : List Keyword).length) (backTo cpos (starEach args env)) (backToKw cpos (keywordEach [] env)) = true := by
    unfold methodCallForm
    rw [few_of hs]
    exact decide_eq_true hn
  unfold methodCall
  rw [few]
  have pos_of : methodCallPos true o env apos cpos = pure cpos := by
    unfold methodCallPos
    rw [hl]; rfl
  rw [pos_of]
  rfl
def mFld (ok : Str → Str → Bool) (mo : M D) (f : Str) : M D := do
  let d ← mo
  let s ← getS
  match dField s d f with
  | some (C, some v) => if ok C f = true then Pure.pure v else stuck
  | _ => stuck
theorem dField_some {P : Program} {w : World} {K : PySem.W.Frag} {F H : Hp} {W : Wd} {A : Nat → Addr} {s : S} {σ : Sl} {v : V} {d : D} {f C : Str} {o : Option D} (R : Rel P w K F W A s σ H) (c : Rp P w K W v d) (e : dField s d f = some (C, o)) :
    ∃ i a dx fs gs, d = .box i ∧ s.sto[i]? = some (.ins C gs) ∧ v = .ref a ∧ W.B[i]? = some a ∧ H a = some (.ins (He.ga K C) dx fs) ∧ RpF P w K W fs gs ∧ gs.lookup f = o := by
  unfold dField at e
  cases c with
  | box hb =>
    rename_i i a
    simp only at e
    split at e
    · rename_i C' gs hs
      cases e
      have bx := R.bx i a _ hb hs
      cases bx with
      | ins h hr => exact ⟨i, a, _, _, gs, rfl, hs, rfl, hb, h, hr, rfl⟩
    · cases e
  | _ => cases e
/-- known attributes -/
def AttrOk (K : PySem.W.Frag) (ok : Str → Str → Bool) : Prop := ∀ C f, ok C f = true → Cls K (He.ga K C) ∧ NoAttr K (He.ga K C) f
section
variable {X : Cx} {pos p apos : Pos} {x : Str} {ok : Str → Str → Bool}
theorem vd_fld {o : Expr} {f : Str} {mo : M D} (ho : VD X o mo) (hb : noSuper o = true) (hA : AttrOk X.K ok) : VD X (.Attribute o f pos) (mFld ok mo f) := by
  intro F W A s σ H Q R hw
  refine tx_of (pe_fld pe_tx (base_of hb)) ?_
  unfold mFld at hw
  rw [wp_bind] at hw
  refine ho F W A s σ H _ R (wp_mono hw (fun d s1 h1 => ?_) fun _ _ z => z)
  intro W1 A1 v H1 l1 R1 c1
  rw [wp_bind, wp_getS] at h1
  split at h1
  · rename_i C d' e
    split at h1
    · rename_i h
      obtain ⟨i, a, dx, fs, gs, rfl, hs, rfl, hb, hH, r, el⟩ := dField_some R1 c1 e
      obtain ⟨v', ev, cv⟩ := (r.look f).1 _ el
      exact ⟨a, _, dx, fs, v', rfl, hH, (hA C f h).1, (hA C f h).2, ev, h1 W1 A1 v' H1 l1 R1 cv⟩
    · exact h1.elim
  · exact h1.elim

/-! ### methods of instances -/
/-- a method: what it does, its defaults -/
abbrev MTab := Str → Str → Nat → Option (FV × List D)
def mMeth (mt : MTab) (mo : M D) (m : Str) (n : Nat) (ma : M (List D)) : M Rz := do
  let d ← mo
  let s ← getS
  match dField s d m with
  | some (C, none) => match mt C m n with
    | some (fn, df) => do
      let ds ← ma
      mRun fn (d :: (ds ++ df))
    | none => stuck
  | _ => stuck
structure MethOk (X : Cx) (C m : Str) (n : Nat) (fn : FV) (df : List D) : Prop where
  cls : Cls X.K (He.ga X.K C)
  ok : ∃ (k : Nat) (f : Addr) (fd : FuncData) (ps : List Str) (dvs : List V) (dv : List Value), Meth X.K (He.ga X.K C) m f ∧ FnOk X.prog X.w X.K X.mg X.base CX0 k f fd ps (spV X.prog X.w X.K (1 + n + df.length) fn) ∧ Room k X.A ∧ Binds X.K fd ps dv ∧ Vals dvs dv ∧ ∀ W, Rps X.prog X.w X.K W dvs df
def MTabOk (X : Cx) (mt : MTab) : Prop := ∀ C m n fn df, mt C m n = some (fn, df) → MethOk X C m n fn df
theorem ve_meth {o : Expr} {m : Str} {e : Expr} {es : List Expr} {mt : MTab} {mo : M D} {ma : M (List D)} (hM : MTabOk X mt) (ho : VD X o mo) (ha : VA X (e :: es) ma) (hb : noSuper o = true) (hs : (e :: es).all (fun e => !isStar e) = true) (hn : (e :: es).length < 30) (hl : (apos.endLine == pos.line) = true) :
    VE X (.Call (.Attribute o m apos) (e :: es) [] pos) (mMeth mt mo m (e :: es).length ma) := by
  intro F W A s σ H Q R hw
  unfold mMeth at hw
  rw [wp_bind] at hw
  have hw0 := hw
  unfold Wp at hw
  cases hms : mo s with
  | exn x s' => rw [hms] at hw; exact hw.elim
  | stuck => rw [hms] at hw; exact hw.elim
  | ok d s1 =>
    rw [hms] at hw
    have hw : Wp (getS >>= _) s1 _ _ := hw
    rw [wp_bind, wp_getS] at hw
    have hs' := hs
    simp only [List.all_cons, Bool.and_eq_true, Bool.not_eq_true'] at hs'
    split at hw
    · rename_i C ed
      split at hw
      · rename_i fn df em
        obtain ⟨cls, k, f, fd, ps, dvs, dv, hme, F1, hr, hB, hd, hdf⟩ := hM C m _ fn df em
        refine tx_of (pe_meth (pl := (do return (← importBound o X.env).getD true)) pe_tx cls hme F1 hr hB hd pass0 pa_ta (star_cons hs'.1) (star_none hs'.2) (meth_tree hb hs hn hl)) ?_
        refine ho F W A s σ H _ R ?_
        unfold Wp
        rw [hms]
        intro W1 A1 v H1 l1 R1 c1
        obtain ⟨i, a, dx, fs, gs, rfl, hs1, rfl, hbx, hH, r, el⟩ := dField_some R1 c1 ed
        refine ⟨a, dx, fs, rfl, hH, (r.look m).2 el, ?_⟩
        rw [wp_bind] at hw
        refine ha F W1 A1 s1 σ H1 _ R1 (wp_mono hw (fun ds s2 h2 => ?_) fun _ _ z => z)
        intro W2 A2 vs H2 l2 R2 c2 n2
        refine spV_of R2 (.cons (c1.up l2) (c2.append (hdf W2))) (by rw [List.length_cons, List.length_append, n2]; omega) (wp_mono h2 (fun r s3 h3 W3 A3 v H3 l3 R3 c3 => h3 W3 A3 v H3 ((l1.trans l2).trans l3) R3 c3) fun _ _ z => z)
      · exact hw.elim
    · exact hw.elim
theorem ve_meth0 {o : Expr} {m : Str} {mt : MTab} {mo : M D} (hM : MTabOk X mt) (ho : VD X o mo) (hb : noSuper o = true) (hl : (apos.endLine == pos.line) = true) :
    VE X (.Call (.Attribute o m apos) [] [] pos) (mMeth mt mo m 0 (Pure.pure [])) := by
  intro F W A s σ H Q R hw
  unfold mMeth at hw
  rw [wp_bind] at hw
  unfold Wp at hw
  cases hms : mo s with
  | exn x s' => rw [hms] at hw; exact hw.elim
  | stuck => rw [hms] at hw; exact hw.elim
  | ok d s1 =>
    rw [hms] at hw
    have hw : Wp (getS >>= _) s1 _ _ := hw
    rw [wp_bind, wp_getS] at hw
    split at hw
    · rename_i C ed
      split at hw
      · rename_i fn df em
        obtain ⟨cls, k, f, fd, ps, dvs, dv, hme, F1, hr, hB, hd, hdf⟩ := hM C m _ fn df em
        refine tx_of (pe_meth0 (pl := (do return (← importBound o X.env).getD true)) pe_tx cls hme F1 hr hB hd pass0 (meth_tree hb rfl (by decide) hl)) ?_
        refine ho F W A s σ H _ R ?_
        unfold Wp
        rw [hms]
        intro W1 A1 v H1 l1 R1 c1
        obtain ⟨i, a, dx, fs, gs, rfl, hs1, rfl, hbx, hH, r, el⟩ := dField_some R1 c1 ed
        refine ⟨a, dx, fs, rfl, hH, (r.look m).2 el, ?_⟩
        rw [wp_bind, wp_pure] at hw
        refine spV_of (E := E0) R1 (.cons c1 ((Rps.nil (W := W1)).append (hdf W1))) (by rw [List.length_cons, List.nil_append]; omega) (wp_mono hw (fun r s3 h3 W3 A3 v H3 l3 R3 c3 => h3 W3 A3 v H3 (l1.trans l3) R3 c3) fun _ _ z => z)
      · exact hw.elim
    · exact hw.elim

/-! ### a new instance -/
def mMake (C : Str) (fn : FV) (m : M (List D)) (df : List D) : M Rz := do
  let ds ← m
  let s ← getS
  let _ ← setS { s with sto := s.sto ++ [.ins C []] }
  let r ← mRun fn (.box s.sto.length :: (ds ++ df))
  match r with
  | .dat .non => Pure.pure (.dat (.box s.sto.length))
  | _ => stuck
theorem make_run {fn : FV} {dvs : List V} {df ds : List D} {n : Nat} {C : Str} {F : Hp} {W : Wd} {A : Nat → Addr} {s : S} {σ : Sl} {H : Hp} {vs : List V} {Q : VK} (R : Rel X.prog X.w X.K F W A s σ H) (c : Rps X.prog X.w X.K W vs ds)
    (hdf : ∀ W, Rps X.prog X.w X.K W dvs df) (hn : 1 + ds.length + df.length = n)
    (hw : Wp (do
      let _ ← setS { s with sto := s.sto ++ [.ins C []] }
      let r ← mRun fn (.box s.sto.length :: (ds ++ df))
      match r with
      | .dat .non => Pure.pure (.dat (.box s.sto.length))
      | _ => stuck) s (fun r s' => ∀ W' A' v H', Wle F W W' → Rel X.prog X.w X.K F W' A' s' σ H' → cE X F W' A' s' σ H' v r → Q v H') NoX) :
    ∀ x dx, H x = none → H dx = none → dx ≠ x → spV X.prog X.w X.K n fn (.ref x :: (vs ++ dvs)) (upd (upd H dx (.own x)) x (.ins (He.ga X.K C) dx [])) (fun v H2 => v = .non ∧ Q (.ref x) H2) E0 := by
  intro x dx hx hdx hne
  have R1 : Rel X.prog X.w X.K F W A s σ (upd H dx (.own x)) := R.laid hdx
  have hx1 : upd H dx (.own x) x = none := by rw [upd_ne (fun z => hne z.symm)]; exact hx
  have R2 : Rel X.prog X.w X.K F W A s σ (upd (upd H dx (.own x)) x (.ins (He.ga X.K C) dx [])) := R1.laid hx1
  obtain ⟨l3, R3, c3⟩ := R2.box (R1.fresh hx1 (.ins (C := C) upd_same RpF.nil))
  rw [wp_bind, wp_setS, wp_bind] at hw
  refine spV_of R3 (.cons c3 ((c.up l3).append (hdf _))) (by rw [List.length_cons, List.length_append]; omega) (wp_mono hw (fun r s3 h3 W3 A3 v H3 l4 R4 c4 => ?_) fun _ _ z => z)
  split at h3
  · have c4 : Rp X.prog X.w X.K W3 v .non := c4
    cases c4
    exact ⟨rfl, h3 W3 A3 _ H3 (l3.trans l4) R4 (c3.up l4)⟩
  · exact h3.elim
theorem ve_make {C : Str} {k : Nat} {f : Addr} {fd : FuncData} {ps : List Str} {fn : FV} {dvs : List V} {dv : List Value} {df : List D} {e : Expr} {es : List Expr} {m : M (List D)} {n : Nat} (M : Mk X.K (He.ga X.K C) f)
    (F : FnOk X.prog X.w X.K X.mg X.base CX0 k f fd ps (spV X.prog X.w X.K n fn)) (hr : Room (k + 1) X.A) (hg : Gl X C) (hm : X.mg C = some (.ref (He.ga X.K C))) (hb : Binds X.K fd ps dv) (hd : Vals dvs dv) (hdf : ∀ W, Rps X.prog X.w X.K W dvs df)
    (hn : 1 + (e :: es).length + df.length = n) (ha : VA X (e :: es) m) (hs : (e :: es).all (fun e => !isStar e) = true) (hdb : (C == ("__debug__" : Str)) = false) : VE X (.Call (.Name C p) (e :: es) [] pos) (mMake C fn m df) := by
  intro F' W A s σ H Q R hw
  have hs' := hs
  simp only [List.all_cons, Bool.and_eq_true, Bool.not_eq_true'] at hs'
  refine tx_of (pe_make M F hr hg hm hb hd pass0 pa_ta hdb (star_cons hs'.1) (star_none hs'.2)) ?_
  unfold mMake at hw
  rw [wp_bind] at hw
  refine ha F' W A s σ H _ R (wp_mono hw (fun ds s1 h1 => ?_) fun _ _ z => z)
  intro W1 A1 vs H1 l1 R1 c1 n1
  rw [wp_bind, wp_getS] at h1
  exact make_run R1 c1 hdf (by rw [n1]; exact hn) (wp_mono h1 (fun r s2 h2 W2 A2 v H2 l2 R2 c2 => h2 W2 A2 v H2 (l1.trans l2) R2 c2) fun _ _ z => z)
theorem ve_make0 {C : Str} {k : Nat} {f : Addr} {fd : FuncData} {ps : List Str} {fn : FV} {dvs : List V} {dv : List Value} {df : List D} {n : Nat} (M : Mk X.K (He.ga X.K C) f)
    (F : FnOk X.prog X.w X.K X.mg X.base CX0 k f fd ps (spV X.prog X.w X.K n fn)) (hr : Room (k + 1) X.A) (hg : Gl X C) (hm : X.mg C = some (.ref (He.ga X.K C))) (hb : Binds X.K fd ps dv) (hd : Vals dvs dv) (hdf : ∀ W, Rps X.prog X.w X.K W dvs df)
    (hn : 1 + df.length = n) (hdb : (C == ("__debug__" : Str)) = false) : VE X (.Call (.Name C p) [] [] pos) (mMake C fn (Pure.pure []) df) := by
  intro F' W A s σ H Q R hw
  refine tx_of (pe_make0 M F hr hg hm hb hd pass0 hdb) ?_
  unfold mMake at hw
  rw [wp_bind, wp_pure, wp_bind, wp_getS] at hw
  show tNil σ H _
  exact make_run R Rps.nil hdf (by simp; omega) hw
end

/-! ### global names that stand for data -/
section
variable {X : Cx} {pos : Pos} {x : Str}
theorem vd_glob {v : V} {u : Value} {d : D} (hg : Gl X x) (hm : X.mg x = some u) (r : RelV v u) (c : ∀ W, Rp X.prog X.w X.K W v d) (hd : (x == ("__debug__" : Str)) = false) : VD X (.Name x pos) (Pure.pure d) := vd_const (pe_glob hg hm r hd) c
end
end Vl
set_option Elab.async false
set_option linter.all false
set_option maxRecDepth 100000
set_option maxHeartbeats 4000000
/-! V11: objects that are changed in place; methods of what is built in -/
namespace Vl
open PySem PySem.Spec PyProof.Rows L2

/-- where a changeable content stands -/
inductive Tg where
  | slot (i : Nat) | box (k : Nat)
def tgD : D → Option Tg
  | .box k => some (.box k)
  | _ => none
def tgOf (rf : Ref) (s : S) : Option Tg := match rf with
  | .dat d => tgD d
  | .slot i => match s.env[i]? with
    | some (some (.own _)) => some (.slot i)
    | some (some (.dat d)) => tgD d
    | _ => none
def getT (t : Tg) (s : S) : Option Box := match t with
  | .slot i => match s.env[i]? with
    | some (some (.own b)) => some b
    | _ => none
  | .box k => s.sto[k]?
def putT (t : Tg) (b : Box) (s : S) : S := match t with
  | .slot i => { s with env := s.env.set i (some (.own b)) }
  | .box k => { s with sto := s.sto.set k b }
section
variable {P : Program} {w : World} {K : PySem.W.Frag} {F H : Hp} {W : Wd} {A : Nat → Addr} {s : S} {σ : Sl} {v : V} {t : Tg} {b b' : Box}
/-- a value is that place's object -/
def TgV (W : Wd) (σ : Sl) (A : Nat → Addr) (t : Tg) (v : V) : Prop := match t with
  | .slot i => σ[i]? = some (some v) ∧ v = .ref (A i)
  | .box k => ∃ a, v = .ref a ∧ W.B[k]? = some a
theorem tgOf_vD {d : D} (c : Rp P w K W v d) (e : tgD d = some t) : TgV W σ A t v := by
  cases c <;> cases e
  rename_i hb
  exact ⟨_, rfl, hb⟩
theorem tgOf_v {X : Cx} (R : Rel X.prog X.w X.K F W A s σ H) {rf : Ref} (c : cR X F W A s σ H v rf) (e : tgOf rf s = some t) : TgV W σ A t v := by
  unfold tgOf at e
  cases rf with
  | dat d => exact tgOf_vD c e
  | slot i =>
    have c : σ[i]? = some (some v) := c
    simp only at e
    split at e
    · rename_i b hb
      cases e
      obtain ⟨e1, _⟩ := R.ow i _ hb
      rw [c] at e1; cases e1
      exact ⟨c, rfl⟩
    · rename_i d hd
      obtain ⟨v', e1, e2⟩ := R.sl i d hd
      rw [c] at e1; cases e1
      exact tgOf_vD e2 e
    · cases e
theorem TgV.up {W' : Wd} (h : TgV W σ A t v) (l : Wle F W W') {A' : Nat → Addr} {s' : S} {H' : Hp} (R' : Rel P w K F W' A' s' σ H') {b : Box} (g : getT t s' = some b) : TgV W' σ A' t v := by
  cases t with
  | box k => obtain ⟨a, e1, e2⟩ := h; exact ⟨a, e1, l.bx e2⟩
  | slot i =>
    obtain ⟨e1, _⟩ := h
    unfold getT at g
    simp only at g
    split at g
    · rename_i c hc
      obtain ⟨e2, _⟩ := R'.ow i c hc
      rw [e1] at e2; cases e2
      exact ⟨e1, rfl⟩
    · cases g
/-- THE RULE of a change in place -/
theorem Rel.change (R : Rel P w K F W A s σ H) (c : TgV W σ A t v) (g : getT t s = some b) :
    ∃ a, v = .ref a ∧ Bx P w K W H a b ∧ W.G a = none ∧ ∀ o b', Bx P w K W (upd H a o) a b' → Rel P w K F W A (putT t b' s) σ (upd H a o) := by
  cases t with
  | box k =>
    obtain ⟨a, rfl, hk⟩ := c
    have g : s.sto[k]? = some b := g
    have hm : a ∈ W.B := List.mem_of_getElem? hk
    refine ⟨a, rfl, R.bx k a b hk g, (R.bn a hm).1, fun o b' hb => ⟨fun p u e => ?_, fun p u e => ?_, R.bn, R.nd, ?_, fun i c d e1 e2 => ?_, R.len, R.sl, fun i d e => ?_, R.inj⟩⟩
    · rw [upd_ne (ne_of_none e (R.bn a hm).1)]; exact R.g p u e
    · rw [upd_ne (ne_of_none e (R.bn a hm).2)]; exact R.f p u e
    · show _ = (s.sto.set k b').length
      rw [List.length_set]; exact R.bl
    · have e2 : (s.sto.set k b')[i]? = some d := e2
      by_cases z : k = i
      · subst z
        rw [List.getElem?_set_self (List.getElem?_eq_some_iff.mp g).1] at e2
        rw [hk] at e1
        cases e1; cases e2
        exact hb
      · rw [List.getElem?_set_ne z] at e2
        have hn : c ≠ a := fun y => z ((List.getElem?_inj (List.getElem?_eq_some_iff.mp hk).1 R.nd).mp (by rw [hk, e1, y]))
        exact (R.bx i c d e1 e2).up (Wle.refl (F := F)) (upd_ne hn)
    · obtain ⟨e1, e2, e3, e4, e5⟩ := R.ow i d e
      exact ⟨e1, e2.up (Wle.refl (F := F)) (upd_ne fun y => e5 (y ▸ hm)), e3, e4, e5⟩
  | slot i =>
    obtain ⟨c1, rfl⟩ := c
    unfold getT at g
    simp only at g
    split at g
    · rename_i b0 hb0
      cases g
      obtain ⟨e1, e2, e3, e4, e5⟩ := R.ow i b hb0
      have hi := (List.getElem?_eq_some_iff.mp hb0).1
      refine ⟨A i, rfl, e2, e3, fun o b' hb => ⟨fun p u e => ?_, fun p u e => ?_, R.bn, R.nd, R.bl, fun j c d q1 q2 => ?_, ?_, fun j d q => ?_, fun j d q => ?_, fun j k b1 b2 q1 q2 => ?_⟩⟩
      · rw [upd_ne (ne_of_none e e3)]; exact R.g p u e
      · rw [upd_ne (ne_of_none e e4)]; exact R.f p u e
      · exact (R.bx j c d q1 q2).up (Wle.refl (F := F)) (upd_ne fun y => e5 (y ▸ List.mem_of_getElem? q1))
      · show _ = (s.env.set i _).length
        rw [List.length_set]; exact R.len
      · have q : (s.env.set i (some (.own b')))[j]? = some (some (.dat d)) := q
        by_cases z : i = j
        · subst z; rw [List.getElem?_set_self hi] at q; cases q
        · rw [List.getElem?_set_ne z] at q; exact R.sl j d q
      · have q : (s.env.set i (some (.own b')))[j]? = some (some (.own d)) := q
        by_cases z : i = j
        · subst z
          rw [List.getElem?_set_self hi] at q; cases q
          exact ⟨e1, hb, e3, e4, e5⟩
        · rw [List.getElem?_set_ne z] at q
          obtain ⟨f1, f2, f3, f4, f5⟩ := R.ow j d q
          exact ⟨f1, f2.up (Wle.refl (F := F)) (upd_ne fun y => z (R.inj i j _ _ hb0 q y.symm)), f3, f4, f5⟩
      · have aux : ∀ (j : Nat) c, (s.env.set i (some (.own b')))[j]? = some (some (.own c)) → ∃ c', s.env[j]? = some (some (.own c')) := fun j c q => by
          by_cases z : i = j
          · subst z; exact ⟨_, hb0⟩
          · rw [List.getElem?_set_ne z] at q; exact ⟨_, q⟩
        obtain ⟨c1', q1'⟩ := aux j b1 q1
        obtain ⟨c2', q2'⟩ := aux k b2 q2
        exact R.inj j k _ _ q1' q2'
    · cases g
end

/-! ### x.append(e) and the like -/
def isLst : Box → Bool
  | .lst _ => true
  | _ => false
/-- a method that changes a list: content and operands to content and result -/
abbrev GM := List D → List D → Option (List D × D)
def mMut (mo : M Ref) (ma : M (List D)) (g : GM) : M D := do
  let rf ← mo
  let s ← getS
  match tgOf rf s with
  | some t => match getT t s with
    | some (.lst _) => do
      let ds ← ma
      let s ← getS
      match getT t s with
      | some (.lst xs) => match g xs ds with
        | some (ys, d) => do
          let _ ← setS (putT t (.lst ys) s)
          Pure.pure d
        | none => stuck
      | _ => stuck
    | _ => stuck
  | none => stuck
/-- the same by values -/
def MutR (X : Cx) (r : V → List V → Hp → VK → Prop) (g : GM) : Prop := ∀ (W : Wd) (H : Hp) (a : Addr) (xs : List V) (ds ys es : List D) (vs : List V) (d : D) (Q : VK), (∀ p o, W.G p = some o → H p = some o) → W.G a = none → H a = some (.lst xs) → xs.length ≤ sizeLine → Rps X.prog X.w X.K W xs es →
  Rps X.prog X.w X.K W vs ds → g es ds = some (ys, d) → (∀ zs z, Rps X.prog X.w X.K W zs ys → Rp X.prog X.w X.K W z d → Q z (upd H a (.lst zs))) → r (.ref a) vs H Q
section
variable {X : Cx} {pos apos : Pos}
theorem Bx.lst_inv {P : Program} {w : World} {K : PySem.W.Frag} {W : Wd} {H : Hp} {a : Addr} {es : List D} (h : Bx P w K W H a (.lst es)) : ∃ xs, H a = some (.lst xs) ∧ Rps P w K W xs es := by
  cases h with
  | lst h hr => exact ⟨_, h, hr⟩
theorem hp_size {X : Cx} {pins : List (Addr × Obj)} {σ : L2.St} {H : Hp} {s : Shared} {a : Addr} {xs : List V} (I : Inv X pins σ H s) (h : H a = some (.lst xs)) : xs.length ≤ sizeLine := (I.hok a _ h).1
end
section
variable {X : Cx} {pos apos : Pos} {o : Expr} {name : Str} {id : String} {r : V → List V → Hp → VK → Prop}
/-- the size of a list is known where it is used -/
def rSz (r : V → List V → Hp → VK → Prop) : V → List V → Hp → VK → Prop := fun x vs H Q => (∀ a xs, x = .ref a → H a = some (.lst xs) → xs.length ≤ sizeLine) → r x vs H Q
theorem mt_sz (hm : MtM X id r) : MtM X id (rSz r) := fun pins s σ H x vs v us Q I rx rv h => hm pins s σ H x vs v us Q I rx rv (h fun a xs e q => (I.hok a _ q).1)
theorem mut_run {es : List Expr} {mo : M Ref} {ma : M (List D)} {g : GM} (ho : VR X o mo) (ha : VA X es ma) (hr : MutR X r g) {F : Hp} {W : Wd} {A : Nat → Addr} {s : S} {σ : Sl} {H : Hp} {Q : VK} (R : Rel X.prog X.w X.K F W A s σ H)
    (hw : Wp (mMut mo ma g) s (fun d s' => ∀ W' A' v H', Wle F W W' → Rel X.prog X.w X.K F W' A' s' σ H' → cD X F W' A' s' σ H' v d → Q v H') NoX) : tBM X.K "list" (rSz r) (TX X o) (TAx X es) σ H Q := by
  unfold mMut at hw
  rw [wp_bind] at hw
  refine ho F W A s σ H _ R (wp_mono hw (fun rf s1 h1 => ?_) fun _ _ z => z)
  intro W1 A1 v H1 l1 R1 c1
  rw [wp_bind, wp_getS] at h1
  split at h1
  · rename_i t et
    have tv := tgOf_v R1 c1 et
    split at h1
    · rename_i xs0 eg
      obtain ⟨a, rfl, bx, _, _⟩ := R1.change tv eg
      obtain ⟨vs0, hH, _⟩ := bx.lst_inv
      refine ⟨.inl ⟨rfl, _, SqL.of hH⟩, ?_⟩
      rw [wp_bind] at h1
      refine ha F W1 A1 s1 σ H1 _ R1 (wp_mono h1 (fun ds s2 h2 => ?_) fun _ _ z => z)
      intro W2 A2 us H2 l2 R2 c2 n2
      rw [wp_bind, wp_getS] at h2
      split at h2
      · rename_i es' eg2
        have tv2 := tv.up l2 R2 eg2
        obtain ⟨a', ea, bx2, hG, ch⟩ := R2.change tv2 eg2
        cases ea
        obtain ⟨xs, hH2, rx⟩ := bx2.lst_inv
        split at h2
        · rename_i ys d ed
          rw [wp_bind, wp_setS, wp_pure] at h2
          refine fun sz => hr W2 H2 a xs ds ys es' us d Q R2.g hG hH2 (sz a xs rfl hH2) rx c2 ed fun zs z rz cz => ?_
          exact h2 W2 A2 z _ (l1.trans l2) (ch _ _ (.lst upd_same rz)) cz
        · exact h2.elim
      · exact h2.elim
    · exact h1.elim
  · exact h1.elim
end
section
variable {X : Cx} {pos apos : Pos} {o : Expr} {name : Str} {id : String} {r : V → List V → Hp → VK → Prop}
theorem vd_mut {e : Expr} {es : List Expr} {mo : M Ref} {ma : M (List D)} {g : GM} (slot : Slot "list" name id) (hty : typeOf (.builtin id) = pure (.type "method_descriptor")) (hm : MtM X id r) (hr : MutR X r g) (ho : VR X o mo) (ha : VA X (e :: es) ma)
    (hb : noSuper o = true) (hs : (e :: es).all (fun e => !isStar e) = true) (hn : (e :: es).length < 30) (hl : (apos.endLine == pos.line) = true) : VD X (.Call (.Attribute o name apos) (e :: es) [] pos) (mMut mo ma g) := by
  intro F W A s σ H Q R hw
  have hs' := hs
  simp only [List.all_cons, Bool.and_eq_true, Bool.not_eq_true'] at hs'
  exact tx_of (pe_bm PySem.F.plainAttrs_list slot hty (mt_sz hm) pe_tx pa_ta (base_of hb) (form_of hs hn) hl (star_cons hs'.1) (star_none hs'.2)) (mut_run ho ha hr R hw)
theorem vd_mut0 {mo : M Ref} {g : GM} (slot : Slot "list" name id) (hty : typeOf (.builtin id) = pure (.type "method_descriptor")) (hm : MtM X id r) (hr : MutR X r g) (ho : VR X o mo)
    (hb : noSuper o = true) (hl : (apos.endLine == pos.line) = true) : VD X (.Call (.Attribute o name apos) [] [] pos) (mMut mo (Pure.pure []) g) := by
  intro F W A s σ H Q R hw
  refine tx_of (pe_bm0 PySem.F.plainAttrs_list slot hty (mt_sz hm) pe_tx (base_of hb) hl) ?_
  have q := mut_run (es := []) ho va_nil hr R hw
  show TX X o σ H fun x H1 => tyV X.K "list" x H1 ∧ rSz r x [] H1 Q
  unfold mMut at hw
  rw [wp_bind] at hw
  refine ho F W A s σ H _ R (wp_mono hw (fun rf s1 h1 => ?_) fun _ _ z => z)
  intro W1 A1 v H1 l1 R1 c1
  rw [wp_bind, wp_getS] at h1
  split at h1
  · rename_i t et
    have tv := tgOf_v R1 c1 et
    split at h1
    · rename_i xs0 eg
      obtain ⟨a, rfl, bx, hG, ch⟩ := R1.change tv eg
      obtain ⟨xs, hH, rx⟩ := bx.lst_inv
      refine ⟨.inl ⟨rfl, _, SqL.of hH⟩, ?_⟩
      rw [wp_bind, wp_pure, wp_bind, wp_getS, eg] at h1
      simp only at h1
      split at h1
      · rename_i ys d ed
        rw [wp_bind, wp_setS, wp_pure] at h1
        refine fun sz => hr W1 H1 a xs [] ys xs0 [] d Q R1.g hG hH (sz a xs rfl hH) rx Rps.nil ed fun zs z rz cz => ?_
        exact h1 W1 A1 z _ l1 (ch _ _ (.lst upd_same rz)) cz
      · exact h1.elim
    · exact h1.elim
  · exact h1.elim

/-! the methods -/
def gAppend : GM := fun xs ds => match ds with
  | [y] => if xs.length < sizeLine then some (xs ++ [y], .non) else none
  | _ => none
def gExtend : GM := fun xs ds => match ds with
  | [.lst ys] => if xs.length + ys.length ≤ sizeLine then some (xs ++ ys, .non) else none
  | _ => none
def gPop : GM := fun xs ds => match ds with
  | [] => (xs[xs.length - 1]?).map fun y => (xs.dropLast, y)
  | [.int i] => if i.natAbs < 9223372036854775808 then match seqIndex? i xs.length with
    | some k => (xs[k]?).map fun y => (xs.eraseIdx k, y)
    | none => none else none
  | _ => none
def gReverse : GM := fun xs ds => match ds with
  | [] => some (xs.reverse, .non)
  | _ => none
def gClear : GM := fun xs ds => match ds with
  | [] => some ([], .non)
  | _ => none
theorem rps1 {P : Program} {w : World} {K : PySem.W.Frag} {W : Wd} {vs : List V} {d : D} (r : Rps P w K W vs [d]) : ∃ v, vs = [v] ∧ Rp P w K W v d := by
  match vs, r with
  | [v], r => exact ⟨v, rfl, r.2 0 _ _ rfl rfl⟩
  | [], r => exact nomatch r.1
  | _ :: _ :: _, r => exact nomatch r.1
theorem rps0 {P : Program} {w : World} {K : PySem.W.Frag} {W : Wd} {vs : List V} (r : Rps P w K W vs []) : vs = [] := List.length_eq_zero_iff.mp r.1
theorem Rps.erase {P : Program} {w : World} {K : PySem.W.Frag} {W : Wd} : ∀ {vs : List V} {xs : List D} (k : Nat), Rps P w K W vs xs → Rps P w K W (vs.eraseIdx k) (xs.eraseIdx k)
  | [], [], k, r => r
  | v :: vs, x :: xs, 0, r => ⟨Nat.succ.inj r.1, fun i a b e1 e2 => r.2 (i + 1) a b e1 e2⟩
  | v :: vs, x :: xs, k + 1, r => .cons (r.2 0 _ _ rfl rfl) (Rps.erase k ⟨Nat.succ.inj r.1, fun i a b e1 e2 => r.2 (i + 1) a b e1 e2⟩)
  | [], _ :: _, _, r => nomatch r.1
  | _ :: _, [], _, r => nomatch r.1
theorem Rps.rev {P : Program} {w : World} {K : PySem.W.Frag} {W : Wd} {vs : List V} {xs : List D} (r : Rps P w K W vs xs) : Rps P w K W vs.reverse xs.reverse := by
  refine ⟨by simp [r.1], fun i v d e1 e2 => ?_⟩
  have h1 : i < vs.length := by have := (List.getElem?_eq_some_iff.mp e1).1; simpa using this
  rw [List.getElem?_reverse h1] at e1
  rw [List.getElem?_reverse (by rw [← r.1]; exact h1), ← r.1] at e2
  exact r.2 _ v d e1 e2
theorem mr_append : MutR X rAppend gAppend := by
  intro W H a xs ds ys es vs d Q g hG hH hz rx rv e q
  unfold gAppend at e
  split at e
  · split at e
    · cases e
      obtain ⟨v, rfl, cv⟩ := rps1 rv
      refine ⟨a, xs, v, rfl, rfl, hH, by rw [rx.1]; assumption, q _ _ (rx.append (.cons cv .nil)) .non⟩
    · cases e
  · cases e
theorem mr_extend : MutR X rExtend gExtend := by
  intro W H a xs ds ys es vs d Q g hG hH hz rx rv e q
  unfold gExtend at e
  split at e
  · split at e
    · cases e
      obtain ⟨v, rfl, cv⟩ := rps1 rv
      cases cv with
      | lst h hl hr => exact ⟨a, _, xs, _, rfl, rfl, hH, g _ _ h, by rw [rx.1, hl]; assumption, q _ _ (rx.append ⟨hl, hr⟩) .non⟩
    · cases e
  · cases e
theorem mr_reverse : MutR X rReverse gReverse := by
  intro W H a xs ds ys es vs d Q g hG hH hz rx rv e q
  unfold gReverse at e
  split at e
  · cases e
    exact ⟨a, xs, rfl, rps0 rv, hH, q _ _ rx.rev .non⟩
  · cases e
theorem mr_clear : MutR X rClear gClear := by
  intro W H a xs ds ys es vs d Q g hG hH hz rx rv e q
  unfold gClear at e
  split at e
  · cases e
    exact ⟨a, xs, rfl, rps0 rv, hH, q _ _ .nil .non⟩
  · cases e
def rPops : V → List V → Hp → VK → Prop := fun x vs H Q => rPop x vs H Q ∨ rPopAt x vs H Q
theorem mt_pops : MtM X "list.pop" rPops := fun pins s σ H x vs v us Q I rx rv h => by
  rcases h with h | h
  · exact mt_pop pins s σ H x vs v us Q I rx rv h
  · exact mt_popAt pins s σ H x vs v us Q I rx rv h
theorem mr_pop : MutR X rPops gPop := by
  intro W H a xs ds ys es vs d Q g hG hH hz rx rv e q
  unfold gPop at e
  split at e
  · obtain ⟨y, ey, e⟩ := Option.map_eq_some_iff.mp e
    cases e
    obtain ⟨v, ev, cv⟩ := rx.get ey
    refine .inl ⟨a, xs, v, rfl, rps0 rv, hH, by rw [rx.1]; exact ev, q _ _ ?_ cv⟩
    rw [List.dropLast_eq_take, List.dropLast_eq_take, rx.1]
    exact rx.take _
  · rename_i i
    split at e
    · rename_i hi
      split at e
      · rename_i k ek
        obtain ⟨y, ey, e⟩ := Option.map_eq_some_iff.mp e
        cases e
        obtain ⟨v, ev, cv⟩ := rx.get ey
        obtain ⟨u, rfl, cu⟩ := rps1 rv
        cases cu
        exact .inr ⟨a, xs, i, k, v, rfl, rfl, hH, by omega, by omega, by rw [rx.1]; exact ek, ev, q _ _ (rx.erase k) cv⟩
      · cases e
    · cases e
  · cases e
end
end Vl
set_option Elab.async false
set_option linter.all false
set_option maxRecDepth 100000
set_option maxHeartbeats 4000000
/-! V12: stores; small statements -/
namespace Vl
open PySem PySem.Spec PyProof.Rows L2

/-! ### o[i] = v by values -/
def putAt (b : Box) (x d : D) : Option Box := match b, x with
  | .lst xs, .int k => (ixN xs.length k).map fun j => .lst (xs.set j d)
  | .dct kvs, x => if keyOk x kvs = true then (if kvs.length < sizeLine then some (.dct (dPut kvs x d)) else none) else none
  | _, _ => none
def TSet1 (X : Cx) : TSet := fun o i v H Q => ∀ pins s σ ov iv u, Inv X pins σ H s → RelV o ov → RelV i iv → RelV v u → wpAny (model X.prog X.w) X.A (setItem ov iv u) (fun _ s' => ∃ H', Inv X pins σ H' s' ∧ Q H') X.xe s
theorem set_raw {X : Cx} : PSet X (TSet1 X) := fun pins s σ H o i v ov iv u Q I r1 r2 r3 h => h pins s σ ov iv u I r1 r2 r3
theorem set_of {X : Cx} {t : TSet} {o i v : V} {H : Hp} {Q : Hp → Prop} (h : PSet X t) (q : t o i v H Q) : TSet1 X o i v H Q := fun pins s σ ov iv u I r1 r2 r3 => h pins s σ H o i v ov iv u Q I r1 r2 r3 q
theorem nodup_putX {en : EnX} {k : NestedKey} {b : Addr} {v : V} : True := trivial
section
variable {X : Cx} {F : Hp} {W : Wd} {A : Nat → Addr} {s : S} {σ : Sl} {H : Hp}
theorem Rps.set {P : Program} {w : World} {K : PySem.W.Frag} {W : Wd} {vs : List V} {xs : List D} (r : Rps P w K W vs xs) {v : V} {d : D} (c : Rp P w K W v d) (j : Nat) : Rps P w K W (vs.set j v) (xs.set j d) := by
  refine ⟨by rw [List.length_set, List.length_set, r.1], fun i a b e1 e2 => ?_⟩
  by_cases z : j = i
  · subst z
    have h1 := (List.getElem?_eq_some_iff.mp e1).1
    have h2 := (List.getElem?_eq_some_iff.mp e2).1
    rw [List.length_set] at h1 h2
    rw [List.getElem?_set_self h1] at e1
    rw [List.getElem?_set_self h2] at e2
    cases e1; cases e2; exact c
  · rw [List.getElem?_set_ne z] at e1 e2
    exact r.2 i a b e1 e2
theorem RpK.put {P : Program} {w : World} {K : PySem.W.Frag} {W : Wd} {en : List (Key × V)} {kvs : List (D × D)} (r : RpK P w K W en kvs) {k : Key} {v : V} {d : D} (c : Rp P w K W v d) : RpK P w K W (putK en k v) (dPut kvs (kD k) d) := by
  have p : Paired (fun (e : Key × V) (p : D × D) => p.1 = kD e.1 ∧ Rp P w K W e.2 p.2) (putK en k v) (dPut kvs (kD k) d) := by
    unfold putK dPut
    have q := Paired.store (p := fun (x : Key × V) => decide (x.1 = k)) (q := fun (x : D × D) => keyEq x.1 (kD k)) (f := fun x => (x.1, v)) (g := fun x => (x.1, d)) (x := (k, v)) (y := (kD k, d)) (Paired.of_get r.1 r.2)
      (fun x y h => by rw [h.1, keyEq_kD]) (fun x y h => ⟨h.1, c⟩) ⟨rfl, c⟩
    have e1 : (if (en.any fun x => decide (x.1 = k)) = true then en.map fun x => if x.1 = k then (x.1, v) else x else en ++ [(k, v)]) = (if (en.any fun x => decide (x.1 = k)) = true then en.map (fun z => if decide (z.1 = k) = true then (z.1, v) else z) else en ++ [(k, v)]) := by
      simp only [decide_eq_true_eq]
    first
      | exact q
      | (rw [e1]; exact q)
      | (simpa only [decide_eq_true_eq] using q)
  exact ⟨Paired.length p, Paired.get p⟩
theorem RpX.put {P : Program} {w : World} {K : PySem.W.Frag} {W : Wd} {en : EnX} {kvs : List (D × D)} (r : RpX P w K W en kvs) {k : NestedKey} {b : Addr} {v : V} {d : D} (hk : k.depth ≤ 8) (ck : Rp P w K W (.ref b) (nD k)) (c : Rp P w K W v d) : RpX P w K W (putX en k b v) (dPut kvs (nD k) d) := by
  have p : Paired (fun (e : NestedKey × Addr × V) (p : D × D) => (p.1 = nD e.1 ∧ e.1.depth ≤ 8) ∧ Rp P w K W (.ref e.2.1) p.1 ∧ Rp P w K W e.2.2 p.2) (putX en k b v) (dPut kvs (nD k) d) := by
    unfold putX dPut
    exact Paired.store (p := fun (x : NestedKey × Addr × V) => decide (x.1 = k)) (q := fun (x : D × D) => keyEq x.1 (nD k)) (f := fun x => (x.1, x.2.1, v)) (g := fun x => (x.1, d)) (x := (k, b, v)) (y := (nD k, d)) (Paired.of_get r.1 r.2)
      (fun x y h => by rw [h.1.1, keyEq_nD]) (fun x y h => ⟨h.1, h.2.1, c⟩) ⟨⟨rfl, hk⟩, ck, c⟩
  exact ⟨Paired.length p, Paired.get p⟩
theorem putX_len (en : EnX) (k : NestedKey) (b : Addr) (v : V) : (putX en k b v).length ≤ en.length + 1 ∧ putX en k b v ≠ [] := by
  unfold putX
  split
  · rename_i h
    refine ⟨by rw [List.length_map]; omega, fun z => ?_⟩
    have : en = [] := List.map_eq_nil_iff.mp z
    subst this; cases h
  · exact ⟨by rw [List.length_append]; simp, by simp⟩
/-- THE RULE of a store -/
theorem set_run {t : Tg} {b b' : Box} {o i v : V} {x d : D} {Q : Hp → Prop} (hu : X.A.units + 9 < cLine) (R : Rel X.prog X.w X.K F W A s σ H) (tv : TgV W σ A t o) (g : getT t s = some b) (cx : Vw X.prog X.w X.K W H i x) (c : Rp X.prog X.w X.K W v d) (e : putAt b x d = some b')
    (q : ∀ H', Rel X.prog X.w X.K F W A (putT t b' s) σ H' → Q H') : TSet1 X o i v H Q := by
  obtain ⟨a, rfl, bx, hG, ch⟩ := R.change tv g
  unfold putAt at e
  split at e
  · rename_i xs k
    obtain ⟨j, ej, rfl⟩ := Option.map_eq_some_iff.mp e
    obtain ⟨vs, hH, r⟩ := bx.lst_inv
    obtain rfl := cx.int
    exact set_of set_list ⟨a, vs, k, j, rfl, rfl, hH, by rw [r.1]; exact ej, q _ (ch _ _ (.lst upd_same (r.set c j)))⟩
  · rename_i kvs
    split at e
    · rename_i hk
      split at e
      · rename_i hz
        cases e
        have dd : (∃ en, Rd H a (.dK en) ∧ RpK X.prog X.w X.K W en kvs) ∨ ∃ en, Rd H a (DX X.prog X.w a en) ∧ RpX X.prog X.w X.K W en kvs ∧ en ≠ [] := by
          cases bx with
          | dk h hr => exact .inl ⟨_, .inl h, hr⟩
          | dx h hne hr => exact .inr ⟨_, .inl h, hr, hne⟩
        have hO : (∃ en, H a = some (.dK en)) ∨ ∃ en, H a = some (DX X.prog X.w a en) := by
          cases bx with
          | dk h hr => exact .inl ⟨_, h⟩
          | dx h hne hr => exact .inr ⟨_, h⟩
        rcases keyOk_kind hk dd with ⟨k, en, rfl, h1, h2⟩ | ⟨ks, rfl, hd, dd⟩
        · obtain rfl := vw_kD cx
          have hH : H a = some (.dK en) := by
            rcases h1 with h1 | ⟨ob, h1⟩
            · exact h1
            · rcases hO with ⟨_, z⟩ | ⟨_, z⟩ <;> rw [h1] at z <;> cases z
          intro pins sh σ' ov iv u I r1 r2 r3
          cases r1
          exact d_setItem (by omega) I (DPut.k hH (by rw [h2.1]; exact hz)) r2 r3 fun s' I' => ⟨_, I', q _ (ch _ _ (.dk upd_same (h2.put c)))⟩
        · obtain ⟨b, rfl, rb⟩ := vw_tupKey cx
          intro pins sh σ' ov iv u I r1 r2 r3
          cases r1
          cases r2
          obtain ⟨hz', hs, en, xs, rel, rx, hm, hp⟩ := dt_all I R.g dd
          have hkey := key_is I R.g rb hd
          have hr : (nestedKind X.prog X.w).room X.A.in1 := by show X.A.units + 1 + 8 < cLine; omega
          have mu : Mut (H a) := by rcases hO with ⟨_, z⟩ | ⟨_, z⟩ <;> rw [z] <;> trivial
          refine wpAny_setItem_heap (hsz := by rw [← Paired.length hp]; exact hz') hr hkey hm fun h' hm' hsb => ?_
          obtain ⟨o, es, ep, ho, hc, hdat, hes, _, hnd⟩ := hm'
          have hl : (putX en (.tup ks) b v).length ≤ sizeLine := by
            have := (putX_len en (.tup ks) b v).1
            rw [rx.1] at this
            omega
          have rel' : Paired (fun (p : NestedKey × Addr × V) (q : NestedKey × Addr × Value) => p.1 = q.1 ∧ p.2.1 = q.2.1 ∧ RelV p.2.2 q.2.2) (putX en (.tup ks) b v) (storedH xs (.tup ks) b u) := by
            rw [storedH_if]
            unfold putX
            exact Paired.store (p := fun (x : NestedKey × Addr × V) => decide (x.1 = NestedKey.tup ks)) (q := fun (x : NestedKey × Addr × Value) => decide (x.1 = NestedKey.tup ks)) (f := fun x => (x.1, x.2.1, v)) (g := fun x => (x.1, x.2.1, u)) (x := (.tup ks, b, v)) (y := (.tup ks, b, u)) rel
              (fun x y h => by rw [h.1]) (fun x y h => ⟨h.1, h.2.1, r3⟩) ⟨rfl, rfl, r3⟩
          have I' := d_write (t' := sh.toks + (nestedKind X.prog X.w).draws (.tup ks)) (ob := DX X.prog X.w a (putX en (.tup ks) b v)) I mu hsb ⟨o, ho⟩
            ⟨⟨_, rel', o, es, ep, ho, hc, hdat, hes, hnd, hl, hs⟩, ⟨o, ho⟩, fun h1 h2 ⟨xs, a1, o1, b1, c1, d1⟩ hh => ⟨xs, a1, o1, b1, c1, hh _ d1.1, d1.2⟩⟩
          exact ⟨_, I', q _ (ch _ _ (.dx upd_same (putX_len ..).2 (rx.put hd rb c)))⟩
      · cases e
    · cases e
  · cases e
end
end Vl
set_option Elab.async false
set_option linter.all false
set_option maxRecDepth 100000
set_option maxHeartbeats 4000000
/-! V13: statements without loops -/
namespace Vl
open PySem PySem.Spec PyProof.Rows L2

/-- how a statement ends -/
inductive Fl where
  | nx | bk | ct | rt (r : Rz)
section
variable (X : Cx)
def TS1 (st : Stmt) : TS := fun D σ H => ∀ pins s, Inv X pins σ H s → wpAny (model X.prog X.w) X.A (exec st X.env) (SP X pins D) X.xe s
def TSx (sts : List Stmt) : TS := fun D σ H => ∀ pins s, Inv X pins σ H s → wpAny (model X.prog X.w) X.A (execs sts X.env) (SP X pins D) X.xe s
end
theorem ps_ts {X : Cx} {st : Stmt} : PS X st (TS1 X st) := ⟨fun pins s σ H D I h => h pins s I⟩
theorem pss_ts {X : Cx} {sts : List Stmt} : PSs X sts (TSx X sts) := ⟨fun pins s σ H D I h => h pins s I⟩
theorem ts_of {X : Cx} {st : Stmt} {t : TS} {D : Ends} {σ : Sl} {H : Hp} (h : PS X st t) (q : t D σ H) : TS1 X st D σ H := fun pins s I => h.run pins s σ H D I q
theorem tss_of {X : Cx} {sts : List Stmt} {t : TS} {D : Ends} {σ : Sl} {H : Hp} (h : PSs X sts t) (q : t D σ H) : TSx X sts D σ H := fun pins s I => h.run pins s σ H D I q
/-- the wanted end at a state -/
def FE (X : Cx) (F : Hp) (W : Wd) (D : Ends) (fl : Fl) (s' : S) : Prop := ∀ W' A' σ' H', Wle F W W' → Rel X.prog X.w X.K F W' A' s' σ' H' → match fl with
  | .nx => D.nx σ' H'
  | .bk => D.bk σ' H'
  | .ct => D.ct σ' H'
  | .rt r => ∀ v, RR X.prog X.w X.K F W' A' s' H' v r → D.rt v H'
def VS (X : Cx) (st : Stmt) (m : M Fl) : Prop := ∀ (F : Hp) (W : Wd) (A : Nat → Addr) (s : S) (σ : Sl) (H : Hp) (D : Ends), Rel X.prog X.w X.K F W A s σ H → Wp m s (FE X F W D) NoX → TS1 X st D σ H
def VSs (X : Cx) (sts : List Stmt) (m : M Fl) : Prop := ∀ (F : Hp) (W : Wd) (A : Nat → Addr) (s : S) (σ : Sl) (H : Hp) (D : Ends), Rel X.prog X.w X.K F W A s σ H → Wp m s (FE X F W D) NoX → TSx X sts D σ H
theorem FE.up {X : Cx} {F : Hp} {W W1 : Wd} {D : Ends} {fl : Fl} {s' : S} (h : FE X F W D fl s') (l : Wle F W W1) : FE X F W1 D fl s' := fun W' A' σ' H' l' R' => h W' A' σ' H' (l.trans l') R'
def mSeq (m n : M Fl) : M Fl := do
  match ← m with
  | .nx => n
  | f => Pure.pure f
section
variable {X : Cx} {pos : Pos}
theorem vss_nil : VSs X [] (Pure.pure .nx) := by
  intro F W A s σ H D R hw
  exact tss_of pss_nil (hw W A σ H Wle.refl R)
theorem vss_one {st : Stmt} {m : M Fl} (h : VS X st m) : VSs X [st] m := by
  intro F W A s σ H D R hw
  exact tss_of (pss_one ps_ts) (h F W A s σ H D R hw)
theorem vss_cons {st : Stmt} {sts : List Stmt} {m n : M Fl} (h : VS X st m) (h' : VSs X sts n) : VSs X (st :: sts) (mSeq m n) := by
  intro F W A s σ H D R hw
  refine tss_of (pss_cons ps_ts pss_ts) ?_
  refine h F W A s σ H _ R ?_
  unfold mSeq at hw
  rw [wp_bind] at hw
  refine wp_mono hw (fun fl s1 h1 => ?_) fun _ _ z => z
  intro W1 A1 σ1 H1 l1 R1
  cases fl with
  | nx => exact h' F W1 A1 s1 σ1 H1 D R1 (wp_mono h1 (fun fl s2 h2 => h2.up l1) fun _ _ z => z)
  | bk => exact h1 W1 A1 σ1 H1 l1 R1
  | ct => exact h1 W1 A1 σ1 H1 l1 R1
  | rt r => exact fun v c => h1 W1 A1 σ1 H1 l1 R1 v c
theorem vs_pass : VS X (.Pass pos) (Pure.pure .nx) := by
  intro F W A s σ H D R hw
  exact ts_of ps_pass (hw W A σ H Wle.refl R)
theorem vs_break : VS X (.Break pos) (Pure.pure .bk) := by
  intro F W A s σ H D R hw
  exact ts_of ps_break (hw W A σ H Wle.refl R)
theorem vs_continue : VS X (.Continue pos) (Pure.pure .ct) := by
  intro F W A s σ H D R hw
  exact ts_of ps_continue (hw W A σ H Wle.refl R)
theorem vs_if {c : Expr} {a b : List Stmt} {mc : M Bool} {ma mb : M Fl} (hc : VT X c mc) (ha : VSs X a ma) (hb : VSs X b mb) : VS X (.If c a b pos) (do let k ← mc; if k then ma else mb) := by
  intro F W A s σ H D R hw
  refine ts_of (ps_if pt_tt pss_ts pss_ts) ?_
  rw [wp_bind] at hw
  refine hc F W A s σ H _ R (wp_mono hw (fun k s1 h1 => ?_) fun _ _ z => z)
  intro W1 A1 H1 l1 R1
  cases k with
  | true => exact iteT (ha F W1 A1 s1 σ H1 D R1 (wp_mono h1 (fun fl s2 h2 => h2.up l1) fun _ _ z => z))
  | false => exact iteF (hb F W1 A1 s1 σ H1 D R1 (wp_mono h1 (fun fl s2 h2 => h2.up l1) fun _ _ z => z))
theorem vs_ret {e : Expr} {m : M Rz} (h : VE X e m) : VS X (.Return (some e) pos) (do let r ← m; Pure.pure (.rt r)) := by
  intro F W A s σ H D R hw
  refine ts_of (ps_ret pe_tx) ?_
  rw [wp_bind] at hw
  exact h F W A s σ H _ R (wp_mono hw (fun r s1 h1 W1 A1 v H1 l1 R1 c1 => h1 W1 A1 σ H1 l1 R1 v c1) fun _ _ z => z)
theorem vs_ret0 : VS X (.Return none pos) (Pure.pure (.rt (.dat .non))) := by
  intro F W A s σ H D R hw
  exact ts_of ps_retN (hw W A σ H Wle.refl R _ .non)
def isComp : Expr → Bool
  | .ListComp _ _ _ _ => true
  | .SetComp _ _ _ _ => true
  | .DictComp _ _ _ _ _ => true
  | _ => false
theorem sw_no {e : Expr} {t : Option Expr} {l : Nat} {env : Env} (h : isComp e = false) : swapsWith e t l env = pure false := by
  cases e <;> first | rfl | cases h
theorem sw_attr {e o : Expr} {f : Str} {p : Pos} {l : Nat} {env : Env} : swapsWith e (some (.Attribute o f p)) l env = pure false := by
  cases e <;> rfl
theorem sw_sub {e o i : Expr} {p : Pos} {l : Nat} {env : Env} : swapsWith e (some (.Subscript o i p)) l env = pure false := by
  cases e <;> rfl
theorem sw_tup {e : Expr} {es : List Expr} {k : Nat} {p : Pos} {l : Nat} {env : Env} : swapsWith e (some (.Tuple es k p)) l env = pure false := by
  cases e <;> rfl
theorem vs_expr {e : Expr} {m : M Rz} (h : VE X e m) (hs : isComp e = false) : VS X (.Expr e pos) (do let _ ← m; Pure.pure .nx) := by
  intro F W A s σ H D R hw
  refine ts_of (ps_expr pe_tx (sw_no hs)) ?_
  rw [wp_bind] at hw
  exact h F W A s σ H _ R (wp_mono hw (fun r s1 h1 W1 A1 v H1 l1 R1 c1 => h1 W1 A1 σ H1 l1 R1) fun _ _ z => z)
end

/-! ### a fresh result becomes a box -/
def toBox : Rz → M Rz
  | .dat d => Pure.pure (.dat d)
  | .own b => fun s => .ok (.dat (.box s.sto.length)) { s with sto := s.sto ++ [b] }
theorem VE.boxed {X : Cx} {e : Expr} {m : M Rz} (h : VE X e m) : VE X e (m >>= toBox) := by
  intro F W A s σ H Q R hw
  rw [wp_bind] at hw
  refine h F W A s σ H Q R (wp_mono hw (fun r s1 h1 => ?_) fun _ _ z => z)
  intro W1 A1 v H1 l1 R1 c1
  cases r with
  | dat d => exact h1 W1 A1 v H1 l1 R1 c1
  | own b =>
    obtain ⟨a, rfl, f⟩ := c1
    obtain ⟨l2, R2, c2⟩ := R1.box f
    exact h1 _ A1 _ H1 (l1.trans l2) R2 c2
/-- a slot's own object moves out -/
def mvSlot (i : Nat) : M Rz := fun s => match s.env[i]? with
  | some (some (.dat d)) => .ok (.dat d) s
  | some (some (.own b)) => .ok (.own b) { s with env := s.env.set i none }
  | _ => .stuck
section
variable {P : Program} {w : World} {K : PySem.W.Frag} {F H : Hp} {W : Wd} {A : Nat → Addr} {s : S} {σ : Sl}
/-- a slot forgotten (in the state; the frame may hold what it likes) -/
theorem Rel.forget (R : Rel P w K F W A s σ H) (i : Nat) : Rel P w K F W A { s with env := s.env.set i none } σ H := by
  have own' : ∀ (j : Nat) c, (s.env.set i none)[j]? = some (some c) → s.env[j]? = some (some c) := fun j c q => by
    by_cases z : i = j
    · subst z
      rw [List.getElem?_set] at q
      simp only [if_true] at q
      split at q <;> cases q
    · rw [List.getElem?_set_ne z] at q; exact q
  exact ⟨R.g, R.f, R.bn, R.nd, R.bl, R.bx, by rw [List.length_set]; exact R.len, fun j c q => R.sl j c (own' j _ q), fun j c q => R.ow j c (own' j _ q), fun j k c c' q q' => R.inj j k c c' (own' j _ q) (own' k _ q')⟩
theorem Rel.moved {i : Nat} {b : Box} (R : Rel P w K F W A s σ H) (e : s.env[i]? = some (some (.own b))) : Fr P w K F W A { s with env := s.env.set i none } H (A i) b := by
  obtain ⟨e1, e2, e3, e4, e5⟩ := R.ow i b e
  refine ⟨e2, e3, e4, e5, fun j c q z => ?_⟩
  have q : (s.env.set i none)[j]? = some (some (.own c)) := q
  by_cases y : i = j
  · subst y
    rw [List.getElem?_set_self (List.getElem?_eq_some_iff.mp e).1] at q; cases q
  · rw [List.getElem?_set_ne y] at q
    exact y (R.inj i j b c e q z.symm)
/-- THE RULE of a store in a slot -/
theorem Rel.slot {v : V} {r : Rz} (R : Rel P w K F W A s σ H) (c : RR P w K F W A s H v r) (i : Nat) : ∃ A', Rel P w K F W A' { s with env := s.env.set i (some r) } (σ.set i (some v)) H := by
  have gs : ∀ {j : Nat} {x : Option Rz}, (s.env.set i (some r))[j]? = some x → (j = i ∧ x = some r ∧ i < s.env.length) ∨ (j ≠ i ∧ s.env[j]? = some x) := fun {j x} q => by
    by_cases z : i = j
    · subst z
      have h := (List.getElem?_eq_some_iff.mp q).1
      rw [List.length_set] at h
      rw [List.getElem?_set_self h] at q
      exact .inl ⟨rfl, (Option.some.inj q).symm, h⟩
    · rw [List.getElem?_set_ne z] at q
      exact .inr ⟨fun k => z k.symm, q⟩
  have so : ∀ {j : Nat}, j ≠ i → (σ.set i (some v))[j]? = σ[j]? := fun h => List.getElem?_set_ne (fun k => h k.symm)
  have si : i < s.env.length → (σ.set i (some v))[i]? = some (some v) := fun h => List.getElem?_set_self (by rw [R.len]; exact h)
  cases r with
  | dat d =>
    refine ⟨A, R.g, R.f, R.bn, R.nd, R.bl, R.bx, by rw [List.length_set, List.length_set]; exact R.len, fun j d' q => ?_, fun j b q => ?_, fun j k b b' q q' => ?_⟩
    · rcases gs q with ⟨rfl, e, h⟩ | ⟨h, q⟩
      · cases e; exact ⟨v, si h, c⟩
      · rw [so h]; exact R.sl j d' q
    · rcases gs q with ⟨rfl, e, h⟩ | ⟨h, q⟩
      · cases e
      · rw [so h]; exact R.ow j b q
    · rcases gs q with ⟨rfl, e, h⟩ | ⟨h, q⟩
      · cases e
      · rcases gs q' with ⟨rfl, e, h'⟩ | ⟨h', q'⟩
        · cases e
        · exact R.inj j k b b' q q'
  | own b =>
    obtain ⟨a, rfl, f⟩ := c
    have ao : ∀ {j : Nat}, j ≠ i → (fun j => if j = i then a else A j) j = A j := fun h => if_neg h
    refine ⟨fun j => if j = i then a else A j, R.g, R.f, R.bn, R.nd, R.bl, R.bx, by rw [List.length_set, List.length_set]; exact R.len, fun j d' q => ?_, fun j b' q => ?_, fun j k b1 b2 q q' z => ?_⟩
    · rcases gs q with ⟨rfl, e, h⟩ | ⟨h, q⟩
      · cases e
      · rw [so h]; exact R.sl j d' q
    · rcases gs q with ⟨rfl, e, h⟩ | ⟨h, q⟩
      · cases e
        simp only [if_true]
        exact ⟨si h, f.bx, f.g, f.f, f.b⟩
      · simp only [if_neg h]
        rw [so h]; exact R.ow j b' q
    · rcases gs q with ⟨rfl, e, h⟩ | ⟨h, q⟩
      · rcases gs q' with ⟨rfl, e, h'⟩ | ⟨h', q'⟩
        · rfl
        · simp only [if_true, if_neg h'] at z
          exact absurd z.symm (f.ow k b2 q')
      · rcases gs q' with ⟨rfl, e, h'⟩ | ⟨h', q'⟩
        · simp only [if_true, if_neg h] at z
          rename_i qq
          exact absurd z (f.ow j b1 (by assumption))
        · simp only [if_neg h, if_neg h'] at z
          exact R.inj j k b1 b2 q q' z
end
section
variable {X : Cx} {pos : Pos}
theorem ve_move {i : Nat} {x : Str} (hN : X.N[i]? = some x) (hv : Vis X.env.scope x) (hd : (x == ("__debug__" : Str)) = false) (hcd : (x == ("__classdict__" : Str)) = false) : VE X (.Name x pos) (mvSlot i) := by
  intro F W A s σ H Q R hw
  refine tx_of (pe_var hN hv hd hcd) ?_
  unfold Wp mvSlot at hw
  cases e : s.env[i]? with
  | none => rw [e] at hw; exact hw.elim
  | some o =>
    rw [e] at hw
    cases o with
    | none => exact hw.elim
    | some r =>
      cases r with
      | dat d =>
        obtain ⟨v, e1, e2⟩ := R.sl i d e
        exact ⟨v, e1, hw W A v H Wle.refl R e2⟩
      | own b => exact ⟨_, (R.ow i b e).1, hw W A _ H Wle.refl (R.forget i) ⟨_, rfl, R.moved e⟩⟩

/-! ### name = e -/
def setSlot (i : Nat) (r : Rz) : M Unit := fun s => .ok () { s with env := s.env.set i (some r) }
/-- the name of a slot may be stored -/
structure Sto (X : Cx) (i : Nat) (x : Str) : Prop where
  nd : X.N.Nodup
  at_ : X.N[i]? = some x
  loc : Loc X.env.scope x
  fn : X.fn x = true ∨ X.env.scope.names.lookup x = some .local
theorem vs_set {i : Nat} {x : Str} {e : Expr} {m : M Rz} {p : Pos} (t : Sto X i x) (h : VE X e m) (hs : swapsWith e (some (.Name x p)) pos.line X.env = pure false) : VS X (.Assign [.Name x p] e pos) (do let r ← m; setSlot i r; Pure.pure .nx) := by
  intro F W A s σ H D R hw
  refine ts_of (ps_set t.nd t.at_ t.loc pe_tx hs t.fn) ?_
  rw [wp_bind] at hw
  refine h F W A s σ H _ R (wp_mono hw (fun r s1 h1 => ?_) fun _ _ z => z)
  intro W1 A1 v H1 l1 R1 c1
  obtain ⟨A2, R2⟩ := R1.slot c1 i
  exact h1 W1 A2 _ H1 l1 R2

/-! ### targets of data -/
def TGx (X : Cx) (e : Expr) : TG := fun v σ H Q => ∀ pins s u, Inv X pins σ H s → RelV v u → wpAny (model X.prog X.w) X.A (assign e X.env u) (fun _ s' => ∃ σ' H', Inv X pins σ' H' s' ∧ Q σ' H') X.xe s
theorem pg_tg {X : Cx} {e : Expr} : PG X e (TGx X e) := ⟨fun pins s σ H v u Q I r h => h pins s u I r⟩
theorem tg_of {X : Cx} {e : Expr} {t : TG} {v : V} {σ : Sl} {H : Hp} {Q : Sl → Hp → Prop} (h : PG X e t) (q : t v σ H Q) : TGx X e v σ H Q := fun pins s u I r => h.run pins s σ H v u Q I r q
def TGsx (X : Cx) (es : List Expr) : TGs := fun vs σ H Q => ∀ pins s us, Inv X pins σ H s → Vals vs us → wpAny (model X.prog X.w) X.A (assignInOrder ((assignEach es X.env).map (·.2)) us) (fun _ s' => ∃ σ' H', Inv X pins σ' H' s' ∧ Q σ' H') X.xe s
theorem pgs_tg {X : Cx} {es : List Expr} : PGs X es (TGsx X es) := ⟨fun pins s σ H vs us Q I r h => h pins s us I r⟩
theorem tgs_of {X : Cx} {es : List Expr} {t : TGs} {vs : List V} {σ : Sl} {H : Hp} {Q : Sl → Hp → Prop} (h : PGs X es t) (q : t vs σ H Q) : TGsx X es vs σ H Q := fun pins s us I r => h.run pins s σ H vs us Q I r q
/-- only these slots have changed -/
def Only (ts : List Nat) (σ σ' : Sl) : Prop := σ'.length = σ.length ∧ ∀ j, j ∉ ts → σ'[j]? = σ[j]?
theorem Only.refl {ts : List Nat} {σ : Sl} : Only ts σ σ := ⟨rfl, fun _ _ => rfl⟩
theorem Only.trans {ts us : List Nat} {σ σ1 σ2 : Sl} (a : Only ts σ σ1) (b : Only us σ1 σ2) : Only (ts ++ us) σ σ2 := ⟨b.1.trans a.1, fun j h => by
  simp only [List.mem_append, not_or] at h
  rw [b.2 j h.2, a.2 j h.1]⟩
def VG1 (X : Cx) (ts : List Nat) (e : Expr) (g : D → M Unit) : Prop := ∀ (F : Hp) (W : Wd) (A : Nat → Addr) (s : S) (σ : Sl) (H : Hp) (v : V) (d : D) (Q : Sl → Hp → Prop), Rel X.prog X.w X.K F W A s σ H → Rp X.prog X.w X.K W v d →
  Wp (g d) s (fun _ s' => ∀ W' A' σ' H', Wle F W W' → Rel X.prog X.w X.K F W' A' s' σ' H' → Only ts σ σ' → Q σ' H') NoX → TGx X e v σ H Q
def VGs (X : Cx) (ts : List Nat) (es : List Expr) (g : List D → M Unit) : Prop := ∀ (F : Hp) (W : Wd) (A : Nat → Addr) (s : S) (σ : Sl) (H : Hp) (vs : List V) (ds : List D) (Q : Sl → Hp → Prop), Rel X.prog X.w X.K F W A s σ H → Rps X.prog X.w X.K W vs ds →
  Wp (g ds) s (fun _ s' => ∀ W' A' σ' H', Wle F W W' → Rel X.prog X.w X.K F W' A' s' σ' H' → Only ts σ σ' → Q σ' H') NoX → TGsx X es vs σ H Q
theorem vg_name {i : Nat} {x : Str} {p : Pos} (t : Sto X i x) : VG1 X [i] (.Name x p) (fun d => setSlot i (.dat d)) := by
  intro F W A s σ H v d Q R c hw
  refine tg_of (pg_name t.nd t.at_ t.loc t.fn) ?_
  obtain ⟨A2, R2⟩ := R.slot (r := .dat d) c i
  exact hw W A2 _ H Wle.refl R2 ⟨List.length_set, fun j h => List.getElem?_set_ne (fun z => h (by rw [z]; exact List.mem_cons_self))⟩
def gsNil : List D → M Unit
  | [] => Pure.pure ()
  | _ => stuck
def gsCons (g : D → M Unit) (gs : List D → M Unit) : List D → M Unit
  | d :: ds => do
    g d
    gs ds
  | _ => stuck
theorem vgs_nil : VGs X [] [] gsNil := by
  intro F W A s σ H vs ds Q R c hw
  cases ds with
  | nil =>
    obtain rfl := rps0 c
    exact tgs_of pgs_nil ⟨rfl, hw W A σ H Wle.refl R Only.refl⟩
  | cons d ds => exact hw.elim
theorem vgs_cons {e : Expr} {es : List Expr} {g : D → M Unit} {gs : List D → M Unit} {ts us : List Nat} (h : VG1 X ts e g) (h' : VGs X us es gs) (hs : isStar e = false) : VGs X (ts ++ us) (e :: es) (gsCons g gs) := by
  intro F W A s σ H vs ds Q R c hw
  have he : (assignEach (e :: es) X.env).map (·.2) = assign e X.env :: (assignEach es X.env).map (·.2) := by cases e <;> first | rfl | cases hs
  cases ds with
  | nil => exact hw.elim
  | cons d ds =>
    cases vs with
    | nil => cases c.1
    | cons v vs =>
      refine tgs_of (pgs_cons pg_tg pgs_tg he) ⟨v, vs, rfl, ?_⟩
      have hw : Wp (g d >>= fun _ => gs ds) s _ _ := hw
      rw [wp_bind] at hw
      refine h F W A s σ H v d _ R (c.2 0 _ _ rfl rfl) (wp_mono hw (fun _ s1 h1 => ?_) fun _ _ z => z)
      intro W1 A1 σ1 H1 l1 R1 o1
      have c1 : Rps X.prog X.w X.K W1 vs ds := Rps.up ⟨Nat.succ.inj c.1, fun i a b e1 e2 => c.2 (i + 1) a b e1 e2⟩ l1
      exact h' F W1 A1 s1 σ1 H1 vs ds Q R1 c1 (wp_mono h1 (fun _ s2 h2 W2 A2 σ2 H2 l2 R2 o2 => h2 W2 A2 σ2 H2 (l1.trans l2) R2 (o1.trans o2)) fun _ _ z => z)
def gTupD (n : Nat) (gs : List D → M Unit) : D → M Unit
  | .tup ds => if ds.length = n then gs ds else stuck
  | .lst ds => if ds.length = n then gs ds else stuck
  | _ => stuck
theorem each_len : ∀ {es : List Expr}, es.all (fun e => !isStar e) = true → (assignEach es X.env).length = es.length ∧ (assignEach es X.env).findIdx? (·.1) = none
  | [], _ => ⟨rfl, rfl⟩
  | e :: es, h => by
    simp only [List.all_cons, Bool.and_eq_true, Bool.not_eq_true'] at h
    obtain ⟨h1, h2⟩ := each_len h.2
    have he : assignEach (e :: es) X.env = (false, assign e X.env) :: assignEach es X.env := by cases e <;> first | rfl | cases h.1
    rw [he]
    refine ⟨by rw [List.length_cons, List.length_cons, h1], ?_⟩
    rw [List.findIdx?_cons, h2]
    rfl
theorem vg_tup {es : List Expr} {k : Nat} {p : Pos} {gs : List D → M Unit} {ts : List Nat} (hc : X.calm = true) (h : VGs X ts es gs) (hs : es.all (fun e => !isStar e) = true) : VG1 X ts (.Tuple es k p) (gTupD es.length gs) := by
  intro F W A s σ H v d Q R c hw
  obtain ⟨n1, n2⟩ := each_len (X := X) hs
  unfold gTupD at hw
  split at hw
  · split at hw
    · rename_i hl
      cases c with
      | tup hS hl' hr => exact tg_of (pg_tup hc pgs_tg n1 n2) ⟨_, _, rfl, sqT_up hS R.g, hl'.trans hl, h F W A s σ H _ _ Q R ⟨hl', hr⟩ hw⟩
    · exact hw.elim
  · split at hw
    · rename_i hl
      cases c with
      | lst hS hl' hr => exact tg_of (pg_lst hc pgs_tg n1 n2) ⟨_, _, rfl, SqL.of (R.g _ _ hS), hl'.trans hl, h F W A s σ H _ _ Q R ⟨hl', hr⟩ hw⟩
    · exact hw.elim
  · exact hw.elim

/-! ### o[i] = .. -/
def mStore (mo mi : M Ref) (d : D) : M Unit := do
  let ro ← mo
  let ri ← mi
  let x ← look ri
  let s ← getS
  match tgOf ro s with
  | some t => match getT t s with
    | some b => match putAt b x d with
      | some b' => setS (putT t b' s)
      | none => stuck
    | none => stuck
  | none => stuck
theorem store_run {o i : Expr} {mo mi : M Ref} (hu : X.A.units + 9 < cLine) (ho : VR X o mo) (hi : VR X i mi) {F : Hp} {W : Wd} {A : Nat → Addr} {s : S} {σ : Sl} {H : Hp} {v : V} {d : D} {Q : Sl → Hp → Prop} (R : Rel X.prog X.w X.K F W A s σ H) (c : Rp X.prog X.w X.K W v d)
    (hw : Wp (mStore mo mi d) s (fun _ s' => ∀ W' A' σ' H', Wle F W W' → Rel X.prog X.w X.K F W' A' s' σ' H' → Only [] σ σ' → Q σ' H') NoX) : gSub (TX X o) (TX X i) (TSet1 X) v σ H Q := by
  unfold mStore at hw
  rw [wp_bind] at hw
  refine ho F W A s σ H _ R (wp_mono hw (fun ro s1 h1 => ?_) fun _ _ z => z)
  intro W1 A1 ov H1 l1 R1 c1
  rw [wp_bind] at h1
  refine hi F W1 A1 s1 σ H1 _ R1 (wp_mono h1 (fun ri s2 h2 => ?_) fun _ _ z => z)
  intro W2 A2 iv H2 l2 R2 c2
  rw [wp_bind] at h2
  obtain ⟨x, ex, h2⟩ := wp_look h2
  rw [wp_bind, wp_getS] at h2
  split at h2
  · rename_i t et
    split at h2
    · rename_i b eb
      split at h2
      · rename_i b' ep
        have c1' : cR X F W2 A2 s2 σ H2 ov ro := cR_up c1 l2
        exact set_run hu R2 (tgOf_v R2 c1' et) eb (deref_vw R2 c2 ex) (c.up (l1.trans l2)) ep fun H' R' => h2 W2 A2 σ H' (l1.trans l2) R' Only.refl
      · exact h2.elim
    · exact h2.elim
  · exact h2.elim
theorem vg_sub {o i : Expr} {mo mi : M Ref} {p : Pos} (hu : X.A.units + 9 < cLine) (ho : VR X o mo) (hi : VR X i mi) (ha : ∀ v, assign (.Subscript o i p) X.env v = (do
      let ov ← holding [v] (eval o X.env)
      let iv ← holding [v, ov] (eval i X.env)
      standAt p
      holding [v, ov, iv] (setItem ov iv v)
      release [v, ov, iv] [])) : VG1 X [] (.Subscript o i p) (mStore mo mi) := by
  intro F W A s σ H v d Q R c hw
  exact tg_of (pg_sub pe_tx pe_tx set_raw ha) (store_run hu ho hi R c hw)
/-- target = value, the value as data -/
theorem vs_asg {tg e : Expr} {m : M D} {g : D → M Unit} {ts : List Nat} (h : VD X e m) (hg : VG1 X ts tg g) (hs : swapsWithSole [tg] e pos.line X.env = pure false) (hw : swappedStores [tg] e X.env = pure none) (h1 : (assignEach [tg] X.env).map (·.2) = [assign tg X.env]) :
    VS X (.Assign [tg] e pos) (do let d ← m; g d; Pure.pure .nx) := by
  intro F W A s σ H D R hm
  refine ts_of (ps_asg pe_tx pg_tg hs hw h1) ?_
  rw [wp_bind] at hm
  refine h F W A s σ H _ R (wp_mono hm (fun d s1 h1 => ?_) fun _ _ z => z)
  intro W1 A1 v H1 l1 R1 c1
  rw [wp_bind] at h1
  exact hg F W1 A1 s1 σ H1 v d _ R1 c1 (wp_mono h1 (fun _ s2 h2 W2 A2 σ2 H2 l2 R2 _ => h2 W2 A2 σ2 H2 (l1.trans l2) R2) fun _ _ z => z)

/-! ### o.f = e -/
def mPutF (ok : Str → Str → Bool) (d v : D) (f : Str) : M Unit := fun s => match d with
  | .box i => match s.sto[i]? with
    | some (.ins C gs) => if ok C f = true ∧ gs.length < 1000 then .ok () { s with sto := s.sto.set i (.ins C (putG f v gs)) } else .stuck
    | _ => .stuck
  | _ => .stuck
theorem vs_fld {o e : Expr} {f : Str} {p : Pos} {mo m : M D} {ok : Str → Str → Bool} (h : VD X e m) (ho : VD X o mo) (hA : AttrOk X.K ok) : VS X (.Assign [.Attribute o f p] e pos) (do let v ← m; let d ← mo; mPutF ok d v f; Pure.pure .nx) := by
  intro F W A s σ H D R hm
  refine ts_of (ps_fld pe_tx pe_tx sw_attr) ?_
  rw [wp_bind] at hm
  refine h F W A s σ H _ R (wp_mono hm (fun v s1 h1 => ?_) fun _ _ z => z)
  intro W1 A1 y H1 l1 R1 c1
  rw [wp_bind] at h1
  refine ho F W1 A1 s1 σ H1 _ R1 (wp_mono h1 (fun d s2 h2 => ?_) fun _ _ z => z)
  intro W2 A2 x H2 l2 R2 c2
  rw [wp_bind] at h2
  unfold Wp mPutF at h2
  cases d with
  | box i =>
    simp only at h2
    cases es : s2.sto[i]? with
    | none => rw [es] at h2; exact h2.elim
    | some b =>
      rw [es] at h2
      cases b with
      | ins C gs =>
        simp only at h2
        by_cases hk : ok C f = true ∧ gs.length < 1000
        · rw [if_pos hk] at h2
          cases c2 with
          | box hb =>
            obtain ⟨a, ea, bx, hG, ch⟩ := R2.change (t := .box i) ⟨_, rfl, hb⟩ es
            cases ea
            cases bx with
            | ins hH hr =>
              refine ⟨_, _, _, _, rfl, hH, (hA C f hk.1).1, (hA C f hk.1).2, by rw [hr.1]; exact hk.2, ?_⟩
              exact h2 W2 A2 σ _ (l1.trans l2) (ch _ _ (.ins upd_same (hr.put (c1.up l2))))
        · rw [if_neg hk] at h2
          exact h2.elim
      | _ => exact h2.elim
  | _ => exact h2.elim
end
end Vl
set_option Elab.async false
set_option linter.all false
set_option maxRecDepth 100000
set_option maxHeartbeats 4000000
/-! V14: a, b = x, y; augmented assignments -/
namespace Vl
open PySem PySem.Spec PyProof.Rows L2

/-! ### a, b, .. = x, y, ..: stored from the right -/
def setAll : List (Nat × V) → Sl → Sl
  | [], σ => σ
  | p :: r, σ => setAll r (σ.set p.1 (some p.2))
def setAllD : List (Nat × D) → M Unit
  | [] => Pure.pure ()
  | p :: r => do
    setSlot p.1 (.dat p.2)
    setAllD r
/-- the parallel names: their slots -/
inductive Stos (X : Cx) : List Nat → List Str → Prop
  | nil : Stos X [] []
  | cons {i : Nat} {x : Str} {is : List Nat} {xs : List Str} (h : Sto X i x) (hl : X.env.scope.names.lookup x = some .local) (t : Stos X is xs) : Stos X (i :: is) (x :: xs)
theorem Stos.app {X : Cx} {is js : List Nat} {xs ys : List Str} (a : Stos X is xs) (b : Stos X js ys) : Stos X (is ++ js) (xs ++ ys) := by
  induction a with
  | nil => exact b
  | cons h hl t ih => exact .cons h hl ih
theorem Stos.rev {X : Cx} {is : List Nat} {xs : List Str} (a : Stos X is xs) : Stos X is.reverse xs.reverse := by
  induction a with
  | nil => exact .nil
  | cons h hl t ih => rw [List.reverse_cons, List.reverse_cons]; exact ih.app (.cons h hl .nil)
theorem Stos.len {X : Cx} {is : List Nat} {xs : List Str} (a : Stos X is xs) : is.length = xs.length := by
  induction a with
  | nil => rfl
  | cons h hl t ih => rw [List.length_cons, List.length_cons, ih]
theorem vals_rev : ∀ {vs : List V} {us : List Value}, Vals vs us → Vals vs.reverse us.reverse
  | _, _, .nil => .nil
  | _, _, .cons r t => by rw [List.reverse_cons, List.reverse_cons]; exact (vals_rev t).append (.cons r .nil)
section
variable {X : Cx} {pos : Pos}
theorem stores_run {pins : List (Addr × Obj)} {H : Hp} {Q : Sl → Hp → Prop} : ∀ {is : List Nat} {xs : List Str} {vs : List V} {us : List Value} {σ : Sl} {s : Shared}, Stos X is xs → Vals vs us → is.length = vs.length → Inv X pins σ H s → Q (setAll (is.zip vs) σ) H →
    wpAny (model X.prog X.w) X.A (assignInOrder (xs.map fun n => fun v => bindName X.env n v) us) (fun _ s' => ∃ σ' H', Inv X pins σ' H' s' ∧ Q σ' H') X.xe s
  | _, _, _, _, _, _, .nil, .nil, _, I, q => assignInOrder_nil ⟨_, H, I, q⟩
  | _, _, _, _, _, _, .cons h hl t, .cons r rr, n, I, q => assignInOrder_cons (wpAny_bindName (store_ok I h.nd h.at_ h.loc r (fun s2 I2 => stores_run t rr (Nat.succ.inj n) I2 q) h.fn))
def tParN (is : List Nat) (ta : TA) : TS := fun D σ H => ta σ H fun vs H1 => vs.length = is.length ∧ D.nx (setAll (is.reverse.zip vs.reverse) σ) H1
theorem ps_parN {is : List Nat} {xs : List Str} {ts es : List Expr} {ta : TA} {pt : Pos} {kt k2 pt2} (hc : X.calm = true) (t : Stos X is xs) (ha : PA X es ta) (hn : xs.length ≤ 1000)
    (hw : swappedStores [.Tuple ts kt pt] (.Tuple es k2 pt2) X.env = pure (some xs)) (hs : swapsWithSole [.Tuple ts kt pt] (.Tuple es k2 pt2) pos.line X.env = pure false) :
    PS X (.Assign [.Tuple ts kt pt] (.Tuple es k2 pt2) pos) (tParN is ta) := by
  refine ⟨fun pins s σ H D I h => ?_⟩
  rw [exec_Assign_arm]
  refine wpAny_bind (wpAny_standAt ?_)
  rw [hs]
  refine wpAny_bind (wpAny_pure ?_)
  rw [if_neg (by decide)]
  refine wpAny_bind (Tuple_ (thn (ha.run _ pins s σ H _ I h) fun us s1 ⟨vs, H1, I1, r1, hl, q1⟩ => ?_))
  have hl2 : us.length = xs.length := by rw [← r1.length, hl, t.len]
  refine wpAny_newObj_type ?_ (by show us.toArray.size ≤ sizeLine; rw [List.size_toArray, hl2, sizeLine_eq]; omega)
  have I2 : Inv X pins σ H1 { s1 with heap := s1.heap.push { cls := .type "tuple", data := .seq us.toArray } } := I1.kept (t' := s1.toks) fun b o e => Heap.get?_push_of_some _ e
  rw [hw]
  refine wpAny_bind (wpAny_pure ?_)
  show wpAny (model X.prog X.w) X.A (do rule "assign.swapped-stores"; let items ← unpackItems (.ref s1.heap.objs.size) xs.length none; assignInOrder (xs.reverse.map fun n => fun v => bindName X.env n v) items.reverse; pure Flow.next) _ _ _
  have hsz : us.toArray.size = xs.length := by rw [List.size_toArray, hl2]
  refine wpAny_bind (wpAny_rule (wpAny_bind ?_))
  rw [← hsz]
  refine unpackItems_tuple (items := us.toArray) (I.ok.hd hc) (IsTup.new s1.heap _) fun h' hx' => ?_
  have I3 := I2.kept (h' := h') (t' := s1.toks) fun b o e => hx' b o (Nat.ne_of_lt (Heap.lt_size e)) e
  refine wpAny_bind (wpAny_mono (stores_run (Q := D.nx) t.rev (vals_rev r1) (by rw [List.length_reverse, List.length_reverse, hl]) I3 q1) (fun _ s' hq => wpAny_pure hq) fun _ _ z => z)
theorem setAll_run {F : Hp} {H : Hp} {W : Wd} : ∀ {ps : List (Nat × D)} {vs : List V} {A : Nat → Addr} {s : S} {σ : Sl} {Φ : S → Prop}, Rel X.prog X.w X.K F W A s σ H → Rps X.prog X.w X.K W vs (ps.map (·.2)) → Wp (setAllD ps) s (fun _ s' => Φ s') NoX →
    ∃ A' s', Φ s' ∧ Rel X.prog X.w X.K F W A' s' (setAll ((ps.map (·.1)).zip vs) σ) H
  | [], vs, A, s, σ, Φ, R, c, h => by
    obtain rfl := rps0 c
    exact ⟨A, s, h, R⟩
  | p :: ps, vs, A, s, σ, Φ, R, c, h => by
    cases vs with
    | nil => cases c.1
    | cons v vs =>
      obtain ⟨A1, R1⟩ := R.slot (r := .dat p.2) (c.2 0 _ _ rfl rfl) p.1
      have c1 : Rps X.prog X.w X.K W vs (ps.map (·.2)) := ⟨Nat.succ.inj c.1, fun i a b e1 e2 => c.2 (i + 1) a b e1 e2⟩
      have h : Wp (setSlot p.1 (.dat p.2) >>= fun _ => setAllD ps) s _ _ := h
      rw [wp_bind] at h
      exact setAll_run (ps := ps) R1 c1 h
theorem Rps.zipr {P : Program} {w : World} {K : PySem.W.Frag} {W : Wd} {is : List Nat} {ds : List D} {vs : List V} (r : Rps P w K W vs ds) (h : is.length = ds.length) : Rps P w K W vs ((is.zip ds).map (·.2)) := by
  rw [List.map_snd_zip (by omega)]
  exact r
theorem vs_par {is : List Nat} {xs : List Str} {ts es : List Expr} {m : M (List D)} {pt : Pos} {kt k2 pt2} (hc : X.calm = true) (t : Stos X is xs) (ha : VA X es m) (hn : xs.length ≤ 1000)
    (hw : swappedStores [.Tuple ts kt pt] (.Tuple es k2 pt2) X.env = pure (some xs)) (hs : swapsWithSole [.Tuple ts kt pt] (.Tuple es k2 pt2) pos.line X.env = pure false) :
    VS X (.Assign [.Tuple ts kt pt] (.Tuple es k2 pt2) pos) (m >>= fun ds => (if ds.length = is.length then setAllD (is.reverse.zip ds.reverse) else stuck) >>= fun _ => Pure.pure .nx) := by
  intro F W A s σ H D R hm
  refine ts_of (ps_parN hc t pa_ta hn hw hs) ?_
  rw [wp_bind] at hm
  refine ha F W A s σ H _ R (wp_mono hm (fun ds s1 h1 => ?_) fun _ _ z => z)
  intro W1 A1 vs H1 l1 R1 c1 n1
  rw [wp_bind] at h1
  by_cases hl : ds.length = is.length
  · rw [if_pos hl] at h1
    have hl' : is.reverse.length = ds.reverse.length := by rw [List.length_reverse, List.length_reverse, hl]
    obtain ⟨A2, s2, q, R2⟩ := setAll_run R1 (c1.rev.zipr hl') h1
    rw [List.map_fst_zip (by omega)] at R2
    exact ⟨by rw [c1.1, hl], q W1 A2 _ H1 l1 R2⟩
  · rw [if_neg hl] at h1
    exact h1.elim

/-! ### x op= e -/
def TIp1 (X : Cx) (op : Operator) : TIp := fun x y H Q => TO2 X (inplaceOp op) x y H Q
theorem pip_raw {op : Operator} : PIp X op (TIp1 X op) := fun pins s σ H x y v u Q I r1 r2 h => h pins s σ v u I r1 r2
/-- a slot's content, looked at -/
def mAug (i : Nat) (m : M Ref) (g : D → D → Option Rz) : M Fl := do
  let s ← getS
  match s.env[i]? with
  | some (some (.dat x)) => do
    let r ← m
    let y ← look r
    let z ← orStuck (g x y)
    setSlot i z
    Pure.pure .nx
  | _ => stuck
theorem vs_aug {i : Nat} {x : Str} {e : Expr} {op : Operator} {m : M Ref} {p : Pos} {g : D → D → Option Rz} (t : Sto X i x) (h : VR X e m) (hf : Op2 X (inplaceOp op) g) : VS X (.AugAssign (.Name x p) op e pos) (mAug i m g) := by
  intro F W A s σ H D R hm
  unfold mAug at hm
  rw [wp_bind, wp_getS] at hm
  refine ts_of (ps_aug t.nd t.at_ t.loc pe_tx pip_raw t.fn) ?_
  split at hm
  · rename_i d hd
    obtain ⟨v, e1, c⟩ := R.sl i d hd
    refine ⟨v, e1, ?_⟩
    rw [wp_bind] at hm
    refine h F W A s σ H _ R (wp_mono hm (fun r s1 h1 => ?_) fun _ _ z => z)
    intro W1 A1 u H1 l1 R1 c1
    rw [wp_bind] at h1
    obtain ⟨y, ey, h1⟩ := wp_look h1
    rw [wp_bind] at h1
    obtain ⟨z, ez, h1⟩ := wp_orStuck h1
    refine hf F W1 A1 s1 σ H1 v u d y z _ R1 (.inl (c.up l1)) (deref_vw R1 c1 ey) ez fun W2 w' H2 l2 R2 c2 => ?_
    obtain ⟨A3, R3⟩ := R2.slot c2 i
    exact h1 W2 A3 _ H2 (l1.trans l2) R3
  · exact hm.elim
/-- ints only -/
def iAdd : D → D → Option Rz
  | .int i, .int j => some (.dat (.int (i + j)))
  | _, _ => none
def iSub : D → D → Option Rz
  | .int i, .int j => some (.dat (.int (i - j)))
  | _, _ => none
theorem iop2_add : Op2 X (inplaceOp .Add) iAdd := by
  intro F W A s σ H v u x y r Q R cx cy e q
  unfold iAdd at e
  split at e
  · cases e
    obtain rfl := cx.int
    obtain rfl := cy.int
    exact to_of iop_add ⟨_, _, rfl, rfl, end_dat R q (.int _)⟩
  · cases e
theorem iop2_sub : Op2 X (inplaceOp .Sub) iSub := by
  intro F W A s σ H v u x y r Q R cx cy e q
  unfold iSub at e
  split at e
  · cases e
    obtain rfl := cx.int
    obtain rfl := cy.int
    exact to_of iop_sub ⟨_, _, rfl, rfl, end_dat R q (.int _)⟩
  · cases e
end
end Vl
set_option Elab.async false
set_option linter.all false
set_option maxRecDepth 100000
set_option maxHeartbeats 4000000
/-! V15: what loops walk; for, while -/
namespace Vl
open PySem PySem.Spec PyProof.Rows L2

/-! ### the keys of a dict of tuple keys -/
section
variable {X : Cx} {pins : List (Addr × Obj)} {σ : Sl} {H : Hp} {s : Shared} {d : Addr} {o : Obj}
theorem frzX {en : EnX} (I : Inv X pins σ H s) (h : H d = some (.frz o (DX X.prog X.w d en))) :
    (d == sysModules) = false ∧ s.heap.get? d = some o ∧ o.ExactDict ∧ ∃ (es : Array DictEntry) (ep : Nat), o.data = .dict es ep ∧ es.size = en.length ∧
      ∀ (i : Nat) e, en[i]? = some e → ∃ (q : DictEntry), es[i]? = some q ∧ q.key = .ref e.2.1 := by
  obtain ⟨hd, ⟨xs, pr, o', es, ep, ho, hx, hdt, he, _, hz, hs⟩, _⟩ := I.hok d _ h
  rw [hd] at ho
  cases ho
  refine ⟨hs, hd, hx, es, ep, hdt, ?_, fun i e e1 => ?_⟩
  · have l1 : es.size = xs.length := size_of_entries he
    have l2 : en.length = xs.length := Paired.length pr
    omega
  · obtain ⟨b, hb, _, e2, _⟩ := paired_get pr e1
    have q := entry_at he i
    rw [hb] at q
    exact ⟨_, q, by show Value.ref b.2.1 = _; rw [e2]⟩
end
def ItX (P : Program) (w : World) (d : Addr) (o : Obj) (en : EnX) : It :=
  ⟨fun i H => H d = some (.frz o (DX P w d en)) ∧ i < en.length, fun i H x H' => H' = H ∧ ∃ e, en[i]? = some e ∧ x = .ref e.2.1, fun i H => H d = some (.frz o (DX P w d en)) ∧ en.length ≤ i⟩
theorem turn_keysX {P : Program} {w : World} {K : PySem.W.Frag} {tg : Expr} {d : Addr} {o : Obj} {es : Array DictEntry} {ep : Nat} {en : EnX} (it : Addr) (hod : o.data = .dict es ep) : Turn P w K tg (ItX P w d o en) [it] it (fun i h => h.IsKeyIter it d i en.length ep) where
  mem := by simp
  obj := fun i h st b hb => by
    have e : b = it := by simpa using hb
    subst e
    obtain ⟨oi, e, c, dd⟩ := st
    exact ⟨oi, e, fun v z => by rw [dd] at z; cases z⟩
  keep := fun i h h' st k => st.at fun oi e => k it (by simp) oi e
  item := by
    intro X hP hw hK hc i pins s σ H E I hf st hg
    subst hP hw hK
    obtain ⟨hd, hi⟩ := hg
    obtain ⟨f0, f1, f2, f3, f4, f5⟩ := hf it (by simp)
    obtain ⟨hs, hgd, hx, es', ep', hdt, hsz, ent⟩ := frzX I hd
    obtain ⟨rfl, rfl⟩ := dict_ep hod hdt
    obtain ⟨q, hen, hkey⟩ := ent i _ (List.getElem?_eq_getElem hi)
    refine next_key_item st hgd hdt hsz hen fun h' st' sb => ?_
    have I1 : Inv X pins σ H { s with heap := h' } := I.turned (t' := s.toks) (fun b ob hb e => (sb.2 b hb).trans e) f0 f1 f3 f4 f5
    obtain ⟨oi, e, c, dd⟩ := id st'
    exact ⟨q.key, rfl, go_of (s := { s with heap := h' }) e c dd (by decide) ⟨.ref en[i].2.1, H, I1, hkey, ⟨rfl, _, List.getElem?_eq_getElem hi, rfl⟩, st', fun b hb => (hf b hb).1⟩⟩
  done := by
    intro X hP hw hK hc i pins s σ H E I hf st hg
    subst hP hw hK
    obtain ⟨hd, hi⟩ := hg
    obtain ⟨f0, f1, f2, f3, f4, f5⟩ := hf it (by simp)
    obtain ⟨hs, hgd, hx, es', ep', hdt, hsz, ent⟩ := frzX I hd
    obtain ⟨rfl, rfl⟩ := dict_ep hod hdt
    exact next_key_end (I.ok.hd hc) st hgd hdt hsz hi fun h' eb => ⟨rfl, I.turned (t' := s.toks) (fun b ob hb e => eb b ob hb e) f0 f1 f3 f4 f5⟩
  self := fun A i s Q E st h => wpAny_pyIter_keyiter st h
def iKeysX (P : Program) (w : World) (td : TE) : TI := fun σ H R => td σ H fun x H1 => ∃ d o en, x = .ref d ∧ H1 d = some (.frz o (DX P w d en)) ∧ R (ItX P w d o en) H1
theorem pi_keysX {X : Cx} {tg e : Expr} {td : TE} (he : PE X e td) : PI X tg e (iKeysX X.prog X.w td) := by
  refine ⟨fun pins s σ H R I h => ?_⟩
  refine thn (he.run pins s σ H _ I h) fun u s1 ⟨x, H1, I1, rx, d, o, en, ex, hd, q⟩ => ?_
  subst ex
  obtain rfl : u = Value.ref d := rx
  obtain ⟨hs, hgd, hx, es, ep, hdt, hsz, ent⟩ := frzX I1 hd
  refine iter_keys hs hgd hx hdt (pi_one (tk := s1.toks) I1 _ (turn_keysX _ hdt) ⟨_, Heap.get?_push_size _ rfl, rfl, ?_⟩ q)
  rw [hsz] <;> rfl

/-! ### sources -/
inductive Src where
  | seq (xs : List D) | live (k : Nat) | rng (lo c : Int) (n : Nat) | keys (kvs : List (D × D)) | chars (x : Str)
def Src.at_ (src : Src) (s : S) (i : Nat) : Option D := match src with
  | .seq xs => xs[i]?
  | .live k => match s.sto[k]? with
    | some (.lst xs) => xs[i]?
    | _ => none
  | .rng lo c n => if i < n then some (.int (lo + (i : Nat) * c)) else none
  | .keys kvs => (kvs[i]?).map (·.1)
  | .chars x => (x.cps[i]?).map fun c => .str ⟨#[c]⟩
def Src.fin (src : Src) (s : S) (i : Nat) : Bool := match src with
  | .seq xs => decide (xs.length ≤ i)
  | .live k => match s.sto[k]? with
    | some (.lst xs) => decide (xs.length ≤ i)
    | _ => false
  | .rng _ _ n => decide (n ≤ i)
  | .keys kvs => decide (kvs.length ≤ i)
  | .chars x => decide (x.cps.size ≤ i)
def Src.fuel (L : Nat) : Src → Nat
  | .seq xs => xs.length
  | .live _ => L
  | .rng _ _ n => n
  | .keys kvs => kvs.length
  | .chars x => x.cps.size
def Wsub (W W' : Wd) : Prop := (∀ p o, W.G p = some o → W'.G p = some o) ∧ ∃ t, W'.B = W.B ++ t
theorem Wle.sub {F : Hp} {W W' : Wd} (l : Wle F W W') : Wsub W W' := ⟨l.g, l.b⟩
theorem Wsub.le {W W' : Wd} (l : Wsub W W') : Wle (fun _ => none) W W' := ⟨l.1, l.2, fun _ _ _ => .inr rfl⟩
/-- the iterator yields what the source has -/
def SrcOk (P : Program) (w : World) (K : PySem.W.Frag) (W : Wd) (src : Src) (J : It) : Prop := ∀ (F : Hp) (W' : Wd) (A : Nat → Addr) (s : S) (σ : Sl) (H : Hp), Wsub W W' → Rel P w K F W' A s σ H →
  (∀ i d, src.at_ s i = some d → J.go i H ∧ ∀ x H', J.yld i H x H' → ∃ W'', Wle F W' W'' ∧ Rel P w K F W'' A s σ H' ∧ Rp P w K W'' x d) ∧ ∀ i, src.fin s i = true → J.stop i H
theorem SrcOk.up {P : Program} {w : World} {K : PySem.W.Frag} {W W1 : Wd} {src : Src} {J : It} (h : SrcOk P w K W src J) (l : Wsub W W1) : SrcOk P w K W1 src J := fun F W' A s σ H l' R => by
  refine h F W' A s σ H ⟨fun p o e => l'.1 p o (l.1 p o e), ?_⟩ R
  obtain ⟨t1, e1⟩ := l.2
  obtain ⟨t2, e2⟩ := l'.2
  exact ⟨t1 ++ t2, by rw [e2, e1, List.append_assoc]⟩
section
variable {X : Cx}
def TIx (X : Cx) (tg e : Expr) : TI := fun σ H R => ∀ pins s, Inv X pins σ H s → wpAny (model X.prog X.w) X.A (eval e X.env) (fun v s1 => wpAny (model X.prog X.w) X.A (pyIter v) (PIE X pins σ tg R) X.xe s1) X.xe s
theorem pi_tx {tg e : Expr} : PI X tg e (TIx X tg e) := ⟨fun pins s σ H R I h => h pins s I⟩
theorem ti_of {tg e : Expr} {wi : TI} {σ : Sl} {H : Hp} {R : It → Hp → Prop} (h : PI X tg e wi) (q : wi σ H R) : TIx X tg e σ H R := fun pins s I => h.run pins s σ H R I q
def VI (X : Cx) (tg e : Expr) (m : M Src) : Prop := ∀ (F : Hp) (W : Wd) (A : Nat → Addr) (s : S) (σ : Sl) (H : Hp) (R : It → Hp → Prop), Rel X.prog X.w X.K F W A s σ H →
  Wp m s (fun src s' => ∀ W' A' J H', Wle F W W' → Rel X.prog X.w X.K F W' A' s' σ H' → SrcOk X.prog X.w X.K W' src J → R J H') NoX → TIx X tg e σ H R
def srcOf : D → M Src
  | .lst xs => Pure.pure (.seq xs)
  | .tup xs => Pure.pure (.seq xs)
  | .dct kvs => Pure.pure (.keys kvs)
  | .box k => fun s => match s.sto[k]? with
    | some (.lst _) => .ok (.live k) s
    | _ => .stuck
  | .str x => Pure.pure (.chars x)
  | _ => stuck
theorem src_lst {P : Program} {w : World} {K : PySem.W.Frag} {W : Wd} {a : Addr} {vs : List V} {xs : List D} (h : W.G a = some (.lst vs)) (r : Rps P w K W vs xs) : SrcOk P w K W (.seq xs) (Itl K a) := by
  intro F W' A s σ H l R
  have hH : H a = some (.lst vs) := R.g _ _ (l.1 _ _ h)
  refine ⟨fun i d e => ?_, fun i e => ⟨vs, SqL.of hH, by rw [r.1]; exact of_decide_eq_true e⟩⟩
  obtain ⟨v, e1, c⟩ := r.get e
  refine ⟨⟨vs, v, SqL.of hH, e1⟩, fun x H' y => ?_⟩
  obtain ⟨rfl, y⟩ := y
  have := y vs (SqL.of hH)
  rw [e1] at this; cases this
  exact ⟨W', Wle.refl, R, c.up l.le⟩
theorem src_tup {P : Program} {w : World} {K : PySem.W.Frag} {W : Wd} {a : Addr} {vs : List V} {xs : List D} (h : SqT K W.G a vs) (r : Rps P w K W vs xs) : SrcOk P w K W (.seq xs) (Itt K a) := by
  intro F W' A s σ H l R
  have hH : SqT K H a vs := sqT_up (sqT_up h l.1) R.g
  refine ⟨fun i d e => ?_, fun i e => ⟨vs, hH, by rw [r.1]; exact of_decide_eq_true e⟩⟩
  obtain ⟨v, e1, c⟩ := r.get e
  refine ⟨⟨vs, v, hH, e1⟩, fun x H' y => ?_⟩
  obtain ⟨rfl, y⟩ := y
  have := y vs hH
  rw [e1] at this; cases this
  exact ⟨W', Wle.refl, R, c.up l.le⟩
theorem src_live {P : Program} {w : World} {K : PySem.W.Frag} {W : Wd} {a : Addr} {k : Nat} (h : W.B[k]? = some a) : SrcOk P w K W (.live k) (Itl K a) := by
  intro F W' A s σ H l R
  have hB : W'.B[k]? = some a := l.le.bx h
  have key : ∀ {xs : List D}, s.sto[k]? = some (.lst xs) → ∃ vs, H a = some (.lst vs) ∧ Rps P w K W' vs xs := fun {xs} e => (R.bx k a _ hB e).lst_inv
  refine ⟨fun i d e => ?_, fun i e => ?_⟩
  · unfold Src.at_ at e
    simp only at e
    split at e
    · rename_i xs hs
      obtain ⟨vs, hH, r⟩ := key hs
      obtain ⟨v, e1, c⟩ := r.get e
      refine ⟨⟨vs, v, SqL.of hH, e1⟩, fun x H' y => ?_⟩
      obtain ⟨rfl, y⟩ := y
      have := y vs (SqL.of hH)
      rw [e1] at this; cases this
      exact ⟨W', Wle.refl, R, c⟩
    · cases e
  · unfold Src.fin at e
    simp only at e
    split at e
    · rename_i xs hs
      obtain ⟨vs, hH, r⟩ := key hs
      exact ⟨vs, SqL.of hH, by rw [r.1]; exact of_decide_eq_true e⟩
    · cases e
theorem src_dk {P : Program} {w : World} {K : PySem.W.Frag} {W : Wd} {a : Addr} {ob : Obj} {en : List (Key × V)} {kvs : List (D × D)} (h : W.G a = some (.frz ob (.dK en))) (r : RpK P w K W en kvs) : SrcOk P w K W (.keys kvs) (Itk a ob en) := by
  intro F W' A s σ H l R
  have hH := R.g _ _ (l.1 _ _ h)
  refine ⟨fun i d e => ?_, fun i e => ⟨hH, by rw [r.1]; exact of_decide_eq_true e⟩⟩
  obtain ⟨p, ep, rfl⟩ := Option.map_eq_some_iff.mp e
  have hi : i < en.length := by rw [r.1]; exact (List.getElem?_eq_some_iff.mp ep).1
  refine ⟨⟨hH, hi⟩, fun x H' y => ?_⟩
  obtain ⟨rfl, k, v, e1, rfl⟩ := y
  refine ⟨W', Wle.refl, R, ?_⟩
  rw [(r.2 i _ p e1 ep).1]
  cases k with
  | inl i => exact .int i
  | inr x => exact .str x
theorem src_dx {P : Program} {w : World} {K : PySem.W.Frag} {W : Wd} {a : Addr} {ob : Obj} {en : EnX} {kvs : List (D × D)} (h : W.G a = some (.frz ob (DX P w a en))) (r : RpX P w K W en kvs) : SrcOk P w K W (.keys kvs) (ItX P w a ob en) := by
  intro F W' A s σ H l R
  have hH := R.g _ _ (l.1 _ _ h)
  refine ⟨fun i d e => ?_, fun i e => ⟨hH, by rw [r.1]; exact of_decide_eq_true e⟩⟩
  obtain ⟨p, ep, rfl⟩ := Option.map_eq_some_iff.mp e
  have hi : i < en.length := by rw [r.1]; exact (List.getElem?_eq_some_iff.mp ep).1
  refine ⟨⟨hH, hi⟩, fun x H' y => ?_⟩
  obtain ⟨rfl, e, e1, rfl⟩ := y
  exact ⟨W', Wle.refl, R, (r.2 i e p e1 ep).2.1.up l.le⟩
theorem src_chars {P : Program} {w : World} {K : PySem.W.Frag} {W : Wd} {x : Str} : SrcOk P w K W (.chars x) (Its x) := by
  intro F W' A s σ H l R
  refine ⟨fun i d e => ?_, fun i e => (show x.cps.size ≤ i from of_decide_eq_true e)⟩
  obtain ⟨c, ec, rfl⟩ := Option.map_eq_some_iff.mp e
  refine ⟨(Array.getElem?_eq_some_iff.mp ec).1, fun v H' y => ?_⟩
  obtain ⟨rfl, c', e1, rfl⟩ := y
  rw [ec] at e1; cases e1
  exact ⟨W', Wle.refl, R, .str _⟩
theorem src_rng {P : Program} {w : World} {K : PySem.W.Frag} {W : Wd} {lo : Int} {n : Nat} : SrcOk P w K W (.rng lo 1 n) (Itr lo n) := by
  intro F W' A s σ H l R
  refine ⟨fun i d e => ?_, fun i e => (show n ≤ i from of_decide_eq_true e)⟩
  unfold Src.at_ at e
  simp only at e
  split at e
  · cases e
    refine ⟨by assumption, fun v H' y => ?_⟩
    obtain ⟨rfl, rfl⟩ := y
    rw [Int.mul_one]
    exact ⟨W', Wle.refl, R, .int _⟩
  · cases e
theorem src_rngC {P : Program} {w : World} {K : PySem.W.Frag} {W : Wd} {lo c : Int} {n : Nat} : SrcOk P w K W (.rng lo c n) (Itc lo c n) := by
  intro F W' A s σ H l R
  refine ⟨fun i d e => ?_, fun i e => (show n ≤ i from of_decide_eq_true e)⟩
  unfold Src.at_ at e
  simp only at e
  split at e
  · cases e
    refine ⟨by assumption, fun v H' y => ?_⟩
    obtain ⟨rfl, rfl⟩ := y
    exact ⟨W', Wle.refl, R, .int _⟩
  · cases e
theorem vi_val {tg e : Expr} {m : M D} (h : VD X e m) : VI X tg e (m >>= srcOf) := by
  intro F W A s σ H R RR hw
  rw [wp_bind] at hw
  unfold Wp at hw
  cases hms : m s with
  | exn x s' => rw [hms] at hw; exact hw.elim
  | stuck => rw [hms] at hw; exact hw.elim
  | ok d s1 =>
    rw [hms] at hw
    have go : ∀ {Q : VK}, (∀ W' A' v H', Wle F W W' → Rel X.prog X.w X.K F W' A' s1 σ H' → Rp X.prog X.w X.K W' v d → Q v H') → TX X e σ H Q := fun {Q} q => by
      refine h F W A s σ H Q RR ?_
      unfold Wp
      rw [hms]
      exact q
    have hw : Wp (srcOf d) s1 _ _ := hw
    cases d with
    | lst xs =>
      refine ti_of (pi_list pe_tx) (go fun W1 A1 v H1 l1 R1 c1 => ?_)
      cases c1 with
      | lst hG hl hr => exact ⟨_, rfl, ⟨_, SqL.of (R1.g _ _ hG)⟩, hw W1 A1 _ H1 l1 R1 (src_lst hG ⟨hl, hr⟩)⟩
    | tup xs =>
      refine ti_of (pi_tup pe_tx) (go fun W1 A1 v H1 l1 R1 c1 => ?_)
      cases c1 with
      | tup hG hl hr => exact ⟨_, rfl, ⟨_, sqT_up hG R1.g⟩, hw W1 A1 _ H1 l1 R1 (src_tup hG ⟨hl, hr⟩)⟩
    | str x =>
      refine ti_of (pi_str pe_tx) (go fun W1 A1 v H1 l1 R1 c1 => ?_)
      cases c1
      exact ⟨x, rfl, hw W1 A1 _ H1 l1 R1 src_chars⟩
    | box k =>
      unfold Wp srcOf at hw
      simp only at hw
      cases es : s1.sto[k]? with
      | none => rw [es] at hw; exact hw.elim
      | some b =>
        rw [es] at hw
        cases b with
        | lst xs =>
          refine ti_of (pi_list pe_tx) (go fun W1 A1 v H1 l1 R1 c1 => ?_)
          cases c1 with
          | box hb =>
            obtain ⟨vs, hH, _⟩ := (R1.bx k _ _ hb es).lst_inv
            exact ⟨_, rfl, ⟨_, SqL.of hH⟩, hw W1 A1 _ H1 l1 R1 (src_live hb)⟩
        | _ => exact hw.elim
    | dct kvs =>
      cases kvs with
      | nil =>
        refine ti_of (pi_keys pe_tx) (go fun W1 A1 v H1 l1 R1 c1 => ?_)
        cases c1 with
        | dk hG hl hk hr => exact ⟨_, _, rfl, .inl ⟨_, R1.g _ _ hG, hw W1 A1 _ H1 l1 R1 (src_dk hG ⟨hl, fun i a b e1 e2 => ⟨hk i a b e1 e2, hr i a b e1 e2⟩⟩)⟩⟩
        | dx hG hne hl => exact absurd (List.eq_nil_of_length_eq_zero hl) hne
      | cons p kvs =>
        obtain ⟨pk, pv⟩ := p
        have dk : (∀ xs, pk ≠ .tup xs) → TIx X tg e σ H R := fun hn => by
          refine ti_of (pi_keys pe_tx) (go fun W1 A1 v H1 l1 R1 c1 => ?_)
          cases c1 with
          | dk hG hl hk hr => exact ⟨_, _, rfl, .inl ⟨_, R1.g _ _ hG, hw W1 A1 _ H1 l1 R1 (src_dk hG ⟨hl, fun i a b e1 e2 => ⟨hk i a b e1 e2, hr i a b e1 e2⟩⟩)⟩⟩
          | @dx _ _ en _ hG hne hl hk hr hq =>
            exfalso
            cases en with
            | nil => exact hne rfl
            | cons e en =>
              have h1 := (hk 0 e _ rfl rfl).1
              have h2 := hq 0 e _ rfl rfl
              cases q : e.1 with
              | tup ks => rw [q] at h1; exact hn _ h1
              | none => rw [q] at h1; rw [show pk = _ from h1] at h2; cases h2
              | num _ => rw [q] at h1; rw [show pk = _ from h1] at h2; cases h2
              | text _ => rw [q] at h1; rw [show pk = _ from h1] at h2; cases h2
        cases pk with
        | tup xs =>
          refine ti_of (pi_keysX pe_tx) (go fun W1 A1 v H1 l1 R1 c1 => ?_)
          cases c1 with
          | dx hG hne hl hk hr hq => exact ⟨_, _, _, rfl, R1.g _ _ hG, hw W1 A1 _ H1 l1 R1 (src_dx hG ⟨hl, fun i a b e1 e2 => ⟨hk i a b e1 e2, hq i a b e1 e2, hr i a b e1 e2⟩⟩)⟩
          | @dk _ _ en _ hG hl hk hr =>
            exfalso
            cases en with
            | nil => cases hl
            | cons e en =>
              have h1 := hk 0 e _ rfl rfl
              cases q : e.1 with
              | inl _ => rw [q] at h1; cases h1
              | inr _ => rw [q] at h1; cases h1
        | _ => exact dk fun xs z => by cases z
    | _ => exact hw.elim
/-- range(..) -/
def rngOf : List D → Option Src
  | [.int j] => if j.natAbs < 4611686018427387904 then some (.rng 0 1 j.toNat) else none
  | [.int i, .int j] => if i.natAbs < 4611686018427387904 ∧ j.natAbs < 4611686018427387904 then some (.rng i 1 (j - i).toNat) else none
  | [.int i, .int j, .int c] => if c = -1 then (if i.natAbs < 4611686018427387904 ∧ j.natAbs < 4611686018427387904 then some (.rng i (-1) (i - j).toNat) else none) else none
  | _ => none
def mRng (m : M (List D)) : M Src := do
  let ds ← m
  orStuck (rngOf ds)
theorem rps2 {P : Program} {w : World} {K : PySem.W.Frag} {W : Wd} {vs : List V} {d e : D} (r : Rps P w K W vs [d, e]) : ∃ v u, vs = [v, u] ∧ Rp P w K W v d ∧ Rp P w K W u e := by
  match vs, r with
  | [v, u], r => exact ⟨v, u, rfl, r.2 0 _ _ rfl rfl, r.2 1 _ _ rfl rfl⟩
  | [], r => exact nomatch r.1
  | [_], r => exact nomatch r.1
  | _ :: _ :: _ :: _, r => exact nomatch r.1
theorem rps3 {P : Program} {w : World} {K : PySem.W.Frag} {W : Wd} {vs : List V} {d e f : D} (r : Rps P w K W vs [d, e, f]) : ∃ v u t, vs = [v, u, t] ∧ Rp P w K W v d ∧ Rp P w K W u e ∧ Rp P w K W t f := by
  match vs, r with
  | [v, u, t], r => exact ⟨v, u, t, rfl, r.2 0 _ _ rfl rfl, r.2 1 _ _ rfl rfl, r.2 2 _ _ rfl rfl⟩
  | [], r => exact nomatch r.1
  | [_], r => exact nomatch r.1
  | [_, _], r => exact nomatch r.1
  | _ :: _ :: _ :: _ :: _, r => exact nomatch r.1
theorem vi_rng {tg : Expr} {es : List Expr} {p pos : Pos} {m : M (List D)} (hg : Gl X "range") (hm : X.mg "range" = none) (ha : VA X es m) (hs : es.all (fun e => !isStar e) = true) (hn : 1 ≤ es.length ∧ es.length ≤ 3) : VI X tg (.Call (.Name "range" p) es [] pos) (mRng m) := by
  intro F W A s σ H R RR hw
  unfold mRng at hw
  rw [wp_bind] at hw
  match es, hs, hn, ha with
  | [a], hs, _, ha =>
    simp only [List.all_cons, Bool.and_eq_true, Bool.not_eq_true'] at hs
    refine ti_of (pi_range1 hg hm pa_ta (star_cons hs.1)) (ha F W A s σ H _ RR (wp_mono hw (fun ds s1 h1 => ?_) fun _ _ z => z))
    intro W1 A1 vs H1 l1 R1 c1 n1
    obtain ⟨src, es, q⟩ := wp_orStuck h1
    match ds, n1, es with
    | [d], _, es =>
      obtain ⟨v, rfl, c⟩ := rps1 c1
      unfold rngOf at es
      split at es
      · rename_i j heq
        cases heq
        split at es
        · rename_i hj
          cases es
          cases c
          exact ⟨j, rfl, by omega, by omega, q W1 A1 _ H1 l1 R1 src_rng⟩
        · cases es
      · rename_i heq; cases heq
      · rename_i heq; cases heq
      · cases es
  | [a, b], hs, _, ha =>
    have hs0 := hs
    simp only [List.all_cons, Bool.and_eq_true, Bool.not_eq_true'] at hs
    refine ti_of (pi_range2 hg hm pa_ta (by rw [star_cons hs.1, star_cons hs.2.1]; rfl) (star_cons hs.2.1)) (ha F W A s σ H _ RR (wp_mono hw (fun ds s1 h1 => ?_) fun _ _ z => z))
    intro W1 A1 vs H1 l1 R1 c1 n1
    obtain ⟨src, es, q⟩ := wp_orStuck h1
    match ds, n1, es with
    | [d, e], _, es =>
      obtain ⟨v, u, rfl, c, c'⟩ := rps2 c1
      unfold rngOf at es
      split at es
      · rename_i heq; cases heq
      · rename_i i j heq
        cases heq
        split at es
        · rename_i hj
          cases es
          cases c
          cases c'
          exact ⟨i, j, rfl, ⟨by omega, by omega, by omega, by omega⟩, q W1 A1 _ H1 l1 R1 src_rng⟩
        · cases es
      · rename_i heq; cases heq
      · cases es
  | [a, b, c], hs, _, ha =>
    have hs0 := hs
    simp only [List.all_cons, Bool.and_eq_true, Bool.not_eq_true'] at hs
    refine ti_of (pi_range3 hg hm pa_ta (star_cons hs.1) (star_none (by simp only [List.all_cons, Bool.and_eq_true, Bool.not_eq_true']; exact hs.2))) (ha F W A s σ H _ RR (wp_mono hw (fun ds s1 h1 => ?_) fun _ _ z => z))
    intro W1 A1 vs H1 l1 R1 c1 n1
    obtain ⟨src, es, q⟩ := wp_orStuck h1
    match ds, n1, es with
    | [d, e, f], _, es =>
      obtain ⟨v, u, t, rfl, c, c', c''⟩ := rps3 c1
      unfold rngOf at es
      split at es
      · rename_i heq; cases heq
      · rename_i heq; cases heq
      · rename_i i j k heq
        cases heq
        split at es
        · rename_i hk
          subst hk
          split at es
          · rename_i hj
            cases es
            cases c
            cases c'
            cases c''
            exact ⟨i, j, -1, _, rfl, RgC.neg (by omega) (by omega) (by omega) (by omega), q W1 A1 _ H1 l1 R1 src_rngC⟩
          · cases es
        · cases es
      · cases es
end

/-! ### for, while -/
def mLoop (src : Src) (g : D → M Unit) (body : M Fl) : Nat → Nat → M Fl
  | 0, i => fun s => if src.fin s i = true then .ok .nx s else .stuck
  | n + 1, i => fun s => if src.fin s i = true then .ok .nx s else match src.at_ s i with
    | none => .stuck
    | some d => (do
      g d
      match ← body with
      | .nx => mLoop src g body n (i + 1)
      | .ct => mLoop src g body n (i + 1)
      | .bk => Pure.pure .nx
      | .rt r => Pure.pure (.rt r) : M Fl) s
def mFor (L : Nat) (mi : M Src) (g : D → M Unit) (body : M Fl) : M Fl := do
  let src ← mi
  mLoop src g body (src.fuel L) 0
def mWhile (c : M Bool) (body : M Fl) : Nat → M Fl
  | 0 => stuck
  | n + 1 => do
    if ← c then
      match ← body with
      | .nx => mWhile c body n
      | .ct => mWhile c body n
      | .bk => Pure.pure .nx
      | .rt r => Pure.pure (.rt r)
    else Pure.pure .nx
section
variable {X : Cx} {pos : Pos}
theorem vs_for {tg iter : Expr} {body : List Stmt} {mi : M Src} {g : D → M Unit} {mb : M Fl} {ts : List Nat} (L : Nat) (hx : X.xe = fun _ _ => False) (hc : X.calm = true) (hi : VI X tg iter mi) (hg : VG1 X ts tg g) (hb : VSs X body mb) (hs : ∀ x, foldedSetIterable iter X.env x = pure x) :
    VS X (.For tg iter body [] pos) (mFor L mi g mb) := by
  intro F W A s σ H D R hm
  refine ts_of (ps_for (by rw [hx]; exact PassesOwn.never) hc pi_tx pg_tg pss_ts hs) ?_
  unfold mFor at hm
  rw [wp_bind] at hm
  refine hi F W A s σ H _ R (wp_mono hm (fun src s1 h1 => ?_) fun _ _ z => z)
  intro W1 A1 J H1 l1 R1 so
  refine ⟨fun i m σ H => ∃ W' A' s', Wle F W1 W' ∧ Rel X.prog X.w X.K F W' A' s' σ H ∧ Wp (mLoop src g mb m i) s' (FE X F W D) NoX, ⟨_, W1, A1, s1, Wle.refl, R1, h1⟩, ?_⟩
  rintro i m σ2 H2 ⟨W2, A2, s2, l2, R2, h2⟩
  obtain ⟨sa, sf⟩ := so F W2 A2 s2 σ2 H2 l2.sub R2
  cases m with
  | zero =>
    unfold Wp mLoop at h2
    by_cases hf : src.fin s2 i = true
    · simp only [if_pos hf] at h2
      exact .inl ⟨sf i hf, h2 W2 A2 σ2 H2 (l1.trans l2) R2⟩
    · simp only [if_neg hf] at h2
  | succ m =>
    have h2' := h2
    unfold Wp mLoop at h2
    by_cases hf : src.fin s2 i = true
    · simp only [if_pos hf] at h2
      exact .inl ⟨sf i hf, h2 W2 A2 σ2 H2 (l1.trans l2) R2⟩
    · simp only [if_neg hf] at h2
      cases ea : src.at_ s2 i with
      | none => rw [ea] at h2; exact h2.elim
      | some d =>
        rw [ea] at h2
        simp only at h2
        have h3 : Wp (g d >>= fun _ => mb >>= fun fl => match fl with
          | .nx => mLoop src g mb m (i + 1)
          | .ct => mLoop src g mb m (i + 1)
          | .bk => Pure.pure .nx
          | .rt r => Pure.pure (.rt r)) s2 (FE X F W D) NoX := h2
        obtain ⟨hgo, hy⟩ := sa i d ea
        refine .inr ⟨hgo, fun σ' H' => ∃ W' A' s', Wle F W1 W' ∧ Rel X.prog X.w X.K F W' A' s' σ' H' ∧ Wp (mLoop src g mb m (i + 1)) s' (FE X F W D) NoX, fun σ' H' q => ⟨m, Nat.lt_succ_self m, q⟩, fun x H' y => ?_⟩
        obtain ⟨W3, l3, R3, c3⟩ := hy x H' y
        rw [wp_bind] at h3
        refine hg F W3 A2 s2 σ2 H' x d _ R3 c3 (wp_mono h3 (fun _ s4 h4 => ?_) fun _ _ z => z)
        intro W4 A4 σ4 H4 l4 R4 _
        rw [wp_bind] at h4
        refine hb F W4 A4 s4 σ4 H4 _ R4 (wp_mono h4 (fun fl s5 h5 => ?_) fun _ _ z => z)
        intro W5 A5 σ5 H5 l5 R5
        have l15 : Wle F W1 W5 := ((l2.trans l3).trans l4).trans l5
        cases fl with
        | nx => exact ⟨W5, A5, s5, l15, R5, h5⟩
        | ct => exact ⟨W5, A5, s5, l15, R5, h5⟩
        | bk => exact h5 W5 A5 σ5 H5 (l1.trans l15) R5
        | rt r => exact fun v c => h5 W5 A5 σ5 H5 (l1.trans l15) R5 v c
theorem vs_while {c : Expr} {body : List Stmt} {mc : M Bool} {mb : M Fl} (L : Nat) (hx : X.xe = fun _ _ => False) (hc : VT X c mc) (hb : VSs X body mb) : VS X (.While c body [] pos) (mWhile mc mb L) := by
  intro F W A s σ H D R hm
  refine ts_of (ps_while (by rw [hx]; exact PassesOwn.never) pt_tt pss_ts) ?_
  refine ⟨fun m σ H => ∃ W' A' s', Wle F W W' ∧ Rel X.prog X.w X.K F W' A' s' σ H ∧ Wp (mWhile mc mb m) s' (FE X F W D) NoX, ⟨L, W, A, s, Wle.refl, R, hm⟩, ?_⟩
  rintro m σ2 H2 ⟨W2, A2, s2, l2, R2, h2⟩
  cases m with
  | zero => exact h2.elim
  | succ m =>
    have h2 : Wp (mc >>= fun k => if k = true then (mb >>= fun fl => match fl with
      | .nx => mWhile mc mb m
      | .ct => mWhile mc mb m
      | .bk => Pure.pure .nx
      | .rt r => Pure.pure (.rt r)) else Pure.pure .nx) s2 (FE X F W D) NoX := h2
    rw [wp_bind] at h2
    refine hc F W2 A2 s2 σ2 H2 _ R2 (wp_mono h2 (fun k s3 h3 => ?_) fun _ _ z => z)
    intro W3 A3 H3 l3 R3
    cases k with
    | false => exact iteF (h3 W3 A3 σ2 H3 (l2.trans l3) R3)
    | true =>
      refine iteT ⟨fun σ' H' => ∃ W' A' s', Wle F W W' ∧ Rel X.prog X.w X.K F W' A' s' σ' H' ∧ Wp (mWhile mc mb m) s' (FE X F W D) NoX, fun σ' H' q => ⟨m, Nat.lt_succ_self m, q⟩, ?_⟩
      have h3 : Wp (mb >>= _) s3 _ _ := h3
      rw [wp_bind] at h3
      refine hb F W3 A3 s3 σ2 H3 _ R3 (wp_mono h3 (fun fl s4 h4 => ?_) fun _ _ z => z)
      intro W4 A4 σ4 H4 l4 R4
      have l24 : Wle F W W4 := (l2.trans l3).trans l4
      cases fl with
      | nx => exact ⟨W4, A4, s4, l24, R4, h4⟩
      | ct => exact ⟨W4, A4, s4, l24, R4, h4⟩
      | bk => exact h4 W4 A4 σ4 H4 l24 R4
      | rt r => exact fun v c => h4 W4 A4 σ4 H4 l24 R4 v c
end
end Vl
set_option Elab.async false
set_option linter.all false
set_option maxRecDepth 100000
set_option maxHeartbeats 4000000
/-! V16: list comprehensions -/
namespace Vl
open PySem PySem.Spec PyProof.Rows L2

/-! ### slots forgotten and given back -/
theorem wipe_get (σ : Sl) : ∀ (vs : List Nat) (j : Nat), (wipe σ vs)[j]? = if j ∈ vs then (σ[j]?).map (fun _ => none) else σ[j]?
  | [], j => by simp [wipe]
  | v :: vs, j => by
    unfold wipe
    rw [List.getElem?_set, wipe_length, wipe_get σ vs j]
    by_cases h : v = j
    · subst h
      rw [if_pos rfl, if_pos List.mem_cons_self]
      by_cases hl : v < σ.length
      · rw [if_pos hl, List.getElem?_eq_getElem hl]; rfl
      · rw [if_neg hl, List.getElem?_eq_none (Nat.le_of_not_lt hl)]; rfl
    · rw [if_neg h]
      by_cases h2 : j ∈ vs
      · rw [if_pos h2, if_pos (List.mem_cons_of_mem _ h2)]
      · rw [if_neg h2, if_neg (by simp only [List.mem_cons, not_or]; exact ⟨fun e => h e.symm, h2⟩)]
theorem wipe_of {σ σ' : Sl} {ts vs : List Nat} (o : Only ts σ σ') (h : ∀ i ∈ ts, i ∈ vs) : wipe σ' vs = wipe σ vs := by
  refine List.ext_getElem? fun j => ?_
  rw [wipe_get, wipe_get]
  by_cases hj : j ∈ vs
  · rw [if_pos hj, if_pos hj]
    by_cases hl : j < σ.length
    · rw [List.getElem?_eq_getElem hl, List.getElem?_eq_getElem (by rw [o.1]; exact hl)]; rfl
    · rw [List.getElem?_eq_none (Nat.le_of_not_lt hl), List.getElem?_eq_none (by rw [o.1]; exact Nat.le_of_not_lt hl)]
  · rw [if_neg hj, if_neg hj]
    exact o.2 j fun z => hj (h j z)
theorem wipe_wipe {σ : Sl} {us vs : List Nat} (h : ∀ i ∈ us, i ∈ vs) : wipe (wipe σ us) vs = wipe σ vs := by
  refine wipe_of (ts := us) ⟨wipe_length _ _, fun j hj => ?_⟩ h
  rw [wipe_get, if_neg hj]
def wipeE : List Nat → List (Option Rz) → List (Option Rz)
  | [], env => env
  | v :: vs, env => (wipeE vs env).set v none
def wipeM (vs : List Nat) : M Unit := fun s => .ok () { s with env := wipeE vs s.env }
theorem wipeE_len : ∀ (vs : List Nat) (env : List (Option Rz)), (wipeE vs env).length = env.length
  | [], _ => rfl
  | v :: vs, env => by unfold wipeE; rw [List.length_set, wipeE_len]
theorem wipeE_some : ∀ {vs : List Nat} {env : List (Option Rz)} {j : Nat} {r : Rz}, (wipeE vs env)[j]? = some (some r) → env[j]? = some (some r) ∧ j ∉ vs
  | [], _, _, _, h => ⟨h, by simp⟩
  | v :: vs, env, j, r, h => by
    unfold wipeE at h
    by_cases hv : v = j
    · subst hv
      rw [List.getElem?_set] at h
      simp only [if_true] at h
      split at h <;> cases h
    · rw [List.getElem?_set_ne hv] at h
      obtain ⟨h1, h2⟩ := wipeE_some h
      exact ⟨h1, by simp only [List.mem_cons, not_or]; exact ⟨fun e => hv e.symm, h2⟩⟩
/-- slots given back -/
def backE : List Nat → List (Option Rz) → List (Option Rz) → List (Option Rz)
  | [], _, env => env
  | v :: vs, old, env => (backE vs old env).set v ((old[v]?).getD none)
theorem backE_len (old : List (Option Rz)) : ∀ (vs : List Nat) (env : List (Option Rz)), (backE vs old env).length = env.length
  | [], _ => rfl
  | v :: vs, env => by unfold backE; rw [List.length_set, backE_len]
theorem backE_some (old : List (Option Rz)) : ∀ {vs : List Nat} {env : List (Option Rz)} {j : Nat} {r : Rz}, (backE vs old env)[j]? = some (some r) → (j ∈ vs ∧ old[j]? = some (some r)) ∨ (j ∉ vs ∧ env[j]? = some (some r))
  | [], _, _, _, h => .inr ⟨by simp, h⟩
  | v :: vs, env, j, r, h => by
    unfold backE at h
    by_cases hv : v = j
    · subst hv
      rw [List.getElem?_set] at h
      simp only [if_true] at h
      split at h
      · have h := Option.some.inj h
        cases q : old[v]? with
        | none => rw [q] at h; cases h
        | some x => rw [q] at h; exact .inl ⟨List.mem_cons_self, by rw [show x = some r from h]⟩
      · cases h
    · rw [List.getElem?_set_ne hv] at h
      rcases backE_some old h with ⟨h1, h2⟩ | ⟨h1, h2⟩
      · exact .inl ⟨List.mem_cons_of_mem _ h1, h2⟩
      · exact .inr ⟨by simp only [List.mem_cons, not_or]; exact ⟨fun e => hv e.symm, h1⟩, h2⟩
def noOwn (vs : List Nat) (s : S) : Bool := vs.all fun v => match s.env[v]? with
  | some (some (.own _)) => false
  | _ => true
section
variable {P : Program} {w : World} {K : PySem.W.Frag} {F H : Hp} {W : Wd} {A : Nat → Addr} {s : S} {σ : Sl}
theorem Rel.wiped (R : Rel P w K F W A s σ H) (vs : List Nat) : Rel P w K F W A { s with env := wipeE vs s.env } (wipe σ vs) H := by
  have g : ∀ {j : Nat} {r : Rz}, (wipeE vs s.env)[j]? = some (some r) → s.env[j]? = some (some r) ∧ (wipe σ vs)[j]? = σ[j]? := fun {j r} h => by
    obtain ⟨h1, h2⟩ := wipeE_some h
    exact ⟨h1, by rw [wipe_get, if_neg h2]⟩
  refine ⟨R.g, R.f, R.bn, R.nd, R.bl, R.bx, by rw [wipe_length, wipeE_len]; exact R.len, fun j d q => ?_, fun j b q => ?_, fun j k b c q q' => R.inj j k b c (g q).1 (g q').1⟩
  · obtain ⟨q1, q2⟩ := g q
    rw [q2]; exact R.sl j d q1
  · obtain ⟨q1, q2⟩ := g q
    rw [q2]; exact R.ow j b q1
theorem Rel.back {F0 H0 : Hp} {W0 : Wd} {A0 : Nat → Addr} {s0 : S} {vs : List Nat} (R : Rel P w K F W A s (wipe σ vs) H) (R0 : Rel P w K F0 W0 A0 s0 σ H0) (l : Wle F W0 W) (hn : noOwn vs s0 = true) : Rel P w K F W A { s with env := backE vs s0.env s.env } σ H := by
  have no : ∀ {j : Nat} {b : Box}, j ∈ vs → s0.env[j]? = some (some (.own b)) → False := fun {j b} h1 h2 => by
    have := List.all_eq_true.mp hn j h1
    rw [h2] at this; cases this
  have so : ∀ {j : Nat}, j ∉ vs → (wipe σ vs)[j]? = σ[j]? := fun h => by rw [wipe_get, if_neg h]
  refine ⟨R.g, R.f, R.bn, R.nd, R.bl, R.bx, by rw [backE_len, ← R.len, wipe_length], fun j d q => ?_, fun j b q => ?_, fun j k b c q q' => ?_⟩
  · rcases backE_some _ q with ⟨h1, h2⟩ | ⟨h1, h2⟩
    · obtain ⟨v, e1, e2⟩ := R0.sl j d h2
      exact ⟨v, e1, e2.up l⟩
    · rw [← so h1]; exact R.sl j d h2
  · rcases backE_some _ q with ⟨h1, h2⟩ | ⟨h1, h2⟩
    · exact (no h1 h2).elim
    · rw [← so h1]; exact R.ow j b h2
  · rcases backE_some _ q with ⟨h1, h2⟩ | ⟨h1, h2⟩
    · exact (no h1 h2).elim
    · rcases backE_some _ q' with ⟨h3, h4⟩ | ⟨h3, h4⟩
      · exact (no h3 h4).elim
      · exact R.inj j k b c h2 h4
/-- a fresh object is protected -/
theorem Rel.hold {a : Addr} {b : Box} {o : HO} (R : Rel P w K F W A s σ H) (f : Fr P w K F W A s H a b) (ho : H a = some o) : Rel P w K (upd F a o) W A s σ H := by
  refine ⟨R.g, fun p u e => ?_, fun c hc => ⟨(R.bn c hc).1, ?_⟩, R.nd, R.bl, R.bx, R.len, R.sl, fun i d e => ?_, R.inj⟩
  · by_cases z : p = a
    · subst z; rw [upd_same] at e; cases e; exact ho
    · rw [upd_ne z] at e; exact R.f p u e
  · rw [upd_ne (fun z => f.b (by rw [← z]; exact hc))]; exact (R.bn c hc).2
  · obtain ⟨e1, e2, e3, e4, e5⟩ := R.ow i d e
    exact ⟨e1, e2, e3, by rw [upd_ne (f.ow i d e)]; exact e4, e5⟩
theorem Fr.anyS {a : Addr} {b : Box} {s' : S} (f : Fr P w K F W A s H a b) (h : ∀ (i : Nat) c, s'.env[i]? = some (some (.own c)) → s.env[i]? = some (some (.own c))) : Fr P w K F W A s' H a b :=
  ⟨f.bx, f.g, f.f, f.b, fun i c e => f.ow i c (h i c e)⟩
end

/-! ### in the blocks of a comprehension -/
section
variable (X : Cx) (scope : Scope)
/-- the contexts of the block -/
abbrev Bk (s : Shared) (H : Hp) (C : Addr) (cl : List (Str × Addr)) (fp : List Addr) : Cx := X.blk s H scope (compEnvC scope cl C X.env) fp
def TXb (e : Expr) : TE := fun σ H Q => ∀ s H0 C cl fp, TX (Bk X scope s H0 C cl fp) e σ H Q
def TGb (e : Expr) : TG := fun v σ H Q => ∀ s H0 C cl fp, TGx (Bk X scope s H0 C cl fp) e v σ H Q
def TTs (X : Cx) (ifs : List Expr) : TT := fun σ H Q => ∀ pins s, Inv X pins σ H s → wpAny (model X.prog X.w) X.A (forIn ifs true fun c r => if r = true then do let ok ← isTrue c X.env (eval c X.env); pure (ForInStep.yield ok) else pure (ForInStep.yield r)) (TP X pins σ Q) X.xe s
def TTb (ifs : List Expr) : TT := fun σ H Q => ∀ s H0 C cl fp, TTs (Bk X scope s H0 C cl fp) ifs σ H Q
def TIb (tg e : Expr) : TI := fun σ H R => ∀ s H0 C cl fp, TIx (Bk X scope s H0 C cl fp) tg e σ H R
end
section
variable {X : Cx} {scope : Scope}
theorem pe_txb {e : Expr} (s : Shared) (H : Hp) (C : Addr) (cl : List (Str × Addr)) (fp : List Addr) : PE (Bk X scope s H C cl fp) e (TXb X scope e) := ⟨fun pins sh σ H' Q I h => h s H C cl fp pins sh I⟩
theorem pg_tgb {e : Expr} (s : Shared) (H : Hp) (C : Addr) (cl : List (Str × Addr)) (fp : List Addr) : PG (Bk X scope s H C cl fp) e (TGb X scope e) := ⟨fun pins sh σ H' v u Q I r h => h s H C cl fp pins sh u I r⟩
theorem pts_ttb {ifs : List Expr} (s : Shared) (H : Hp) (C : Addr) (cl : List (Str × Addr)) (fp : List Addr) : PTs (Bk X scope s H C cl fp) ifs (TTb X scope ifs) := ⟨fun pins sh σ H' Q I h => h s H C cl fp pins sh I⟩
theorem pi_tib {tg e : Expr} (s : Shared) (H : Hp) (C : Addr) (cl : List (Str × Addr)) (fp : List Addr) : PI (Bk X scope s H C cl fp) tg e (TIb X scope tg e) := ⟨fun pins sh σ H' R I h => h s H C cl fp pins sh I⟩
end
def VTs (X : Cx) (ifs : List Expr) (m : M Bool) : Prop := ∀ (F : Hp) (W : Wd) (A : Nat → Addr) (s : S) (σ : Sl) (H : Hp) (Q : Bool → Hp → Prop), Rel X.prog X.w X.K F W A s σ H →
  Wp m s (fun b s' => ∀ W' A' H', Wle F W W' → Rel X.prog X.w X.K F W' A' s' σ H' → Q b H') NoX → TTs X ifs σ H Q
theorem vts_nil {X : Cx} : VTs X [] (Pure.pure true) := by
  intro F W A s σ H Q R hw pins sh I
  exact pts_nil.run pins sh σ H Q I (hw W A H Wle.refl R)
theorem vts_one {X : Cx} {c : Expr} {m : M Bool} (h : VT X c m) : VTs X [c] m := by
  intro F W A s σ H Q R hw pins sh I
  exact (pts_one (pt_tt (X := X) (e := c))).run pins sh σ H Q I (h F W A s σ H Q R hw)

/-! ### the evaluator's -/
def lcLoop (src : Src) (turn : D → List D → M (List D)) : Nat → Nat → List D → M (List D)
  | 0, i, acc => fun s => if src.fin s i = true then .ok acc s else .stuck
  | n + 1, i, acc => fun s => if src.fin s i = true then .ok acc s else match src.at_ s i with
    | none => .stuck
    | some d => (do
      let acc' ← turn d acc
      lcLoop src turn n (i + 1) acc' : M (List D)) s
def lcPut (elt : M D) (acc : List D) : M (List D) := do
  let e ← elt
  if acc.length < sizeLine then Pure.pure (acc ++ [e]) else stuck
def turn1 (vs : List Nat) (g : D → M Unit) (ifs : M Bool) (elt : M D) (d : D) (acc : List D) : M (List D) := do
  wipeM vs
  g d
  let b ← ifs
  if b = true then lcPut elt acc else Pure.pure acc
def turn2 (L : Nat) (vs vs1 : List Nat) (g : D → M Unit) (ifs : M Bool) (mi1 : M Src) (g1 : D → M Unit) (ifs1 : M Bool) (elt : M D) (d : D) (acc : List D) : M (List D) := do
  wipeM vs
  g d
  let b ← ifs
  if b = true then (do
    let src ← mi1
    lcLoop src (turn1 vs1 g1 ifs1 elt) (src.fuel L) 0 acc) else Pure.pure acc
def backM (vs : List Nat) (old : List (Option Rz)) : M Unit := fun s => .ok () { s with env := backE vs old (wipeE vs s.env) }
def mLc (L : Nat) (vs : List Nat) (mi : M Src) (turn : D → List D → M (List D)) : M Rz := do
  let src ← mi
  let s0 ← getS
  if noOwn vs s0 = true then (do
    let acc ← lcLoop src turn (src.fuel L) 0 []
    let _ ← backM vs s0.env
    Pure.pure (.own (.lst acc))) else stuck
section
variable {X : Cx} {scope : Scope} {F : Hp} {D : Addr}
/-- a turn up to the new item -/
def Nx1 (X : Cx) (F : Hp) (W : Wd) (vs : List Nat) (σ0 : Sl) (D : Addr) (Φ : List Vl.D → S → Prop) (H : Hp) : Prop := ∃ W' A' s' acc σ', Wle F W W' ∧ Rel X.prog X.w X.K F W' A' s' σ' H ∧ wipe σ' vs = wipe σ0 vs ∧ Fr X.prog X.w X.K F W' A' s' H D (.lst acc) ∧ Φ acc s'
theorem lst_hp {P : Program} {w : World} {K : PySem.W.Frag} {F H : Hp} {W : Wd} {A : Nat → Addr} {s : S} {a : Addr} {xs : List Vl.D} (f : Fr P w K F W A s H a (.lst xs)) : ∃ vs, H a = some (.lst vs) ∧ Rps P w K W vs xs := f.bx.lst_inv
theorem put_ok {elt : Expr} {me : M Vl.D} {W : Wd} {A : Nat → Addr} {s : S} {σ : Sl} {H : Hp} {acc : List Vl.D} {Φ : List Vl.D → S → Prop} {vs : List Nat} {σ0 : Sl} (he : ∀ s H C cl fp, VD (Bk X scope s H C cl fp) elt me)
    (R : Rel X.prog X.w X.K F W A s σ H) (f : Fr X.prog X.w X.K F W A s H D (.lst acc)) (hw0 : wipe σ vs = wipe σ0 vs) (hw : Wp (lcPut me acc) s Φ NoX) :
    TXb X scope elt σ H fun y H4 => ∃ ac, H4 D = some (.lst ac) ∧ ac.length < sizeLine ∧ Nx1 X F W vs σ0 D Φ (upd H4 D (.lst (ac ++ [y]))) := by
  obtain ⟨xs, hD, rx⟩ := lst_hp f
  intro s0 H0 C cl fp
  unfold lcPut at hw
  rw [wp_bind] at hw
  refine he s0 H0 C cl fp (upd F D (.lst xs)) W A s σ H _ (R.hold f hD) (wp_mono hw (fun d s1 h1 => ?_) fun _ _ z => z)
  intro W1 A1 y H1 l1 R1 c1
  obtain ⟨e1, R2, l2, fr⟩ := R1.unguard (o' := .lst (xs ++ [y])) f.f l1 f.g
  split at h1
  · rename_i hz
    exact ⟨xs, e1, by rw [rx.1]; exact hz, W1, A1, s1, acc ++ [d], σ, l2, R2, hw0, fr (.lst upd_same ((rx.up l2).append (.cons c1 .nil))), h1⟩
  · exact h1.elim
theorem if_ok {ifs : List Expr} {elt : Expr} {mt : M Bool} {W : Wd} {A : Nat → Addr} {s : S} {σ : Sl} {H : Hp} {acc : List Vl.D} {Φ : List Vl.D → S → Prop} {vs : List Nat} {σ0 : Sl} {Z : List Vl.D → M (List Vl.D)} {T : Sl → Hp → (Hp → Prop) → Prop}
    (ht : ∀ s H C cl fp, VTs (Bk X scope s H C cl fp) ifs mt)
    (hT : ∀ {W1 : Wd} {A1 : Nat → Addr} {s1 : S} {H1 : Hp}, Wle F W W1 → Rel X.prog X.w X.K F W1 A1 s1 σ H1 → Fr X.prog X.w X.K F W1 A1 s1 H1 D (.lst acc) → Wp (Z acc) s1 Φ NoX → T σ H1 (Nx1 X F W vs σ0 D Φ))
    (R : Rel X.prog X.w X.K F W A s σ H) (f : Fr X.prog X.w X.K F W A s H D (.lst acc)) (hw0 : wipe σ vs = wipe σ0 vs)
    (hw : Wp (do let b ← mt; if b = true then Z acc else Pure.pure acc) s Φ NoX) : TTb X scope ifs σ H fun b H3 => if b = true then T σ H3 (Nx1 X F W vs σ0 D Φ) else Nx1 X F W vs σ0 D Φ H3 := by
  obtain ⟨xs, hD, rx⟩ := lst_hp f
  intro s0 H0 C cl fp
  rw [wp_bind] at hw
  refine ht s0 H0 C cl fp (upd F D (.lst xs)) W A s σ H _ (R.hold f hD) (wp_mono hw (fun b s1 h1 => ?_) fun _ _ z => z)
  intro W1 A1 H1 l1 R1
  obtain ⟨e1, R2, l2, fr⟩ := R1.unguard (o' := .lst xs) f.f l1 f.g
  rw [upd_self e1] at R2 fr
  have f1 := fr (.lst e1 (rx.up l2))
  cases b with
  | true => exact iteT (hT l2 R2 f1 h1)
  | false => exact iteF ⟨W1, A1, s1, acc, σ, l2, R2, hw0, f1, h1⟩
/-- the target's store, then Z -/
theorem tg_ok {tg : Expr} {g : Vl.D → M Unit} {ts vs : List Nat} {W : Wd} {A : Nat → Addr} {s : S} {σ : Sl} {H : Hp} {v : V} {d : Vl.D} {acc : List Vl.D} {Φ : List Vl.D → S → Prop} {Z : M (List Vl.D)} {T : Sl → Hp → Prop}
    (hg : ∀ s H C cl fp, VG1 (Bk X scope s H C cl fp) ts tg g) (hts : ∀ i ∈ ts, i ∈ vs)
    (hT : ∀ {W1 : Wd} {A1 : Nat → Addr} {s1 : S} {σ1 : Sl} {H1 : Hp}, Wle F W W1 → Rel X.prog X.w X.K F W1 A1 s1 σ1 H1 → Fr X.prog X.w X.K F W1 A1 s1 H1 D (.lst acc) → wipe σ1 vs = wipe σ vs → Wp Z s1 Φ NoX → T σ1 H1)
    (R : Rel X.prog X.w X.K F W A s σ H) (f : Fr X.prog X.w X.K F W A s H D (.lst acc)) (c : Rp X.prog X.w X.K W v d)
    (hw : Wp (do wipeM vs; g d; Z) s Φ NoX) : TGb X scope tg v (wipe σ vs) H fun σ2 H2 => wipe σ2 vs = wipe σ vs ∧ T σ2 H2 := by
  obtain ⟨xs, hD, rx⟩ := lst_hp f
  intro s0 H0 C cl fp
  have hw : Wp (g d >>= fun _ => Z) { s with env := wipeE vs s.env } Φ NoX := hw
  rw [wp_bind] at hw
  have f' : Fr X.prog X.w X.K F W A { s with env := wipeE vs s.env } H D (.lst acc) := f.anyS fun i c e => (wipeE_some e).1
  refine hg s0 H0 C cl fp (upd F D (.lst xs)) W A _ (wipe σ vs) H v d _ ((R.wiped vs).hold f' hD) c (wp_mono hw (fun _ s1 h1 => ?_) fun _ _ z => z)
  intro W1 A1 σ1 H1 l1 R1 o1
  obtain ⟨e1, R2, l2, fr⟩ := R1.unguard (o' := .lst xs) f.f l1 f.g
  rw [upd_self e1] at R2 fr
  have hwp : wipe σ1 vs = wipe σ vs := by rw [wipe_of o1 hts, wipe_wipe fun i h => h]
  exact ⟨hwp, hT l2 R2 (fr (.lst e1 (rx.up l2))) hwp h1⟩
/-- one clause, a turn -/
theorem turn1_ok {tg elt : Expr} {ifs : List Expr} {g : Vl.D → M Unit} {mt : M Bool} {me : M Vl.D} {ts vs : List Nat} {W : Wd} {A : Nat → Addr} {s : S} {σ : Sl} {H : Hp} {v : V} {d : Vl.D} {acc : List Vl.D} {Φ : List Vl.D → S → Prop}
    (hg : ∀ s H C cl fp, VG1 (Bk X scope s H C cl fp) ts tg g) (hts : ∀ i ∈ ts, i ∈ vs) (ht : ∀ s H C cl fp, VTs (Bk X scope s H C cl fp) ifs mt) (he : ∀ s H C cl fp, VD (Bk X scope s H C cl fp) elt me)
    (R : Rel X.prog X.w X.K F W A s σ H) (f : Fr X.prog X.w X.K F W A s H D (.lst acc)) (c : Rp X.prog X.w X.K W v d) (hw : Wp (turn1 vs g mt me d acc) s Φ NoX) :
    TGb X scope tg v (wipe σ vs) H fun σ2 H2 => wipe σ2 vs = wipe σ vs ∧ TTb X scope ifs σ2 H2 fun b H3 =>
      if b = true then TXb X scope elt σ2 H3 fun y H4 => ∃ ac, H4 D = some (.lst ac) ∧ ac.length < sizeLine ∧ Nx1 X F W vs σ D Φ (upd H4 D (.lst (ac ++ [y]))) else Nx1 X F W vs σ D Φ H3 := by
  have up : ∀ {W1 : Wd} {Hx : Hp}, Wle F W W1 → Nx1 X F W1 vs σ D Φ Hx → Nx1 X F W vs σ D Φ Hx := fun l ⟨W', A', s', ac, σ', l', q⟩ => ⟨W', A', s', ac, σ', l.trans l', q⟩
  refine tg_ok hg hts (fun {W1 A1 s1 σ1 H1} l1 R1 f1 hwp h1 => ?_) R f c hw
  have q := if_ok (elt := elt) (scope := scope) (T := fun σ2 H3 N => TXb X scope elt σ2 H3 fun y H4 => ∃ ac, H4 D = some (.lst ac) ∧ ac.length < sizeLine ∧ N (upd H4 D (.lst (ac ++ [y])))) (Z := lcPut me) (vs := vs) (σ0 := σ) ht
    (fun {W2 A2 s2 H2} l2 R2 f2 h2 s0 H0 C cl fp pins sh I => ?_) R1 f1 hwp h1
  · intro s0 H0 C cl fp pins sh I
    refine wpAny_mono (q s0 H0 C cl fp pins sh I) (fun b s' ⟨H', I', z⟩ => ⟨H', I', ?_⟩) fun _ _ z => z
    cases b with
    | true =>
      refine iteT fun s0 H0 C cl fp pins sh I => ?_
      have z : TXb X scope elt σ1 H' _ := z
      refine wpAny_mono (z s0 H0 C cl fp pins sh I) (fun u s' ⟨y, H4, I4, r, ac, e1, e2, e3⟩ => ⟨y, H4, I4, r, ac, e1, e2, up l1 e3⟩) fun _ _ z => z
    | false => exact iteF (up l1 z)
  · refine wpAny_mono (put_ok he R2 f2 hwp h2 s0 H0 C cl fp pins sh I) (fun u s' ⟨y, H4, I4, r, ac, e1, e2, W', A', s'', ac', σ', l', q⟩ => ⟨y, H4, I4, r, ac, e1, e2, W', A', s'', ac', σ', l2.trans l', q⟩) fun _ _ z => z
/-- the loop over a source -/
theorem lcLoop_ok {src : Src} {J : It} {turn : Vl.D → List Vl.D → M (List Vl.D)} {W0 : Wd} {A0 : Nat → Addr} {s0 : S} {σ : Sl} {H0 : Hp} {acc0 : List Vl.D} {Φ : List Vl.D → S → Prop} {vs : List Nat} {n : Nat} {St : V → Hp → (Hp → Prop) → Prop} {End : Hp → Prop}
    (so : SrcOk X.prog X.w X.K W0 src J) (R : Rel X.prog X.w X.K F W0 A0 s0 σ H0) (f : Fr X.prog X.w X.K F W0 A0 s0 H0 D (.lst acc0)) (hw : Wp (lcLoop src turn n 0 acc0) s0 Φ NoX)
    (hend : ∀ {W : Wd} {A : Nat → Addr} {s : S} {σ' : Sl} {H : Hp} {acc : List Vl.D}, Wle F W0 W → Rel X.prog X.w X.K F W A s σ' H → wipe σ' vs = wipe σ vs → Fr X.prog X.w X.K F W A s H D (.lst acc) → Φ acc s → End H)
    (hturn : ∀ {W : Wd} {A : Nat → Addr} {s : S} {σ' : Sl} {H : Hp} {v : V} {d : Vl.D} {acc : List Vl.D} {Φ' : List Vl.D → S → Prop}, Wle F W0 W → Rel X.prog X.w X.K F W A s σ' H → wipe σ' vs = wipe σ vs → Fr X.prog X.w X.K F W A s H D (.lst acc) → Rp X.prog X.w X.K W v d → Wp (turn d acc) s Φ' NoX →
      St v H (Nx1 X F W vs σ' D Φ')) (hmono : ∀ {v : V} {H : Hp} {N N' : Hp → Prop}, St v H N → (∀ H', N H' → N' H') → St v H N') :
    ∃ Wf : Nat → Nat → Hp → Prop, (∃ m, Wf 0 m H0) ∧ ∀ i m H, Wf i m H →
      (J.stop i H ∧ End H) ∨ (J.go i H ∧ ∃ Nx : Hp → Prop, (∀ H', Nx H' → ∃ m', m' < m ∧ Wf (i + 1) m' H') ∧ ∀ x H', J.yld i H x H' → St x H' Nx) := by
  refine ⟨fun i m H => ∃ W A s acc σ', Wle F W0 W ∧ Rel X.prog X.w X.K F W A s σ' H ∧ wipe σ' vs = wipe σ vs ∧ Fr X.prog X.w X.K F W A s H D (.lst acc) ∧ Wp (lcLoop src turn m i acc) s Φ NoX, ⟨n, W0, A0, s0, acc0, σ, Wle.refl, R, rfl, f, hw⟩, ?_⟩
  rintro i m H ⟨W, A, s, acc, σ', l, R, hwp, f, h⟩
  have hz : (src.fin s i = true ∧ Φ acc s) ∨ (∃ k d, m = k + 1 ∧ src.at_ s i = some d ∧ Wp (turn d acc >>= fun acc' => lcLoop src turn k (i + 1) acc') s Φ NoX) := by
    cases m with
    | zero =>
      unfold Wp lcLoop at h
      by_cases hf : src.fin s i = true
      · simp only [if_pos hf] at h; exact .inl ⟨hf, h⟩
      · simp only [if_neg hf] at h
    | succ m =>
      unfold Wp lcLoop at h
      by_cases hf : src.fin s i = true
      · simp only [if_pos hf] at h; exact .inl ⟨hf, h⟩
      · simp only [if_neg hf] at h
        cases ea : src.at_ s i with
        | none => rw [ea] at h; exact h.elim
        | some d => rw [ea] at h; exact .inr ⟨m, d, rfl, rfl, h⟩
  rcases hz with hz | ⟨k, d, rfl, ea, hz⟩
  · exact .inl ⟨(so F W A s _ H l.sub R).2 i hz.1, hend l R hwp f hz.2⟩
  · obtain ⟨hgo, hy⟩ := (so F W A s _ H l.sub R).1 i d ea
    refine .inr ⟨hgo, fun H' => ∃ W A s acc σ', Wle F W0 W ∧ Rel X.prog X.w X.K F W A s σ' H' ∧ wipe σ' vs = wipe σ vs ∧ Fr X.prog X.w X.K F W A s H' D (.lst acc) ∧ Wp (lcLoop src turn k (i + 1) acc) s Φ NoX, fun H' q => ⟨k, Nat.lt_succ_self k, q⟩, fun x H' y => ?_⟩
    -- the item's own tuple may be new
    obtain ⟨xs, hD, rx⟩ := lst_hp f
    obtain ⟨sa, _⟩ := so (upd F D (.lst xs)) W A s _ H l.sub (R.hold f hD)
    obtain ⟨W1, l1, R1, c1⟩ := (sa i d ea).2 x H' y
    obtain ⟨e1, R2, l2, fr⟩ := R1.unguard (o' := .lst xs) f.f l1 f.g
    rw [upd_self e1] at R2 fr
    rw [wp_bind] at hz
    refine hmono (hturn (l.trans l2) R2 hwp (fr (.lst e1 (rx.up l2))) c1 hz) fun H3 ⟨W3, A3, s3, acc3, σ3, l3, R3, w3, f3, q⟩ => ?_
    exact ⟨W3, A3, s3, acc3, σ3, (l.trans l2).trans l3, R3, w3.trans hwp, f3, q⟩
theorem TXb.mono {e : Expr} {σ : Sl} {H : Hp} {Q Q' : VK} (h : TXb X scope e σ H Q) (q : ∀ v H', Q v H' → Q' v H') : TXb X scope e σ H Q' := fun s0 H0 C cl fp pins sh I =>
  wpAny_mono (h s0 H0 C cl fp pins sh I) (fun u s' ⟨v, H', I', r, z⟩ => ⟨v, H', I', r, q v H' z⟩) fun _ _ z => z
theorem TTb.mono {ifs : List Expr} {σ : Sl} {H : Hp} {Q Q' : Bool → Hp → Prop} (h : TTb X scope ifs σ H Q) (q : ∀ v H', Q v H' → Q' v H') : TTb X scope ifs σ H Q' := fun s0 H0 C cl fp pins sh I =>
  wpAny_mono (h s0 H0 C cl fp pins sh I) (fun u s' ⟨H', I', z⟩ => ⟨H', I', q u H' z⟩) fun _ _ z => z
theorem TGb.mono {e : Expr} {v : V} {σ : Sl} {H : Hp} {Q Q' : Sl → Hp → Prop} (h : TGb X scope e v σ H Q) (q : ∀ σ' H', Q σ' H' → Q' σ' H') : TGb X scope e v σ H Q' := fun s0 H0 C cl fp pins sh u I r =>
  wpAny_mono (h s0 H0 C cl fp pins sh u I r) (fun _ s' ⟨σ', H', I', z⟩ => ⟨σ', H', I', q σ' H' z⟩) fun _ _ z => z
theorem ite_mono {b : Bool} {P Q P' Q' : Prop} (h : if b = true then P else Q) (p : P → P') (q : Q → Q') : if b = true then P' else Q' := by
  cases b with
  | true => exact iteT (p h)
  | false => exact iteF (q h)
/-- [e for t in it if ..] -/
theorem lc_ok {tg iter elt : Expr} {ifs : List Expr} {mi : M Src} {g : Vl.D → M Unit} {mt : M Bool} {me : M Vl.D} {ts vs : List Nat} {L : Nat} {W : Wd} {A : Nat → Addr} {s : S} {σ : Sl} {H : Hp} {Q : VK} (hi : VI X tg iter mi)
    (hg : ∀ s H C cl fp, VG1 (Bk X scope s H C cl fp) ts tg g) (hts : ∀ i ∈ ts, i ∈ vs) (ht : ∀ s H C cl fp, VTs (Bk X scope s H C cl fp) ifs mt) (he : ∀ s H C cl fp, VD (Bk X scope s H C cl fp) elt me) (R : Rel X.prog X.w X.K F W A s σ H)
    (hw : Wp (mLc L vs mi (turn1 vs g mt me)) s (fun r s' => ∀ W' A' v H', Wle F W W' → Rel X.prog X.w X.K F W' A' s' σ H' → cE X F W' A' s' σ H' v r → Q v H') NoX) :
    tLc (TIx X tg iter) (TGb X scope tg) (TTb X scope ifs) (TXb X scope elt) vs σ H Q := by
  unfold mLc at hw
  rw [wp_bind] at hw
  refine hi F W A s σ H _ R (wp_mono hw (fun src s1 h1 => ?_) fun _ _ z => z)
  intro W1 A1 J H1 l1 R1 so D hD
  rw [wp_bind, wp_getS] at h1
  split at h1
  · rename_i hno
    rw [wp_bind] at h1
    have R1' : Rel X.prog X.w X.K F W1 A1 s1 σ (upd H1 D (.lst [])) := R1.laid hD
    refine lcLoop_ok (vs := vs) (St := fun v H N => TGb X scope tg v (wipe σ vs) H fun σ2 H2 => wipe σ2 vs = wipe σ vs ∧ TTb X scope ifs σ2 H2 fun b H3 =>
      if b = true then TXb X scope elt σ2 H3 fun y H4 => ∃ ac, H4 D = some (.lst ac) ∧ ac.length < sizeLine ∧ N (upd H4 D (.lst (ac ++ [y]))) else N H3) so R1' (R1.fresh hD (.lst upd_same Rps.nil)) h1 (fun l2 R2 w2 f2 h2 => ?_) (fun l2 R2 w2 f2 c2 h2 => ?_) (fun h q => ?_)
    · rename_i W2 A2 s2 σ2 H2 acc
      have h2 : ∀ W' A' v H', Wle F W W' → Rel X.prog X.w X.K F W' A' { s2 with env := backE vs s1.env (wipeE vs s2.env) } σ H' → cE X F W' A' { s2 with env := backE vs s1.env (wipeE vs s2.env) } σ H' v (.own (.lst acc)) → Q v H' := h2
      have R3 := R2.wiped vs
      rw [w2] at R3
      refine h2 W2 A2 (.ref D) H2 (l1.trans l2) (R3.back R1 l2 hno) ⟨D, rfl, f2.anyS fun i c e => ?_⟩
      rcases backE_some _ e with ⟨q1, q2⟩ | ⟨q1, q2⟩
      · have := List.all_eq_true.mp hno i q1
        rw [q2] at this; cases this
      · exact (wipeE_some q2).1
    · have z := turn1_ok hg hts ht he R2 f2 c2 h2
      rw [w2] at z
      exact z
    · exact h.mono fun σ' H' ⟨a, b⟩ => ⟨a, b.mono fun k H3 z => ite_mono z (fun z => z.mono fun y H4 ⟨ac, e1, e2, e3⟩ => ⟨ac, e1, e2, q _ e3⟩) (q _)⟩
  · exact h1.elim
/-- two clauses: the second's loop within a turn of the first -/
theorem turn2_ok {tg tg1 iter1 elt : Expr} {ifs ifs1 : List Expr} {mi1 : M Src} {g g1 : Vl.D → M Unit} {mt mt1 : M Bool} {me : M Vl.D} {ts ts1 vs vs1 : List Nat} {L : Nat} {W : Wd} {A : Nat → Addr} {s : S} {σ : Sl} {H : Hp} {v : V} {d : Vl.D} {acc : List Vl.D} {Φ : List Vl.D → S → Prop}
    (hg : ∀ s H C cl fp, VG1 (Bk X scope s H C cl fp) ts tg g) (hts : ∀ i ∈ ts, i ∈ vs) (ht : ∀ s H C cl fp, VTs (Bk X scope s H C cl fp) ifs mt)
    (hi1 : ∀ s H C cl fp, VI (Bk X scope s H C cl fp) tg1 iter1 mi1) (hg1 : ∀ s H C cl fp, VG1 (Bk X scope s H C cl fp) ts1 tg1 g1) (hts1 : ∀ i ∈ ts1, i ∈ vs1) (hvs : ∀ i ∈ vs1, i ∈ vs) (ht1 : ∀ s H C cl fp, VTs (Bk X scope s H C cl fp) ifs1 mt1)
    (he : ∀ s H C cl fp, VD (Bk X scope s H C cl fp) elt me)
    (R : Rel X.prog X.w X.K F W A s σ H) (f : Fr X.prog X.w X.K F W A s H D (.lst acc)) (c : Rp X.prog X.w X.K W v d) (hw : Wp (turn2 L vs vs1 g mt mi1 g1 mt1 me d acc) s Φ NoX) :
    TGb X scope tg v (wipe σ vs) H fun σ2 H2 => wipe σ2 vs = wipe σ vs ∧ TTb X scope ifs σ2 H2 fun b H3 =>
      if b = true then TIb X scope tg1 iter1 σ2 H3 fun J1 H4 => ∃ W1 : Nat → Nat → Hp → Prop, (∃ m, W1 0 m H4) ∧ ∀ j k H, W1 j k H →
        (J1.stop j H ∧ Nx1 X F W vs σ D Φ H) ∨ (J1.go j H ∧ ∃ Ny : Hp → Prop, (∀ H', Ny H' → ∃ k', k' < k ∧ W1 (j + 1) k' H') ∧ ∀ x H', J1.yld j H x H' → TGb X scope tg1 x (wipe σ2 vs1) H' fun σ3 H5 => wipe σ3 vs1 = wipe σ2 vs1 ∧ TTb X scope ifs1 σ3 H5 fun b H6 =>
          if b = true then TXb X scope elt σ3 H6 fun y H7 => ∃ ac, H7 D = some (.lst ac) ∧ ac.length < sizeLine ∧ Ny (upd H7 D (.lst (ac ++ [y]))) else Ny H6)
      else Nx1 X F W vs σ D Φ H3 := by
  have up : ∀ {W1 : Wd} {Hx : Hp}, Wle F W W1 → Nx1 X F W1 vs σ D Φ Hx → Nx1 X F W vs σ D Φ Hx := fun l ⟨W', A', s', ac, σ', l', q⟩ => ⟨W', A', s', ac, σ', l.trans l', q⟩
  refine tg_ok hg hts (fun {W1 A1 s1 σ1 H1} l1 R1 f1 hwp h1 => ?_) R f c hw
  have q := if_ok (elt := elt) (scope := scope) (vs := vs) (σ0 := σ) (Z := fun acc => (do
      let src ← mi1
      lcLoop src (turn1 vs1 g1 mt1 me) (src.fuel L) 0 acc)) (T := fun σ2 H3 N => TIb X scope tg1 iter1 σ2 H3 fun J1 H4 => ∃ W1 : Nat → Nat → Hp → Prop, (∃ m, W1 0 m H4) ∧ ∀ j k H, W1 j k H →
        (J1.stop j H ∧ N H) ∨ (J1.go j H ∧ ∃ Ny : Hp → Prop, (∀ H', Ny H' → ∃ k', k' < k ∧ W1 (j + 1) k' H') ∧ ∀ x H', J1.yld j H x H' → TGb X scope tg1 x (wipe σ2 vs1) H' fun σ3 H5 => wipe σ3 vs1 = wipe σ2 vs1 ∧ TTb X scope ifs1 σ3 H5 fun b H6 =>
          if b = true then TXb X scope elt σ3 H6 fun y H7 => ∃ ac, H7 D = some (.lst ac) ∧ ac.length < sizeLine ∧ Ny (upd H7 D (.lst (ac ++ [y]))) else Ny H6)) ht
    (fun {W2 A2 s2 H2} l2 R2 f2 h2 s0 H0 C cl fp => ?_) R1 f1 hwp h1
  · refine q.mono fun b H3 z => ite_mono z (fun z s0 H0 C cl fp pins sh I => ?_) (up l1)
    refine wpAny_mono (z s0 H0 C cl fp pins sh I) (fun u s' z => wpAny_mono z (fun itv s2 ⟨it, fp', tn, J, H', e, I2, T, st, ff, Wf, hm, hz⟩ => ⟨it, fp', tn, J, H', e, I2, T, st, ff, Wf, hm, fun j k H hk => (hz j k H hk).imp (fun y => ⟨y.1, up l1 y.2⟩) id⟩) fun _ _ z => z) fun _ _ z => z
  · obtain ⟨xs, hD, rx⟩ := lst_hp f2
    have h2 : Wp (mi1 >>= fun src => lcLoop src (turn1 vs1 g1 mt1 me) (src.fuel L) 0 acc) s2 Φ NoX := h2
    rw [wp_bind] at h2
    refine hi1 s0 H0 C cl fp (upd F D (.lst xs)) W2 A2 s2 σ1 H2 _ (R2.hold f2 hD) (wp_mono h2 (fun src s3 h3 => ?_) fun _ _ z => z)
    intro W3 A3 J H3 l3 R3 so
    obtain ⟨e1, R4, l4, fr⟩ := R3.unguard (o' := .lst xs) f2.f l3 f2.g
    rw [upd_self e1] at R4 fr
    refine lcLoop_ok (vs := vs1) (St := fun v H N => TGb X scope tg1 v (wipe σ1 vs1) H fun σ2 H2 => wipe σ2 vs1 = wipe σ1 vs1 ∧ TTb X scope ifs1 σ2 H2 fun b H3 =>
      if b = true then TXb X scope elt σ2 H3 fun y H4 => ∃ ac, H4 D = some (.lst ac) ∧ ac.length < sizeLine ∧ N (upd H4 D (.lst (ac ++ [y]))) else N H3) so R4 (fr (.lst e1 (rx.up l4))) h3 (fun l5 R5 w5 f5 h5 => ?_) (fun l5 R5 w5 f5 c5 h5 => ?_) (fun h q => ?_)
    · rename_i W5 A5 s5 σ5 H5 acc5
      refine ⟨W5, A5, s5, acc5, σ5, (l2.trans l4).trans l5, R5, ?_, f5, h5⟩
      rw [← wipe_wipe hvs, w5, wipe_wipe hvs, hwp]
    · have z := turn1_ok hg1 hts1 ht1 he R5 f5 c5 h5
      rw [w5] at z
      exact z
    · exact h.mono fun σ' H' ⟨a, b⟩ => ⟨a, b.mono fun k H3 z => ite_mono z (fun z => z.mono fun y H4 ⟨ac, e1, e2, e3⟩ => ⟨ac, e1, e2, q _ e3⟩) (q _)⟩
theorem lc2_ok {tg iter tg1 iter1 elt : Expr} {ifs ifs1 : List Expr} {mi mi1 : M Src} {g g1 : Vl.D → M Unit} {mt mt1 : M Bool} {me : M Vl.D} {ts ts1 vs vs1 : List Nat} {L : Nat} {W : Wd} {A : Nat → Addr} {s : S} {σ : Sl} {H : Hp} {Q : VK} (hi : VI X tg iter mi)
    (hg : ∀ s H C cl fp, VG1 (Bk X scope s H C cl fp) ts tg g) (hts : ∀ i ∈ ts, i ∈ vs) (ht : ∀ s H C cl fp, VTs (Bk X scope s H C cl fp) ifs mt)
    (hi1 : ∀ s H C cl fp, VI (Bk X scope s H C cl fp) tg1 iter1 mi1) (hg1 : ∀ s H C cl fp, VG1 (Bk X scope s H C cl fp) ts1 tg1 g1) (hts1 : ∀ i ∈ ts1, i ∈ vs1) (hvs : ∀ i ∈ vs1, i ∈ vs) (ht1 : ∀ s H C cl fp, VTs (Bk X scope s H C cl fp) ifs1 mt1)
    (he : ∀ s H C cl fp, VD (Bk X scope s H C cl fp) elt me) (R : Rel X.prog X.w X.K F W A s σ H)
    (hw : Wp (mLc L vs mi (turn2 L vs vs1 g mt mi1 g1 mt1 me)) s (fun r s' => ∀ W' A' v H', Wle F W W' → Rel X.prog X.w X.K F W' A' s' σ H' → cE X F W' A' s' σ H' v r → Q v H') NoX) :
    tLc2 (TIx X tg iter) (TGb X scope tg) (TTb X scope ifs) (TIb X scope tg1 iter1) (TGb X scope tg1) (TTb X scope ifs1) (TXb X scope elt) vs vs1 σ H Q := by
  unfold mLc at hw
  rw [wp_bind] at hw
  refine hi F W A s σ H _ R (wp_mono hw (fun src s1 h1 => ?_) fun _ _ z => z)
  intro W1 A1 J H1 l1 R1 so D hD
  rw [wp_bind, wp_getS] at h1
  split at h1
  · rename_i hno
    rw [wp_bind] at h1
    have R1' : Rel X.prog X.w X.K F W1 A1 s1 σ (upd H1 D (.lst [])) := R1.laid hD
    refine lcLoop_ok (vs := vs) (St := fun v H N => TGb X scope tg v (wipe σ vs) H fun σ2 H2 => wipe σ2 vs = wipe σ vs ∧ TTb X scope ifs σ2 H2 fun b H3 =>
      if b = true then TIb X scope tg1 iter1 σ2 H3 fun J1 H4 => ∃ W1 : Nat → Nat → Hp → Prop, (∃ m, W1 0 m H4) ∧ ∀ j k H, W1 j k H →
        (J1.stop j H ∧ N H) ∨ (J1.go j H ∧ ∃ Ny : Hp → Prop, (∀ H', Ny H' → ∃ k', k' < k ∧ W1 (j + 1) k' H') ∧ ∀ x H', J1.yld j H x H' → TGb X scope tg1 x (wipe σ2 vs1) H' fun σ3 H5 => wipe σ3 vs1 = wipe σ2 vs1 ∧ TTb X scope ifs1 σ3 H5 fun b H6 =>
          if b = true then TXb X scope elt σ3 H6 fun y H7 => ∃ ac, H7 D = some (.lst ac) ∧ ac.length < sizeLine ∧ Ny (upd H7 D (.lst (ac ++ [y]))) else Ny H6)
      else N H3) so R1' (R1.fresh hD (.lst upd_same Rps.nil)) h1 (fun l2 R2 w2 f2 h2 => ?_) (fun l2 R2 w2 f2 c2 h2 => ?_) (fun h q => ?_)
    · rename_i W2 A2 s2 σ2 H2 acc
      have h2 : ∀ W' A' v H', Wle F W W' → Rel X.prog X.w X.K F W' A' { s2 with env := backE vs s1.env (wipeE vs s2.env) } σ H' → cE X F W' A' { s2 with env := backE vs s1.env (wipeE vs s2.env) } σ H' v (.own (.lst acc)) → Q v H' := h2
      have R3 := R2.wiped vs
      rw [w2] at R3
      refine h2 W2 A2 (.ref D) H2 (l1.trans l2) (R3.back R1 l2 hno) ⟨D, rfl, f2.anyS fun i c e => ?_⟩
      rcases backE_some _ e with ⟨q1, q2⟩ | ⟨q1, q2⟩
      · have := List.all_eq_true.mp hno i q1
        rw [q2] at this; cases this
      · exact (wipeE_some q2).1
    · have z := turn2_ok hg hts ht hi1 hg1 hts1 hvs ht1 he R2 f2 c2 h2
      rw [w2] at z
      exact z
    · refine h.mono fun σ' H' ⟨a, b⟩ => ⟨a, b.mono fun k H3 z => ite_mono z (fun z s0 H0 C cl fp pins sh I => ?_) (q _)⟩
      refine wpAny_mono (z s0 H0 C cl fp pins sh I) (fun u s' z => wpAny_mono z (fun itv s2 ⟨it, fp', tn, J, H', e, I2, T, st, ff, Wf, hm, hz⟩ => ⟨it, fp', tn, J, H', e, I2, T, st, ff, Wf, hm, fun j k H hk => (hz j k H hk).imp (fun y => ⟨y.1, q _ y.2⟩) id⟩) fun _ _ z => z) fun _ _ z => z
  · exact h1.elim
end

section
variable {X : Cx} {scope : Scope} {own : List (Str × Nat)} {pos spos : Pos}
theorem ve_lc {tg iter elt : Expr} {ifs : List Expr} {mi : M Src} {g : D → M Unit} {mt : M Bool} {me : M D} {ts : List Nat} (L : Nat) (hc : X.calm = true) (hN : X.N.Nodup) (ok : BlkOk X.N X.env.scope scope own) (hi : VI X tg iter mi)
    (hg : ∀ s H C cl fp, VG1 (Bk X scope s H C cl fp) ts tg g) (hts : ∀ i ∈ ts, i ∈ own.map (·.2)) (ht : ∀ s H C cl fp, VTs (Bk X scope s H C cl fp) ifs mt) (he : ∀ s H C cl fp, VD (Bk X scope s H C cl fp) elt me) (hs : ∀ x, foldedSetIterable iter X.env x = pure x) :
    VE X (.ListComp elt [⟨tg, iter, ifs, 0⟩] scope pos) (mLc L (own.map (·.2)) mi (turn1 (own.map (·.2)) g mt me)) := by
  intro F W A s σ H Q R hw
  exact tx_of (pe_lc hc hN pi_tx ok (fun s H C cl fp => pg_tgb s H C cl fp) (fun s H C cl fp => pts_ttb s H C cl fp) (fun s H C cl fp => pe_txb s H C cl fp) hs) (lc_ok hi hg hts ht he R hw)
theorem vs_setLc {i : Nat} {y : Str} {py : Pos} {tg iter elt : Expr} {ifs : List Expr} {mi : M Src} {g : D → M Unit} {mt : M Bool} {me : M D} {ts : List Nat} (L : Nat) (hc : X.calm = true) (hN : X.N.Nodup) (hy : X.N[i]? = some y) (hyl : X.env.scope.names.lookup y = some .local)
    (hsw : swapsWith (.ListComp elt [⟨tg, iter, ifs, 0⟩] scope pos) (some (.Name y py)) spos.line X.env = pure true) (ok : BlkOk X.N X.env.scope scope own) (hi : VI X tg iter mi)
    (hg : ∀ s H C cl fp, VG1 (Bk X scope s H C cl fp) ts tg g) (hts : ∀ i ∈ ts, i ∈ own.map (·.2)) (ht : ∀ s H C cl fp, VTs (Bk X scope s H C cl fp) ifs mt) (he : ∀ s H C cl fp, VD (Bk X scope s H C cl fp) elt me) (hs : ∀ x, foldedSetIterable iter X.env x = pure x) (bx : Bool) :
    VS X (.Assign [.Name y py] (.ListComp elt [⟨tg, iter, ifs, 0⟩] scope pos) spos) (do let r ← mLc L (own.map (·.2)) mi (turn1 (own.map (·.2)) g mt me); let r ← (if bx = true then toBox r else Pure.pure r); setSlot i r; Pure.pure .nx) := by
  intro F W A s σ H D R hw
  refine ts_of (ps_setLc hc hN hy hyl hsw pi_tx ok (fun s H C cl fp => pg_tgb s H C cl fp) (fun s H C cl fp => pts_ttb s H C cl fp) (fun s H C cl fp => pe_txb s H C cl fp) hs) ?_
  rw [wp_bind] at hw
  refine lc_ok hi hg hts ht he R (wp_mono hw (fun r s1 h1 => ?_) fun _ _ z => z)
  intro W1 A1 v H1 l1 R1 c1
  cases bx with
  | false =>
    obtain ⟨A2, R2⟩ := R1.slot c1 i
    exact h1 W1 A2 _ H1 l1 R2
  | true =>
    cases r with
    | dat d =>
      obtain ⟨A2, R2⟩ := R1.slot c1 i
      exact h1 W1 A2 _ H1 l1 R2
    | own b =>
      obtain ⟨a, rfl, f⟩ := c1
      obtain ⟨l2, R2, c2⟩ := R1.box f
      obtain ⟨A3, R3⟩ := R2.slot (r := .dat (.box s1.sto.length)) c2 i
      exact h1 _ A3 _ H1 (l1.trans l2) R3
theorem ve_lc2 {tg iter tg1 iter1 elt : Expr} {ifs ifs1 : List Expr} {mi mi1 : M Src} {g g1 : D → M Unit} {mt mt1 : M Bool} {me : M D} {ts ts1 vs1 : List Nat} (L : Nat) (hc : X.calm = true) (hN : X.N.Nodup) (ok : BlkOk X.N X.env.scope scope own) (hi : VI X tg iter mi)
    (hg : ∀ s H C cl fp, VG1 (Bk X scope s H C cl fp) ts tg g) (hts : ∀ i ∈ ts, i ∈ own.map (·.2)) (ht : ∀ s H C cl fp, VTs (Bk X scope s H C cl fp) ifs mt)
    (hi1 : ∀ s H C cl fp, VI (Bk X scope s H C cl fp) tg1 iter1 mi1) (hg1 : ∀ s H C cl fp, VG1 (Bk X scope s H C cl fp) ts1 tg1 g1) (hts1 : ∀ i ∈ ts1, i ∈ vs1) (hvs : ∀ i ∈ vs1, i ∈ own.map (·.2)) (ht1 : ∀ s H C cl fp, VTs (Bk X scope s H C cl fp) ifs1 mt1)
    (he : ∀ s H C cl fp, VD (Bk X scope s H C cl fp) elt me) (hs : ∀ x, foldedSetIterable iter X.env x = pure x) (hs1 : ∀ env x, foldedSetIterable iter1 env x = pure x) :
    VE X (.ListComp elt [⟨tg, iter, ifs, 0⟩, ⟨tg1, iter1, ifs1, 0⟩] scope pos) (mLc L (own.map (·.2)) mi (turn2 L (own.map (·.2)) vs1 g mt mi1 g1 mt1 me)) := by
  intro F W A s σ H Q R hw
  exact tx_of (pe_lc2 hc hN pi_tx ok hvs (fun s H C cl fp => pg_tgb s H C cl fp) (fun s H C cl fp => pts_ttb s H C cl fp) (fun s H C cl fp => pi_tib s H C cl fp) (fun s H C cl fp => pg_tgb s H C cl fp) (fun s H C cl fp => pts_ttb s H C cl fp) (fun s H C cl fp => pe_txb s H C cl fp) hs hs1)
    (lc2_ok hi hg hts ht hi1 hg1 hts1 hvs ht1 he R hw)
theorem vs_setLc2 {i : Nat} {y : Str} {py : Pos} {tg iter tg1 iter1 elt : Expr} {ifs ifs1 : List Expr} {mi mi1 : M Src} {g g1 : D → M Unit} {mt mt1 : M Bool} {me : M D} {ts ts1 vs1 : List Nat} (L : Nat) (hc : X.calm = true) (hN : X.N.Nodup) (hy : X.N[i]? = some y) (hyl : X.env.scope.names.lookup y = some .local)
    (hsw : swapsWith (.ListComp elt [⟨tg, iter, ifs, 0⟩, ⟨tg1, iter1, ifs1, 0⟩] scope pos) (some (.Name y py)) spos.line X.env = pure true) (ok : BlkOk X.N X.env.scope scope own) (hi : VI X tg iter mi)
    (hg : ∀ s H C cl fp, VG1 (Bk X scope s H C cl fp) ts tg g) (hts : ∀ i ∈ ts, i ∈ own.map (·.2)) (ht : ∀ s H C cl fp, VTs (Bk X scope s H C cl fp) ifs mt)
    (hi1 : ∀ s H C cl fp, VI (Bk X scope s H C cl fp) tg1 iter1 mi1) (hg1 : ∀ s H C cl fp, VG1 (Bk X scope s H C cl fp) ts1 tg1 g1) (hts1 : ∀ i ∈ ts1, i ∈ vs1) (hvs : ∀ i ∈ vs1, i ∈ own.map (·.2)) (ht1 : ∀ s H C cl fp, VTs (Bk X scope s H C cl fp) ifs1 mt1)
    (he : ∀ s H C cl fp, VD (Bk X scope s H C cl fp) elt me) (hs : ∀ x, foldedSetIterable iter X.env x = pure x) (hs1 : ∀ env x, foldedSetIterable iter1 env x = pure x) (bx : Bool) :
    VS X (.Assign [.Name y py] (.ListComp elt [⟨tg, iter, ifs, 0⟩, ⟨tg1, iter1, ifs1, 0⟩] scope pos) spos) (do let r ← mLc L (own.map (·.2)) mi (turn2 L (own.map (·.2)) vs1 g mt mi1 g1 mt1 me); let r ← (if bx = true then toBox r else Pure.pure r); setSlot i r; Pure.pure .nx) := by
  intro F W A s σ H D R hw
  refine ts_of (ps_setLc2 hc hN hy hyl hsw pi_tx ok hvs (fun s H C cl fp => pg_tgb s H C cl fp) (fun s H C cl fp => pts_ttb s H C cl fp) (fun s H C cl fp => pi_tib s H C cl fp) (fun s H C cl fp => pg_tgb s H C cl fp) (fun s H C cl fp => pts_ttb s H C cl fp) (fun s H C cl fp => pe_txb s H C cl fp) hs hs1) ?_
  rw [wp_bind] at hw
  refine lc2_ok hi hg hts ht hi1 hg1 hts1 hvs ht1 he R (wp_mono hw (fun r s1 h1 => ?_) fun _ _ z => z)
  intro W1 A1 v H1 l1 R1 c1
  cases bx with
  | false =>
    obtain ⟨A2, R2⟩ := R1.slot c1 i
    exact h1 W1 A2 _ H1 l1 R2
  | true =>
    cases r with
    | dat d =>
      obtain ⟨A2, R2⟩ := R1.slot c1 i
      exact h1 W1 A2 _ H1 l1 R2
    | own b =>
      obtain ⟨a, rfl, f⟩ := c1
      obtain ⟨l2, R2, c2⟩ := R1.box f
      obtain ⟨A3, R3⟩ := R2.slot (r := .dat (.box s1.sto.length)) c2 i
      exact h1 _ A3 _ H1 (l1.trans l2) R3
end
end Vl
set_option Elab.async false
set_option linter.all false
set_option maxRecDepth 100000
set_option maxHeartbeats 4000000
/-! V17: dict comprehensions -/
namespace Vl
open PySem PySem.Spec PyProof.Rows L2

/-! ### d[k] = v within a comprehension -/
section
variable {X : Cx} {pins : List (Addr × Obj)} {σ : Sl} {H : Hp} {sh : Shared} {W : Wd} {a : Addr}
theorem dset_ok {kvs : List (D × D)} {x d : D} {y z : V} {u r : Value} {E : Value → Shared → Prop} {Q : Unit → Shared → Prop} (hu : X.A.units + 9 < cLine) (I : Inv X pins σ H sh) (g : ∀ p o, W.G p = some o → H p = some o) (bx : Bx X.prog X.w X.K W H a (.dct kvs)) (cx : Rp X.prog X.w X.K W y x) (c : Rp X.prog X.w X.K W z d)
    (hk : keyOk x kvs = true) (hz : kvs.length < sizeLine) (ry : RelV y u) (rz : RelV z r)
    (q : ∀ o s', Inv X pins σ (upd H a o) s' → Bx X.prog X.w X.K W (upd H a o) a (.dct (dPut kvs x d)) → Q () s') : wpAny (model X.prog X.w) X.A (dictSet a u r) Q E sh := by
  have dd : (∃ en, Rd H a (.dK en) ∧ RpK X.prog X.w X.K W en kvs) ∨ ∃ en, Rd H a (DX X.prog X.w a en) ∧ RpX X.prog X.w X.K W en kvs ∧ en ≠ [] := by
    cases bx with
    | dk h hr => exact .inl ⟨_, .inl h, hr⟩
    | dx h hne hr => exact .inr ⟨_, .inl h, hr, hne⟩
  have hO : (∃ en, H a = some (.dK en)) ∨ ∃ en, H a = some (DX X.prog X.w a en) := by
    cases bx with
    | dk h hr => exact .inl ⟨_, h⟩
    | dx h hne hr => exact .inr ⟨_, h⟩
  rcases keyOk_kind hk dd with ⟨k, en, rfl, h1, h2⟩ | ⟨ks, rfl, hd, dd⟩
  · obtain rfl := vw_kD (.inl cx : Vw X.prog X.w X.K W H y (kD k))
    have hH : H a = some (.dK en) := by
      rcases h1 with h1 | ⟨ob, h1⟩
      · exact h1
      · rcases hO with ⟨_, z⟩ | ⟨_, z⟩ <;> rw [h1] at z <;> cases z
    exact d_dictSet I hH (by rw [h2.1]; exact hz) ry rz fun s' I' => q _ s' I' (.dk upd_same (h2.put c))
  · obtain ⟨b, rfl, rb⟩ := vw_tupKey (.inl cx : Vw X.prog X.w X.K W H y (nD (.tup ks)))
    cases ry
    obtain ⟨hz', hs, en, xs, rel, rx, hm, hp⟩ := dt_all I g dd
    have hkey := key_is I g rb hd
    have hr : (nestedKind X.prog X.w).room X.A := by show X.A.units + 8 < cLine; omega
    have mu : Mut (H a) := by rcases hO with ⟨_, z⟩ | ⟨_, z⟩ <;> rw [z] <;> trivial
    refine wpAny_dictSet_heap (hsz := by rw [← Paired.length hp]; exact hz') hr hkey hm fun h' hm' hsb => ?_
    obtain ⟨o, es, ep, ho, hc, hdat, hes, _, hnd⟩ := hm'
    have hl : (putX en (.tup ks) b z).length ≤ sizeLine := by
      have := (putX_len en (.tup ks) b z).1
      rw [rx.1] at this
      omega
    have rel' : Paired (fun (p : NestedKey × Addr × V) (q : NestedKey × Addr × Value) => p.1 = q.1 ∧ p.2.1 = q.2.1 ∧ RelV p.2.2 q.2.2) (putX en (.tup ks) b z) (storedH xs (.tup ks) b r) := by
      rw [storedH_if]
      unfold putX
      exact Paired.store (p := fun (x : NestedKey × Addr × V) => decide (x.1 = NestedKey.tup ks)) (q := fun (x : NestedKey × Addr × Value) => decide (x.1 = NestedKey.tup ks)) (f := fun x => (x.1, x.2.1, z)) (g := fun x => (x.1, x.2.1, r)) (x := (.tup ks, b, z)) (y := (.tup ks, b, r)) rel
        (fun x y h => by rw [h.1]) (fun x y h => ⟨h.1, h.2.1, rz⟩) ⟨rfl, rfl, rz⟩
    have I' := d_write (t' := sh.toks + (nestedKind X.prog X.w).draws (.tup ks)) (ob := DX X.prog X.w a (putX en (.tup ks) b z)) I mu hsb ⟨o, ho⟩
      ⟨⟨_, rel', o, es, ep, ho, hc, hdat, hes, hnd, hl, hs⟩, ⟨o, ho⟩, fun h1 h2 ⟨xs, a1, o1, b1, c1, d1⟩ hh => ⟨xs, a1, o1, b1, c1, hh _ d1.1, d1.2⟩⟩
    exact q _ _ I' (.dx upd_same (putX_len ..).2 (rx.put hd rb c))
end

/-! ### the evaluator's -/
abbrev KVs := List (D × D)
def dcLoop (src : Src) (turn : D → KVs → M KVs) : Nat → Nat → KVs → M KVs
  | 0, i, acc => fun s => if src.fin s i = true then .ok acc s else .stuck
  | n + 1, i, acc => fun s => if src.fin s i = true then .ok acc s else match src.at_ s i with
    | none => .stuck
    | some d => (do
      let acc' ← turn d acc
      dcLoop src turn n (i + 1) acc' : M KVs) s
def dcPut (mk me : M D) (acc : KVs) : M KVs := do
  let x ← mk
  let d ← me
  if keyOk x acc = true ∧ acc.length < sizeLine then Pure.pure (dPut acc x d) else stuck
def turnD (vs : List Nat) (g : D → M Unit) (ifs : M Bool) (mk me : M D) (d : D) (acc : KVs) : M KVs := do
  wipeM vs
  g d
  let b ← ifs
  if b = true then dcPut mk me acc else Pure.pure acc
def mDc (L : Nat) (vs : List Nat) (mi : M Src) (turn : D → KVs → M KVs) : M Rz := do
  let src ← mi
  let s0 ← getS
  if noOwn vs s0 = true then (do
    let acc ← dcLoop src turn (src.fuel L) 0 []
    let _ ← backM vs s0.env
    Pure.pure (.own (.dct acc))) else stuck

/-- the store's step by values: y: z into the dict at D, then N -/
def TDs (X : Cx) (scope : Scope) (D : Addr) (y z : V) (H : Hp) (N : Hp → Prop) : Prop := ∀ s0 H0 C cl fp pins σ sh u r E, Inv (Bk X scope s0 H0 C cl fp) pins σ H sh → RelV y u → RelV z r → wpAny (model X.prog X.w) X.A (dictSet D u r) (fun _ s' => ∃ H', Inv (Bk X scope s0 H0 C cl fp) pins σ H' s' ∧ N H') E sh
section
variable {X : Cx} {scope : Scope} {F : Hp} {D : Addr}
def NxD (X : Cx) (F : Hp) (W : Wd) (vs : List Nat) (σ0 : Sl) (D : Addr) (Φ : KVs → S → Prop) (H : Hp) : Prop := ∃ W' A' s' acc σ', Wle F W W' ∧ Rel X.prog X.w X.K F W' A' s' σ' H ∧ wipe σ' vs = wipe σ0 vs ∧ Fr X.prog X.w X.K F W' A' s' H D (.dct acc) ∧ Φ acc s'
/-- a held object comes back as it was -/
theorem unhold {W W1 : Wd} {A A1 : Nat → Addr} {s s1 : S} {σ1 : Sl} {H H1 : Hp} {b : Box} {o : HO} (f : Fr X.prog X.w X.K F W A s H D b) (ho : H D = some o) (R1 : Rel X.prog X.w X.K (upd F D o) W1 A1 s1 σ1 H1) (l1 : Wle (upd F D o) W W1) :
    Rel X.prog X.w X.K F W1 A1 s1 σ1 H1 ∧ Wle F W W1 ∧ Fr X.prog X.w X.K F W1 A1 s1 H1 D b := by
  obtain ⟨e1, R2, l2, fr⟩ := R1.unguard (o' := o) f.f l1 f.g
  rw [upd_self e1] at R2 fr
  exact ⟨R2, l2, fr (f.bx.up l2 (by rw [e1, ho]))⟩
theorem dput_ok {kx vx : Expr} {mk me : M Vl.D} {W : Wd} {A : Nat → Addr} {s : S} {σ : Sl} {H : Hp} {acc : KVs} {Φ : KVs → S → Prop} {vs : List Nat} {σ0 : Sl} (hu : X.A.units + 9 < cLine) (hk : ∀ s H C cl fp, VD (Bk X scope s H C cl fp) kx mk) (he : ∀ s H C cl fp, VD (Bk X scope s H C cl fp) vx me)
    (R : Rel X.prog X.w X.K F W A s σ H) (f : Fr X.prog X.w X.K F W A s H D (.dct acc)) (hw0 : wipe σ vs = wipe σ0 vs) (hw : Wp (dcPut mk me acc) s Φ NoX) :
    TXb X scope kx σ H fun y H4 => TXb X scope vx σ H4 fun z H5 => TDs X scope D y z H5 (NxD X F W vs σ0 D Φ) := by
  obtain ⟨o, ho⟩ := bx_some f.bx
  intro s0 H0 C cl fp
  unfold dcPut at hw
  rw [wp_bind] at hw
  refine hk s0 H0 C cl fp (upd F D o) W A s σ H _ (R.hold f ho) (wp_mono hw (fun x s1 h1 => ?_) fun _ _ z => z)
  intro W1 A1 y H1 l1 R1 c1 s0 H0 C cl fp
  rw [wp_bind] at h1
  refine he s0 H0 C cl fp (upd F D o) W1 A1 s1 σ H1 _ R1 (wp_mono h1 (fun d s2 h2 => ?_) fun _ _ z => z)
  intro W2 A2 z H2 l2 R2 c2
  obtain ⟨R3, l3, f3⟩ := unhold f ho R2 (l1.trans l2)
  split at h2
  · rename_i hkz
    intro s0 H0 C cl fp pins σ' sh u r E I ry rz
    refine dset_ok (X := Bk X scope s0 H0 C cl fp) hu I R3.g f3.bx (c1.up l2) c2 hkz.1 hkz.2 ry rz fun o' s' I' bx' => ?_
    exact ⟨_, I', W2, A2, s2, dPut acc x d, σ, l3, R3.other f3.g f3.f f3.b f3.ow, hw0, ⟨bx', f3.g, f3.f, f3.b, f3.ow⟩, h2⟩
  · exact h2.elim
theorem turnD_ok {tg kx vx : Expr} {ifs : List Expr} {g : Vl.D → M Unit} {mt : M Bool} {mk me : M Vl.D} {ts vs : List Nat} {W : Wd} {A : Nat → Addr} {s : S} {σ : Sl} {H : Hp} {v : V} {d : Vl.D} {acc : KVs} {Φ : KVs → S → Prop} (hu : X.A.units + 9 < cLine)
    (hg : ∀ s H C cl fp, VG1 (Bk X scope s H C cl fp) ts tg g) (hts : ∀ i ∈ ts, i ∈ vs) (ht : ∀ s H C cl fp, VTs (Bk X scope s H C cl fp) ifs mt) (hk : ∀ s H C cl fp, VD (Bk X scope s H C cl fp) kx mk) (he : ∀ s H C cl fp, VD (Bk X scope s H C cl fp) vx me)
    (R : Rel X.prog X.w X.K F W A s σ H) (f : Fr X.prog X.w X.K F W A s H D (.dct acc)) (c : Rp X.prog X.w X.K W v d) (hw : Wp (turnD vs g mt mk me d acc) s Φ NoX) :
    TGb X scope tg v (wipe σ vs) H fun σ2 H2 => wipe σ2 vs = wipe σ vs ∧ TTb X scope ifs σ2 H2 fun b H3 =>
      if b = true then TXb X scope kx σ2 H3 fun y H4 => TXb X scope vx σ2 H4 fun z H5 => TDs X scope D y z H5 (NxD X F W vs σ D Φ) else NxD X F W vs σ D Φ H3 := by
  obtain ⟨o, ho⟩ := bx_some f.bx
  intro s0 H0 C cl fp
  have hw : Wp (g d >>= fun _ => mt >>= fun b => if b = true then dcPut mk me acc else Pure.pure acc) { s with env := wipeE vs s.env } Φ NoX := hw
  rw [wp_bind] at hw
  have f' : Fr X.prog X.w X.K F W A { s with env := wipeE vs s.env } H D (.dct acc) := f.anyS fun i c e => (wipeE_some e).1
  refine hg s0 H0 C cl fp (upd F D o) W A _ (wipe σ vs) H v d _ ((R.wiped vs).hold f' ho) c (wp_mono hw (fun _ s1 h1 => ?_) fun _ _ z => z)
  intro W1 A1 σ1 H1 l1 R1 o1
  obtain ⟨R2, l2, f2⟩ := unhold f' ho R1 l1
  have hwp : wipe σ1 vs = wipe σ vs := by rw [wipe_of o1 hts, wipe_wipe fun i h => h]
  refine ⟨hwp, fun s0 H0 C cl fp => ?_⟩
  obtain ⟨o2, ho2⟩ := bx_some f2.bx
  rw [wp_bind] at h1
  refine ht s0 H0 C cl fp (upd F D o2) W1 A1 s1 σ1 H1 _ (R2.hold f2 ho2) (wp_mono h1 (fun b s3 h3 => ?_) fun _ _ z => z)
  intro W3 A3 H3 l3 R3
  obtain ⟨R4, l4, f4⟩ := unhold f2 ho2 R3 l3
  cases b with
  | false => exact iteF ⟨W3, A3, s3, acc, σ1, l2.trans l4, R4, hwp, f4, h3⟩
  | true =>
    refine iteT ?_
    refine (dput_ok hu hk he R4 f4 hwp h3).mono fun y H5 z => z.mono fun z H6 t s0 H0 C cl fp pins σ' sh u r E I ry rz => ?_
    exact wpAny_mono (t s0 H0 C cl fp pins σ' sh u r E I ry rz) (fun _ s' ⟨H', I', W', A', s'', ac, σ'', l', q⟩ => ⟨H', I', W', A', s'', ac, σ'', (l2.trans l4).trans l', q⟩) fun _ _ z => z
theorem dcLoop_ok {src : Src} {J : It} {turn : Vl.D → KVs → M KVs} {W0 : Wd} {A0 : Nat → Addr} {s0 : S} {σ : Sl} {H0 : Hp} {acc0 : KVs} {Φ : KVs → S → Prop} {vs : List Nat} {n : Nat} {St : V → Hp → (Hp → Prop) → Prop} {End : Hp → Prop}
    (so : SrcOk X.prog X.w X.K W0 src J) (R : Rel X.prog X.w X.K F W0 A0 s0 σ H0) (f : Fr X.prog X.w X.K F W0 A0 s0 H0 D (.dct acc0)) (hw : Wp (dcLoop src turn n 0 acc0) s0 Φ NoX)
    (hend : ∀ {W : Wd} {A : Nat → Addr} {s : S} {σ' : Sl} {H : Hp} {acc : KVs}, Wle F W0 W → Rel X.prog X.w X.K F W A s σ' H → wipe σ' vs = wipe σ vs → Fr X.prog X.w X.K F W A s H D (.dct acc) → Φ acc s → End H)
    (hturn : ∀ {W : Wd} {A : Nat → Addr} {s : S} {σ' : Sl} {H : Hp} {v : V} {d : Vl.D} {acc : KVs} {Φ' : KVs → S → Prop}, Wle F W0 W → Rel X.prog X.w X.K F W A s σ' H → wipe σ' vs = wipe σ vs → Fr X.prog X.w X.K F W A s H D (.dct acc) → Rp X.prog X.w X.K W v d → Wp (turn d acc) s Φ' NoX →
      St v H (NxD X F W vs σ' D Φ')) (hmono : ∀ {v : V} {H : Hp} {N N' : Hp → Prop}, St v H N → (∀ H', N H' → N' H') → St v H N') :
    ∃ Wf : Nat → Nat → Hp → Prop, (∃ m, Wf 0 m H0) ∧ ∀ i m H, Wf i m H →
      (J.stop i H ∧ End H) ∨ (J.go i H ∧ ∃ Nx : Hp → Prop, (∀ H', Nx H' → ∃ m', m' < m ∧ Wf (i + 1) m' H') ∧ ∀ x H', J.yld i H x H' → St x H' Nx) := by
  refine ⟨fun i m H => ∃ W A s acc σ', Wle F W0 W ∧ Rel X.prog X.w X.K F W A s σ' H ∧ wipe σ' vs = wipe σ vs ∧ Fr X.prog X.w X.K F W A s H D (.dct acc) ∧ Wp (dcLoop src turn m i acc) s Φ NoX, ⟨n, W0, A0, s0, acc0, σ, Wle.refl, R, rfl, f, hw⟩, ?_⟩
  rintro i m H ⟨W, A, s, acc, σ', l, R, hwp, f, h⟩
  have hz : (src.fin s i = true ∧ Φ acc s) ∨ (∃ k d, m = k + 1 ∧ src.at_ s i = some d ∧ Wp (turn d acc >>= fun acc' => dcLoop src turn k (i + 1) acc') s Φ NoX) := by
    cases m with
    | zero =>
      unfold Wp dcLoop at h
      by_cases hf : src.fin s i = true
      · simp only [if_pos hf] at h; exact .inl ⟨hf, h⟩
      · simp only [if_neg hf] at h
    | succ m =>
      unfold Wp dcLoop at h
      by_cases hf : src.fin s i = true
      · simp only [if_pos hf] at h; exact .inl ⟨hf, h⟩
      · simp only [if_neg hf] at h
        cases ea : src.at_ s i with
        | none => rw [ea] at h; exact h.elim
        | some d => rw [ea] at h; exact .inr ⟨m, d, rfl, rfl, h⟩
  rcases hz with hz | ⟨k, d, rfl, ea, hz⟩
  · exact .inl ⟨(so F W A s _ H l.sub R).2 i hz.1, hend l R hwp f hz.2⟩
  · obtain ⟨hgo, hy⟩ := (so F W A s _ H l.sub R).1 i d ea
    refine .inr ⟨hgo, fun H' => ∃ W A s acc σ', Wle F W0 W ∧ Rel X.prog X.w X.K F W A s σ' H' ∧ wipe σ' vs = wipe σ vs ∧ Fr X.prog X.w X.K F W A s H' D (.dct acc) ∧ Wp (dcLoop src turn k (i + 1) acc) s Φ NoX, fun H' q => ⟨k, Nat.lt_succ_self k, q⟩, fun x H' y => ?_⟩
    obtain ⟨o, ho⟩ := bx_some f.bx
    obtain ⟨sa, _⟩ := so (upd F D o) W A s _ H l.sub (R.hold f ho)
    obtain ⟨W1, l1, R1, c1⟩ := (sa i d ea).2 x H' y
    obtain ⟨R2, l2, f2⟩ := unhold f ho R1 l1
    rw [wp_bind] at hz
    refine hmono (hturn (l.trans l2) R2 hwp f2 c1 hz) fun H3 ⟨W3, A3, s3, acc3, σ3, l3, R3, w3, f3, q⟩ => ?_
    exact ⟨W3, A3, s3, acc3, σ3, (l.trans l2).trans l3, R3, w3.trans hwp, f3, q⟩
theorem TDs.mono {y z : V} {H : Hp} {N N' : Hp → Prop} (h : TDs X scope D y z H N) (q : ∀ H', N H' → N' H') : TDs X scope D y z H N' := fun s0 H0 C cl fp pins σ sh u r E I ry rz =>
  wpAny_mono (h s0 H0 C cl fp pins σ sh u r E I ry rz) (fun _ s' ⟨H', I', z⟩ => ⟨H', I', q H' z⟩) fun _ _ z => z
/-- {k: v for t in it if ..}, as it is to be read -/
def tDcR (X : Cx) (scope : Scope) (tg iter kx vx : Expr) (ifs : List Expr) (vs : List Nat) : TE := fun σ H Q => TIx X tg iter σ H fun J H1 => ∀ D, H1 D = none → ∃ W : Nat → Nat → Hp → Prop, (∃ m, W 0 m (upd H1 D (.dK []))) ∧ ∀ i m H, W i m H →
  (J.stop i H ∧ Q (.ref D) H) ∨ (J.go i H ∧ ∃ Nx : Hp → Prop, (∀ H', Nx H' → ∃ m', m' < m ∧ W (i + 1) m' H') ∧ ∀ x H', J.yld i H x H' → TGb X scope tg x (wipe σ vs) H' fun σ2 H2 => wipe σ2 vs = wipe σ vs ∧ TTb X scope ifs σ2 H2 fun b H3 =>
    if b = true then TXb X scope kx σ2 H3 fun y H4 => TXb X scope vx σ2 H4 fun z H5 => TDs X scope D y z H5 Nx else Nx H3)
theorem dc_ok {tg iter kx vx : Expr} {ifs : List Expr} {mi : M Src} {g : Vl.D → M Unit} {mt : M Bool} {mk me : M Vl.D} {ts vs : List Nat} {L : Nat} {W : Wd} {A : Nat → Addr} {s : S} {σ : Sl} {H : Hp} {Q : VK} (hu : X.A.units + 9 < cLine) (hi : VI X tg iter mi)
    (hg : ∀ s H C cl fp, VG1 (Bk X scope s H C cl fp) ts tg g) (hts : ∀ i ∈ ts, i ∈ vs) (ht : ∀ s H C cl fp, VTs (Bk X scope s H C cl fp) ifs mt) (hk : ∀ s H C cl fp, VD (Bk X scope s H C cl fp) kx mk) (he : ∀ s H C cl fp, VD (Bk X scope s H C cl fp) vx me) (R : Rel X.prog X.w X.K F W A s σ H)
    (hw : Wp (mDc L vs mi (turnD vs g mt mk me)) s (fun r s' => ∀ W' A' v H', Wle F W W' → Rel X.prog X.w X.K F W' A' s' σ H' → cE X F W' A' s' σ H' v r → Q v H') NoX) : tDcR X scope tg iter kx vx ifs vs σ H Q := by
  unfold mDc at hw
  rw [wp_bind] at hw
  refine hi F W A s σ H _ R (wp_mono hw (fun src s1 h1 => ?_) fun _ _ z => z)
  intro W1 A1 J H1 l1 R1 so D hD
  rw [wp_bind, wp_getS] at h1
  split at h1
  · rename_i hno
    rw [wp_bind] at h1
    have R1' : Rel X.prog X.w X.K F W1 A1 s1 σ (upd H1 D (.dK [])) := R1.laid hD
    refine dcLoop_ok (vs := vs) (St := fun v H N => TGb X scope tg v (wipe σ vs) H fun σ2 H2 => wipe σ2 vs = wipe σ vs ∧ TTb X scope ifs σ2 H2 fun b H3 =>
      if b = true then TXb X scope kx σ2 H3 fun y H4 => TXb X scope vx σ2 H4 fun z H5 => TDs X scope D y z H5 N else N H3) so R1' (R1.fresh hD (.dk upd_same ⟨rfl, fun i _ _ e => (by cases i <;> cases e)⟩)) h1 (fun l2 R2 w2 f2 h2 => ?_) (fun l2 R2 w2 f2 c2 h2 => ?_) (fun h q => ?_)
    · rename_i W2 A2 s2 σ2 H2 acc
      have h2 : ∀ W' A' v H', Wle F W W' → Rel X.prog X.w X.K F W' A' { s2 with env := backE vs s1.env (wipeE vs s2.env) } σ H' → cE X F W' A' { s2 with env := backE vs s1.env (wipeE vs s2.env) } σ H' v (.own (.dct acc)) → Q v H' := h2
      have R3 := R2.wiped vs
      rw [w2] at R3
      refine h2 W2 A2 (.ref D) H2 (l1.trans l2) (R3.back R1 l2 hno) ⟨D, rfl, f2.anyS fun i c e => ?_⟩
      rcases backE_some _ e with ⟨q1, q2⟩ | ⟨q1, q2⟩
      · have := List.all_eq_true.mp hno i q1
        rw [q2] at this; cases this
      · exact (wipeE_some q2).1
    · have z := turnD_ok hu hg hts ht hk he R2 f2 c2 h2
      rw [w2] at z
      exact z
    · exact h.mono fun σ' H' ⟨a, b⟩ => ⟨a, b.mono fun k H3 z => ite_mono z (fun z => z.mono fun y H4 z => z.mono fun w H5 t => t.mono q) (q _)⟩
  · exact h1.elim
/-- the block runs: over the library's loop (compLoop_anyD) and block_start -/
theorem dcR_core {pins : List (Addr × Obj)} {s : Shared} {σ : Sl} {H : Hp} {Q : VK} {kx vx tg iter : Expr} {ifs : List Expr} {own : List (Str × Nat)} {pos pos' : Pos} {use : Option (Value → Sem Unit)} {Qf : Value → Shared → Prop}
    (hc : X.calm = true) (hN : X.N.Nodup) (I : Inv X pins σ H s) (ok : BlkOk X.N X.env.scope scope own) (hs : ∀ x, foldedSetIterable iter X.env x = pure x) (h : tDcR X scope tg iter kx vx ifs (own.map (·.2)) σ H Q)
    (hRR : ∀ D C s' m H', Inv X pins σ H' s' → Q (.ref D) H' → s'.heap.Ns C m → FpOk X pins H' C → compPost (model X.prog X.w) X.A X.xe use Qf (.ref D) C (.ok .next) s') :
    wpAny (model X.prog X.w) X.A (comprehension (.DictComp kx vx [⟨tg, iter, ifs, 0⟩] scope pos) scope X.env pos' newDict false (eval iter X.env) use) Qf X.xe s := by
  have hfree : ∀ y ∈ scope.names, y.2 = .free → ∃ c, X.env.cells.lookup y.1 = some c := fun y hy e => (ok.free y hy e).elim (fun k => I.ok.has _ (.inl k)) fun k => I.ok.has _ (.inr k)
  refine wpAny_comprehension_free (use := use) rfl hs (closure_ok hfree) ok.kind (fun y hy e => by rw [ok.uniq y hy, e]) (thn (h pins s I) fun xv s1 hx => thn hx fun itv s2 h2 => ?_)
  obtain ⟨it, fp, tn, J, H2, rfl, I2, T, st2, f2, q⟩ := h2
  refine wpAny_newObj_type (newEnv_comp ?_)
  obtain ⟨Wf, ⟨m0, w0⟩, turn⟩ := q s2.heap.objs.size I2.fresh
  have k3 : ∀ b o, s2.heap.get? b = some o → (s2.heap.push { cls := .type "dict", data := .dict #[] }).get? b = some o := fun b o e => Heap.get?_push_of_some _ e
  have I3 : Inv X pins σ (upd H2 s2.heap.objs.size (.dK [])) { s2 with heap := s2.heap.push { cls := .type "dict", data := .dict #[] } } := I2.laid (t' := s2.toks) k3 (Nat.le_refl _) (dk_empty s2.heap I2.big)
  have f3 : ∀ b ∈ fp, FpOk X pins (upd H2 s2.heap.objs.size (.dK [])) b ∧ b < (s2.heap.push { cls := .type "dict", data := .dict #[] }).objs.size := fun b hb => by
    obtain ⟨o, e, _⟩ := T.obj _ _ st2 b hb
    have hlt := Heap.lt_size e
    refine ⟨⟨?_, (f2 b hb).2⟩, by rw [Heap.size_push]; exact Nat.lt_succ_of_lt hlt⟩
    rw [upd_ne (Nat.ne_of_lt hlt)]
    exact (f2 b hb).1
  have st3 : tn 0 (s2.heap.push { cls := .type "dict", data := .dict #[] }) := T.keep _ _ _ st2 fun b _ o e => k3 b o e
  generalize hD : s2.heap.objs.size = D at *
  generalize hs3 : ({ s2 with heap := s2.heap.push { cls := .type "dict", data := .dict #[] } } : Shared) = s3 at *
  have h3 : s3.heap = s2.heap.push { cls := .type "dict", data := .dict #[] } := by rw [← hs3]
  rw [← h3] at st3
  have f3 : ∀ b ∈ fp, FpOk X pins (upd H2 D (.dK [])) b ∧ b < s3.heap.objs.size := by rw [h3]; exact f3
  have I4 := block_start I3 ok hN f3
  have nfp : ∀ b ∈ fp, (upd H2 D (.dK [])) b = none := fun b hb => (f3 b hb).1.1
  show codeAny _ _ (.compStart (.DictComp kx vx [⟨tg, iter, ifs, 0⟩] scope pos) 0 (.ref it) (.ref D) (compEnvC scope (cellsFrom (s3.heap.objs.size + 1) scope.names (cloFrom X.env.cells scope.names [])) s3.heap.objs.size X.env)) (compPost (model X.prog X.w) X.A X.xe use Qf (.ref D) s3.heap.objs.size) { s3 with heap := pushCells (s3.heap.push { cls := .type "dict", data := .dict #[] }) scope.names }
  generalize hcl : cellsFrom (s3.heap.objs.size + 1) scope.names (cloFrom X.env.cells scope.names []) = cl at *
  generalize hH3 : upd H2 D (.dK []) = H3 at *
  have st4 : tn 0 (pushCells (s3.heap.push { cls := .type "dict", data := .dict #[] }) scope.names) := T.keep _ _ _ st3 fun b _ o e => pushCells_keeps _ _ _ _ (Heap.get?_push_of_some _ e)
  generalize hs4 : ({ s3 with heap := pushCells (s3.heap.push { cls := .type "dict", data := .dict #[] }) scope.names } : Shared) = s4 at *
  have st4 : tn 0 s4.heap := by rw [← hs4]; exact st4
  have stat : ∀ {σ' : Sl} {H' : Hp} {s' : Shared}, Inv (Bk X scope s3 H3 s3.heap.objs.size cl fp) [] σ' H' s' → (∀ b ∈ fp, H' b = none) → ∀ b ∈ fp, FpOk (Bk X scope s3 H3 s3.heap.objs.size cl fp) [] H' b := fun {σ' H' s'} I' hn b hb =>
    ⟨hn b hb, (I'.ok.exf b hb).1, I'.ok.exfs b hb, .inl hb, fun x c e => (I'.ok.exf b hb).2 x c e, fun p hp => absurd (show p ∈ ([] : List (Addr × Obj)) ++ [] from hp) (by simp)⟩
  have loop : codeAny (model X.prog X.w) X.A (.compLoop (.DictComp kx vx [⟨tg, iter, ifs, 0⟩] scope pos) 0 (.ref it) (.ref D) (compEnvC scope cl s3.heap.objs.size X.env)) (compPost (model X.prog X.w) X.A X.xe use Qf (.ref D) s3.heap.objs.size) s4 := by
    refine compLoop_anyD (fun n s' => ∃ i H', Inv (Bk X scope s3 H3 s3.heap.objs.size cl fp) [] (wipe σ (own.map (·.2))) H' s' ∧ tn i s'.heap ∧ (∀ b ∈ fp, H' b = none) ∧ Wf i n H') ?_ m0 ⟨0, H3, I4, st4, nfp, w0⟩
    rintro n s5 ⟨i, H5, I5, st5, n5, w5⟩
    rcases turn i n H5 w5 with ⟨stop, qq⟩ | ⟨go, Nx, hNx, step⟩
    · refine thnF (T.done (Bk X scope s3 H3 s3.heap.objs.size cl fp) rfl rfl rfl hc i [] s5 _ H5 (fun _ _ => False) I5 (stat I5 n5) st5 stop) fun r s6 ⟨hr, I6⟩ => ?_
      subst hr
      have I7 : Inv X pins σ H5 s6 := I3.call' (ch := fp) I6.os I6.base I6.hok I6.bare fun b hb => ⟨(f3 b hb).1.2.2.2.1, (f3 b hb).1.2.1, (f3 b hb).1.2.2.2.2.1, (f3 b hb).1.2.2.2.2.2⟩
      obtain ⟨m, hn, _⟩ := I6.loc
      exact hRR D s3.heap.objs.size s6 m H5 I7 qq hn (I3.fpOk (Nat.le_refl _) I6.free)
    · refine thnF (T.item (Bk X scope s3 H3 s3.heap.objs.size cl fp) rfl rfl rfl hc i [] s5 _ H5 (fun _ _ => False) I5 (stat I5 n5) st5 go) fun r s6 ⟨u, hr, h6⟩ => ?_
      subst hr
      refine thnF h6 fun _ s7 ⟨x, H7, I7, r7, y7, st7, n7⟩ => ?_
      have I7' := I7.pinned (stat I7 n7) (T.obj _ _ st7)
      refine thnF (step x H7 y7 s3 H3 s3.heap.objs.size cl fp _ s7 u I7' r7) fun _ s8 ⟨σ8, H8, I8, hw8, q8⟩ => ?_
      refine thnF (q8 s3 H3 s3.heap.objs.size cl fp _ s8 I8) fun b s9 ⟨H9, I9, q9⟩ => ?_
      have fin : ∀ {s' : Shared} {H' : Hp}, Inv (Bk X scope s3 H3 s3.heap.objs.size cl fp) ([] ++ pinsAt fp s7.heap) σ8 H' s' → Nx H' → ∃ m, m < n ∧ ∃ i H', Inv (Bk X scope s3 H3 s3.heap.objs.size cl fp) [] (wipe σ (own.map (·.2))) H' s' ∧ tn i s'.heap ∧ (∀ b ∈ fp, H' b = none) ∧ Wf i m H' := fun {s' H'} I' nx => by
        obtain ⟨m', hm, w'⟩ := hNx H' nx
        have pin' : ∀ b ∈ fp, ∀ o, s7.heap.get? b = some o → s'.heap.get? b = some o ∧ H' b = none := fun b hb o e =>
          let z := I'.pin (b, o) (List.mem_append_right _ (List.mem_append_right _ (mem_pinsAt hb e)))
          ⟨z.1, z.2.1⟩
        refine ⟨m', hm, i + 1, H', (I'.unpinned (pins := [])).weak (by rw [← hw8, wipe_length]) (fun j v e => ?_), T.keep _ _ _ st7 fun b hb o e => (pin' b hb o e).1, fun b hb => ?_, w'⟩
        · rw [← hw8] at e
          exact (wipe_some e).1
        · obtain ⟨o, e, _⟩ := T.obj _ _ st7 b hb
          exact (pin' b hb o e).2
      cases b with
      | false =>
        simp only [Bool.false_eq_true, if_false] at q9 ⊢
        exact fin I9 q9
      | true =>
        simp only [if_true] at q9 ⊢
        refine thnF (q9 s3 H3 s3.heap.objs.size cl fp _ s9 I9) fun kv s10 ⟨yk, H10, I10, r10, q10⟩ => ?_
        refine thnF (q10 s3 H3 s3.heap.objs.size cl fp _ s10 I10) fun vv s11 ⟨yv, H11, I11, r11, q11⟩ => ?_
        exact thn (q11 s3 H3 s3.heap.objs.size cl fp _ σ8 s11 kv vv _ I11 r10 r11) fun _ s12 ⟨H12, I12, nx⟩ => fin I12 nx
  exact codeAny_compStart_dict loop (T.self X.A 0 _ _ _ st4 loop)
end
section
variable {X : Cx} {scope : Scope} {own : List (Str × Nat)} {pos spos : Pos}
theorem ve_dc {tg iter kx vx : Expr} {ifs : List Expr} {mi : M Src} {g : D → M Unit} {mt : M Bool} {mk me : M D} {ts : List Nat} (L : Nat) (hu : X.A.units + 9 < cLine) (hc : X.calm = true) (hN : X.N.Nodup) (ok : BlkOk X.N X.env.scope scope own) (hi : VI X tg iter mi)
    (hg : ∀ s H C cl fp, VG1 (Bk X scope s H C cl fp) ts tg g) (hts : ∀ i ∈ ts, i ∈ own.map (·.2)) (ht : ∀ s H C cl fp, VTs (Bk X scope s H C cl fp) ifs mt) (hk : ∀ s H C cl fp, VD (Bk X scope s H C cl fp) kx mk) (he : ∀ s H C cl fp, VD (Bk X scope s H C cl fp) vx me) (hs : ∀ x, foldedSetIterable iter X.env x = pure x) :
    VE X (.DictComp kx vx [⟨tg, iter, ifs, 0⟩] scope pos) (mDc L (own.map (·.2)) mi (turnD (own.map (·.2)) g mt mk me)) := by
  intro F W A s σ H Q R hw pins sh I
  rw [arm_eval_DictComp]
  refine dcR_core hc hN I ok hs (dc_ok hu hi hg hts ht hk he R hw) fun D C s' m H' I' q hn f => ⟨m, hn, fun h'' sb => ?_⟩
  obtain ⟨f0, f1, f2, f3, f4, f5⟩ := f
  exact ⟨.ref D, H', I'.turned (t' := s'.toks) (fun b o hb e => (sb.2 b hb).trans e) f0 f1 f3 f4 f5, rfl, q⟩
theorem sw_trueD {kx vx : Expr} {gs : List Comprehension} {scope : Scope} {pos py : Pos} {y : Str} {l : Nat} {env : Env} (hk : env.scope.kind = .function) (hy : env.scope.names.lookup y = some .local) (hl : (py.line == pos.line) = true)
    (ha : (scope.names.any fun (n, k) => n == y && (k == .local || k == .cell)) = false) : swapsWith (.DictComp kx vx gs scope pos) (some (.Name y py)) l env = pure true := by
  have ky : env.kindOf y = some .local := hy
  have hb : env.blockKind = .function := by unfold Env.blockKind; rw [hk]; rfl
  unfold swapsWith
  simp only [hb, ky, ha, Expr.pos, hl]
  rfl
theorem vs_setDc {i : Nat} {y : Str} {py : Pos} {tg iter kx vx : Expr} {ifs : List Expr} {mi : M Src} {g : D → M Unit} {mt : M Bool} {mk me : M D} {ts : List Nat} (L : Nat) (hu : X.A.units + 9 < cLine) (hc : X.calm = true) (hN : X.N.Nodup) (hy : X.N[i]? = some y) (hyl : X.env.scope.names.lookup y = some .local)
    (hsw : swapsWith (.DictComp kx vx [⟨tg, iter, ifs, 0⟩] scope pos) (some (.Name y py)) spos.line X.env = pure true) (ok : BlkOk X.N X.env.scope scope own) (hi : VI X tg iter mi)
    (hg : ∀ s H C cl fp, VG1 (Bk X scope s H C cl fp) ts tg g) (hts : ∀ i ∈ ts, i ∈ own.map (·.2)) (ht : ∀ s H C cl fp, VTs (Bk X scope s H C cl fp) ifs mt) (hk : ∀ s H C cl fp, VD (Bk X scope s H C cl fp) kx mk) (he : ∀ s H C cl fp, VD (Bk X scope s H C cl fp) vx me) (hs : ∀ x, foldedSetIterable iter X.env x = pure x) (bx : Bool) :
    VS X (.Assign [.Name y py] (.DictComp kx vx [⟨tg, iter, ifs, 0⟩] scope pos) spos) (do let r ← mDc L (own.map (·.2)) mi (turnD (own.map (·.2)) g mt mk me); let r ← (if bx = true then toBox r else Pure.pure r); setSlot i r; Pure.pure .nx) := by
  intro F W A s σ H D R hw pins sh I
  rw [exec_Assign_Name_used _ _ _ _ hsw]
  refine wpAny_bind (wpAny_standAt (wpAny_bind ?_))
  show wpAny _ X.A (do let _ ← comprehension (.DictComp kx vx [⟨tg, iter, ifs, 0⟩] scope pos) scope X.env (firstIterPos [⟨tg, iter, ifs, 0⟩] pos) newDict false (eval iter X.env) (some (assign (.Name y py) X.env))) _ _ sh
  have h : tDcR X scope tg iter kx vx ifs (own.map (·.2)) σ H (fun v H1 => D.nx (σ.set i (some v)) H1) := by
    rw [wp_bind] at hw
    refine dc_ok hu hi hg hts ht hk he R (wp_mono hw (fun r s1 h1 => ?_) fun _ _ z => z)
    intro W1 A1 v H1 l1 R1 c1
    cases bx with
    | false =>
      obtain ⟨A2, R2⟩ := R1.slot c1 i
      exact h1 W1 A2 _ H1 l1 R2
    | true =>
      cases r with
      | dat d =>
        obtain ⟨A2, R2⟩ := R1.slot c1 i
        exact h1 W1 A2 _ H1 l1 R2
      | own b =>
        obtain ⟨a, rfl, f⟩ := c1
        obtain ⟨l2, R2, c2⟩ := R1.box f
        obtain ⟨A3, R3⟩ := R2.slot (r := .dat (.box s1.sto.length)) c2 i
        exact h1 _ A3 _ H1 (l1.trans l2) R3
  refine wpAny_bind (thn (dcR_core (Qf := fun _ s' => SP X pins D .next s') hc hN I ok hs h fun L C s' m H' I' q hn f => ?_) fun _ s' hq => wpAny_pure (wpAny_pure hq))
  show wpAny _ _ (assign (.Name y py) X.env (.ref L)) _ _ _
  refine wpAny_assign_Name (store_ok2 (v := V.ref L) I' hN hy (.inl hyl) rfl (fun s2 I2 ⟨a, sb, ha⟩ => ?_) (.inr hyl))
  obtain ⟨f0, f1, f2, f3, f4, f5⟩ := f
  have haC : C ≠ a := ha.elim (fun z => by rw [z]; exact f1) fun z e => f4 y a z e.symm
  exact ⟨m, hn.sameBut sb haC, fun h3 sb3 => ⟨_, H', I2.turned (t' := s2.toks) (fun b o hb e => (sb3.2 b hb).trans e) f0 f1 f3 f4 f5, q⟩⟩
end
end Vl
set_option Elab.async false
set_option linter.all false
set_option maxRecDepth 100000
set_option maxHeartbeats 4000000
/-! V18: list(range(..)); which stores are swapped; subscripts that are plain -/
namespace Vl
open PySem PySem.Spec PyProof.Rows L2
section
variable {X : Cx} {pos p p2 pos2 : Pos}
def TRg (X : Cx) (e : Expr) : L2.St → Hp → (Int → Int → Hp → Prop) → Prop := fun σ H Q => ∀ pins s, Inv X pins σ H s → wpAny (model X.prog X.w) X.A (eval e X.env) (fun x s' => ∃ r a b t u v H', x = .ref r ∧ IsRange s'.heap r a b 1 t u v ∧ Inv X pins σ H' s' ∧ Q a b H') X.xe s
theorem prg_raw {e : Expr} : PRg X e (TRg X e) := fun pins s σ H Q I h => h pins s I
def rgD (a b : Int) : List D := (List.range (b - a).toNat).map fun i => D.int (a + (i : Nat))
theorem rps_rg {P : Program} {w : World} {K : PySem.W.Frag} {W : Wd} {a b : Int} : Rps P w K W (rgV a b) (rgD a b) := by
  have e1 : rgV a b = ((List.range (b - a).toNat).map fun i => a + ((i : Nat) : Int)).map V.int := by unfold rgV; rw [List.map_map]; rfl
  have e2 : rgD a b = ((List.range (b - a).toNat).map fun i => a + ((i : Nat) : Int)).map D.int := by unfold rgD; rw [List.map_map]; rfl
  rw [e1, e2]
  exact rps_of_ints
def rgOk (a b : Int) : Bool := decide (a.natAbs < 4611686018427387904 ∧ b.natAbs < 4611686018427387904 ∧ (b - a).toNat ≤ 16777216)
def mRgL : List D → Option Rz
  | [.int j] => if rgOk 0 j = true then some (.own (.lst (rgD 0 j))) else none
  | [.int i, .int j] => if rgOk i j = true then some (.own (.lst (rgD i j))) else none
  | _ => none
/-- list(range(e)) -/
theorem ve_lrg1 {e : Expr} {m : M D} (hc : X.calm = true) (hg : Gl X "list") (hm : X.mg "list" = none) (hg' : Gl X "range") (hm' : X.mg "range" = none) (h : VD X e m) (hs : isStar e = false) :
    VE X (.Call (.Name "list" p) [.Call (.Name "range" p2) [e] [] pos2] [] pos) (do let d ← m; orStuck (mRgL [d])) := by
  intro F W A s σ H Q R hw
  refine tx_of (pe_listRg hc hg hm (prg_1 hg' hm' pe_tx (star_cons hs))) ?_
  rw [wp_bind] at hw
  refine h F W A s σ H _ R (wp_mono hw (fun d s1 h1 => ?_) fun _ _ z => z)
  intro W1 A1 v H1 l1 R1 c1
  obtain ⟨r, er, q⟩ := wp_orStuck h1
  unfold mRgL at er
  split at er
  · rename_i j heq
    cases heq
    split at er
    · rename_i ho
      cases er
      cases (c1 : Rp X.prog X.w X.K W1 v (.int j))
      exact ⟨j, rfl, (by unfold rgOk at ho; have hq := of_decide_eq_true ho; exact ⟨by omega, by omega, by omega, by omega, by omega⟩), fun q' hq => q W1 A1 _ _ l1 (R1.laid hq) ⟨q', rfl, R1.fresh hq (.lst upd_same rps_rg)⟩⟩
    · cases er
  · rename_i heq; cases heq
  · cases er
theorem ve_lrg2 {e e2 : Expr} {m m2 : M D} (hc : X.calm = true) (hg : Gl X "list") (hm : X.mg "list" = none) (hg' : Gl X "range") (hm' : X.mg "range" = none) (h : VD X e m) (h2 : VD X e2 m2) (hs : isStar e = false) (hs2 : isStar e2 = false) :
    VE X (.Call (.Name "list" p) [.Call (.Name "range" p2) [e, e2] [] pos2] [] pos) (do let d ← m; let d2 ← m2; orStuck (mRgL [d, d2])) := by
  intro F W A s σ H Q R hw
  refine tx_of (pe_listRg hc hg hm (prg_2 hg' hm' pe_tx pe_tx (star_cons hs) (star_cons hs2) (by rw [star_cons hs2]; rfl))) ?_
  rw [wp_bind] at hw
  refine h F W A s σ H _ R (wp_mono hw (fun d s1 h1 => ?_) fun _ _ z => z)
  intro W1 A1 v H1 l1 R1 c1
  rw [wp_bind] at h1
  refine h2 F W1 A1 s1 σ H1 _ R1 (wp_mono h1 (fun d2 s2 h2 => ?_) fun _ _ z => z)
  intro W2 A2 u H2 l2 R2 c2
  obtain ⟨r, er, q⟩ := wp_orStuck h2
  have c1 : Rp X.prog X.w X.K W2 v d := Rp.up c1 l2
  unfold mRgL at er
  split at er
  · rename_i heq; cases heq
  · rename_i i j heq
    cases heq
    split at er
    · rename_i ho
      cases er
      cases c1
      cases (c2 : Rp X.prog X.w X.K W2 u (.int j))
      exact ⟨i, j, rfl, rfl, (by unfold rgOk at ho; have hq := of_decide_eq_true ho; exact ⟨by omega, by omega, by omega, by omega, by omega⟩), fun q' hq => q W2 A2 _ _ (l1.trans l2) (R2.laid hq) ⟨q', rfl, R2.fresh hq (.lst upd_same rps_rg)⟩⟩
    · cases er
  · cases er
end

/-! ### plain subscripts and what a store lets go -/
def plainIx : Expr → Bool
  | .Slice _ _ none _ => false
  | _ => true
theorem plainIx_ok {b : Expr} (h : plainIx b = true) : PlainIx b := by
  intro o i
  unfold plainIx at h
  split at h
  · cases h
  · rename_i hn
    unfold subscripted
    split
    · rename_i hs _ _
      exact (hn _ _ _ rfl).elim
    · rename_i hf; cases hf
    · rfl
def relOf (i : Expr) (v ov iv : Value) : List Value := match i with
  | .Slice _ _ none _ => [iv, v, ov]
  | _ => [v, ov, iv]
theorem sub_tree {o i : Expr} {p : Pos} {env : Env} (v : Value) : assign (.Subscript o i p) env v = (do
      let ov ← holding [v] (eval o env)
      let iv ← holding [v, ov] (eval i env)
      standAt p
      holding [v, ov, iv] (setItem ov iv v)
      release (relOf i v ov iv) []) := rfl
theorem sub_assign {o i : Expr} {p : Pos} {env : Env} (h : plainIx i = true) (v : Value) : assign (.Subscript o i p) env v = (do
      let ov ← holding [v] (eval o env)
      let iv ← holding [v, ov] (eval i env)
      standAt p
      holding [v, ov, iv] (setItem ov iv v)
      release [v, ov, iv] []) := by
  rw [sub_tree]
  have e : ∀ ov iv, relOf i v ov iv = [v, ov, iv] := fun ov iv => by
    unfold plainIx at h
    split at h
    · cases h
    · rename_i hn
      unfold relOf
      split
      · exact (hn _ _ _ rfl).elim
      · rfl
  simp only [e]

/-! ### swapped stores -/
/-- the names of a, b = x, y that are stored from the right -/
inductive Swp where
  | no | yes (xs : List Str) | odd
def swpNames (sc : Scope) (line : Nat) (ts : List Expr) : List Str := ts.filterMap fun
  | .Name id pos => if sc.names.lookup id == some .local && pos.line == line then some id else none
  | _ => none
def swpOf (sc : Scope) (ts vs : List Expr) : Swp :=
  if !(ts.length == 2 || ts.length == 3) || vs.length != ts.length then .no
  else if (vs.any fun | .Starred .. => true | _ => false) = true then .no
  else if ((swpNames sc ((ts.head?.map (·.pos.line)).getD 0) ts).length != ts.length || (swpNames sc ((ts.head?.map (·.pos.line)).getD 0) ts).eraseDups.length != (swpNames sc ((ts.head?.map (·.pos.line)).getD 0) ts).length) = true then .no
  else if vs.all (foldedForSure 8) = true then .no
  else if vs.all (constantsAlone 8) = true then .odd
  else .yes (swpNames sc ((ts.head?.map (·.pos.line)).getD 0) ts)
theorem swp_ok {env : Env} {ts vs : List Expr} {k k2 : Nat} {p p2 : Pos} (hk : env.scope.kind = .function) :
    (swpOf env.scope ts vs = .no → swappedStores [.Tuple ts k p] (.Tuple vs k2 p2) env = pure none) ∧ ∀ xs, swpOf env.scope ts vs = .yes xs → swappedStores [.Tuple ts k p] (.Tuple vs k2 p2) env = pure (some xs) := by
  have hb : env.blockKind = .function := by unfold Env.blockKind; rw [hk]; rfl
  have hb2 : (env.blockKind != .function) = false := by rw [hb]; rfl
  have hn : (ts.filterMap fun
    | .Name id pos => if env.kindOf id == some .local && pos.line == ((ts.head?.map (·.pos.line)).getD 0) then some id else none
    | _ => none) = swpNames env.scope ((ts.head?.map (·.pos.line)).getD 0) ts := rfl
  have e : swappedStores [.Tuple ts k p] (.Tuple vs k2 p2) env = (do
      if !(ts.length == 2 || ts.length == 3) || vs.length != ts.length || env.blockKind != .function then return none
      if vs.any fun | .Starred .. => true | _ => false then return none
      let line := (ts.head?.map (·.pos.line)).getD 0
      let names := swpNames env.scope ((ts.head?.map (·.pos.line)).getD 0) ts
      if names.length != ts.length || names.eraseDups.length != names.length then return none
      if vs.all (foldedForSure 8) then return none
      if vs.all (constantsAlone 8) then unsupported "assign.tuple-of-constant-expressions:order-of-the-stores"
      return some names) := rfl
  rw [e, hb2, Bool.or_false]
  unfold swpOf
  by_cases h1 : (!(ts.length == 2 || ts.length == 3) || vs.length != ts.length) = true
  · simp only [h1, if_true]
    exact ⟨fun _ => (by first | rfl | trivial), fun xs z => (by cases z)⟩
  · simp only [h1, if_false]
    by_cases h2 : (vs.any fun | .Starred .. => true | _ => false) = true
    · simp only [h2, if_true]
      exact ⟨fun _ => (by first | rfl | trivial), fun xs z => (by cases z)⟩
    · simp only [h2, if_false]
      by_cases h3 : ((swpNames env.scope ((ts.head?.map (·.pos.line)).getD 0) ts).length != ts.length || (swpNames env.scope ((ts.head?.map (·.pos.line)).getD 0) ts).eraseDups.length != (swpNames env.scope ((ts.head?.map (·.pos.line)).getD 0) ts).length) = true
      · simp only [h3, if_true]
        exact ⟨fun _ => (by first | rfl | trivial), fun xs z => (by cases z)⟩
      · simp only [h3, if_false]
        by_cases h4 : vs.all (foldedForSure 8) = true
        · simp only [h4, if_true]
          exact ⟨fun _ => (by first | rfl | trivial), fun xs z => (by cases z)⟩
        · simp only [h4, if_false]
          by_cases h5 : vs.all (constantsAlone 8) = true
          · simp only [h5, if_true]
            exact ⟨fun z => (by cases z), fun xs z => (by cases z)⟩
          · simp only [h5, if_false]
            exact ⟨fun z => (by cases z), fun xs z => (by cases z; rfl)⟩
end Vl
set_option Elab.async false
set_option linter.all false
set_option maxRecDepth 100000
set_option maxHeartbeats 4000000
/-! V19: the evaluator -/
namespace Vl
open PySem PySem.Spec PyProof.Rows L2

/-- a def -/
structure Fi where
  ps : List Str
  N : List Str
  body : List Stmt
  sc : Scope
  df : List D
/-- what is known of the program -/
structure Gm where
  fns : List (Str × Fi)
  cls : List (Str × List Str × List (Str × Fi))
  cst : List (Str × D)
  fre : List Str
  bxs : List (Nat × Nat)
  L : Nat
/-- what calls do -/
structure Cl where
  fn : Str → FV
  me : Str → Str → FV
/-- a block -/
structure Sx where
  N : List Str
  sc : Scope
  fs : Str → Bool
structure Ev where
  E : Sx → Expr → M Rz
  T : Sx → Expr → M Bool
  G : Sx → Expr → Option (List Nat × (D → M Unit))
  S : Sx → Stmt → M Fl
def Ev.none : Ev := ⟨fun _ _ => stuck, fun _ _ => stuck, fun _ _ => Option.none, fun _ _ => stuck⟩

def ixOf (x : Str) : List Str → Option Nat
  | [] => none
  | y :: r => if y = x then some 0 else (ixOf x r).map (· + 1)
theorem ixOf_ok {x : Str} : ∀ {N : List Str} {i : Nat}, ixOf x N = some i → N[i]? = some x
  | [], _, h => by cases h
  | y :: r, i, h => by
    unfold ixOf at h
    by_cases e : y = x
    · rw [if_pos e] at h; cases h; rw [e]; rfl
    · rw [if_neg e] at h
      obtain ⟨j, hj, rfl⟩ := Option.map_eq_some_iff.mp h
      show r[j]? = some x
      exact ixOf_ok hj
def visB (c : Sx) (x : Str) : Bool := match c.sc.names.lookup x with
  | some .local => true
  | some .cell => true
  | some .free => true
  | _ => false
def glbB (c : Sx) (x : Str) : Bool := match c.sc.names.lookup x with
  | some .globalImplicit => x != ("__debug__" : Str)
  | _ => false
/-- the slot of a name that is read -/
def slotOf (c : Sx) (x : Str) : Option Nat := if (visB c x && x != ("__debug__" : Str) && x != ("__classdict__" : Str)) = true then ixOf x c.N else none
def locB (c : Sx) (x : Str) : Bool := match c.sc.names.lookup x with
  | some .local => true
  | some .cell => c.fs x
  | _ => false
/-- the slot of a name that is stored -/
def stoOf (c : Sx) (x : Str) : Option Nat := if locB c x = true then ixOf x c.N else none
def isLocal (c : Sx) (x : Str) : Bool := match c.sc.names.lookup x with
  | some .local => true
  | _ => false

def binG : Operator → D → D → Option Rz
  | .Add => dAdd
  | .Sub => dSub
  | .Mult => dMul
  | .FloorDiv => dDiv
  | .Mod => dMod
  | .Pow => dPow
  | _ => fun _ _ => none
def cmpG : CmpOp → D → D → Option Rz
  | .Eq => dEq
  | .NotEq => dNe
  | .Lt => dLt
  | .LtE => dLe
  | .Gt => dGt
  | .GtE => dGe
  | .Is => dIs
  | .IsNot => dIsNot
  | .In => dIn
  | .NotIn => dNotIn
def augG : Operator → D → D → Option Rz
  | .Add => iAdd
  | .Sub => iSub
  | _ => fun _ _ => none
def bltG (x : Str) : Option (Bool × String × (List D → Option Rz)) :=
  if x = ("len" : Str) then some (true, "len", gLen)
  else if x = ("abs" : Str) then some (true, "abs", gAbs)
  else if x = ("max" : Str) then some (true, "max", gMax)
  else if x = ("min" : Str) then some (true, "min", gMin)
  else if x = ("sum" : Str) then some (true, "sum", gSum)
  else if x = ("any" : Str) then some (true, "any", gAny)
  else if x = ("all" : Str) then some (true, "all", gAll)
  else if x = ("int" : Str) then some (false, "int", gInt)
  else if x = ("list" : Str) then some (false, "list", gList)
  else if x = ("tuple" : Str) then some (false, "tuple", gTuple)
  else if x = ("dict" : Str) then some (false, "dict", gDict)
  else none
def tyOf (x : Str) : Option Ty :=
  if x = ("int" : Str) then some .int
  else if x = ("bool" : Str) then some .bool
  else if x = ("str" : Str) then some .str
  else if x = ("list" : Str) then some .list
  else if x = ("tuple" : Str) then some .tuple
  else if x = ("dict" : Str) then some .dict
  else none
/-- a list's method that changes it -/
inductive Mu where
  | append | extend | pop | reverse | clear
def muOf (x : Str) : Option Mu :=
  if x = ("append" : Str) then some .append
  else if x = ("extend" : Str) then some .extend
  else if x = ("pop" : Str) then some .pop
  else if x = ("reverse" : Str) then some .reverse
  else if x = ("clear" : Str) then some .clear
  else none
def Mu.g : Mu → GM
  | .append => gAppend
  | .extend => gExtend
  | .pop => gPop
  | .reverse => gReverse
  | .clear => gClear
/-- the defaults that fill up n written arguments -/
def dfFor (i : Fi) (n : Nat) : Option (List D) := if n ≤ i.ps.length ∧ i.ps.length - n ≤ i.df.length then some (i.df.drop (i.df.length - (i.ps.length - n))) else none
def noStar (es : List Expr) : Bool := es.all fun e => !isStar e
def isSetE : Expr → Bool
  | .Set _ _ _ => true
  | _ => false

section
variable (Γ : Gm) (cl : Cl)
def freB (c : Sx) (x : Str) : Bool := glbB c x && Γ.fre.contains x && x != ("__name__" : Str)
def bxB (e : Expr) : Bool := Γ.bxs.contains (e.pos.line, e.pos.col)
def nameD (c : Sx) (x : Str) : M D := match slotOf c x with
  | some i => rdSlot i
  | none => if glbB c x = true then match Γ.cst.lookup x with
    | some d => Pure.pure d
    | none => stuck else stuck
def nameR (c : Sx) (x : Str) : M Ref := match slotOf c x with
  | some i => rfSlot i
  | none => do
    let d ← nameD Γ c x
    Pure.pure (.dat d)
/-- the attributes of a class -/
def atB (C f : Str) : Bool := match Γ.cls.lookup C with
  | some (at_, _) => at_.contains f
  | none => false
def mtab : MTab := fun C m n => match Γ.cls.lookup C with
  | some (_, ms) => if m = ("__init__" : Str) then none else match ms.lookup m with
    | some i => (dfFor i (n + 1)).map fun df => (cl.me C m, df)
    | none => none
  | none => none
section
variable (p : Ev) (c : Sx)
def pE (e : Expr) : M Rz := if bxB Γ e = true then p.E c e >>= toBox else p.E c e
def pD : Expr → M D
  | .Name x _ => nameD Γ c x
  | e => pE Γ p c e >>= toD
def pR : Expr → M Ref
  | .Name x _ => nameR Γ c x
  | e => do
    let d ← pD Γ p c e
    Pure.pure (.dat d)
def pA : List Expr → M (List D)
  | [] => Pure.pure []
  | e :: es => do
    let d ← pD Γ p c e
    let ds ← pA es
    Pure.pure (d :: ds)
def pRs : List Expr → List (M Ref)
  | [] => []
  | e :: es => pR Γ p c e :: pRs es
def pDs : List Expr → List (M D)
  | [] => []
  | e :: es => pD Γ p c e :: pDs es
def pI : Expr → M Src
  | .Call (.Name x xp) es [] pos => if (freB Γ c x && x == ("range" : Str)) = true then (if (noStar es && decide (1 ≤ es.length) && decide (es.length ≤ 3)) = true then mRng (pA Γ p c es) else stuck) else pD Γ p c (.Call (.Name x xp) es [] pos) >>= srcOf
  | e => pD Γ p c e >>= srcOf
def andT : List Expr → M Bool
  | [] => stuck
  | [a] => p.T c a
  | a :: r => do
    let k ← p.T c a
    if k then andT r else Pure.pure false
def orT : List Expr → M Bool
  | [] => stuck
  | [a] => p.T c a
  | a :: r => do
    let k ← p.T c a
    if k then Pure.pure true else orT r
def andV : List Expr → M D
  | [] => stuck
  | [a] => pD Γ p c a
  | a :: r => mAndV (pD Γ p c a) (andV r)
def orV : List Expr → M D
  | [] => stuck
  | [a] => pD Γ p c a
  | a :: r => mOrV (pD Γ p c a) (orV r)
def cmpM (a : Expr) (ops : List CmpOp) (bs : List Expr) : M Rz := match ops, bs with
  | [op], [b] => if behindInMarks op b = false then mBin (pR Γ p c a) (pR Γ p c b) (cmpG op) else stuck
  | [op, op'], [b, b'] => if lastMarks [op, op'] [b, b'] = false then mChain (pR Γ p c a) (pR Γ p c b) (pR Γ p c b') (cmpG op) (cmpG op') else stuck
  | _, _ => stuck
def T0 : Expr → M Bool
  | .Compare a ops bs _ => cmpM Γ p c a ops bs >>= asB
  | .BoolOp .And vs _ => andT p c vs
  | .BoolOp .Or vs _ => orT p c vs
  | .UnaryOp .Not a _ => do
    let b ← p.T c a
    Pure.pure (!b)
  | .IfExp _ _ _ _ => stuck
  | e => do
    let r ← pR Γ p c e
    let d ← look r
    orStuck (dTruth d)
/-- the block of a comprehension -/
def blkSx (scope : Scope) : Sx := ⟨c.N, relS scope c.sc, fun x => scope.names.lookup x == some .cell⟩
def ownsOf (scope : Scope) : List (Str × Nat) := scope.names.filterMap fun y => match y.2 with
  | .local => (ixOf y.1 c.N).map fun i => (y.1, i)
  | .cell => (ixOf y.1 c.N).map fun i => (y.1, i)
  | _ => none
def ifsM (c : Sx) : List Expr → M Bool
  | [] => Pure.pure true
  | [e] => p.T c e
  | _ => stuck
def lc1M (elt tg iter : Expr) (ifs : List Expr) (scope : Scope) : M Rz :=
  if (blkC c.N c.sc scope (ownsOf c scope) && !isSetE iter) = true then match p.G (blkSx c scope) tg with
    | some (ts, g) => if (ts.all fun i => ((ownsOf c scope).map (·.2)).contains i) = true then
        mLc Γ.L ((ownsOf c scope).map (·.2)) (pI Γ p c iter) (turn1 ((ownsOf c scope).map (·.2)) g (ifsM p (blkSx c scope) ifs) (pD Γ p (blkSx c scope) elt)) else stuck
    | none => stuck else stuck
def lc2M (elt tg iter tg1 iter1 : Expr) (ifs ifs1 : List Expr) (scope : Scope) : M Rz :=
  if (blkC c.N c.sc scope (ownsOf c scope) && !isSetE iter && !isSetE iter1) = true then match p.G (blkSx c scope) tg, p.G (blkSx c scope) tg1 with
    | some (ts, g), some (ts1, g1) => if (ts.all (fun i => ((ownsOf c scope).map (·.2)).contains i) && ts1.all (fun i => ((ownsOf c scope).map (·.2)).contains i)) = true then
        mLc Γ.L ((ownsOf c scope).map (·.2)) (pI Γ p c iter) (turn2 Γ.L ((ownsOf c scope).map (·.2)) ts1 g (ifsM p (blkSx c scope) ifs) (pI Γ p (blkSx c scope) iter1) g1 (ifsM p (blkSx c scope) ifs1) (pD Γ p (blkSx c scope) elt)) else stuck
    | _, _ => stuck else stuck
def dc1M (kx vx tg iter : Expr) (ifs : List Expr) (scope : Scope) : M Rz :=
  if (blkC c.N c.sc scope (ownsOf c scope) && !isSetE iter) = true then match p.G (blkSx c scope) tg with
    | some (ts, g) => if (ts.all fun i => ((ownsOf c scope).map (·.2)).contains i) = true then
        mDc Γ.L ((ownsOf c scope).map (·.2)) (pI Γ p c iter) (turnD ((ownsOf c scope).map (·.2)) g (ifsM p (blkSx c scope) ifs) (pD Γ p (blkSx c scope) kx) (pD Γ p (blkSx c scope) vx)) else stuck
    | none => stuck else stuck
def compM : Expr → M Rz
  | .ListComp elt [⟨tg, iter, ifs, 0⟩] scope _ => lc1M Γ p c elt tg iter ifs scope
  | .ListComp elt [⟨tg, iter, ifs, 0⟩, ⟨tg1, iter1, ifs1, 0⟩] scope _ => lc2M Γ p c elt tg iter tg1 iter1 ifs ifs1 scope
  | .DictComp kx vx [⟨tg, iter, ifs, 0⟩] scope _ => dc1M Γ p c kx vx tg iter ifs scope
  | _ => stuck
/-- f(e, ..), f a name -/
def callM (x : Str) (es : List Expr) : M Rz :=
  if (glbB c x && noStar es) = true then match Γ.fns.lookup x with
    | some i => match dfFor i es.length with
      | some df => if es = [] then mRun (cl.fn x) df else mCall (cl.fn x) (pA Γ p c es) df
      | none => stuck
    | none => match Γ.cls.lookup x with
      | some (_, ms) => match ms.lookup ("__init__" : Str) with
        | some i => match dfFor i (es.length + 1) with
          | some df => mMake x (cl.me x "__init__") (pA Γ p c es) df
          | none => stuck
        | none => stuck
      | none => if freB Γ c x = true then
          (if x = ("isinstance" : Str) then match es with
            | [e, .Name y _] => if freB Γ c y = true then match tyOf y with
              | some t => do
                let r ← pR Γ p c e
                let d ← look r
                let b ← orStuck (dIsi t d)
                Pure.pure (.dat (.bl b))
              | none => stuck else stuck
            | _ => stuck
          else if x = ("list" : Str) then match es with
            | [.Call (.Name y yp) [e] [] q] => if (freB Γ c y && y == ("range" : Str) && noStar [e]) = true then (do
                let d ← pD Γ p c e
                orStuck (mRgL [d])) else mCallB [pR Γ p c (.Call (.Name y yp) [e] [] q)] gList
            | [.Call (.Name y yp) [e, e2] [] q] => if (freB Γ c y && y == ("range" : Str) && noStar [e, e2]) = true then (do
                let d ← pD Γ p c e
                let d2 ← pD Γ p c e2
                orStuck (mRgL [d, d2])) else mCallB [pR Γ p c (.Call (.Name y yp) [e, e2] [] q)] gList
            | [e] => mCallB [pR Γ p c e] gList
            | _ => stuck
          else match bltG x with
            | some (_, _, g) => if es = [] then stuck else mCallB (pRs Γ p c es) g
            | none => stuck) else stuck
  else stuck
/-- o.m(e, ..) -/
def methM (o : Expr) (m : Str) (es : List Expr) (apos pos : Pos) : M Rz :=
  if (noSuper o && noStar es && decide (es.length < 30) && (apos.endLine == pos.line)) = true then match muOf m with
    | some μ => (do
      let d ← mMut (pR Γ p c o) (pA Γ p c es) μ.g
      Pure.pure (.dat d))
    | none => mMeth (mtab Γ cl) (pD Γ p c o) m es.length (pA Γ p c es)
  else stuck
def E0 : Expr → M Rz
  | .Constant (.int i) _ _ => Pure.pure (.dat (.int i))
  | .Constant (.bool b) _ _ => Pure.pure (.dat (.bl b))
  | .Constant .none _ _ => Pure.pure (.dat .non)
  | .Constant (.str x) _ _ => Pure.pure (.dat (.str x))
  | .Name x _ => do
    let d ← nameD Γ c x
    Pure.pure (.dat d)
  | .BinOp a op b _ => mBin (pR Γ p c a) (pR Γ p c b) (binG op)
  | .Compare a ops bs _ => cmpM Γ p c a ops bs
  | .BoolOp .And vs _ => do
    let d ← andV Γ p c vs
    Pure.pure (.dat d)
  | .BoolOp .Or vs _ => do
    let d ← orV Γ p c vs
    Pure.pure (.dat d)
  | .UnaryOp .Not a _ => do
    let d ← mNotV (pD Γ p c a)
    Pure.pure (.dat d)
  | .UnaryOp .USub a _ => do
    let d ← pD Γ p c a
    let i ← asInt d
    Pure.pure (.dat (.int (-i)))
  | .IfExp t a b _ => do
    let k ← p.T c t
    if k then pE Γ p c a else pE Γ p c b
  | .Tuple es _ _ => if (noStar es && decide (es.length ≤ 1000)) = true then (do
      let ds ← pA Γ p c es
      Pure.pure (.dat (.tup ds))) else stuck
  | .List es _ => if (noStar es && decide (es.length ≤ 1000)) = true then (do
      let ds ← pA Γ p c es
      Pure.pure (.own (.lst ds))) else stuck
  | .Dict [] [] _ => Pure.pure (.own (.dct []))
  | .Dict (k :: ks) vs _ => match strKeys (k :: ks) with
    | some xs => if xs.Nodup ∧ (k :: ks).length = vs.length ∧ (k :: ks).length ≤ 15 then (do
        let ds ← mAll (pDs Γ p c vs)
        Pure.pure (.own (.dct ((xs.map D.str).zip ds)))) else stuck
    | none => stuck
  | .Subscript a (.Slice lo hi none _) _ => mSlice (pR Γ p c a)
      (match lo with
        | some e => (do
          let d ← pD Γ p c e
          let i ← asInt d
          Pure.pure (some i))
        | none => Pure.pure none)
      (match hi with
        | some e => (do
          let d ← pD Γ p c e
          let i ← asInt d
          Pure.pure (some i))
        | none => Pure.pure none)
  | .Subscript a b _ => if plainIx b = true then (do
      let d ← mGet (pR Γ p c a) (pR Γ p c b)
      Pure.pure (.dat d)) else stuck
  | .Attribute o f _ => if noSuper o = true then (do
      let d ← mFld (atB Γ) (pD Γ p c o) f
      Pure.pure (.dat d)) else stuck
  | .Call (.Attribute o m apos) es [] pos => methM Γ cl p c o m es apos pos
  | .Call (.Name x _) es [] _ => callM Γ cl p c x es
  | .ListComp elt gens scope pos => compM Γ p c (.ListComp elt gens scope pos)
  | .DictComp kx vx gens scope pos => compM Γ p c (.DictComp kx vx gens scope pos)
  | _ => stuck
/-- targets -/
def tgAll : List Expr → Option (List Nat × (List D → M Unit))
  | [] => some ([], gsNil)
  | e :: es => match p.G c e, tgAll es with
    | some (ts, g), some (us, gs) => if isStar e = false then some (ts ++ us, gsCons g gs) else none
    | _, _ => none
def G0 : Expr → Option (List Nat × (D → M Unit))
  | .Name x _ => (stoOf c x).map fun i => ([i], fun d => setSlot i (.dat d))
  | .Tuple es _ _ => if noStar es = true then (tgAll p c es).map fun q => (q.1, gTupD es.length q.2) else none
  | .Subscript o i _ => if plainIx i = true then some ([], mStore (pR Γ p c o) (pR Γ p c i)) else none
  | _ => none
def pSs : List Stmt → M Fl
  | [] => Pure.pure .nx
  | [s] => p.S c s
  | s :: ss => mSeq (p.S c s) (pSs ss)
/-- the slots of names that are stored from the right -/
def parIx (c : Sx) : List Str → Option (List Nat)
  | [] => some []
  | x :: xs => match stoOf c x, parIx c xs with
    | some i, some is => if isLocal c x = true then some (i :: is) else none
    | _, _ => none
def asgM (tg e : Expr) : M Fl := match p.G c tg with
  | some (_, g) => do
    let d ← pD Γ p c e
    g d
    Pure.pure .nx
  | none => stuck
/-- does the comprehension store as it ends? -/
def swB (x : Str) (px : Pos) : Expr → Bool
  | .ListComp _ _ scope pos => isLocal c x && (px.line == pos.line) && !(scope.names.any fun (n, k) => n == x && (k == .local || k == .cell))
  | .DictComp _ _ _ scope pos => isLocal c x && (px.line == pos.line) && !(scope.names.any fun (n, k) => n == x && (k == .local || k == .cell))
  | _ => false
def isSetC : Expr → Bool
  | .SetComp _ _ _ _ => true
  | _ => false
def S0 : Stmt → M Fl
  | .Pass _ => Pure.pure .nx
  | .Break _ => Pure.pure .bk
  | .Continue _ => Pure.pure .ct
  | .Return none _ => Pure.pure (.rt (.dat .non))
  | .Return (some (.Name x _)) _ => match slotOf c x with
    | some i => do
      let r ← mvSlot i
      Pure.pure (.rt r)
    | none => do
      let d ← nameD Γ c x
      Pure.pure (.rt (.dat d))
  | .Return (some e) _ => do
    let r ← pE Γ p c e
    Pure.pure (.rt r)
  | .Expr e _ => if isComp e = true then stuck else (do
      let _ ← pE Γ p c e
      Pure.pure .nx)
  | .If t a b _ => do
    let k ← p.T c t
    if k then pSs p c a else pSs p c b
  | .While t body [] _ => mWhile (p.T c t) (pSs p c body) Γ.L
  | .For tg it body [] _ => if isSetE it = true then stuck else match p.G c tg with
    | some (_, g) => mFor Γ.L (pI Γ p c it) g (pSs p c body)
    | none => stuck
  | .Assign [.Name x px] e _ => match stoOf c x with
    | some i => if isComp e = true then (if isSetC e = true then stuck else (do
        let r ← compM Γ p c e
        let r ← (if bxB Γ e = true then toBox r else Pure.pure r)
        setSlot i r
        Pure.pure .nx)) else (do
        let r ← pE Γ p c e
        setSlot i r
        Pure.pure .nx)
    | none => stuck
  | .Assign [.Attribute o f _] e _ => do
    let v ← pD Γ p c e
    let d ← pD Γ p c o
    mPutF (atB Γ) d v f
    Pure.pure .nx
  | .Assign [.Subscript o i q] e _ => asgM Γ p c (.Subscript o i q) e
  | .Assign [.Tuple ts k pt] e _ => match e with
    | .Tuple vs _ _ => match swpOf c.sc ts vs with
      | .no => asgM Γ p c (.Tuple ts k pt) e
      | .yes xs => match parIx c xs with
        | some is => if (noStar vs && decide (xs.length ≤ 1000)) = true then (pA Γ p c vs >>= fun ds => (if ds.length = is.length then setAllD (is.reverse.zip ds.reverse) else stuck) >>= fun _ => Pure.pure .nx) else stuck
        | none => stuck
      | .odd => stuck
    | _ => asgM Γ p c (.Tuple ts k pt) e
  | .AugAssign (.Name x _) op e _ => match stoOf c x with
    | some i => mAug i (pR Γ p c e) (augG op)
    | none => stuck
  | _ => stuck
end
def stepEv (p : Ev) : Ev := ⟨E0 Γ cl p, T0 Γ p, G0 Γ p, S0 Γ p⟩
def evN : Nat → Ev
  | 0 => .none
  | n + 1 => stepEv Γ cl (evN n)
/-- a def run -/
def runFi (d : Nat) (i : Fi) : FV := fun ds sto => if ds.length = i.ps.length then
    match pSs (evN Γ cl d) ⟨i.N, i.sc, fun _ => true⟩ i.body ⟨ds.map (fun d => some (.dat d)) ++ List.replicate (i.N.length - ds.length) none, sto⟩ with
    | .ok .nx s => .ok (.dat .non) s.sto
    | .ok (.rt r) s => .ok r s.sto
    | .ok _ _ => .stuck
    | .exn x s => .exn x s.sto
    | .stuck => .stuck
  else .stuck
end
/-- calls of depth n, expressions of depth d -/
def clN (Γ : Gm) (d : Nat) : Nat → Cl
  | 0 => ⟨fun _ _ _ => .stuck, fun _ _ _ _ => .stuck⟩
  | n + 1 => ⟨fun x => match Γ.fns.lookup x with
      | some i => runFi Γ (clN Γ d n) d i
      | none => fun _ _ => .stuck,
    fun C m => match Γ.cls.lookup C with
      | some (_, ms) => match ms.lookup m with
        | some i => runFi Γ (clN Γ d n) d i
        | none => fun _ _ => .stuck
      | none => fun _ _ => .stuck⟩
end Vl
set_option Elab.async false
set_option linter.all false
set_option maxRecDepth 100000
set_option maxHeartbeats 4000000
/-! V20: the evaluator is sound -/
namespace Vl
open PySem PySem.Spec PyProof.Rows L2

/-- how the arguments of a def bind -/
def BindA (P : Program) (w : World) (K : PySem.W.Frag) (fd : FuncData) (i : Fi) : Prop := ∀ n df, dfFor i n = some df → ∃ (dvs : List V) (dv : List Value), Binds K fd i.ps dv ∧ Vals dvs dv ∧ ∀ W, Rps P w K W dvs df
/-- the program's facts, its calls by cl -/
structure Facts (P : Program) (w : World) (K : PySem.W.Frag) (mg : Str → Option Value) (base : Heap) (Γ : Gm) (cl : Cl) (k : Nat) : Prop where
  fns : ∀ x i, Γ.fns.lookup x = some i → ∃ f fd, mg x = some (.ref f) ∧ PySem.W.keepIn K (.ref f) = true ∧ FnOk P w K mg base CX0 k f fd i.ps (spV P w K i.ps.length (cl.fn x)) ∧ BindA P w K fd i
  cls : ∀ C at_ ms, Γ.cls.lookup C = some (at_, ms) → Cls K (He.ga K C) ∧ mg C = some (.ref (He.ga K C)) ∧ (∀ f, at_.contains f = true → NoAttr K (He.ga K C) f) ∧
    (∀ m i, m ≠ ("__init__" : Str) → ms.lookup m = some i → ∃ f fd, Meth K (He.ga K C) m f ∧ FnOk P w K mg base CX0 k f fd i.ps (spV P w K i.ps.length (cl.me C m)) ∧ BindA P w K fd i) ∧
    (∀ i, ms.lookup ("__init__" : Str) = some i → ∃ f fd, Mk K (He.ga K C) f ∧ FnOk P w K mg base CX0 k f fd i.ps (spV P w K i.ps.length (cl.me C "__init__")) ∧ BindA P w K fd i)
  cst : ∀ x d, Γ.cst.lookup x = some d → ∃ v u, mg x = some u ∧ RelV v u ∧ ∀ W, Rp P w K W v d
  fre : ∀ x, Γ.fre.contains x = true → mg x = none
/-- a context of the block c -/
structure Gd (Γ : Gm) (cl : Cl) (k : Nat) (c : Sx) (X : Cx) : Prop where
  N : X.N = c.N
  sc : X.env.scope = c.sc
  fn : ∀ x, c.fs x = true → X.fn x = true
  nd : c.N.Nodup
  kind : c.sc.kind = .function
  calm : X.calm = true
  xe : X.xe = fun _ _ => False
  room : Room (k + 1) X.A
  facts : Facts X.prog X.w X.K X.mg X.base Γ cl k
structure EvOk (p : Ev) (c : Sx) (X : Cx) : Prop where
  E : ∀ e, VE X e (p.E c e)
  T : ∀ e, VT X e (p.T c e)
  G : ∀ e ts g, p.G c e = some (ts, g) → VG1 X ts e g
  S : ∀ st, VS X st (p.S c st)
def EvAll (Γ : Gm) (cl : Cl) (k : Nat) (p : Ev) : Prop := ∀ c X, Gd Γ cl k c X → EvOk p c X

theorem vg_stuck {ρ : Type} {X : Cx} {C : RK ρ} {e : Expr} : VG X C e stuck := fun _ _ _ _ _ _ _ _ h => h.elim
theorem vt_stuck {X : Cx} {e : Expr} : VT X e stuck := fun _ _ _ _ _ _ _ _ h => h.elim
theorem vs_stuck {X : Cx} {e : Stmt} : VS X e stuck := fun _ _ _ _ _ _ _ _ h => h.elim
theorem vi_stuck {X : Cx} {tg e : Expr} : VI X tg e stuck := fun _ _ _ _ _ _ _ _ h => h.elim
/-- a monad that behaves the same -/
theorem VG.eq {ρ : Type} {X : Cx} {C : RK ρ} {e : Expr} {m m' : M ρ} (h : VG X C e m) (q : m' = m) : VG X C e m' := q ▸ h
theorem toD_dat {m : M D} : (m >>= fun d => (Pure.pure (.dat d) : M Rz)) >>= toD = m := by
  funext s
  show M.bind (M.bind m _) toD s = m s
  unfold M.bind
  cases m s <;> rfl
section
variable {Γ : Gm} {cl : Cl} {k : Nat} {c : Sx} {X : Cx} {p : Ev}
theorem Gd.u9 (h : Gd Γ cl k c X) : X.A.units + 65 < cLine := by have := h.room.un; omega
theorem vis_ok (h : Gd Γ cl k c X) {x : Str} {i : Nat} (e : slotOf c x = some i) : X.N[i]? = some x ∧ Vis X.env.scope x ∧ (x == ("__debug__" : Str)) = false ∧ (x == ("__classdict__" : Str)) = false := by
  unfold slotOf at e
  split at e
  · rename_i hv
    simp only [Bool.and_eq_true, bne_iff_ne, ne_eq] at hv
    refine ⟨by rw [h.N]; exact ixOf_ok e, ?_, by simpa using hv.1.2, by simpa using hv.2⟩
    have hb := hv.1.1
    unfold visB at hb
    rw [h.sc]
    unfold Vis
    split at hb
    · exact .inl (by assumption)
    · exact .inr (.inl (by assumption))
    · exact .inr (.inr (by assumption))
    · cases hb
  · cases e
theorem glb_ok (h : Gd Γ cl k c X) {x : Str} (e : glbB c x = true) : Gl X x ∧ (x == ("__debug__" : Str)) = false := by
  unfold glbB at e
  split at e
  · refine ⟨?_, by simpa using e⟩
    show X.env.scope.names.lookup x = _
    rw [h.sc]; assumption
  · cases e
theorem sto_ok (h : Gd Γ cl k c X) {x : Str} {i : Nat} (e : stoOf c x = some i) : Sto X i x := by
  unfold stoOf at e
  split at e
  · rename_i hl
    unfold locB at hl
    refine ⟨by rw [h.N]; exact h.nd, by rw [h.N]; exact ixOf_ok e, ?_, ?_⟩
    · rw [h.sc]
      unfold L2.Loc
      split at hl
      · exact .inl (by assumption)
      · exact .inr (by assumption)
      · cases hl
    · rw [h.sc]
      split at hl
      · exact .inr (by assumption)
      · exact .inl (h.fn x hl)
      · cases hl
  · cases e
theorem fre_ok (h : Gd Γ cl k c X) {x : Str} (e : freB Γ c x = true) : Gl X x ∧ X.mg x = none ∧ x ≠ "__name__" ∧ (x == ("__debug__" : Str)) = false := by
  unfold freB at e
  simp only [Bool.and_eq_true, bne_iff_ne, ne_eq] at e
  obtain ⟨g1, g2⟩ := glb_ok h e.1.1
  exact ⟨g1, h.facts.fre x e.1.2, e.2, g2⟩

/-! ### the parts -/
theorem name_ok (h : Gd Γ cl k c X) {x : Str} {pos : Pos} : VD X (.Name x pos) (nameD Γ c x) := by
  unfold nameD
  split
  · rename_i i e
    obtain ⟨a, b, d, f⟩ := vis_ok h e
    exact vd_name a b d f
  · split
    · rename_i hg
      obtain ⟨g1, g2⟩ := glb_ok h hg
      split
      · rename_i d e
        obtain ⟨v, u, e1, e2, e3⟩ := h.facts.cst x d e
        exact vd_glob g1 e1 e2 e3 g2
      · exact vg_stuck
    · exact vg_stuck
theorem nameR_ok (h : Gd Γ cl k c X) {x : Str} {pos : Pos} : VR X (.Name x pos) (nameR Γ c x) := by
  unfold nameR
  split
  · rename_i i e
    obtain ⟨a, b, d, f⟩ := vis_ok h e
    exact vr_name a b d f
  · exact (name_ok h).vr
theorem pE_ok (o : EvOk p c X) (e : Expr) : VE X e (pE Γ p c e) := by
  unfold pE
  split
  · exact (o.E e).boxed
  · exact o.E e
theorem pD_ok (h : Gd Γ cl k c X) (o : EvOk p c X) (e : Expr) : VD X e (pD Γ p c e) := by
  unfold pD
  split
  · exact name_ok h
  · exact (pE_ok o e).vd
theorem pR_ok (h : Gd Γ cl k c X) (o : EvOk p c X) (e : Expr) : VR X e (pR Γ p c e) := by
  unfold pR
  split
  · exact nameR_ok h
  · exact (pD_ok h o e).vr
theorem pA_ok (h : Gd Γ cl k c X) (o : EvOk p c X) : ∀ es : List Expr, noStar es = true → VA X es (pA Γ p c es)
  | [], _ => va_nil
  | e :: es, hs => by
    unfold noStar at hs
    simp only [List.all_cons, Bool.and_eq_true, Bool.not_eq_true'] at hs
    exact va_cons (pD_ok h o e) (pA_ok h o es (by unfold noStar; exact hs.2)) hs.1
theorem pRs_ok (h : Gd Γ cl k c X) (o : EvOk p c X) : ∀ es : List Expr, noStar es = true → VRs X es (pRs Γ p c es)
  | [], _ => .nil
  | e :: es, hs => by
    unfold noStar at hs
    simp only [List.all_cons, Bool.and_eq_true, Bool.not_eq_true'] at hs
    exact .cons (pR_ok h o e) hs.1 (pRs_ok h o es (by unfold noStar; exact hs.2))
theorem pDs_ok (h : Gd Γ cl k c X) (o : EvOk p c X) : ∀ es : List Expr, VDs X es (pDs Γ p c es)
  | [] => .nil
  | e :: es => .cons (pD_ok h o e) (pDs_ok h o es)
theorem pI_ok (h : Gd Γ cl k c X) (o : EvOk p c X) (tg e : Expr) : VI X tg e (pI Γ p c e) := by
  unfold pI
  split
  · split
    · rename_i hf
      simp only [Bool.and_eq_true, beq_iff_eq] at hf
      obtain ⟨hf, rfl⟩ := hf
      obtain ⟨g1, g2, _, _⟩ := fre_ok h hf
      split
      · rename_i hn
        simp only [Bool.and_eq_true, decide_eq_true_eq] at hn
        exact vi_rng g1 g2 (pA_ok h o _ hn.1.1) hn.1.1 ⟨hn.1.2, hn.2⟩
      · exact vi_stuck
    · exact vi_val (pD_ok h o _)
  · exact vi_val (pD_ok h o _)
theorem binG_ok (op : Operator) : Op2 X (binaryOp op) (binG op) := by
  unfold binG
  split
  · exact op2_add
  · exact op2_sub
  · exact op2_mul
  · exact op2_div
  · exact op2_mod
  · exact op2_pow
  · exact fun _ _ _ _ _ _ _ _ _ _ _ _ _ _ _ e => by cases e
theorem cmpG_ok (hu : X.A.units + 65 < cLine) (op : CmpOp) : Op2 X (compareOp op) (cmpG op) := by
  unfold cmpG
  split
  · exact op2_eq (by omega)
  · exact op2_ne (by omega)
  · exact op2_lt (by omega)
  · exact op2_le (by omega)
  · exact op2_gt (by omega)
  · exact op2_ge (by omega)
  · exact op2_is
  · exact op2_isNot
  · exact op2_in hu
  · exact op2_notIn hu
theorem augG_ok (op : Operator) : Op2 X (inplaceOp op) (augG op) := by
  unfold augG
  split
  · exact iop2_add
  · exact iop2_sub
  · exact fun _ _ _ _ _ _ _ _ _ _ _ _ _ _ _ e => by cases e
theorem cmp_ok (h : Gd Γ cl k c X) (o : EvOk p c X) {a : Expr} {ops : List CmpOp} {bs : List Expr} {pos : Pos} : VE X (.Compare a ops bs pos) (cmpM Γ p c a ops bs) := by
  unfold cmpM
  split
  · split
    · exact ve_cmp (pR_ok h o _) (pR_ok h o _) (cmpG_ok h.u9 _) (by assumption)
    · exact vg_stuck
  · split
    · exact ve_chain (pR_ok h o _) (pR_ok h o _) (pR_ok h o _) (cmpG_ok h.u9 _) (cmpG_ok h.u9 _) (by assumption)
    · exact vg_stuck
  · exact vg_stuck
theorem cmpT_ok (h : Gd Γ cl k c X) (o : EvOk p c X) {a : Expr} {ops : List CmpOp} {bs : List Expr} {pos : Pos} : VT X (.Compare a ops bs pos) (cmpM Γ p c a ops bs >>= asB) := by
  unfold cmpM
  split
  · split
    · exact vt_cmp (pR_ok h o _) (pR_ok h o _) (cmpG_ok h.u9 _) (by assumption)
    · exact vt_stuck
  · split
    · exact vt_chain (pR_ok h o _) (pR_ok h o _) (pR_ok h o _) (cmpG_ok h.u9 _) (cmpG_ok h.u9 _) (by assumption)
    · exact vt_stuck
  · exact vt_stuck
theorem andT_ok (o : EvOk p c X) {pos : Pos} : ∀ vs : List Expr, VW X (.BoolOp .And vs pos) (andT p c vs)
  | [] => fun _ _ _ _ _ _ _ _ h => h.elim
  | [a] => vw_and1 (o.T a)
  | a :: b :: r => vw_and (o.T a) (andT_ok o (b :: r))
theorem orT_ok (o : EvOk p c X) {pos : Pos} : ∀ vs : List Expr, VW X (.BoolOp .Or vs pos) (orT p c vs)
  | [] => fun _ _ _ _ _ _ _ _ h => h.elim
  | [a] => vw_or1 (o.T a)
  | a :: b :: r => vw_or (o.T a) (orT_ok o (b :: r))
theorem andV_ok (h : Gd Γ cl k c X) (o : EvOk p c X) {pos : Pos} : ∀ vs : List Expr, VD X (.BoolOp .And vs pos) (andV Γ p c vs)
  | [] => vg_stuck
  | [a] => vd_one (pD_ok h o a)
  | a :: b :: r => vd_and (pD_ok h o a) (andV_ok h o (b :: r))
theorem orV_ok (h : Gd Γ cl k c X) (o : EvOk p c X) {pos : Pos} : ∀ vs : List Expr, VD X (.BoolOp .Or vs pos) (orV Γ p c vs)
  | [] => vg_stuck
  | [a] => vd_one (pD_ok h o a)
  | a :: b :: r => vd_or (pD_ok h o a) (orV_ok h o (b :: r))
/-- what is tested by its value -/
theorem T0_ok (h : Gd Γ cl k c X) (o : EvOk p c X) (e : Expr) : VT X e (T0 Γ p c e) := by
  unfold T0
  split
  · exact cmpT_ok h o
  · exact (andT_ok o _).vt
  · exact (orT_ok o _).vt
  · exact vt_not (o.T _)
  · exact vt_stuck
  · rename_i h1 h2 h3 h4 h5
    refine vt_truth (pR_ok h o e) fun whole => ?_
    cases e <;> first
      | rfl
      | exact (h1 _ _ _ _ rfl).elim
      | exact (h5 _ _ _ _ rfl).elim
      | (rename_i op _ _; cases op <;> first | exact (h2 _ _ rfl).elim | exact (h3 _ _ rfl).elim | exact (h4 _ _ rfl).elim | rfl)

/-! ### comprehensions -/
theorem blk_gd (h : Gd Γ cl k c X) {scope : Scope} (hk : scope.kind = .function) (s : Shared) (H : Hp) (C : Addr) (cs : List (Str × Addr)) (fp : List Addr) : Gd Γ cl k (blkSx c scope) (Bk X scope s H C cs fp) :=
  ⟨h.N, by show relS scope X.env.scope = _; rw [h.sc]; rfl, fun x e => e, h.nd, hk, h.calm, rfl, h.room, h.facts⟩
theorem ifs_ok {c : Sx} {X : Cx} (o : EvOk p c X) (ifs : List Expr) : VTs X ifs (ifsM p c ifs) := by
  unfold ifsM
  split
  · exact vts_nil
  · exact vts_one (o.T _)
  · exact fun _ _ _ _ _ _ _ _ h => h.elim
theorem set_no {iter : Expr} (h : (!isSetE iter) = true) (env : Env) (x : Value) : foldedSetIterable iter env x = pure x := by
  cases iter <;> first | rfl | cases h
theorem own_sub {vs ts : List Nat} (h : (ts.all fun i => vs.contains i) = true) : ∀ i ∈ ts, i ∈ vs := fun i hi => by simpa using List.all_eq_true.mp h i hi
theorem lc1_ok (h : Gd Γ cl k c X) (a : EvAll Γ cl k p) {elt tg iter : Expr} {ifs : List Expr} {scope : Scope} {pos : Pos} : VE X (.ListComp elt [⟨tg, iter, ifs, 0⟩] scope pos) (lc1M Γ p c elt tg iter ifs scope) := by
  unfold lc1M
  split
  · rename_i hb
    simp only [Bool.and_eq_true] at hb
    have ok : BlkOk X.N X.env.scope scope (ownsOf c scope) := by rw [h.N, h.sc]; exact blkOk_by hb.1
    have bo : ∀ s H C cs fp, EvOk p (blkSx c scope) (Bk X scope s H C cs fp) := fun s H C cs fp => a _ _ (blk_gd h ok.kind s H C cs fp)
    have bg := fun s H C cs fp => blk_gd h ok.kind s H C cs fp
    split
    · rename_i ts g eg
      split
      · rename_i hts
        exact ve_lc Γ.L h.calm (by rw [h.N]; exact h.nd) ok (pI_ok h (a c X h) tg iter) (fun s H C cs fp => (bo s H C cs fp).G tg ts g eg) (own_sub hts) (fun s H C cs fp => ifs_ok (bo s H C cs fp) ifs) (fun s H C cs fp => pD_ok (bg s H C cs fp) (bo s H C cs fp) elt) (set_no hb.2 _)
      · exact vg_stuck
    · exact vg_stuck
  · exact vg_stuck
theorem lc2_okE (h : Gd Γ cl k c X) (a : EvAll Γ cl k p) {elt tg iter tg1 iter1 : Expr} {ifs ifs1 : List Expr} {scope : Scope} {pos : Pos} : VE X (.ListComp elt [⟨tg, iter, ifs, 0⟩, ⟨tg1, iter1, ifs1, 0⟩] scope pos) (lc2M Γ p c elt tg iter tg1 iter1 ifs ifs1 scope) := by
  unfold lc2M
  split
  · rename_i hb
    simp only [Bool.and_eq_true] at hb
    have ok : BlkOk X.N X.env.scope scope (ownsOf c scope) := by rw [h.N, h.sc]; exact blkOk_by hb.1.1
    have bo : ∀ s H C cs fp, EvOk p (blkSx c scope) (Bk X scope s H C cs fp) := fun s H C cs fp => a _ _ (blk_gd h ok.kind s H C cs fp)
    have bg := fun s H C cs fp => blk_gd h ok.kind s H C cs fp
    split
    · rename_i ts g ts1 g1 eg eg1
      split
      · rename_i hts
        simp only [Bool.and_eq_true] at hts
        exact ve_lc2 Γ.L h.calm (by rw [h.N]; exact h.nd) ok (pI_ok h (a c X h) tg iter) (fun s H C cs fp => (bo s H C cs fp).G tg ts g eg) (own_sub hts.1) (fun s H C cs fp => ifs_ok (bo s H C cs fp) ifs)
          (fun s H C cs fp => pI_ok (bg s H C cs fp) (bo s H C cs fp) tg1 iter1) (fun s H C cs fp => (bo s H C cs fp).G tg1 ts1 g1 eg1) (fun i hi => hi) (own_sub hts.2) (fun s H C cs fp => ifs_ok (bo s H C cs fp) ifs1)
          (fun s H C cs fp => pD_ok (bg s H C cs fp) (bo s H C cs fp) elt) (set_no hb.1.2 _) (set_no hb.2)
      · exact vg_stuck
    · exact vg_stuck
  · exact vg_stuck
theorem dc1_ok (h : Gd Γ cl k c X) (a : EvAll Γ cl k p) {kx vx tg iter : Expr} {ifs : List Expr} {scope : Scope} {pos : Pos} : VE X (.DictComp kx vx [⟨tg, iter, ifs, 0⟩] scope pos) (dc1M Γ p c kx vx tg iter ifs scope) := by
  unfold dc1M
  split
  · rename_i hb
    simp only [Bool.and_eq_true] at hb
    have ok : BlkOk X.N X.env.scope scope (ownsOf c scope) := by rw [h.N, h.sc]; exact blkOk_by hb.1
    have bo : ∀ s H C cs fp, EvOk p (blkSx c scope) (Bk X scope s H C cs fp) := fun s H C cs fp => a _ _ (blk_gd h ok.kind s H C cs fp)
    have bg := fun s H C cs fp => blk_gd h ok.kind s H C cs fp
    split
    · rename_i ts g eg
      split
      · rename_i hts
        exact ve_dc Γ.L (by have := h.u9; omega) h.calm (by rw [h.N]; exact h.nd) ok (pI_ok h (a c X h) tg iter) (fun s H C cs fp => (bo s H C cs fp).G tg ts g eg) (own_sub hts) (fun s H C cs fp => ifs_ok (bo s H C cs fp) ifs)
          (fun s H C cs fp => pD_ok (bg s H C cs fp) (bo s H C cs fp) kx) (fun s H C cs fp => pD_ok (bg s H C cs fp) (bo s H C cs fp) vx) (set_no hb.2 _)
      · exact vg_stuck
    · exact vg_stuck
  · exact vg_stuck
theorem comp_ok (h : Gd Γ cl k c X) (a : EvAll Γ cl k p) (e : Expr) : VE X e (compM Γ p c e) := by
  unfold compM
  split
  · exact lc1_ok h a
  · exact lc2_okE h a
  · exact dc1_ok h a
  · exact vg_stuck
end
end Vl
set_option Elab.async false
set_option linter.all false
set_option maxRecDepth 100000
set_option maxHeartbeats 4000000
/-! V21: the evaluator is sound: calls, expressions, targets -/
namespace Vl
open PySem PySem.Spec PyProof.Rows L2
theorem dfFor_len {i : Fi} {n : Nat} {df : List D} (h : dfFor i n = some df) : n + df.length = i.ps.length := by
  unfold dfFor at h
  split at h
  · cases h
    rw [List.length_drop]; omega
  · cases h
section
variable {Γ : Gm} {cl : Cl} {k : Nat} {c : Sx} {X : Cx} {p : Ev}
theorem blt_ok {x : Str} {b : Bool} {id : String} {g : List D → Option Rz} (hc : X.calm = true) (h : bltG x = some (b, id, g)) :
    (b = true ∧ bootBuiltins x = some (.builtin id) ∧ OpN X (.builtin id) g) ∨ (b = false ∧ bootBuiltins x = some (.type id) ∧ OpN X (.type id) g) := by
  unfold bltG at h
  repeat' split at h
  all_goals first
    | cases h
    | skip
  all_goals (rename_i e; subst e)
  · exact .inl ⟨rfl, by decide +kernel, opN_len⟩
  · exact .inl ⟨rfl, by decide +kernel, opN_abs⟩
  · exact .inl ⟨rfl, by decide +kernel, opN_max hc⟩
  · exact .inl ⟨rfl, by decide +kernel, opN_min hc⟩
  · exact .inl ⟨rfl, by decide +kernel, opN_sum hc⟩
  · exact .inl ⟨rfl, by decide +kernel, opN_any hc⟩
  · exact .inl ⟨rfl, by decide +kernel, opN_all hc⟩
  · exact .inr ⟨rfl, by decide +kernel, opN_int⟩
  · exact .inr ⟨rfl, by decide +kernel, opN_list⟩
  · exact .inr ⟨rfl, by decide +kernel, opN_tuple⟩
  · exact .inr ⟨rfl, by decide +kernel, opN_dict⟩
theorem ty_ok {y : Str} {t : Ty} (h : tyOf y = some t) : bootBuiltins y = some (.type t.nm) := by
  unfold tyOf at h
  repeat' split at h
  all_goals first
    | cases h
    | skip
  all_goals (rename_i e; subst e; decide +kernel)
theorem mu_ok {m : Str} {μ : Mu} (h : muOf m = some μ) : ∃ (id : String) (r : V → List V → Hp → VK → Prop), Slot "list" m id ∧ typeOf (.builtin id) = pure (.type "method_descriptor") ∧ MtM X id r ∧ MutR X r μ.g := by
  unfold muOf at h
  repeat' split at h
  all_goals first
    | cases h
    | skip
  all_goals (rename_i e; subst e)
  · exact ⟨_, _, PySem.F.slot_list_append, PySem.F.type_list_append, mt_append, mr_append⟩
  · exact ⟨_, _, PySem.F.slot_list_extend, PySem.F.type_list_extend, mt_extend, mr_extend⟩
  · exact ⟨_, _, PySem.F.slot_list_pop, PySem.F.type_list_pop, mt_pops, mr_pop⟩
  · exact ⟨_, _, PySem.F.slot_list_reverse, PySem.F.type_list_reverse, mt_reverse, mr_reverse⟩
  · exact ⟨_, _, PySem.F.slot_list_clear, PySem.F.type_list_clear, mt_clear, mr_clear⟩
theorem call_ok (h : Gd Γ cl k c X) (o : EvOk p c X) {x : Str} {xp pos : Pos} {es : List Expr} : VE X (.Call (.Name x xp) es [] pos) (callM Γ cl p c x es) := by
  unfold callM
  split
  · rename_i hb
    simp only [Bool.and_eq_true] at hb
    obtain ⟨hg, hs⟩ := hb
    obtain ⟨g1, g2⟩ := glb_ok h hg
    split
    · rename_i i ei
      obtain ⟨f, fd, m1, m2, F, B⟩ := h.facts.fns x i ei
      split
      · rename_i df ed
        obtain ⟨dvs, dv, B1, B2, B3⟩ := B _ _ ed
        have hl := dfFor_len ed
        split
        · rename_i e; subst e
          exact ve_call0 F (h.room.mono (Nat.le_succ k)) g1 m1 m2 B1 B2 B3 (by simpa using hl) g2
        · cases es with
          | nil => exact absurd rfl (by assumption)
          | cons e es => exact ve_call F (h.room.mono (Nat.le_succ k)) g1 m1 m2 B1 B2 B3 hl (pA_ok h o _ hs) hs g2
      · exact vg_stuck
    · split
      · rename_i at_ ms ec
        obtain ⟨_, m1, _, _, hi⟩ := h.facts.cls x at_ ms ec
        split
        · rename_i i ei
          obtain ⟨f, fd, M, F, B⟩ := hi i ei
          split
          · rename_i df ed
            obtain ⟨dvs, dv, B1, B2, B3⟩ := B _ _ ed
            have hl := dfFor_len ed
            cases es with
            | nil => exact ve_make0 M F h.room g1 m1 B1 B2 B3 (by have hl : 0 + 1 + df.length = _ := hl; omega) g2
            | cons e es => exact ve_make M F h.room g1 m1 B1 B2 B3 (by omega) (pA_ok h o _ hs) hs g2
          · exact vg_stuck
        · exact vg_stuck
      · split
        · rename_i hf
          obtain ⟨f1, f2, f3, f4⟩ := fre_ok h hf
          split
          · rename_i e; subst e
            split
            · rename_i e y yp
              split
              · rename_i hy
                obtain ⟨y1, y2, y3, y4⟩ := fre_ok h hy
                split
                · rename_i t et
                  unfold noStar at hs
                  simp only [List.all_cons, Bool.and_eq_true, Bool.not_eq_true'] at hs
                  exact ve_isi (pR_ok h o e) hs.1 f1 f2 (by decide +kernel) f3 f4 y1 y2 (ty_ok et) y3 y4
                · exact vg_stuck
              · exact vg_stuck
            · exact vg_stuck
          · split
            · rename_i e; subst e
              have one : ∀ e : Expr, noStar [e] = true → VE X (.Call (.Name "list" xp) [e] [] pos) (mCallB [pR Γ p c e] gList) := fun e hs =>
                ve_callTy opN_list f1 f2 (by decide +kernel) (pRs_ok h o [e] hs) f3 f4
              split
              · rename_i y yp e q
                split
                · rename_i hy
                  simp only [Bool.and_eq_true, beq_iff_eq] at hy
                  obtain ⟨⟨hy, rfl⟩, hn⟩ := hy
                  obtain ⟨y1, y2, y3, y4⟩ := fre_ok h hy
                  unfold noStar at hn
                  simp only [List.all_cons, Bool.and_eq_true, Bool.not_eq_true'] at hn
                  exact ve_lrg1 h.calm f1 f2 y1 y2 (pD_ok h o e) hn.1
                · exact one _ hs
              · rename_i y yp e e2 q
                split
                · rename_i hy
                  simp only [Bool.and_eq_true, beq_iff_eq] at hy
                  obtain ⟨⟨hy, rfl⟩, hn⟩ := hy
                  obtain ⟨y1, y2, y3, y4⟩ := fre_ok h hy
                  unfold noStar at hn
                  simp only [List.all_cons, Bool.and_eq_true, Bool.not_eq_true'] at hn
                  exact ve_lrg2 h.calm f1 f2 y1 y2 (pD_ok h o e) (pD_ok h o e2) hn.1 hn.2.1
                · exact one _ hs
              · exact one _ hs
              · exact vg_stuck
            · split
              · rename_i b id g eb
                split
                · exact vg_stuck
                · cases es with
                  | nil => exact absurd rfl (by assumption)
                  | cons e es =>
                    rcases blt_ok (X := X) h.calm eb with ⟨rfl, b1, b2⟩ | ⟨rfl, b1, b2⟩
                    · exact ve_callB b2 f1 f2 b1 (pRs_ok h o _ hs) f3 f4
                    · exact ve_callTy b2 f1 f2 b1 (pRs_ok h o _ hs) f3 f4
              · exact vg_stuck
        · exact vg_stuck
  · exact vg_stuck
theorem at_ok (h : Gd Γ cl k c X) : AttrOk X.K (atB Γ) := by
  intro C f e
  unfold atB at e
  split at e
  · rename_i at_ ms ec
    obtain ⟨h1, _, h2, _⟩ := h.facts.cls C at_ ms ec
    exact ⟨h1, h2 f e⟩
  · cases e
theorem mt_ok (h : Gd Γ cl k c X) : MTabOk X (mtab Γ cl) := by
  intro C m n fn df e
  unfold mtab at e
  split at e
  · rename_i at_ ms ec
    obtain ⟨h1, _, _, h3, _⟩ := h.facts.cls C at_ ms ec
    split at e
    · cases e
    · rename_i hm
      split at e
      · rename_i i ei
        obtain ⟨df', ed, q⟩ := Option.map_eq_some_iff.mp e
        cases q
        obtain ⟨f, fd, M, F, B⟩ := h3 m i hm ei
        obtain ⟨dvs, dv, B1, B2, B3⟩ := B _ _ ed
        have hl := dfFor_len ed
        refine ⟨h1, k, f, fd, i.ps, dvs, dv, M, ?_, h.room.mono (Nat.le_succ k), B1, B2, B3⟩
        have : 1 + n + df.length = i.ps.length := by omega
        rw [this]; exact F
      · cases e
  · cases e
theorem meth_ok (h : Gd Γ cl k c X) (o : EvOk p c X) {ob : Expr} {m : Str} {es : List Expr} {apos pos : Pos} : VE X (.Call (.Attribute ob m apos) es [] pos) (methM Γ cl p c ob m es apos pos) := by
  unfold methM
  split
  · rename_i hb
    simp only [Bool.and_eq_true, decide_eq_true_eq] at hb
    obtain ⟨⟨⟨h1, h2⟩, h3⟩, h4⟩ := hb
    split
    · rename_i μ em
      obtain ⟨id, r, s1, s2, s3, s4⟩ := mu_ok (X := X) em
      cases es with
      | nil => exact (vd_mut0 s1 s2 s3 s4 (pR_ok h o ob) h1 h4).ve
      | cons e es => exact (vd_mut s1 s2 s3 s4 (pR_ok h o ob) (pA_ok h o _ h2) h1 h2 h3 h4).ve
    · cases es with
      | nil => exact ve_meth0 (mt_ok h) (pD_ok h o ob) h1 h4
      | cons e es => exact ve_meth (mt_ok h) (pD_ok h o ob) (pA_ok h o _ h2) h1 h2 h3 h4
  · exact vg_stuck
theorem vo_ok (h : Gd Γ cl k c X) (o : EvOk p c X) (lo : Option Expr) : VO X lo (match lo with
        | some e => (do
          let d ← pD Γ p c e
          let i ← asInt d
          Pure.pure (some i))
        | none => Pure.pure none) := by
  cases lo with
  | none => exact vo_none
  | some e => exact vo_some (pD_ok h o e)
theorem E0_ok (h : Gd Γ cl k c X) (a : EvAll Γ cl k p) (e : Expr) : VE X e (E0 Γ cl p c e) := by
  have o := a c X h
  unfold E0
  split
  · exact vd_int.ve
  · exact vd_bl.ve
  · exact vd_non.ve
  · exact vd_str.ve
  · exact (name_ok h).ve
  · exact ve_bin (pR_ok h o _) (pR_ok h o _) (binG_ok _)
  · exact cmp_ok h o
  · exact (andV_ok h o _).ve
  · exact (orV_ok h o _).ve
  · exact (vd_not (pD_ok h o _)).ve
  · exact (vd_neg (pD_ok h o _)).ve.eq (by
      funext s
      show M.bind _ _ s = M.bind (M.bind _ _) _ s
      unfold M.bind
      cases pD Γ p c _ s with
      | ok d s => cases d <;> rfl
      | exn x s => rfl
      | stuck => rfl)
  · exact ve_if (o.T _) (pE_ok o _) (pE_ok o _)
  · split
    · rename_i hs
      simp only [Bool.and_eq_true, decide_eq_true_eq] at hs
      exact (vd_tup (pA_ok h o _ hs.1) hs.2).ve.eq (by
        funext s
        show M.bind _ _ s = M.bind (M.bind _ _) _ s
        unfold M.bind
        cases pA Γ p c _ s <;> rfl)
    · exact vg_stuck
  · split
    · rename_i hs
      simp only [Bool.and_eq_true, decide_eq_true_eq] at hs
      exact ve_lst (pA_ok h o _ hs.1) hs.2
    · exact vg_stuck
  · exact ve_dict0
  · split
    · rename_i xs ex
      split
      · rename_i hk
        exact ve_dict ex hk.1 hk.2.1 (by simp) hk.2.2 (pDs_ok h o _)
      · exact vg_stuck
    · exact vg_stuck
  · exact ve_slice (pR_ok h o _) (vo_ok h o _) (vo_ok h o _)
  · split
    · exact (vd_get (by have := h.u9; omega) (pR_ok h o _) (pR_ok h o _) (plainIx_ok (by assumption))).ve
    · exact vg_stuck
  · split
    · exact (vd_fld (pD_ok h o _) (by assumption) (at_ok h)).ve
    · exact vg_stuck
  · exact meth_ok h o
  · exact call_ok h o
  · exact comp_ok h a _
  · exact comp_ok h a _
  · exact vg_stuck
theorem tgAll_ok (o : EvOk p c X) : ∀ (es : List Expr) (ts : List Nat) (gs : List D → M Unit), tgAll p c es = some (ts, gs) → VGs X ts es gs ∧ noStar es = true
  | [], ts, gs, e => by cases e; exact ⟨vgs_nil, rfl⟩
  | e :: es, ts, gs, h => by
    unfold tgAll at h
    split at h
    · rename_i ts1 g us gs1 e1 e2
      split at h
      · rename_i hs
        cases h
        obtain ⟨q1, q2⟩ := tgAll_ok o es us gs1 e2
        exact ⟨vgs_cons (o.G e ts1 g e1) q1 hs, by unfold noStar at q2 ⊢; rw [List.all_cons, hs, q2]; rfl⟩
      · cases h
    · cases h
theorem G0_ok (h : Gd Γ cl k c X) (a : EvAll Γ cl k p) (e : Expr) (ts : List Nat) (g : D → M Unit) (q : G0 Γ p c e = some (ts, g)) : VG1 X ts e g := by
  have o := a c X h
  unfold G0 at q
  split at q
  · obtain ⟨i, e1, e2⟩ := Option.map_eq_some_iff.mp q
    cases e2
    exact vg_name (sto_ok h e1)
  · split at q
    · obtain ⟨⟨us, gs⟩, e1, e2⟩ := Option.map_eq_some_iff.mp q
      cases e2
      obtain ⟨q1, q2⟩ := tgAll_ok o _ _ _ e1
      exact vg_tup h.calm q1 q2
    · cases q
  · split at q
    · cases q
      exact vg_sub (by have := h.u9; omega) (pR_ok h o _) (pR_ok h o _) (sub_assign (by assumption))
    · cases q
  · cases q
end
end Vl
set_option Elab.async false
set_option linter.all false
set_option maxRecDepth 100000
set_option maxHeartbeats 4000000
/-! V22: the evaluator is sound: statements, defs, the whole program -/
namespace Vl
open PySem PySem.Spec PyProof.Rows L2
theorem VS.eq {X : Cx} {st : Stmt} {m m' : M Fl} (h : VS X st m) (q : m' = m) : VS X st m' := q ▸ h
theorem bind_assocM {α β γ : Type} (m : M α) (f : α → M β) (g : β → M γ) : (m >>= f) >>= g = m >>= fun a => f a >>= g := by
  funext s
  show M.bind (M.bind m f) g s = M.bind m (fun a => M.bind (f a) g) s
  unfold M.bind
  cases m s <;> rfl
theorem pure_bindM {α β : Type} (a : α) (f : α → M β) : (Pure.pure a : M α) >>= f = f a := rfl
theorem bind_pureM {α : Type} (m : M α) : m >>= (fun a => (Pure.pure a : M α)) = m := by
  funext s
  show M.bind m _ s = m s
  unfold M.bind
  cases m s <;> rfl
theorem sole_tup {e : Expr} {es : List Expr} {k : Nat} {p : Pos} {l : Nat} {env : Env} : swapsWithSole [.Tuple es k p] e l env = pure false := by
  show swapsWith e (some (.Tuple es k p)) l env = pure false
  exact sw_tup
theorem sole_sub {e o i : Expr} {p : Pos} {l : Nat} {env : Env} : swapsWithSole [.Subscript o i p] e l env = pure false := by
  show swapsWith e (some (.Subscript o i p)) l env = pure false
  exact sw_sub
section
variable {Γ : Gm} {cl : Cl} {k : Nat} {c : Sx} {X : Cx} {p : Ev}
theorem comp_set {i : Nat} {x : Str} {e : Expr} {m : M Rz} {px pos : Pos} (t : Sto X i x) (h : VE X e m) (hs : swapsWith e (some (.Name x px)) pos.line X.env = pure false) (bx : Bool) :
    VS X (.Assign [.Name x px] e pos) (do let r ← m; let r ← (if bx = true then toBox r else Pure.pure r); setSlot i r; Pure.pure .nx) := by
  cases bx with
  | true =>
    refine (vs_set t h.boxed hs).eq ?_
    rw [bind_assocM]
    rfl
  | false => exact vs_set t h hs
theorem sw_eqL (h : Gd Γ cl k c X) {elt : Expr} {gs : List Comprehension} {scope : Scope} {pos px : Pos} {x : Str} {l : Nat} : swapsWith (.ListComp elt gs scope pos) (some (.Name x px)) l X.env = pure (swB c x px (.ListComp elt gs scope pos)) := by
  have hb : X.env.blockKind = .function := by unfold Env.blockKind; rw [h.sc, h.kind]; rfl
  have e : (X.env.kindOf x == some NameKind.local) = isLocal c x := by
    show (X.env.scope.names.lookup x == some NameKind.local) = _
    rw [h.sc]
    unfold isLocal
    cases c.sc.names.lookup x with
    | none => rfl
    | some q => cases q <;> rfl
  unfold swapsWith
  simp only [hb, e, Expr.pos]
  rfl
theorem sw_eqD (h : Gd Γ cl k c X) {kx vx : Expr} {gs : List Comprehension} {scope : Scope} {pos px : Pos} {x : Str} {l : Nat} : swapsWith (.DictComp kx vx gs scope pos) (some (.Name x px)) l X.env = pure (swB c x px (.DictComp kx vx gs scope pos)) := by
  have hb : X.env.blockKind = .function := by unfold Env.blockKind; rw [h.sc, h.kind]; rfl
  have e : (X.env.kindOf x == some NameKind.local) = isLocal c x := by
    show (X.env.scope.names.lookup x == some NameKind.local) = _
    rw [h.sc]
    unfold isLocal
    cases c.sc.names.lookup x with
    | none => rfl
    | some q => cases q <;> rfl
  unfold swapsWith
  simp only [hb, e, Expr.pos]
  rfl
theorem loc_ok (h : Gd Γ cl k c X) {x : Str} (e : isLocal c x = true) : X.env.scope.names.lookup x = some .local := by
  unfold isLocal at e
  rw [h.sc]
  split at e
  · assumption
  · cases e
/-- name = [..] -/
theorem setc_ok (h : Gd Γ cl k c X) (a : EvAll Γ cl k p) {i : Nat} {x : Str} {px spos : Pos} (es : stoOf c x = some i) (e : Expr) (bx : Bool) :
    VS X (.Assign [.Name x px] e spos) (do let r ← compM Γ p c e; let r ← (if bx = true then toBox r else Pure.pure r); setSlot i r; Pure.pure .nx) := by
  have t := sto_ok h es
  have st : ∀ {st : Stmt}, VS X st ((stuck : M Rz) >>= fun r => ((if bx = true then toBox r else Pure.pure r) >>= fun r => setSlot i r >>= fun _ => (Pure.pure .nx : M Fl))) := fun _ _ _ _ _ _ _ _ h => h.elim
  have hN : X.N.Nodup := by rw [h.N]; exact h.nd
  unfold compM
  split
  · rename_i elt tg iter ifs scope pos
    by_cases hsw : swB c x px (.ListComp elt [⟨tg, iter, ifs, 0⟩] scope pos) = true
    · have hsw' := sw_eqL (elt := elt) (gs := [⟨tg, iter, ifs, 0⟩]) (scope := scope) (pos := pos) (px := px) (x := x) (l := spos.line) h
      rw [hsw] at hsw'
      have hl : isLocal c x = true := by
        unfold swB at hsw
        simp only [Bool.and_eq_true] at hsw
        exact hsw.1.1
      unfold lc1M
      split
      · rename_i hb
        simp only [Bool.and_eq_true] at hb
        have ok : BlkOk X.N X.env.scope scope (ownsOf c scope) := by rw [h.N, h.sc]; exact blkOk_by hb.1
        have bo : ∀ s H C cs fp, EvOk p (blkSx c scope) (Bk X scope s H C cs fp) := fun s H C cs fp => a _ _ (blk_gd h ok.kind s H C cs fp)
        have bg := fun s H C cs fp => blk_gd h ok.kind s H C cs fp
        split
        · rename_i ts g eg
          split
          · rename_i hts
            exact vs_setLc Γ.L h.calm hN t.at_ (loc_ok h hl) hsw' ok (pI_ok h (a c X h) tg iter) (fun s H C cs fp => (bo s H C cs fp).G tg ts g eg) (own_sub hts) (fun s H C cs fp => ifs_ok (bo s H C cs fp) ifs) (fun s H C cs fp => pD_ok (bg s H C cs fp) (bo s H C cs fp) elt) (set_no hb.2 _) bx
          · exact st
        · exact st
      · exact st
    · refine comp_set t (lc1_ok h a) ?_ bx
      have hf := eq_false_of_ne_true hsw
      rw [sw_eqL h, hf]
  · rename_i elt tg iter ifs tg1 iter1 ifs1 scope pos
    by_cases hsw : swB c x px (.ListComp elt [⟨tg, iter, ifs, 0⟩, ⟨tg1, iter1, ifs1, 0⟩] scope pos) = true
    · have hsw' := sw_eqL (elt := elt) (gs := [⟨tg, iter, ifs, 0⟩, ⟨tg1, iter1, ifs1, 0⟩]) (scope := scope) (pos := pos) (px := px) (x := x) (l := spos.line) h
      rw [hsw] at hsw'
      have hl : isLocal c x = true := by
        unfold swB at hsw
        simp only [Bool.and_eq_true] at hsw
        exact hsw.1.1
      unfold lc2M
      split
      · rename_i hb
        simp only [Bool.and_eq_true] at hb
        have ok : BlkOk X.N X.env.scope scope (ownsOf c scope) := by rw [h.N, h.sc]; exact blkOk_by hb.1.1
        have bo : ∀ s H C cs fp, EvOk p (blkSx c scope) (Bk X scope s H C cs fp) := fun s H C cs fp => a _ _ (blk_gd h ok.kind s H C cs fp)
        have bg := fun s H C cs fp => blk_gd h ok.kind s H C cs fp
        split
        · rename_i ts g ts1 g1 eg eg1
          split
          · rename_i hts
            simp only [Bool.and_eq_true] at hts
            exact vs_setLc2 Γ.L h.calm hN t.at_ (loc_ok h hl) hsw' ok (pI_ok h (a c X h) tg iter) (fun s H C cs fp => (bo s H C cs fp).G tg ts g eg) (own_sub hts.1) (fun s H C cs fp => ifs_ok (bo s H C cs fp) ifs)
              (fun s H C cs fp => pI_ok (bg s H C cs fp) (bo s H C cs fp) tg1 iter1) (fun s H C cs fp => (bo s H C cs fp).G tg1 ts1 g1 eg1) (fun i hi => hi) (own_sub hts.2) (fun s H C cs fp => ifs_ok (bo s H C cs fp) ifs1)
              (fun s H C cs fp => pD_ok (bg s H C cs fp) (bo s H C cs fp) elt) (set_no hb.1.2 _) (set_no hb.2) bx
          · exact st
        · exact st
      · exact st
    · refine comp_set t (lc2_okE h a) ?_ bx
      have hf := eq_false_of_ne_true hsw
      rw [sw_eqL h, hf]
  · rename_i kx vx tg iter ifs scope pos
    by_cases hsw : swB c x px (.DictComp kx vx [⟨tg, iter, ifs, 0⟩] scope pos) = true
    · have hsw' := sw_eqD (kx := kx) (vx := vx) (gs := [⟨tg, iter, ifs, 0⟩]) (scope := scope) (pos := pos) (px := px) (x := x) (l := spos.line) h
      rw [hsw] at hsw'
      have hl : isLocal c x = true := by
        unfold swB at hsw
        simp only [Bool.and_eq_true] at hsw
        exact hsw.1.1
      unfold dc1M
      split
      · rename_i hb
        simp only [Bool.and_eq_true] at hb
        have ok : BlkOk X.N X.env.scope scope (ownsOf c scope) := by rw [h.N, h.sc]; exact blkOk_by hb.1
        have bo : ∀ s H C cs fp, EvOk p (blkSx c scope) (Bk X scope s H C cs fp) := fun s H C cs fp => a _ _ (blk_gd h ok.kind s H C cs fp)
        have bg := fun s H C cs fp => blk_gd h ok.kind s H C cs fp
        split
        · rename_i ts g eg
          split
          · rename_i hts
            exact vs_setDc Γ.L (by have := h.u9; omega) h.calm hN t.at_ (loc_ok h hl) hsw' ok (pI_ok h (a c X h) tg iter) (fun s H C cs fp => (bo s H C cs fp).G tg ts g eg) (own_sub hts) (fun s H C cs fp => ifs_ok (bo s H C cs fp) ifs)
              (fun s H C cs fp => pD_ok (bg s H C cs fp) (bo s H C cs fp) kx) (fun s H C cs fp => pD_ok (bg s H C cs fp) (bo s H C cs fp) vx) (set_no hb.2 _) bx
          · exact st
        · exact st
      · exact st
    · refine comp_set t (dc1_ok h a) ?_ bx
      have hf := eq_false_of_ne_true hsw
      rw [sw_eqD h, hf]
  · exact st
theorem pSs_ok (o : EvOk p c X) : ∀ sts : List Stmt, VSs X sts (pSs p c sts)
  | [] => vss_nil
  | [s] => vss_one (o.S s)
  | s :: t :: ss => vss_cons (o.S s) (pSs_ok o (t :: ss))
theorem parIx_ok (h : Gd Γ cl k c X) : ∀ {xs : List Str} {is : List Nat}, parIx c xs = some is → Stos X is xs
  | [], is, e => by cases e; exact .nil
  | x :: xs, is, e => by
    unfold parIx at e
    split at e
    · rename_i i is' e1 e2
      split at e
      · rename_i hl
        cases e
        exact .cons (sto_ok h e1) (loc_ok h hl) (parIx_ok h e2)
      · cases e
    · cases e
theorem asg_ok (h : Gd Γ cl k c X) (o : EvOk p c X) {tg e : Expr} {pos : Pos} (hs : swapsWithSole [tg] e pos.line X.env = pure false) (hw : swappedStores [tg] e X.env = pure none) (h1 : (assignEach [tg] X.env).map (·.2) = [assign tg X.env]) :
    VS X (.Assign [tg] e pos) (asgM Γ p c tg e) := by
  unfold asgM
  split
  · rename_i ts g eg
    exact vs_asg (pD_ok h o e) (o.G tg ts g eg) hs hw h1
  · exact vs_stuck
theorem swp_no {ts : List Expr} {e : Expr} {k : Nat} {pt : Pos} {env : Env} (h : ∀ vs k2 p2, e ≠ .Tuple vs k2 p2) : swappedStores [.Tuple ts k pt] e env = pure none := by
  cases e <;> first | rfl | exact (h _ _ _ rfl).elim
theorem asgT_ok (h : Gd Γ cl k c X) (a : EvAll Γ cl k p) {ts : List Expr} {kt : Nat} {pt pos : Pos} {e : Expr} : VS X (.Assign [.Tuple ts kt pt] e pos) (match e with
    | .Tuple vs _ _ => match swpOf c.sc ts vs with
      | .no => asgM Γ p c (.Tuple ts kt pt) e
      | .yes xs => match parIx c xs with
        | some is => if (noStar vs && decide (xs.length ≤ 1000)) = true then (pA Γ p c vs >>= fun ds => (if ds.length = is.length then setAllD (is.reverse.zip ds.reverse) else stuck) >>= fun _ => Pure.pure .nx) else stuck
        | none => stuck
      | .odd => stuck
    | _ => asgM Γ p c (.Tuple ts kt pt) e) := by
  have o := a c X h
  split
  · rename_i vs k2 p2
    have sw := swp_ok (env := X.env) (ts := ts) (vs := vs) (k := kt) (k2 := k2) (p := pt) (p2 := p2) (by rw [h.sc]; exact h.kind)
    rw [h.sc] at sw
    split
    · rename_i e
      exact asg_ok h o sole_tup (sw.1 e) rfl
    · rename_i xs e
      split
      · rename_i is ei
        split
        · rename_i hk
          simp only [Bool.and_eq_true, decide_eq_true_eq] at hk
          exact vs_par h.calm (parIx_ok h ei) (pA_ok h o _ hk.1) hk.2 (sw.2 xs e) sole_tup
        · exact vs_stuck
      · exact vs_stuck
    · exact vs_stuck
  · rename_i hn
    exact asg_ok h o sole_tup (swp_no fun vs k2 p2 q => hn vs k2 p2 q) rfl
theorem S0_ok (h : Gd Γ cl k c X) (a : EvAll Γ cl k p) (st : Stmt) : VS X st (S0 Γ p c st) := by
  have o := a c X h
  unfold S0
  split
  · exact vs_pass
  · exact vs_break
  · exact vs_continue
  · exact vs_ret0
  · split
    · rename_i i e
      obtain ⟨q1, q2, q3, q4⟩ := vis_ok h e
      exact vs_ret (ve_move q1 q2 q3 q4)
    · exact (vs_ret (name_ok h).ve).eq (by rw [bind_assocM]; rfl)
  · exact vs_ret (pE_ok o _)
  · split
    · exact vs_stuck
    · rename_i hc
      exact vs_expr (pE_ok o _) (by simpa using hc)
  · exact vs_if (o.T _) (pSs_ok o _) (pSs_ok o _)
  · exact vs_while _ h.xe (o.T _) (pSs_ok o _)
  · split
    · exact vs_stuck
    · rename_i hset
      split
      · rename_i ts g eg
        exact vs_for _ h.xe h.calm (pI_ok h o _ _) (o.G _ ts g eg) (pSs_ok o _) (set_no (by simpa using hset) _)
      · exact vs_stuck
  · split
    · rename_i i es
      split
      · split
        · exact vs_stuck
        · exact setc_ok h a es _ _
      · rename_i hc
        exact vs_set (sto_ok h es) (pE_ok o _) (sw_no (by simpa using hc))
    · exact vs_stuck
  · exact vs_fld (pD_ok h o _) (pD_ok h o _) (at_ok h)
  · exact asg_ok h o sole_sub rfl rfl
  · exact asgT_ok h a
  · split
    · exact vs_aug (sto_ok h (by assumption)) (pR_ok h o _) (augG_ok _)
    · exact vs_stuck
  · exact vs_stuck
theorem step_ok (a : EvAll Γ cl k p) : EvAll Γ cl k (stepEv Γ cl p) := fun c X h => ⟨fun e => E0_ok h a e, fun e => T0_ok h (a c X h) e, fun e ts g q => G0_ok h a e ts g q, fun st => S0_ok h a st⟩
theorem evN_ok : ∀ n, EvAll Γ cl k (evN Γ cl n)
  | 0 => fun c X h => ⟨fun e => vg_stuck, fun e => vt_stuck, fun e ts g q => (by cases q), fun st => vs_stuck⟩
  | n + 1 => step_ok (evN_ok n)
end
/-! ### a def keeps its promise -/
section
variable {P : Program} {w : World} {K : PySem.W.Frag} {mg : Str → Option Value} {base : Heap} {Γ : Gm} {cl : Cl} {k : Nat} {d : Nat} {i : Fi}
/-- what must hold of a def's data -/
structure FiOk (i : Fi) : Prop where
  sc : FnScope i.N i.ps i.sc
theorem start_rel {F H : Hp} {W : Wd} {sto : List Box} {vs : List V} {ds : List D} (R : Rel0 P w K F W sto H) (c : Rps P w K W vs ds) (N : List Str) (hN : vs.length ≤ N.length) :
    Rel P w K F W (fun _ => 0) ⟨ds.map (fun d => some (.dat d)) ++ List.replicate (N.length - ds.length) none, sto⟩ (L2.start N vs) H := by
  have g : ∀ {j : Nat} {r : Rz}, (ds.map (fun d => some (Rz.dat d)) ++ List.replicate (N.length - ds.length) none)[j]? = some (some r) → ∃ d, r = .dat d ∧ ds[j]? = some d := fun {j r} h => by
    by_cases hj : j < ds.length
    · rw [List.getElem?_append_left (by simpa using hj), List.getElem?_map, List.getElem?_eq_getElem hj] at h
      cases h
      exact ⟨_, rfl, List.getElem?_eq_getElem hj⟩
    · rw [List.getElem?_append_right (by simpa using hj), List.getElem?_replicate] at h
      split at h <;> cases h
  refine ⟨R.g, R.f, R.bn, R.nd, R.bl, R.bx, ?_, fun j d q => ?_, fun j b q => ?_, fun j l b b' q => ?_⟩
  · unfold L2.start
    simp [c.1]
  · obtain ⟨d', e, q'⟩ := g q
    cases e
    obtain ⟨v, e1, e2⟩ := c.get q'
    refine ⟨v, ?_, e2⟩
    have hj := (List.getElem?_eq_some_iff.mp e1).1
    unfold L2.start
    rw [List.getElem?_append_left (by simpa using hj), List.getElem?_map, e1]
    rfl
  · obtain ⟨d', e, _⟩ := g q; cases e
  · obtain ⟨d', e, _⟩ := g q; cases e
theorem fi_ok {x qual : Str} {params : Arguments} {dvs : List V} {kws : List (Str × V)} {f : Addr} {fd : FuncData} (F : FunD K x qual params i.body i.sc dvs kws f fd) (S : FnScope i.N i.ps i.sc) (hf : Facts P w K mg base Γ cl k) :
    FnOk P w K mg base CX0 (k + 2) f fd i.ps (spV P w K i.ps.length (runFi Γ cl d i)) := by
  refine F.ok S (fun vs H Q E h => ?_) fun cdv A outer s H vs Q E hr h => ?_
  · obtain ⟨_, _, _, _, _, _, hl, _⟩ := h
    exact hl
  · obtain ⟨F', W, sto, ds, R, c, hl, hq⟩ := h
    have hn : vs.length ≤ i.N.length := by
      have := congrArg List.length S.pre
      rw [List.length_take] at this
      omega
    refine ⟨_, PSs.nox pss_ts, ?_⟩
    have gd : Gd Γ cl k ⟨i.N, i.sc, fun _ => true⟩ (cxOf CX0 P w K mg base i.N qual i.sc f cdv A outer s H E).nox := ⟨rfl, rfl, fun _ _ => rfl, S.nd, S.kind, rfl, rfl, hr, hf⟩
    refine pSs_ok (evN_ok (Γ := Γ) (cl := cl) (k := k) d _ _ gd) i.body F' W _ _ (L2.start i.N vs) H _ (start_rel R c i.N hn) ?_
    unfold runFi at hq
    have hl' : ds.length = i.ps.length := by rw [← c.1]; exact hl
    rw [if_pos hl'] at hq
    unfold Wp
    cases e : pSs (evN Γ cl d) ⟨i.N, i.sc, fun _ => true⟩ i.body ⟨ds.map (fun d => some (.dat d)) ++ List.replicate (i.N.length - ds.length) none, sto⟩ with
    | ok fl s' =>
      rw [e] at hq
      have r0 : ∀ {W' : Wd} {A' : Nat → Addr} {σ' : Sl} {H' : Hp}, Rel P w K F' W' A' s' σ' H' → Rel0 P w K F' W' s'.sto H' := fun R' =>
        ⟨R'.g, R'.f, R'.bn, R'.nd, R'.bl, R'.bx, rfl, fun i d e => (by cases i <;> cases e), fun i d e => (by cases i <;> cases e), fun i j b c e => (by cases i <;> cases e)⟩
      intro W' A' σ' H' l' R'
      cases fl with
      | nx => exact hq W' _ H' l' (r0 R') .non
      | bk => exact hq.elim
      | ct => exact hq.elim
      | rt r =>
        intro v cv
        refine hq W' v H' l' (r0 R') ?_
        cases r with
        | dat d => exact cv
        | own b =>
          obtain ⟨q, rfl, fr⟩ := cv
          exact ⟨q, rfl, fr.bx, fr.g, fr.f, fr.b, fun i c e => (by cases i <;> cases e)⟩
    | exn x s' => rw [e] at hq; exact hq.elim
    | stuck => rw [e] at hq; exact hq.elim
end
end Vl
set_option Elab.async false
set_option linter.all false
set_option maxRecDepth 100000
set_option maxHeartbeats 4000000
/-! V23: the facts of a program, from its head -/
namespace Vl
open PySem PySem.Spec PyProof.Rows L2

/-! ### constants of the module -/
mutual
def relD (K : PySem.W.Frag) : Value → D → Bool
  | .none, .non => true
  | .bool b, .bl c => b == c
  | .int i _, .int j => decide (i = j)
  | .str x _, .str y => decide (x = y)
  | .ref a, .tup xs => match K.lookup a with
    | some ⟨.type c, _, .seq its _, _⟩ => decide (c = "tuple") && (decide (its.size ≤ sizeLine) && relDs K its.toList xs)
    | _ => false
  | _, _ => false
def relDs (K : PySem.W.Frag) : List Value → List D → Bool
  | [], [] => true
  | u :: us, d :: ds => relD K u d && relDs K us ds
  | _, _ => false
end
section
variable {P : Program} {w : World} {K : PySem.W.Frag}
mutual
theorem relD_ok : ∀ (d : D) (u : Value), relD K u d = true → ∃ v, RelV v u ∧ ∀ W, Rp P w K W v d
  | .non, u, h => by
    cases u <;> first | exact ⟨.non, rfl, fun _ => .non⟩ | (unfold relD at h; cases h)
  | .bl c, u, h => by
    cases u <;> first
      | (rename_i b
         have h : (b == c) = true := by unfold relD at h; exact h
         obtain rfl := beq_iff_eq.mp h
         exact ⟨.bl b, rfl, fun _ => .bl b⟩)
      | (unfold relD at h; cases h)
  | .int j, u, h => by
    cases u <;> first
      | (rename_i i t
         have h : decide (i = j) = true := by unfold relD at h; exact h
         obtain rfl := of_decide_eq_true h
         exact ⟨.int i, ⟨_, rfl⟩, fun _ => .int i⟩)
      | (unfold relD at h; cases h)
  | .str y, u, h => by
    cases u <;> first
      | (rename_i x t
         have h : decide (x = y) = true := by unfold relD at h; exact h
         obtain rfl := of_decide_eq_true h
         exact ⟨.str x, ⟨_, rfl⟩, fun _ => .str x⟩)
      | (unfold relD at h; cases h)
  | .tup xs, u, h => by
    cases u <;> first
      | (unfold relD at h; cases h; done)
      | (rename_i a
         unfold relD at h
         split at h
         · rename_i c dd its n sl q
           simp only [Bool.and_eq_true, decide_eq_true_eq] at h
           obtain ⟨rfl, h2, h3⟩ := h
           obtain ⟨vs, r, hv⟩ := relDs_ok xs its.toList h3
           exact ⟨.ref a, rfl, fun W => .tup (.inr ⟨_, its, n, q, rfl, rfl, h2, r⟩) (hv W).1 (hv W).2⟩
         · cases h)
  | .lst xs, u, h => by cases u <;> (unfold relD at h; cases h)
  | .dct xs, u, h => by cases u <;> (unfold relD at h; cases h)
  | .box k, u, h => by cases u <;> (unfold relD at h; cases h)
  | .scr ns, u, h => by cases u <;> (unfold relD at h; cases h)
theorem relDs_ok : ∀ (ds : List D) (us : List Value), relDs K us ds = true → ∃ vs, Vals vs us ∧ ∀ W, Rps P w K W vs ds
  | [], [], _ => ⟨[], .nil, fun _ => .nil⟩
  | d :: ds, u :: us, h => by
    unfold relDs at h
    simp only [Bool.and_eq_true] at h
    obtain ⟨v, r, hv⟩ := relD_ok d u h.1
    obtain ⟨vs, rs, hvs⟩ := relDs_ok ds us h.2
    exact ⟨v :: vs, .cons r rs, fun W => .cons (hv W) (hvs W)⟩
  | [], _ :: _, h => by unfold relDs at h; cases h
  | _ :: _, [], h => by unfold relDs at h; cases h
end
end
/-- the module's name x stands for d -/
def cstB (K : PySem.W.Frag) (q : Str × D) : Bool := match PySem.W.nsIn K mainGlobals q.1 with
  | some (some u) => relD K u q.2
  | _ => false

/-! ### the Hook: facts, defs, constants -/
abbrev AlV : Type := Bool × List He.FnW
def obsV (fa : List He.Fa) (fn : List He.DefD) (cs : List (Str × D)) (K : PySem.W.Frag) : AlV := ((fa.all fun f => f.ok K) && (fn.all (fun d => d.ok K) && cs.all (cstB K)), fn.map fun d => He.fnW K d.at_)
def valV' (fn : List He.DefD) : AlV := (true, fn.map He.DefD.val)
def SaysV (fa : List He.Fa) (fn : List He.DefD) (cs : List (Str × D)) (K : PySem.W.Frag) : Prop := obsV fa fn cs K = valV' fn
def obsVG (n : Nat) (fa : List He.Fa) (fn : List He.DefD) (cs : List (Str × D)) (g : Addr → Option Obj) : AlV := obsV fa fn cs (He.frG g (He.asD g n))
def hookV (n : Nat) (fa : List He.Fa) (fn : List He.DefD) (cs : List (Str × D)) : PySem.W.Hook where
  α := AlV
  obs := fun s => obsVG n fa fn cs s.heap.get?
  val := fun _ => valV' fn
  says := fun _ h => ∃ K : PySem.W.Frag, K.In h ∧ SaysV fa fn cs K
  of := fun _ _ e => ⟨_, He.frG_in, e⟩
  keeps := fun _ _ _ ⟨K, hK, c⟩ k => ⟨K, PySem.W.Frag.In.keeps hK k, c⟩
theorem obsVG_eq {n : Nat} {fa : List He.Fa} {fn : List He.DefD} {cs : List (Str × D)} {g : Addr → Option Obj} {s : Shared} (h : ∀ a, g a = s.heap.get? a) : obsVG n fa fn cs g = (hookV n fa fn cs).obs s := by
  have e : g = s.heap.get? := funext h
  rw [e] <;> rfl
section
variable {fa : List He.Fa} {fn : List He.DefD} {cs : List (Str × D)} {K : PySem.W.Frag}
theorem SaysV.toD (c : SaysV fa fn cs K) : He.SaysD fa fn K := by
  have e1 : ((fa.all fun f => f.ok K) && (fn.all (fun d => d.ok K) && cs.all (cstB K))) = true := congrArg (fun z : AlV => z.1) c
  have e2 : fn.map (fun d => He.fnW K d.at_) = fn.map He.DefD.val := congrArg (fun z : AlV => z.2) c
  simp only [Bool.and_eq_true] at e1
  show (((fa.all fun f => f.ok K) && fn.all fun d => d.ok K, fn.map fun d => He.fnW K d.at_) : He.AlD) = (true, fn.map He.DefD.val)
  rw [e1.1, e1.2.1, e2]
  rfl
theorem SaysV.cst {P : Program} {w : World} {h : Heap} {mg : Str → Option Value} (c : SaysV fa fn cs K) (X : K.In h) (G : h.Ns mainGlobals mg) {x : Str} {d : D} (e : cs.lookup x = some d) : ∃ v u, mg x = some u ∧ RelV v u ∧ ∀ W, Rp P w K W v d := by
  have e1 : ((fa.all fun f => f.ok K) && (fn.all (fun d => d.ok K) && cs.all (cstB K))) = true := congrArg (fun z : AlV => z.1) c
  simp only [Bool.and_eq_true] at e1
  have q := List.all_eq_true.mp e1.2.2 (x, d) (PySem.mem_of_lookup e)
  unfold cstB at q
  split at q
  · rename_i u hu
    obtain ⟨v, r, hv⟩ := relD_ok (P := P) (w := w) d u q
    exact ⟨v, u, PySem.W.mg_of X G hu, r, hv⟩
  · cases q
end

/-! ### what is known of each def -/
section
variable (P : Program) (w : World) (K : PySem.W.Frag) (mg : Str → Option Value)
/-- a def's own facts -/
structure StF (f : Addr) (fd : FuncData) (i : Fi) : Prop where
  fun_ : ∃ (nm qual : Str) (params : Arguments) (dvs : List V) (kws : List (Str × V)), FunD K nm qual params i.body i.sc dvs kws f fd
  sc : FnScope i.N i.ps i.sc
  bind : BindA P w K fd i
def StG (q : Str × Fi) : Prop := ∃ f fd, mg q.1 = some (.ref f) ∧ PySem.W.keepIn K (.ref f) = true ∧ StF P w K f fd q.2
def StM (C : Str) (q : Str × Fi) : Prop := ∃ f fd, StF P w K f fd q.2 ∧ (q.1 ≠ ("__init__" : Str) → Meth K (He.ga K C) q.1 f) ∧ (q.1 = ("__init__" : Str) → Mk K (He.ga K C) f)
def StC (q : Str × List Str × List (Str × Fi)) : Prop := Cls K (He.ga K q.1) ∧ mg q.1 = some (.ref (He.ga K q.1)) ∧ (∀ f ∈ q.2.1, NoAttr K (He.ga K q.1) f) ∧ ∀ m ∈ q.2.2, StM P w K q.1 m
structure Stat (Γ : Gm) : Prop where
  fns : ∀ q ∈ Γ.fns, StG P w K mg q
  cls : ∀ q ∈ Γ.cls, StC P w K mg q
  cst : ∀ x d, Γ.cst.lookup x = some d → ∃ v u, mg x = some u ∧ RelV v u ∧ ∀ W, Rp P w K W v d
  fre : ∀ x ∈ Γ.fre, mg x = none
end
theorem fn_stuck {P : Program} {w : World} {K : PySem.W.Frag} {mg : Str → Option Value} {base : Heap} {f : Addr} {fd : FuncData} {ps : List Str} {k n : Nat} {fn : FV} (h : ∀ ds sto, fn ds sto = .stuck) : FnOk P w K mg base CX0 k f fd ps (spV P w K n fn) :=
  ⟨fun vs H Q E ⟨_, _, _, ds, _, _, _, q⟩ => (by rw [h] at q; exact q.elim), fun A outer s H args us vs Q E _ _ _ _ ⟨_, _, _, ds, _, _, _, q⟩ => (by rw [h] at q; exact q.elim)⟩
theorem facts_ok {P : Program} {w : World} {K : PySem.W.Frag} {mg : Str → Option Value} {base : Heap} {Γ : Gm} (d : Nat) (S : Stat P w K mg Γ) : ∀ n, Facts P w K mg base Γ (clN Γ d n) (2 * n)
  | 0 => by
    refine ⟨fun x i e => ?_, fun C at_ ms e => ?_, S.cst, fun x e => S.fre x (by simpa using e)⟩
    · obtain ⟨f, fd, m, kp, st⟩ := S.fns _ (PySem.mem_of_lookup e)
      exact ⟨f, fd, m, kp, fn_stuck fun _ _ => rfl, st.bind⟩
    · obtain ⟨c1, c2, c3, c4⟩ := S.cls _ (PySem.mem_of_lookup e)
      refine ⟨c1, c2, fun f h => c3 f (by simpa using h), fun m i hm hi => ?_, fun i hi => ?_⟩
      · obtain ⟨f, fd, st, q, _⟩ := c4 _ (PySem.mem_of_lookup hi)
        exact ⟨f, fd, q hm, fn_stuck fun _ _ => rfl, st.bind⟩
      · obtain ⟨f, fd, st, _, q⟩ := c4 _ (PySem.mem_of_lookup hi)
        exact ⟨f, fd, q rfl, fn_stuck fun _ _ => rfl, st.bind⟩
  | n + 1 => by
    have ih := facts_ok (base := base) d S n
    refine ⟨fun x i e => ?_, fun C at_ ms e => ?_, S.cst, fun x e => S.fre x (by simpa using e)⟩
    · obtain ⟨f, fd, m, kp, st⟩ := S.fns _ (PySem.mem_of_lookup e)
      obtain ⟨nm, qual, params, dvs, kws, F⟩ := st.fun_
      refine ⟨f, fd, m, kp, ?_, st.bind⟩
      have e2 : (clN Γ d (n + 1)).fn x = runFi Γ (clN Γ d n) d i := by
        show (match Γ.fns.lookup x with
          | some i => runFi Γ (clN Γ d n) d i
          | none => fun _ _ => .stuck) = _
        rw [e]
      rw [e2]
      exact fi_ok F st.sc ih
    · obtain ⟨c1, c2, c3, c4⟩ := S.cls _ (PySem.mem_of_lookup e)
      have e2 : ∀ m i, ms.lookup m = some i → (clN Γ d (n + 1)).me C m = runFi Γ (clN Γ d n) d i := fun m i hi => by
        show (match Γ.cls.lookup C with
          | some (_, ms) => (match ms.lookup m with
            | some i => runFi Γ (clN Γ d n) d i
            | none => fun _ _ => .stuck)
          | none => fun _ _ => .stuck) = _
        rw [e]
        show (match ms.lookup m with
            | some i => runFi Γ (clN Γ d n) d i
            | none => fun _ _ => .stuck) = _
        rw [hi]
      refine ⟨c1, c2, fun f h => c3 f (by simpa using h), fun m i hm hi => ?_, fun i hi => ?_⟩
      · obtain ⟨f, fd, st, q, _⟩ := c4 _ (PySem.mem_of_lookup hi)
        obtain ⟨nm, qual, params, dvs, kws, F⟩ := st.fun_
        rw [e2 m i hi]
        exact ⟨f, fd, q hm, fi_ok F st.sc ih, st.bind⟩
      · obtain ⟨f, fd, st, _, q⟩ := c4 _ (PySem.mem_of_lookup hi)
        obtain ⟨nm, qual, params, dvs, kws, F⟩ := st.fun_
        rw [e2 _ i hi]
        exact ⟨f, fd, q rfl, fi_ok F st.sc ih, st.bind⟩

/-! ### how arguments bind -/
section
variable {P : Program} {w : World} {K : PySem.W.Frag} {fd : FuncData} {f : Addr} {i : Fi} {nm qual : Str} {params : Arguments} {body : List Stmt} {scope : Scope} {dvs : List V} {kws : List (Str × V)}
theorem bindA0 (F : FunD K nm qual params body scope [] kws f fd) (hd : i.df = [])
    (h : ∀ (kV doc pm : Value) (an : Option Addr) (cdv ct : Value) (us : List Value), us.length = i.ps.length → bindArgs (PySem.W.fnOf nm qual params body scope .none kV doc pm an cdv ct) ⟨us, []⟩ = pure (i.ps.zip us)) : BindA P w K fd i := by
  intro n df e
  refine ⟨[], [], F.bindsN h, .nil, fun W => ?_⟩
  unfold dfFor at e
  split at e
  · cases e
    rw [hd, List.drop_nil]
    exact Rps.nil
  · cases e
/-- defaults: dvs are the values, one behind another, of i.df -/
theorem bindA1 (F : FunD K nm qual params body scope dvs kws f fd) (hd : dvs ≠ []) (hr : ∀ W, Rps P w K W dvs i.df)
    (h : ∀ n, n ≤ i.ps.length → i.ps.length - n ≤ i.df.length → ∀ (T : Addr) (kV doc pm : Value) (an : Option Addr) (cdv ct : Value) (us its : List Value), us.length = n → its.length = dvs.length →
      ∃ k, bindArgs (PySem.W.fnOf nm qual params body scope (.ref T) kV doc pm an cdv ct) ⟨us, []⟩ = seqItems? (.ref T) >>= k ∧ k (some its.toArray) = pure (i.ps.zip (us ++ its.drop (i.df.length - (i.ps.length - n))))) : BindA P w K fd i := by
  intro n df e
  unfold dfFor at e
  split at e
  · rename_i hn
    cases e
    have hl : dvs.length = i.df.length := (hr ⟨fun _ => none, []⟩).1
    obtain ⟨ds, hv, hb⟩ := F.binds1 n (i.df.length - (i.ps.length - n)) hd (by rw [hl]; omega) (h n hn.1 hn.2)
    exact ⟨_, ds, hb, hv, fun W => (hr W).drop _⟩
  · cases e
end
/-- a list's members, one behind another -/
inductive AllP {α : Type} (Q : α → Prop) : List α → Prop
  | nil : AllP Q []
  | cons {x : α} {xs : List α} (h : Q x) (t : AllP Q xs) : AllP Q (x :: xs)
theorem AllP.app {α : Type} {Q : α → Prop} {xs ys : List α} (a : AllP Q xs) (b : AllP Q ys) : AllP Q (xs ++ ys) := by
  induction a with
  | nil => exact b
  | cons h t ih => exact .cons h ih
theorem AllP.mem {α : Type} {Q : α → Prop} {xs : List α} (a : AllP Q xs) : ∀ x ∈ xs, Q x := by
  induction a with
  | nil => intro x h; cases h
  | cons h t ih =>
    intro y hy
    rcases List.mem_cons.mp hy with rfl | hy
    · exact h
    · exact ih y hy
/-! ### the law's end -/
theorem law_end {P : Program} {w : World} {K : PySem.W.Frag} {fn : FV} {H : Hp} {a : Addr} {ns : List Int} {E : XK} (hS : SqL K H a (ns.map V.int)) (h : ∃ sto, fn [.scr ns] [] = .ok (.dat (.bl true)) sto) : spV P w K 1 fn [.ref a] H (fun v _ => v = .bl true) E := by
  obtain ⟨sto, e⟩ := h
  refine ⟨H, ⟨H, []⟩, [], [.scr ns], ⟨fun p o h => h, fun p o h => h, fun a h => (by cases h), List.nodup_nil, rfl, fun i a b h => (by cases i <;> cases h), rfl, fun i d e => (by cases i <;> cases e), fun i d e => (by cases i <;> cases e), fun i j b c e => (by cases i <;> cases e)⟩, .cons (.scr hS) .nil, rfl, ?_⟩
  rw [e]
  intro W' v H' _ _ c
  cases (c : Rp P w K W' v (.bl true))
  rfl
end Vl
set_option Elab.async false
set_option linter.all false
set_option maxRecDepth 100000
set_option maxHeartbeats 4000000
/-! V24: words for the printed code -/
namespace Vl
open PySem PySem.Spec PyProof.Rows L2
def vD (m : M D) : M Rz := do
  let d ← m
  Pure.pure (.dat d)
def dR (m : M Rz) : M D := m >>= toD
def rD (m : M D) : M Ref := do
  let d ← m
  Pure.pure (.dat d)
def aN : M (List D) := Pure.pure []
def aC (m : M D) (n : M (List D)) : M (List D) := do
  let d ← m
  let ds ← n
  Pure.pure (d :: ds)
def mNeg (m : M D) : M Rz := do
  let d ← m
  let i ← asInt d
  Pure.pure (.dat (.int (-i)))
def mIf (c : M Bool) (a b : M Rz) : M Rz := do
  let k ← c
  if k then a else b
def mTup (m : M (List D)) : M Rz := do
  let ds ← m
  Pure.pure (.dat (.tup ds))
def mLst (m : M (List D)) : M Rz := do
  let ds ← m
  Pure.pure (.own (.lst ds))
def mDct (xs : List Str) (ms : List (M D)) : M Rz := do
  let ds ← mAll ms
  Pure.pure (.own (.dct ((xs.map D.str).zip ds)))
def sB (m : M D) : M (Option Int) := do
  let d ← m
  let i ← asInt d
  Pure.pure (some i)
def tAnd (a b : M Bool) : M Bool := do
  let k ← a
  if k then b else Pure.pure false
def tOr (a b : M Bool) : M Bool := do
  let k ← a
  if k then Pure.pure true else b
def tNot (a : M Bool) : M Bool := do
  let b ← a
  Pure.pure (!b)
def tTru (m : M Ref) : M Bool := do
  let r ← m
  let d ← look r
  orStuck (dTruth d)
def mIsi (t : Ty) (m : M Ref) : M Rz := do
  let r ← m
  let d ← look r
  let b ← orStuck (dIsi t d)
  Pure.pure (.dat (.bl b))
def mLrg : List (M D) → M Rz
  | [a] => do
    let d ← a
    orStuck (mRgL [d])
  | [a, b] => do
    let d ← a
    let e ← b
    orStuck (mRgL [d, e])
  | _ => stuck
def mRet (m : M Rz) : M Fl := do
  let r ← m
  Pure.pure (.rt r)
def mRetD (m : M D) : M Fl := do
  let d ← m
  Pure.pure (.rt (.dat d))
def mExp (m : M Rz) : M Fl := do
  let _ ← m
  Pure.pure .nx
def mIfS (c : M Bool) (a b : M Fl) : M Fl := do
  let k ← c
  if k then a else b
def mSet (m : M Rz) (i : Nat) : M Fl := do
  let r ← m
  setSlot i r
  Pure.pure .nx
def mSetC (m : M Rz) (bx : Bool) (i : Nat) : M Fl := do
  let r ← m
  let r ← (if bx = true then toBox r else Pure.pure r)
  setSlot i r
  Pure.pure .nx
def mAtt (ok : Str → Str → Bool) (m mo : M D) (f : Str) : M Fl := do
  let v ← m
  let d ← mo
  mPutF ok d v f
  Pure.pure .nx
def mAsg (m : M D) (g : D → M Unit) : M Fl := do
  let d ← m
  g d
  Pure.pure .nx
def mPar (is : List Nat) (m : M (List D)) : M Fl := m >>= fun ds => (if ds.length = is.length then setAllD (is.reverse.zip ds.reverse) else stuck) >>= fun _ => Pure.pure .nx
/-- a def's code, run -/
def runC (np nn : Nat) (c : M Fl) : FV := fun ds sto => if ds.length = np then
    match c ⟨ds.map (fun d => some (.dat d)) ++ List.replicate (nn - ds.length) none, sto⟩ with
    | .ok .nx s => .ok (.dat .non) s.sto
    | .ok (.rt r) s => .ok r s.sto
    | .ok _ _ => .stuck
    | .exn x s => .exn x s.sto
    | .stuck => .stuck
  else .stuck
end Vl
set_option Elab.async false
set_option linter.all false
set_option maxRecDepth 100000
set_option maxHeartbeats 4000000
/-! V25: printed code, run by rewriting -/
namespace Vl
open PySem PySem.Spec PyProof.Rows L2
def Res.bd {α β : Type} (r : Res α) (f : α → S → Res β) : Res β := match r with
  | .ok a s => f a s
  | .exn x s => .exn x s
  | .stuck => .stuck
section
variable {α β : Type}
@[simp] theorem bd_ok (a : α) (s : S) (f : α → S → Res β) : (Res.ok a s).bd f = f a s := rfl
@[simp] theorem bd_stuck (f : α → S → Res β) : (Res.stuck : Res α).bd f = .stuck := rfl
@[simp] theorem bd_exn (x : Exn) (s : S) (f : α → S → Res β) : (Res.exn x s : Res α).bd f = .exn x s := rfl
@[simp] theorem bind_ap (m : M α) (f : α → M β) (s : S) : (m >>= f) s = (m s).bd fun a s' => f a s' := rfl
@[simp] theorem pure_ap (a : α) (s : S) : (Pure.pure a : M α) s = .ok a s := rfl
@[simp] theorem stuck_ap (s : S) : (stuck : M α) s = .stuck := rfl
@[simp] theorem orStuck_some (a : α) (s : S) : (orStuck (some a) : M α) s = .ok a s := rfl
@[simp] theorem orStuck_none (s : S) : (orStuck none : M α) s = .stuck := rfl
@[simp] theorem ite_ap {c : Prop} [Decidable c] (m n : M α) (s : S) : (if c then m else n) s = if c then m s else n s := by split <;> rfl
end
@[simp] theorem vD_ap (m : M D) (s : S) : vD m s = (m s).bd fun d s' => .ok (.dat d) s' := rfl
@[simp] theorem dR_ap (m : M Rz) (s : S) : dR m s = (m s).bd fun r s' => toD r s' := rfl
@[simp] theorem rD_ap (m : M D) (s : S) : rD m s = (m s).bd fun d s' => .ok (.dat d) s' := rfl
@[simp] theorem toD_dat_ap (d : D) (s : S) : toD (.dat d) s = .ok d s := rfl
@[simp] theorem toD_lst (xs : List D) (s : S) : toD (.own (.lst xs)) s = .ok (.lst xs) s := rfl
@[simp] theorem toD_dct (xs : List (D × D)) (s : S) : toD (.own (.dct xs)) s = .ok (.dct xs) s := rfl
@[simp] theorem aN_ap (s : S) : aN s = .ok [] s := rfl
@[simp] theorem aC_ap (m : M D) (n : M (List D)) (s : S) : aC m n s = (m s).bd fun d s1 => (n s1).bd fun ds s2 => .ok (d :: ds) s2 := rfl
@[simp] theorem rdSlot_ap (i : Nat) (env : List (Option Rz)) (sto : List Box) : rdSlot i ⟨env, sto⟩ = match env[i]? with
  | some (some (.dat d)) => .ok d ⟨env, sto⟩
  | some (some (.own b)) => (match frz b with
    | some d => .ok d ⟨env.set i (some (.dat d)), sto⟩
    | none => .stuck)
  | _ => .stuck := rfl
@[simp] theorem rfSlot_ap (i : Nat) (env : List (Option Rz)) (sto : List Box) : rfSlot i ⟨env, sto⟩ = match env[i]? with
  | some (some _) => .ok (.slot i) ⟨env, sto⟩
  | _ => .stuck := rfl
@[simp] theorem mvSlot_ap (i : Nat) (env : List (Option Rz)) (sto : List Box) : mvSlot i ⟨env, sto⟩ = match env[i]? with
  | some (some (.dat d)) => .ok (.dat d) ⟨env, sto⟩
  | some (some (.own b)) => .ok (.own b) ⟨env.set i none, sto⟩
  | _ => .stuck := rfl
@[simp] theorem setSlot_ap (i : Nat) (r : Rz) (env : List (Option Rz)) (sto : List Box) : setSlot i r ⟨env, sto⟩ = .ok () ⟨env.set i (some r), sto⟩ := rfl
@[simp] theorem frz_lst (xs : List D) : frz (.lst xs) = some (.lst xs) := rfl
@[simp] theorem frz_dct (xs : List (D × D)) : frz (.dct xs) = some (.dct xs) := rfl
@[simp] theorem frz_ins (C : Str) (xs : List (Str × D)) : frz (.ins C xs) = none := rfl
def lk (o : Option D) (s : S) : Res D := match o with
  | some d => .ok d s
  | none => .stuck
@[simp] theorem lk_some (d : D) (s : S) : lk (some d) s = .ok d s := rfl
@[simp] theorem look_ap (r : Ref) (s : S) : look r s = lk (deref r s) s := rfl
@[simp] theorem deref_dat (d : D) (s : S) : deref (.dat d) s = derefD s d := rfl
@[simp] theorem deref_slot (i : Nat) (env : List (Option Rz)) (sto : List Box) : deref (.slot i) ⟨env, sto⟩ = match env[i]? with
    | some (some (.own b)) => frz b
    | some (some (.dat d)) => derefD ⟨env, sto⟩ d
    | _ => none := rfl
section
variable (s : S)
@[simp] theorem dd_non : derefD s .non = some .non := rfl
@[simp] theorem dd_bl (b : Bool) : derefD s (.bl b) = some (.bl b) := rfl
@[simp] theorem dd_int (i : Int) : derefD s (.int i) = some (.int i) := rfl
@[simp] theorem dd_str (i : Str) : derefD s (.str i) = some (.str i) := rfl
@[simp] theorem dd_lst (i : List D) : derefD s (.lst i) = some (.lst i) := rfl
@[simp] theorem dd_tup (i : List D) : derefD s (.tup i) = some (.tup i) := rfl
@[simp] theorem dd_dct (i : List (D × D)) : derefD s (.dct i) = some (.dct i) := rfl
@[simp] theorem dd_scr (i : List Int) : derefD s (.scr i) = some (.scr i) := rfl
@[simp] theorem dd_box (env : List (Option Rz)) (sto : List Box) (k : Nat) : derefD ⟨env, sto⟩ (.box k) = (sto[k]?).bind frz := rfl
end
@[simp] theorem mBin_ap (ma mb : M Ref) (g : D → D → Option Rz) (s : S) : mBin ma mb g s = (ma s).bd fun ra s1 => (mb s1).bd fun rb s2 => (lk (deref ra s2) s2).bd fun x s3 => (lk (deref rb s3) s3).bd fun y s4 => orStuck (g x y) s4 := rfl
@[simp] theorem mGet_ap (ma mb : M Ref) (s : S) : mGet ma mb s = (ma s).bd fun ra s1 => (mb s1).bd fun rb s2 => (lk (deref ra s2) s2).bd fun x s3 => (lk (deref rb s3) s3).bd fun y s4 => orStuck (dGet x y) s4 := rfl
/-- what a chain does behind its first comparison -/
def chain2 (mc : M Ref) (rb : Ref) (g' : D → D → Option Rz) (o : Option Rz) (s : S) : Res Rz := match o with
  | some (.dat (.bl true)) => (mc s).bd fun rc s5 => (lk (deref rb s5) s5).bd fun y s6 => (lk (deref rc s6) s6).bd fun z s7 => orStuck (g' y z) s7
  | some (.dat (.bl false)) => .ok (.dat (.bl false)) s
  | _ => .stuck
@[simp] theorem chain2_t (mc : M Ref) (rb : Ref) (g' : D → D → Option Rz) (s : S) : chain2 mc rb g' (some (.dat (.bl true))) s = (mc s).bd fun rc s5 => (lk (deref rb s5) s5).bd fun y s6 => (lk (deref rc s6) s6).bd fun z s7 => orStuck (g' y z) s7 := rfl
@[simp] theorem chain2_f (mc : M Ref) (rb : Ref) (g' : D → D → Option Rz) (s : S) : chain2 mc rb g' (some (.dat (.bl false))) s = .ok (.dat (.bl false)) s := rfl
@[simp] theorem mChain_ap (ma mb mc : M Ref) (g g' : D → D → Option Rz) (s : S) : mChain ma mb mc g g' s = (ma s).bd fun ra s1 => (mb s1).bd fun rb s2 => (lk (deref ra s2) s2).bd fun x s3 => (lk (deref rb s3) s3).bd fun y s4 => chain2 mc rb g' (g x y) s4 := by
  show (ma s).bd (fun ra s1 => (mb s1).bd (fun rb s2 => (lk (deref ra s2) s2).bd (fun x s3 => (lk (deref rb s3) s3).bd (fun y s4 => (match g x y with
            | some (.dat (.bl true)) => (do
              let rc ← mc
              let y ← look rb
              let z ← look rc
              orStuck (g' y z))
            | some (.dat (.bl false)) => (Pure.pure (.dat (.bl false)) : M Rz)
            | _ => stuck) s4)))) = _
  congr 1; funext ra s1
  congr 1; funext rb s2
  congr 1; funext x s3
  congr 1; funext y s4
  generalize g x y = o
  cases o with
  | none => rfl
  | some r => cases r with
    | own b => rfl
    | dat d => cases d with
      | bl k => cases k <;> rfl
      | _ => rfl
def andV2 (n : M D) (d : D) (s : S) : Res D := match d with
  | .bl true => n s
  | .bl false => .ok (.bl false) s
  | _ => .stuck
def orV2 (n : M D) (d : D) (s : S) : Res D := match d with
  | .bl false => n s
  | .bl true => .ok (.bl true) s
  | _ => .stuck
@[simp] theorem andV2_t (n : M D) (s : S) : andV2 n (.bl true) s = n s := rfl
@[simp] theorem andV2_f (n : M D) (s : S) : andV2 n (.bl false) s = .ok (.bl false) s := rfl
@[simp] theorem orV2_t (n : M D) (s : S) : orV2 n (.bl true) s = .ok (.bl true) s := rfl
@[simp] theorem orV2_f (n : M D) (s : S) : orV2 n (.bl false) s = n s := rfl
@[simp] theorem mAndV_ap (m n : M D) (s : S) : mAndV m n s = (m s).bd fun d s1 => andV2 n d s1 := by
  show (m s).bd _ = _
  unfold Res.bd
  cases m s with
  | ok d s1 => cases d with
    | bl b => cases b <;> rfl
    | _ => rfl
  | _ => rfl
@[simp] theorem mOrV_ap (m n : M D) (s : S) : mOrV m n s = (m s).bd fun d s1 => orV2 n d s1 := by
  show (m s).bd _ = _
  unfold Res.bd
  cases m s with
  | ok d s1 => cases d with
    | bl b => cases b <;> rfl
    | _ => rfl
  | _ => rfl
def notV2 (d : D) (s : S) : Res D := match d with
  | .bl b => .ok (.bl (!b)) s
  | _ => .stuck
@[simp] theorem notV2_b (b : Bool) (s : S) : notV2 (.bl b) s = .ok (.bl (!b)) s := rfl
@[simp] theorem mNotV_ap (m : M D) (s : S) : mNotV m s = (m s).bd fun d s1 => notV2 d s1 := by
  show (m s).bd _ = _
  unfold Res.bd
  cases m s with
  | ok d s1 => cases d <;> rfl
  | _ => rfl
@[simp] theorem asInt_i (i : Int) (s : S) : asInt (.int i) s = .ok i s := rfl
@[simp] theorem asB_b (b : Bool) (s : S) : asB (.dat (.bl b)) s = .ok b s := rfl
@[simp] theorem mNeg_ap (m : M D) (s : S) : mNeg m s = (m s).bd fun d s1 => (asInt d s1).bd fun i s2 => .ok (.dat (.int (-i))) s2 := rfl
@[simp] theorem mIf_ap (c : M Bool) (a b : M Rz) (s : S) : mIf c a b s = (c s).bd fun k s1 => if k = true then a s1 else b s1 := by
  show (c s).bd _ = _
  congr 1; funext k s1; cases k <;> rfl
@[simp] theorem mIfS_ap (c : M Bool) (a b : M Fl) (s : S) : mIfS c a b s = (c s).bd fun k s1 => if k = true then a s1 else b s1 := by
  show (c s).bd _ = _
  congr 1; funext k s1; cases k <;> rfl
@[simp] theorem mTup_ap (m : M (List D)) (s : S) : mTup m s = (m s).bd fun ds s1 => .ok (.dat (.tup ds)) s1 := rfl
@[simp] theorem mLst_ap (m : M (List D)) (s : S) : mLst m s = (m s).bd fun ds s1 => .ok (.own (.lst ds)) s1 := rfl
@[simp] theorem mAll_nil (α : Type) (s : S) : (mAll [] : M (List α)) s = .ok [] s := rfl
@[simp] theorem mAll_cons {α : Type} (m : M α) (ms : List (M α)) (s : S) : mAll (m :: ms) s = (m s).bd fun d s1 => (mAll ms s1).bd fun ds s2 => .ok (d :: ds) s2 := rfl
@[simp] theorem mDct_ap (xs : List Str) (ms : List (M D)) (s : S) : mDct xs ms s = (mAll ms s).bd fun ds s1 => .ok (.own (.dct ((xs.map D.str).zip ds))) s1 := rfl
@[simp] theorem sB_ap (m : M D) (s : S) : sB m s = (m s).bd fun d s1 => (asInt d s1).bd fun i s2 => .ok (some i) s2 := rfl
@[simp] theorem mSlice_ap (ma : M Ref) (ml mh : M (Option Int)) (s : S) : mSlice ma ml mh s = (ma s).bd fun ra s1 => (ml s1).bd fun lo s2 => (mh s2).bd fun hi s3 => (lk (deref ra s3) s3).bd fun x s4 => orStuck (dSlice x lo hi) s4 := rfl
@[simp] theorem tAnd_ap (a b : M Bool) (s : S) : tAnd a b s = (a s).bd fun k s1 => if k = true then b s1 else .ok false s1 := by
  show (a s).bd _ = _
  congr 1; funext k s1; cases k <;> rfl
@[simp] theorem tOr_ap (a b : M Bool) (s : S) : tOr a b s = (a s).bd fun k s1 => if k = true then .ok true s1 else b s1 := by
  show (a s).bd _ = _
  congr 1; funext k s1; cases k <;> rfl
@[simp] theorem tNot_ap (a : M Bool) (s : S) : tNot a s = (a s).bd fun k s1 => .ok (!k) s1 := rfl
@[simp] theorem tTru_ap (m : M Ref) (s : S) : tTru m s = (m s).bd fun r s1 => (lk (deref r s1) s1).bd fun d s2 => orStuck (dTruth d) s2 := rfl
@[simp] theorem mIsi_ap (t : Ty) (m : M Ref) (s : S) : mIsi t m s = (m s).bd fun r s1 => (lk (deref r s1) s1).bd fun d s2 => (orStuck (dIsi t d) s2).bd fun b s3 => .ok (.dat (.bl b)) s3 := rfl
@[simp] theorem lookAll_nil (s : S) : lookAll [] s = .ok [] s := rfl
@[simp] theorem lookAll_cons (r : Ref) (rs : List Ref) (s : S) : lookAll (r :: rs) s = (lk (deref r s) s).bd fun d s1 => (lookAll rs s1).bd fun ds s2 => .ok (d :: ds) s2 := rfl
@[simp] theorem mCallB_ap (ms : List (M Ref)) (g : List D → Option Rz) (s : S) : mCallB ms g s = (mAll ms s).bd fun rs s1 => (lookAll rs s1).bd fun ds s2 => orStuck (g ds) s2 := rfl
@[simp] theorem mLrg_1 (a : M D) (s : S) : mLrg [a] s = (a s).bd fun d s1 => orStuck (mRgL [d]) s1 := rfl
/-- the end of a call, in the caller's frame -/
def FR.back (r : FR) (env : List (Option Rz)) : Res Rz := match r with
  | .ok r sto => .ok r ⟨env, sto⟩
  | .exn x sto => .exn x ⟨env, sto⟩
  | .stuck => .stuck
@[simp] theorem back_ok (r : Rz) (sto : List Box) (env : List (Option Rz)) : (FR.ok r sto).back env = .ok r ⟨env, sto⟩ := rfl
@[simp] theorem mRun_ap (fn : FV) (ds : List D) (env : List (Option Rz)) (sto : List Box) : mRun fn ds ⟨env, sto⟩ = (fn ds sto).back env := by
  unfold mRun FR.back
  cases fn ds sto <;> rfl
@[simp] theorem mCall_ap (fn : FV) (m : M (List D)) (df : List D) (s : S) : mCall fn m df s = (m s).bd fun ds s1 => mRun fn (ds ++ df) s1 := rfl
def rtE (x : Res Fl) : FR := match x with
  | .ok .nx s => .ok (.dat .non) s.sto
  | .ok (.rt r) s => .ok r s.sto
  | .ok _ _ => .stuck
  | .exn x s => .exn x s.sto
  | .stuck => .stuck
@[simp] theorem rtE_nx (s : S) : rtE (.ok .nx s) = .ok (.dat .non) s.sto := rfl
@[simp] theorem rtE_rt (r : Rz) (s : S) : rtE (.ok (.rt r) s) = .ok r s.sto := rfl
@[simp] theorem runC_ap (np nn : Nat) (c : M Fl) (ds : List D) (sto : List Box) (h : ds.length = np) : runC np nn c ds sto = rtE (c ⟨ds.map (fun d => some (.dat d)) ++ List.replicate (nn - ds.length) none, sto⟩) := by
  unfold runC
  rw [if_pos h]
  generalize c _ = x
  cases x with
  | ok fl s => cases fl <;> rfl
  | exn x s => rfl
  | stuck => rfl
@[simp] theorem mRet_ap (m : M Rz) (s : S) : mRet m s = (m s).bd fun r s1 => .ok (.rt r) s1 := rfl
@[simp] theorem mRetD_ap (m : M D) (s : S) : mRetD m s = (m s).bd fun d s1 => .ok (.rt (.dat d)) s1 := rfl
@[simp] theorem mExp_ap (m : M Rz) (s : S) : mExp m s = (m s).bd fun r s1 => .ok .nx s1 := rfl
@[simp] theorem mSet_ap (m : M Rz) (i : Nat) (s : S) : mSet m i s = (m s).bd fun r s1 => (setSlot i r s1).bd fun _ s2 => .ok .nx s2 := rfl
@[simp] theorem mSetC_f (m : M Rz) (i : Nat) (s : S) : mSetC m false i s = (m s).bd fun r s1 => (setSlot i r s1).bd fun _ s2 => .ok .nx s2 := rfl
@[simp] theorem mAtt_ap (ok : Str → Str → Bool) (m mo : M D) (f : Str) (s : S) : mAtt ok m mo f s = (m s).bd fun v s1 => (mo s1).bd fun d s2 => (mPutF ok d v f s2).bd fun _ s3 => .ok .nx s3 := rfl
@[simp] theorem mAsg_ap (m : M D) (g : D → M Unit) (s : S) : mAsg m g s = (m s).bd fun d s1 => (g d s1).bd fun _ s2 => .ok .nx s2 := rfl
@[simp] theorem gsNil_ap (s : S) : gsNil [] s = .ok () s := rfl
@[simp] theorem gsCons_ap (g : D → M Unit) (gs : List D → M Unit) (d : D) (ds : List D) (s : S) : gsCons g gs (d :: ds) s = (g d s).bd fun _ s1 => gs ds s1 := rfl
@[simp] theorem gTup_ap (n : Nat) (gs : List D → M Unit) (ds : List D) (s : S) (h : ds.length = n) : gTupD n gs (.tup ds) s = gs ds s := by
  show (if ds.length = n then gs ds else stuck) s = _
  rw [if_pos h]
@[simp] theorem gLst_ap (n : Nat) (gs : List D → M Unit) (ds : List D) (s : S) (h : ds.length = n) : gTupD n gs (.lst ds) s = gs ds s := by
  show (if ds.length = n then gs ds else stuck) s = _
  rw [if_pos h]
def seq2 (n : M Fl) (f : Fl) (s : S) : Res Fl := match f with
  | .nx => n s
  | f => .ok f s
@[simp] theorem seq2_nx (n : M Fl) (s : S) : seq2 n .nx s = n s := rfl
@[simp] theorem seq2_rt (n : M Fl) (r : Rz) (s : S) : seq2 n (.rt r) s = .ok (.rt r) s := rfl
@[simp] theorem seq2_bk (n : M Fl) (s : S) : seq2 n .bk s = .ok .bk s := rfl
@[simp] theorem seq2_ct (n : M Fl) (s : S) : seq2 n .ct s = .ok .ct s := rfl
@[simp] theorem mSeq_ap (m n : M Fl) (s : S) : mSeq m n s = (m s).bd fun f s1 => seq2 n f s1 := by
  show (m s).bd _ = _
  congr 1; funext f s1; cases f <;> rfl
/-! operations on data -/
@[simp] theorem dAdd_i (i j : Int) : dAdd (.int i) (.int j) = some (.dat (.int (i + j))) := rfl
@[simp] theorem dSub_i (i j : Int) : dSub (.int i) (.int j) = some (.dat (.int (i - j))) := rfl
@[simp] theorem dEq_i (i j : Int) : dEq (.int i) (.int j) = some (.dat (.bl (decide (i = j)))) := rfl
@[simp] theorem dNe_i (i j : Int) : dNe (.int i) (.int j) = some (.dat (.bl (!decide (i = j)))) := rfl
@[simp] theorem dEq_s (i j : Str) : dEq (.str i) (.str j) = some (.dat (.bl (decide (i = j)))) := rfl
@[simp] theorem dEq_b (i j : Bool) : dEq (.bl i) (.bl j) = some (.dat (.bl (decide (i = j)))) := rfl
@[simp] theorem dNe_b (i j : Bool) : dNe (.bl i) (.bl j) = some (.dat (.bl (!decide (i = j)))) := rfl
@[simp] theorem dLt_i (i j : Int) : dLt (.int i) (.int j) = some (.dat (.bl (decide (i < j)))) := rfl
@[simp] theorem dLe_i (i j : Int) : dLe (.int i) (.int j) = some (.dat (.bl (decide (i ≤ j)))) := rfl
@[simp] theorem dGt_i (i j : Int) : dGt (.int i) (.int j) = some (.dat (.bl (decide (j < i)))) := rfl
@[simp] theorem dGe_i (i j : Int) : dGe (.int i) (.int j) = some (.dat (.bl (decide (j ≤ i)))) := rfl
theorem dMul_1 {i j : Int} (h : -18446744073709551616 < j ∧ j < 18446744073709551616) : dMul (.int i) (.int j) = some (.dat (.int (i * j))) := if_pos (.inr (by omega))
theorem dMul_0 {i j : Int} (h : -18446744073709551616 < i ∧ i < 18446744073709551616) : dMul (.int i) (.int j) = some (.dat (.int (i * j))) := if_pos (.inl (by omega))
theorem dDiv_i {i j : Int} (h : 0 < j) (h2 : j < 1073741824) : dDiv (.int i) (.int j) = some (.dat (.int (i / j))) := by
  show (if j ≠ 0 ∧ j.natAbs < 1073741824 then some (Rz.dat (.int (i.fdiv j))) else none) = _
  rw [if_pos ⟨by omega, by omega⟩, Int.fdiv_eq_ediv_of_nonneg i (by omega)]
theorem dMod_i {i j : Int} (h : 0 < j) : dMod (.int i) (.int j) = some (.dat (.int (i % j))) := by
  show (if j ≠ 0 then some (Rz.dat (.int (i.fmod j))) else none) = _
  rw [if_pos (by omega), Int.fmod_eq_emod_of_nonneg i (by omega)]
@[simp] theorem dIs_nn : dIs .non .non = some (.dat (.bl true)) := rfl
@[simp] theorem dIsNot_nn : dIsNot .non .non = some (.dat (.bl false)) := rfl
@[simp] theorem dIs_t (xs : List D) : dIs (.tup xs) .non = some (.dat (.bl false)) := rfl
@[simp] theorem dIsNot_t (xs : List D) : dIsNot (.tup xs) .non = some (.dat (.bl true)) := rfl
@[simp] theorem dIs_i (i : Int) : dIs (.int i) .non = some (.dat (.bl false)) := rfl
@[simp] theorem dIsNot_i (i : Int) : dIsNot (.int i) .non = some (.dat (.bl true)) := rfl
@[simp] theorem dIs_d (xs : List (D × D)) : dIs (.dct xs) .non = some (.dat (.bl false)) := rfl
@[simp] theorem dIsNot_d (xs : List (D × D)) : dIsNot (.dct xs) .non = some (.dat (.bl true)) := rfl
@[simp] theorem dIs_l (xs : List D) : dIs (.lst xs) .non = some (.dat (.bl false)) := rfl
@[simp] theorem gLen_l (xs : List D) : gLen [.lst xs] = some (.dat (.int xs.length)) := rfl
@[simp] theorem gLen_t (xs : List D) : gLen [.tup xs] = some (.dat (.int xs.length)) := rfl
@[simp] theorem gLen_d (xs : List (D × D)) : gLen [.dct xs] = some (.dat (.int xs.length)) := rfl
@[simp] theorem gInt_i (i : Int) : gInt [.int i] = some (.dat (.int i)) := rfl
@[simp] theorem gInt_b (b : Bool) : gInt [.bl b] = some (.dat (.int (if b then 1 else 0))) := rfl
@[simp] theorem gList_l (xs : List D) : gList [.lst xs] = some (.own (.lst xs)) := rfl
@[simp] theorem gList_t (xs : List D) : gList [.tup xs] = some (.own (.lst xs)) := rfl
@[simp] theorem gTuple_l (xs : List D) : gTuple [.lst xs] = some (.dat (.tup xs)) := rfl
@[simp] theorem tru_n : dTruth .non = some false := rfl
@[simp] theorem tru_b (b : Bool) : dTruth (.bl b) = some b := rfl
@[simp] theorem tru_i (i : Int) : dTruth (.int i) = some (i != 0) := rfl
@[simp] theorem tru_l (xs : List D) : dTruth (.lst xs) = some (!xs.isEmpty) := rfl
@[simp] theorem get_l (xs : List D) (i : Int) : dGet (.lst xs) (.int i) = atI xs i := rfl
@[simp] theorem get_t (xs : List D) (i : Int) : dGet (.tup xs) (.int i) = atI xs i := rfl
theorem atI_nn {α : Type} {xs : List α} {i : Nat} : atI xs ((i : Nat) : Int) = xs[i]? := by
  unfold atI ixN
  rw [if_pos (Int.natCast_nonneg i)]
  by_cases h : i < xs.length
  · rw [if_pos (by omega)]; simp
  · rw [if_neg (by omega), List.getElem?_eq_none (by omega)]; rfl
@[simp] theorem atI_0 {α : Type} {xs : List α} : atI xs 0 = xs[0]? := atI_nn (i := 0)
@[simp] theorem atI_1 {α : Type} {xs : List α} : atI xs 1 = xs[1]? := atI_nn (i := 1)
@[simp] theorem atI_2 {α : Type} {xs : List α} : atI xs 2 = xs[2]? := atI_nn (i := 2)
@[simp] theorem atI_3 {α : Type} {xs : List α} : atI xs 3 = xs[3]? := atI_nn (i := 3)
@[simp] theorem isi_ii (i : Int) : dIsi .int (.int i) = some true := rfl
@[simp] theorem isi_in : dIsi .int .non = some false := rfl
@[simp] theorem isi_bi (i : Int) : dIsi .bool (.int i) = some false := rfl
@[simp] theorem isi_tt (i : List D) : dIsi .tuple (.tup i) = some true := rfl
@[simp] theorem isi_ll (i : List D) : dIsi .list (.lst i) = some true := rfl
end Vl
set_option Elab.async false
set_option linter.all false
set_option maxRecDepth 100000
set_option maxHeartbeats 4000000
/-! V26: loops, comprehensions, changes in place, instances: run by rewriting -/
namespace Vl
open PySem PySem.Spec PyProof.Rows L2

/-! ### changes in place -/
@[simp] theorem tgOf_slot (i : Nat) (env : List (Option Rz)) (sto : List Box) : tgOf (.slot i) ⟨env, sto⟩ = match env[i]? with
    | some (some (.own _)) => some (.slot i)
    | some (some (.dat d)) => tgD d
    | _ => none := rfl
@[simp] theorem tgOf_dat (d : D) (s : S) : tgOf (.dat d) s = tgD d := rfl
@[simp] theorem tgD_box (k : Nat) : tgD (.box k) = some (.box k) := rfl
@[simp] theorem getT_slot (i : Nat) (env : List (Option Rz)) (sto : List Box) : getT (.slot i) ⟨env, sto⟩ = match env[i]? with
    | some (some (.own b)) => some b
    | _ => none := rfl
@[simp] theorem getT_box (k : Nat) (env : List (Option Rz)) (sto : List Box) : getT (.box k) ⟨env, sto⟩ = sto[k]? := rfl
@[simp] theorem putT_slot (i : Nat) (b : Box) (env : List (Option Rz)) (sto : List Box) : putT (.slot i) b ⟨env, sto⟩ = ⟨env.set i (some (.own b)), sto⟩ := rfl
@[simp] theorem putT_box (k : Nat) (b : Box) (env : List (Option Rz)) (sto : List Box) : putT (.box k) b ⟨env, sto⟩ = ⟨env, sto.set k b⟩ := rfl
def mut3 (o : Option (List D × D)) (t : Tg) (s : S) : Res D := match o with
  | some (ys, d) => .ok d (putT t (.lst ys) s)
  | none => .stuck
def mut2 (g : GM) (ds : List D) (o : Option Box) (t : Tg) (s : S) : Res D := match o with
  | some (.lst xs) => mut3 (g xs ds) t s
  | _ => .stuck
def mut1 (ma : M (List D)) (g : GM) (o : Option Box) (t : Tg) (s : S) : Res D := match o with
  | some (.lst _) => (ma s).bd fun ds s2 => mut2 g ds (getT t s2) t s2
  | _ => .stuck
def mut0 (ma : M (List D)) (g : GM) (o : Option Tg) (s : S) : Res D := match o with
  | some t => mut1 ma g (getT t s) t s
  | none => .stuck
@[simp] theorem mut3_s (ys : List D) (d : D) (t : Tg) (s : S) : mut3 (some (ys, d)) t s = .ok d (putT t (.lst ys) s) := rfl
@[simp] theorem mut2_s (g : GM) (ds xs : List D) (t : Tg) (s : S) : mut2 g ds (some (.lst xs)) t s = mut3 (g xs ds) t s := rfl
@[simp] theorem mut1_s (ma : M (List D)) (g : GM) (xs : List D) (t : Tg) (s : S) : mut1 ma g (some (.lst xs)) t s = (ma s).bd fun ds s2 => mut2 g ds (getT t s2) t s2 := rfl
@[simp] theorem mut0_s (ma : M (List D)) (g : GM) (t : Tg) (s : S) : mut0 ma g (some t) s = mut1 ma g (getT t s) t s := rfl
@[simp] theorem mMut_ap (mo : M Ref) (ma : M (List D)) (g : GM) (s : S) : mMut mo ma g s = (mo s).bd fun rf s1 => mut0 ma g (tgOf rf s1) s1 := by
  show (mo s).bd _ = _
  congr 1; funext rf s1
  unfold mut0
  show (match tgOf rf s1 with
    | some t => (match getT t s1 with
      | some (.lst _) => (do
        let ds ← ma
        let s ← getS
        match getT t s with
        | some (.lst xs) => match g xs ds with
          | some (ys, d) => (do
            let _ ← setS (putT t (.lst ys) s)
            Pure.pure d : M D)
          | none => stuck
        | _ => stuck)
      | _ => stuck)
    | none => stuck : M D) s1 = _
  cases tgOf rf s1 with
  | none => rfl
  | some t =>
    show (match getT t s1 with
      | some (.lst _) => (do
        let ds ← ma
        let s ← getS
        match getT t s with
        | some (.lst xs) => match g xs ds with
          | some (ys, d) => (do
            let _ ← setS (putT t (.lst ys) s)
            Pure.pure d : M D)
          | none => stuck
        | _ => stuck)
      | _ => stuck : M D) s1 = mut1 ma g (getT t s1) t s1
    generalize getT t s1 = o
    cases o with
    | none => rfl
    | some b => cases b with
      | lst xs =>
        show (ma s1).bd (fun ds s2 => (match getT t s2 with
        | some (.lst xs) => match g xs ds with
          | some (ys, d) => (do
            let _ ← setS (putT t (.lst ys) s2)
            Pure.pure d : M D)
          | none => stuck
        | _ => stuck) s2) = (ma s1).bd fun ds s2 => mut2 g ds (getT t s2) t s2
        congr 1; funext ds s2
        generalize getT t s2 = o2
        cases o2 with
        | none => rfl
        | some b => cases b with
          | lst ys =>
            show (match g ys ds with
              | some (ys, d) => (do
                let _ ← setS (putT t (.lst ys) s2)
                Pure.pure d : M D)
              | none => stuck) s2 = mut3 (g ys ds) t s2
            generalize g ys ds = o3
            cases o3 with
            | none => rfl
            | some q => rfl
          | _ => rfl
      | _ => rfl
def sto3 (o : Option Box) (t : Tg) (s : S) : Res Unit := match o with
  | some b' => .ok () (putT t b' s)
  | none => .stuck
def sto2 (x d : D) (o : Option Box) (t : Tg) (s : S) : Res Unit := match o with
  | some b => sto3 (putAt b x d) t s
  | none => .stuck
def sto1 (x d : D) (o : Option Tg) (s : S) : Res Unit := match o with
  | some t => sto2 x d (getT t s) t s
  | none => .stuck
@[simp] theorem sto3_s (b : Box) (t : Tg) (s : S) : sto3 (some b) t s = .ok () (putT t b s) := rfl
@[simp] theorem sto2_s (x d : D) (b : Box) (t : Tg) (s : S) : sto2 x d (some b) t s = sto3 (putAt b x d) t s := rfl
@[simp] theorem sto1_s (x d : D) (t : Tg) (s : S) : sto1 x d (some t) s = sto2 x d (getT t s) t s := rfl
@[simp] theorem mStore_ap (mo mi : M Ref) (d : D) (s : S) : mStore mo mi d s = (mo s).bd fun ro s1 => (mi s1).bd fun ri s2 => (lk (deref ri s2) s2).bd fun x s3 => sto1 x d (tgOf ro s3) s3 := by
  show (mo s).bd _ = _
  congr 1; funext ro s1
  show (mi s1).bd _ = _
  congr 1; funext ri s2
  show (lk (deref ri s2) s2).bd _ = _
  congr 1; funext x s3
  show (match tgOf ro s3 with
    | some t => (match getT t s3 with
      | some b => (match putAt b x d with
        | some b' => setS (putT t b' s3)
        | none => stuck)
      | none => stuck)
    | none => stuck : M Unit) s3 = _
  cases tgOf ro s3 with
  | none => rfl
  | some t =>
    show (match getT t s3 with
      | some b => (match putAt b x d with
        | some b' => setS (putT t b' s3)
        | none => stuck)
      | none => stuck : M Unit) s3 = sto2 x d (getT t s3) t s3
    generalize getT t s3 = o
    cases o with
    | none => rfl
    | some b =>
      show (match putAt b x d with
        | some b' => setS (putT t b' s3)
        | none => stuck : M Unit) s3 = sto3 (putAt b x d) t s3
      generalize putAt b x d = o2
      cases o2 <;> rfl
theorem gAppend_ok {xs : List D} {y : D} (h : xs.length < sizeLine) : gAppend xs [y] = some (xs ++ [y], .non) := if_pos h
@[simp] theorem gPop_0 (xs : List D) (y : D) : gPop (xs ++ [y]) [] = some (xs, y) := by
  show ((xs ++ [y])[(xs ++ [y]).length - 1]?).map (fun y' => ((xs ++ [y]).dropLast, y')) = _
  simp

/-! ### instances -/
def fld2 (ok : Str → Str → Bool) (f : Str) (o : Option (Str × Option D)) (s : S) : Res D := match o with
  | some (C, some v) => if ok C f = true then .ok v s else .stuck
  | _ => .stuck
@[simp] theorem fld2_s (ok : Str → Str → Bool) (f C : Str) (v : D) (s : S) (h : ok C f = true) : fld2 ok f (some (C, some v)) s = .ok v s := if_pos h
@[simp] theorem mFld_ap (ok : Str → Str → Bool) (mo : M D) (f : Str) (s : S) : mFld ok mo f s = (mo s).bd fun d s1 => fld2 ok f (dField s1 d f) s1 := by
  show (mo s).bd _ = _
  congr 1; funext d s1
  show (match dField s1 d f with
  | some (C, some v) => if ok C f = true then (Pure.pure v : M D) else stuck
  | _ => stuck) s1 = _
  generalize dField s1 d f = o
  cases o with
  | none => rfl
  | some q =>
    obtain ⟨C, o⟩ := q
    cases o with
    | none => rfl
    | some v =>
      show (if ok C f = true then (Pure.pure v : M D) else stuck) s1 = if ok C f = true then .ok v s1 else .stuck
      split <;> rfl
/-- an instance in the store -/
theorem dField_box {env : List (Option Rz)} {sto : List Box} {k : Nat} {f C : Str} {gs : List (Str × D)} (h : sto[k]? = some (.ins C gs)) : dField ⟨env, sto⟩ (.box k) f = some (C, gs.lookup f) := by
  show (match sto[k]? with
    | some (.ins C gs) => some (C, gs.lookup f)
    | _ => none) = _
  rw [h]
def meth3 (fn : FV) (df : List D) (d : D) (ma : M (List D)) (s : S) : Res Rz := (ma s).bd fun ds s1 => mRun fn (d :: (ds ++ df)) s1
def meth2 (mt : MTab) (d : D) (m : Str) (n : Nat) (ma : M (List D)) (o : Option (Str × Option D)) (s : S) : Res Rz := match o with
  | some (C, none) => (match mt C m n with
    | some (fn, df) => meth3 fn df d ma s
    | none => .stuck)
  | _ => .stuck
theorem meth2_s {mt : MTab} {d : D} {m : Str} {n : Nat} {ma : M (List D)} {C : Str} {s : S} {fn : FV} {df : List D} (h : mt C m n = some (fn, df)) : meth2 mt d m n ma (some (C, none)) s = (ma s).bd fun ds s1 => mRun fn (d :: (ds ++ df)) s1 := by
  show (match mt C m n with
    | some (fn, df) => meth3 fn df d ma s
    | none => .stuck) = _
  rw [h]; rfl
@[simp] theorem mMeth_ap (mt : MTab) (mo : M D) (m : Str) (n : Nat) (ma : M (List D)) (s : S) : mMeth mt mo m n ma s = (mo s).bd fun d s1 => meth2 mt d m n ma (dField s1 d m) s1 := by
  show (mo s).bd _ = _
  congr 1; funext d s1
  show (match dField s1 d m with
  | some (C, none) => (match mt C m n with
    | some (fn, df) => (do
      let ds ← ma
      mRun fn (d :: (ds ++ df)))
    | none => stuck)
  | _ => stuck : M Rz) s1 = _
  generalize dField s1 d m = o
  cases o with
  | none => rfl
  | some q =>
    obtain ⟨C, o⟩ := q
    cases o with
    | some v => rfl
    | none =>
      show (match mt C m n with
        | some (fn, df) => (do
          let ds ← ma
          mRun fn (d :: (ds ++ df)))
        | none => stuck : M Rz) s1 = (match mt C m n with
        | some (fn, df) => meth3 fn df d ma s1
        | none => .stuck)
      generalize mt C m n = o2
      cases o2 <;> rfl
theorem putF_box {ok : Str → Str → Bool} {env : List (Option Rz)} {sto : List Box} {k : Nat} {f C : Str} {v : D} {gs : List (Str × D)} (h : sto[k]? = some (.ins C gs)) (h1 : ok C f = true) (h2 : gs.length < 1000) : mPutF ok (.box k) v f ⟨env, sto⟩ = .ok () ⟨env, sto.set k (.ins C (putG f v gs))⟩ := by
  show (match sto[k]? with
    | some (.ins C gs) => if ok C f = true ∧ gs.length < 1000 then Res.ok () { (⟨env, sto⟩ : S) with sto := sto.set k (.ins C (putG f v gs)) } else .stuck
    | _ => .stuck) = _
  rw [h]
  exact if_pos ⟨h1, h2⟩
def mk2 (r : Rz) (k : Nat) (s : S) : Res Rz := match r with
  | .dat .non => .ok (.dat (.box k)) s
  | _ => .stuck
@[simp] theorem mk2_s (k : Nat) (s : S) : mk2 (.dat .non) k s = .ok (.dat (.box k)) s := rfl
@[simp] theorem mMake_ap (C : Str) (fn : FV) (m : M (List D)) (df : List D) (s : S) : mMake C fn m df s = (m s).bd fun ds s1 => (mRun fn (.box s1.sto.length :: (ds ++ df)) ⟨s1.env, s1.sto ++ [.ins C []]⟩).bd fun r s2 => mk2 r s1.sto.length s2 := by
  show (m s).bd _ = _
  congr 1; funext ds s1
  show (mRun fn (.box s1.sto.length :: (ds ++ df)) ⟨s1.env, s1.sto ++ [.ins C []]⟩).bd _ = _
  congr 1; funext r s2
  cases r with
  | own b => rfl
  | dat d => cases d <;> rfl

/-! ### sources that stay -/
def Src.items : Src → Option (List D)
  | .seq xs => some xs
  | .live _ => none
  | .rng lo c n => some ((List.range n).map fun i => .int (lo + (i : Nat) * c))
  | .keys kvs => some (kvs.map (·.1))
  | .chars _ => none
theorem items_at {src : Src} {xs : List D} (h : src.items = some xs) (s : S) (i : Nat) : src.at_ s i = xs[i]? ∧ src.fin s i = decide (xs.length ≤ i) := by
  cases src with
  | seq ys => cases h; exact ⟨rfl, rfl⟩
  | live k => cases h
  | rng lo c n =>
    cases h
    refine ⟨?_, by show decide (n ≤ i) = _; rw [List.length_map, List.length_range]⟩
    show (if i < n then some (D.int (lo + (i : Nat) * c)) else none) = _
    by_cases hi : i < n
    · rw [if_pos hi]; simp [hi]
    · rw [if_neg hi]; simp [hi]
  | keys kvs =>
    cases h
    exact ⟨by show (kvs[i]?).map (·.1) = _; rw [List.getElem?_map], by show decide (kvs.length ≤ i) = _; rw [List.length_map]⟩
  | chars x => cases h
theorem items_fuel {src : Src} {xs : List D} (h : src.items = some xs) (L : Nat) : src.fuel L = xs.length := by
  cases src with
  | seq ys => cases h; rfl
  | live k => cases h
  | rng lo c n => cases h; show n = _; rw [List.length_map, List.length_range]
  | keys kvs => cases h; show kvs.length = _; rw [List.length_map]
  | chars x => cases h
@[simp] theorem srcOf_l (xs : List D) (s : S) : srcOf (.lst xs) s = .ok (.seq xs) s := rfl
@[simp] theorem srcOf_t (xs : List D) (s : S) : srcOf (.tup xs) s = .ok (.seq xs) s := rfl
@[simp] theorem srcOf_d (xs : List (D × D)) (s : S) : srcOf (.dct xs) s = .ok (.keys xs) s := rfl
@[simp] theorem mRng_ap (m : M (List D)) (s : S) : mRng m s = (m s).bd fun ds s1 => orStuck (rngOf ds) s1 := rfl
theorem rng1 {j : Nat} (h : j < 4611686018427387904) : rngOf [.int (j : Nat)] = some (.rng 0 1 j) := by
  unfold rngOf
  simp only []
  rw [if_pos (by omega), Int.toNat_natCast]

/-! ### for -/
def fl2 (k : S → Res Fl) (f : Fl) (s : S) : Res Fl := match f with
  | .nx => k s
  | .ct => k s
  | .bk => .ok .nx s
  | .rt r => .ok (.rt r) s
@[simp] theorem fl2_nx (k : S → Res Fl) (s : S) : fl2 k .nx s = k s := rfl
@[simp] theorem fl2_ct (k : S → Res Fl) (s : S) : fl2 k .ct s = k s := rfl
@[simp] theorem fl2_bk (k : S → Res Fl) (s : S) : fl2 k .bk s = .ok .nx s := rfl
@[simp] theorem fl2_rt (k : S → Res Fl) (r : Rz) (s : S) : fl2 k (.rt r) s = .ok (.rt r) s := rfl
def eachF (g : D → M Unit) (body : M Fl) : List D → S → Res Fl
  | [], s => .ok .nx s
  | d :: ds, s => (g d s).bd fun _ s1 => (body s1).bd fun f s2 => fl2 (eachF g body ds) f s2
theorem loop_each {src : Src} {xs : List D} (h : src.items = some xs) (g : D → M Unit) (body : M Fl) : ∀ (n i : Nat) (s : S), n + i = xs.length → mLoop src g body n i s = eachF g body (xs.drop i) s
  | 0, i, s, e => by
    have : xs.drop i = [] := List.drop_eq_nil_of_le (by omega)
    rw [this]
    show (if src.fin s i = true then Res.ok Fl.nx s else .stuck) = _
    rw [(items_at h s i).2, if_pos (by simp; omega)]
    rfl
  | n + 1, i, s, e => by
    have hi : i < xs.length := by omega
    rw [List.drop_eq_getElem_cons hi]
    show (if src.fin s i = true then Res.ok Fl.nx s else match src.at_ s i with
      | none => .stuck
      | some d => (do
        g d
        match ← body with
        | .nx => mLoop src g body n (i + 1)
        | .ct => mLoop src g body n (i + 1)
        | .bk => Pure.pure .nx
        | .rt r => Pure.pure (.rt r) : M Fl) s) = _
    rw [(items_at h s i).2, if_neg (by simp; omega), (items_at h s i).1, List.getElem?_eq_getElem hi]
    show (g xs[i] s).bd (fun _ s1 => (body s1).bd fun f s2 => (match f with
        | .nx => mLoop src g body n (i + 1)
        | .ct => mLoop src g body n (i + 1)
        | .bk => Pure.pure .nx
        | .rt r => Pure.pure (.rt r) : M Fl) s2) = (g xs[i] s).bd fun _ s1 => (body s1).bd fun f s2 => fl2 (eachF g body (xs.drop (i + 1))) f s2
    congr 1; funext _ s1
    congr 1; funext f s2
    cases f with
    | nx => exact loop_each h g body n (i + 1) s2 (by omega)
    | ct => exact loop_each h g body n (i + 1) s2 (by omega)
    | bk => rfl
    | rt r => rfl
theorem mFor_ap {L : Nat} {mi : M Src} {g : D → M Unit} {body : M Fl} {s s1 : S} {src : Src} {xs : List D} (h : mi s = .ok src s1) (hx : src.items = some xs) : mFor L mi g body s = eachF g body xs s1 := by
  show (mi s).bd (fun src s1 => mLoop src g body (src.fuel L) 0 s1) = _
  rw [h, bd_ok, items_fuel hx, loop_each hx g body xs.length 0 s1 (by omega), List.drop_zero]

/-! ### comprehensions -/
/-- one turn: the new item, if any -/
def elt1 (vs : List Nat) (g : D → M Unit) (ifs : M Bool) (elt : M D) (d : D) (s : S) : Res (Option D) := (g d ⟨wipeE vs s.env, s.sto⟩).bd fun _ s1 => (ifs s1).bd fun b s2 => if b = true then (elt s2).bd fun e s3 => .ok (some e) s3 else .ok none s2
def optL {α : Type} : Option α → List α
  | some a => [a]
  | none => []
theorem turn1_elt {vs : List Nat} {g : D → M Unit} {ifs : M Bool} {elt : M D} {d : D} {acc : List D} {s s' : S} {o : Option D} (h : elt1 vs g ifs elt d s = .ok o s') (hz : acc.length < sizeLine) : turn1 vs g ifs elt d acc s = .ok (acc ++ optL o) s' := by
  unfold elt1 at h
  show (g d ⟨wipeE vs s.env, s.sto⟩).bd (fun _ s1 => (ifs s1).bd fun b s2 => (if b = true then lcPut elt acc else Pure.pure acc) s2) = _
  cases e1 : g d ⟨wipeE vs s.env, s.sto⟩ with
  | exn x s => rw [e1] at h; cases h
  | stuck => rw [e1] at h; cases h
  | ok u s1 =>
    rw [e1, bd_ok] at h
    rw [bd_ok]
    cases e2 : ifs s1 with
    | exn x s => rw [e2] at h; cases h
    | stuck => rw [e2] at h; cases h
    | ok b s2 =>
      rw [e2, bd_ok] at h
      rw [bd_ok]
      cases b with
      | false =>
        rw [if_neg Bool.false_ne_true] at h ⊢
        cases h
        show Res.ok acc s' = _
        rw [show acc ++ optL (none : Option D) = acc from List.append_nil acc]
      | true =>
        rw [if_pos rfl] at h ⊢
        show (elt s2).bd (fun e s3 => (if acc.length < sizeLine then (Pure.pure (acc ++ [e]) : M (List D)) else stuck) s3) = _
        cases e3 : elt s2 with
        | exn x s => rw [e3] at h; cases h
        | stuck => rw [e3] at h; cases h
        | ok e s3 =>
          rw [e3, bd_ok] at h
          rw [bd_ok, if_pos hz]
          cases h
          rfl
/-- the results of the turns, one behind another -/
theorem lc_gen {src : Src} {xs : List D} (hx : src.items = some xs) {vs : List Nat} {g : D → M Unit} {ifs : M Bool} {elt : M D} {I : Nat → S → Prop} {Q : Nat → D → Option D → Prop}
    (h : ∀ i d s, xs[i]? = some d → I i s → ∃ o s', elt1 vs g ifs elt d s = .ok o s' ∧ Q i d o ∧ I (i + 1) s') :
    ∀ (n i : Nat) (acc : List D) (s : S), n + i = xs.length → acc.length + n < sizeLine → I i s → ∃ (os : List (Option D)) (s' : S), lcLoop src (turn1 vs g ifs elt) n i acc s = .ok (acc ++ os.flatMap optL) s' ∧ os.length = n ∧ (∀ j o, os[j]? = some o → ∃ d, xs[i + j]? = some d ∧ Q (i + j) d o) ∧ I xs.length s'
  | 0, i, acc, s, e, hz, hI => by
    refine ⟨[], s, ?_, rfl, (fun j o q => by cases q), (by rw [← e, Nat.zero_add]; exact hI)⟩
    show (if src.fin s i = true then Res.ok acc s else .stuck) = _
    rw [(items_at hx s i).2, if_pos (by simp; omega)]
    simp
  | n + 1, i, acc, s, e, hz, hI => by
    have hi : i < xs.length := by omega
    obtain ⟨o, s1, e1, q1, I1⟩ := h i xs[i] s (List.getElem?_eq_getElem hi) hI
    have ht := turn1_elt (acc := acc) e1 (by omega)
    have hl : (acc ++ optL o).length + n < sizeLine := by
      cases o with
      | none => simp [optL]; omega
      | some a => simp [optL]; omega
    obtain ⟨os, s2, e2, l2, q2, I2⟩ := lc_gen hx h n (i + 1) (acc ++ optL o) s1 (by omega) hl I1
    refine ⟨o :: os, s2, ?_, by simp [l2], fun j o' q => ?_, I2⟩
    · show (if src.fin s i = true then Res.ok acc s else match src.at_ s i with
        | none => .stuck
        | some d => (do
          let acc' ← turn1 vs g ifs elt d acc
          lcLoop src (turn1 vs g ifs elt) n (i + 1) acc' : M (List D)) s) = _
      rw [(items_at hx s i).2, if_neg (by simp; omega), (items_at hx s i).1, List.getElem?_eq_getElem hi]
      show (turn1 vs g ifs elt xs[i] acc s).bd (fun acc' s' => lcLoop src (turn1 vs g ifs elt) n (i + 1) acc' s') = _
      rw [ht, bd_ok, e2, List.flatMap_cons, List.append_assoc]
    · cases j with
      | zero => cases q; exact ⟨xs[i], List.getElem?_eq_getElem hi, q1⟩
      | succ j =>
        obtain ⟨d, a, b⟩ := q2 j o' q
        refine ⟨d, ?_, ?_⟩
        · rw [← a]; congr 1; omega
        · have : i + (j + 1) = i + 1 + j := by omega
          rw [this]; exact b
theorem mLc_gen {L : Nat} {src : Src} {xs : List D} {vs : List Nat} {mi : M Src} {g : D → M Unit} {ifs : M Bool} {elt : M D} {s s1 : S} {I : Nat → S → Prop} {Q : Nat → D → Option D → Prop} (hm : mi s = .ok src s1) (hx : src.items = some xs) (hz : xs.length < sizeLine) (hno : noOwn vs s1 = true)
    (h0 : I 0 s1) (h : ∀ i d s, xs[i]? = some d → I i s → ∃ o s', elt1 vs g ifs elt d s = .ok o s' ∧ Q i d o ∧ I (i + 1) s') :
    ∃ (os : List (Option D)) (s2 : S), mLc L vs mi (turn1 vs g ifs elt) s = .ok (.own (.lst (os.flatMap optL))) ⟨backE vs s1.env (wipeE vs s2.env), s2.sto⟩ ∧ os.length = xs.length ∧ (∀ (j : Nat) o, os[j]? = some o → ∃ d, xs[j]? = some d ∧ Q j d o) ∧ I xs.length s2 := by
  obtain ⟨os, s2, e, l, q, I2⟩ := lc_gen hx h xs.length 0 [] s1 (by omega) (by simpa using hz) h0
  refine ⟨os, s2, ?_, l, fun j o p => by simpa using q j o p, I2⟩
  show (mi s).bd (fun src s0 => (if noOwn vs s0 = true then (do
    let acc ← lcLoop src (turn1 vs g ifs elt) (src.fuel L) 0 []
    let _ ← backM vs s0.env
    Pure.pure (.own (.lst acc)) : M Rz) else stuck) s0) = _
  rw [hm, bd_ok, if_pos hno]
  show (lcLoop src (turn1 vs g ifs elt) (src.fuel L) 0 [] s1).bd (fun acc s' => Res.ok (Rz.own (.lst acc)) ⟨backE vs s1.env (wipeE vs s'.env), s'.sto⟩) = _
  rw [items_fuel hx, e, bd_ok, List.nil_append]
/-- where the store stays and each item is told by F -/
theorem mLc_pure {L : Nat} {src : Src} {xs : List D} {vs : List Nat} {mi : M Src} {g : D → M Unit} {ifs : M Bool} {elt : M D} {s : S} {env : List (Option Rz)} {sto : List Box} {E : List (Option Rz)} (F : D → Option D) (hm : mi s = .ok src ⟨env, sto⟩) (hx : src.items = some xs) (hz : xs.length < sizeLine)
    (hno : noOwn vs ⟨env, sto⟩ = true) (hE : wipeE vs env = E) (h : ∀ d ∈ xs, ∃ env', ((g d ⟨E, sto⟩).bd fun _ s1 => (ifs s1).bd fun b s2 => if b = true then (elt s2).bd fun e s3 => .ok (some e) s3 else .ok none s2) = .ok (F d) ⟨env', sto⟩ ∧ wipeE vs env' = E) :
    mLc L vs mi (turn1 vs g ifs elt) s = .ok (.own (.lst (xs.filterMap F))) ⟨backE vs env E, sto⟩ := by
  obtain ⟨os, s2, e, l, q, i1, i2⟩ := mLc_gen (L := L) (I := fun _ s => wipeE vs s.env = E ∧ s.sto = sto) (Q := fun _ d o => o = F d) hm hx hz hno ⟨hE, rfl⟩ (fun i d s hi ⟨a, b⟩ => by
    obtain ⟨env', p1, p2⟩ := h d (List.mem_of_getElem? hi)
    refine ⟨F d, ⟨env', sto⟩, ?_, rfl, p2, rfl⟩
    unfold elt1
    rw [a, b]
    exact p1)
  rw [e, i1, i2]
  have : os.flatMap optL = xs.filterMap F := by
    have e2 : os = xs.map F := by
      refine List.ext_getElem? fun j => ?_
      rw [List.getElem?_map]
      cases ho : os[j]? with
      | none => rw [List.getElem?_eq_none (by rw [← l]; exact List.getElem?_eq_none_iff.mp ho)]; rfl
      | some o =>
        obtain ⟨d, a, b⟩ := q j o ho
        rw [a, b]; rfl
    rw [e2]
    clear e2 q l e h hz hx
    induction xs with
    | nil => rfl
    | cons x xs ih =>
      rw [List.map_cons, List.flatMap_cons, ih, List.filterMap_cons]
      cases F x <;> rfl
  rw [this]
end Vl
set_option Elab.async false
set_option linter.all false
set_option maxRecDepth 100000
set_option maxHeartbeats 4000000
/-! V27: comprehensions over what is told by an index -/
namespace Vl
open PySem PySem.Spec PyProof.Rows L2
theorem mLc_m {α : Type} {L : Nat} {src : Src} {vs : List Nat} {mi : M Src} {g : D → M Unit} {ifs : M Bool} {elt : M D} {env env1 : List (Option Rz)} {sto : List Box} (ys : List α) (hh : α → D) (F : α → Option D) (hm : mi ⟨env, sto⟩ = .ok src ⟨env1, sto⟩) (hx : src.items = some (ys.map hh)) (hz : ys.length < 10000)
    (hno : noOwn vs ⟨env1, sto⟩ = true) (h : ∀ y ∈ ys, ∃ env', ((g (hh y) ⟨wipeE vs env1, sto⟩).bd fun _ s1 => (ifs s1).bd fun b s2 => if b = true then (elt s2).bd fun e s3 => .ok (some e) s3 else .ok none s2) = .ok (F y) ⟨env', sto⟩ ∧ wipeE vs env' = wipeE vs env1) :
    mLc L vs mi (turn1 vs g ifs elt) ⟨env, sto⟩ = .ok (.own (.lst (ys.filterMap F))) ⟨backE vs env1 (wipeE vs env1), sto⟩ := by
  obtain ⟨os, s2, e, l, q, i1, i2⟩ := mLc_gen (L := L) (I := fun _ s => wipeE vs s.env = wipeE vs env1 ∧ s.sto = sto) (Q := fun j _ o => ∃ y, ys[j]? = some y ∧ o = F y) hm hx (by rw [List.length_map, sizeLine_eq]; omega) hno ⟨rfl, rfl⟩ (fun i d s hi ⟨a, b⟩ => by
    rw [List.getElem?_map] at hi
    cases hy : ys[i]? with
    | none => rw [hy] at hi; cases hi
    | some y =>
      rw [hy] at hi
      cases hi
      obtain ⟨env', p1, p2⟩ := h y (List.mem_of_getElem? hy)
      refine ⟨F y, ⟨env', sto⟩, ?_, ⟨y, rfl, rfl⟩, p2, rfl⟩
      unfold elt1
      rw [a, b]
      exact p1)
  rw [e, i1, i2]
  have e2 : os = ys.map F := by
    refine List.ext_getElem? fun j => ?_
    rw [List.getElem?_map]
    cases ho : os[j]? with
    | none => rw [List.getElem?_eq_none (by rw [List.length_map] at l; rw [← l]; exact List.getElem?_eq_none_iff.mp ho)]; rfl
    | some o =>
      obtain ⟨d, _, y, a, b⟩ := q j o ho
      rw [a, b]; rfl
  rw [e2]
  have : ∀ zs : List α, (zs.map F).flatMap optL = zs.filterMap F := fun zs => by
    induction zs with
    | nil => rfl
    | cons x xs ih =>
      rw [List.map_cons, List.flatMap_cons, ih, List.filterMap_cons]
      cases F x <;> rfl
  rw [this]
theorem mLc_map {α : Type} {L : Nat} {src : Src} {vs : List Nat} {mi : M Src} {g : D → M Unit} {elt : M D} {env env1 : List (Option Rz)} {sto : List Box} (ys : List α) (hh : α → D) (F : α → D) (hm : mi ⟨env, sto⟩ = .ok src ⟨env1, sto⟩) (hx : src.items = some (ys.map hh)) (hz : ys.length < 10000)
    (hno : noOwn vs ⟨env1, sto⟩ = true) (h : ∀ y ∈ ys, ∃ env', ((g (hh y) ⟨wipeE vs env1, sto⟩).bd fun _ s1 => elt s1) = .ok (F y) ⟨env', sto⟩ ∧ wipeE vs env' = wipeE vs env1) :
    mLc L vs mi (turn1 vs g (Pure.pure true) elt) ⟨env, sto⟩ = .ok (.own (.lst (ys.map F))) ⟨backE vs env1 (wipeE vs env1), sto⟩ := by
  have := mLc_m (L := L) (g := g) (elt := elt) (ifs := Pure.pure true) ys hh (fun y => some (F y)) hm hx hz hno (fun y hy => by
    obtain ⟨env', p1, p2⟩ := h y hy
    refine ⟨env', ?_, p2⟩
    cases e : g (hh y) ⟨wipeE vs env1, sto⟩ with
    | ok u s1 =>
      rw [e, bd_ok] at p1
      rw [bd_ok, pure_ap, bd_ok, if_pos rfl, p1, bd_ok]
    | exn x s => rw [e] at p1; cases p1
    | stuck => rw [e] at p1; cases p1)
  rw [this, List.filterMap_eq_map']
/-- over range(j) -/
theorem items_rng (j : Nat) : (Src.rng 0 1 j).items = some ((List.range j).map fun (i : Nat) => D.int i) := by
  show some ((List.range j).map fun (i : Nat) => D.int (0 + (i : Nat) * 1)) = _
  congr 2; funext i; rw [Int.zero_add, Int.mul_one]
theorem items_seq (xs : List D) : (Src.seq xs).items = some (xs.map id) := by rw [List.map_id]; rfl
theorem blsD_map : ∀ bs : List Bool, blsD (bs.map D.bl) = some bs
  | [] => rfl
  | b :: bs => by
    rw [List.map_cons]
    unfold blsD
    rw [blsD_map bs]
@[simp] theorem gAny_map {α : Type} (ys : List α) (f : α → Bool) : gAny [.lst (ys.map fun y => .bl (f y))] = some (.dat (.bl (ys.any f))) := by
  have e : (ys.map fun y => D.bl (f y)) = (ys.map f).map D.bl := by rw [List.map_map]; rfl
  rw [e]
  show (blsD ((ys.map f).map D.bl)).map _ = _
  rw [blsD_map, Option.map_some, List.any_map]
  rfl
@[simp] theorem gAll_map {α : Type} (ys : List α) (f : α → Bool) : gAll [.lst (ys.map fun y => .bl (f y))] = some (.dat (.bl (ys.all f))) := by
  have e : (ys.map fun y => D.bl (f y)) = (ys.map f).map D.bl := by rw [List.map_map]; rfl
  rw [e]
  show (blsD ((ys.map f).map D.bl)).map _ = _
  rw [blsD_map, Option.map_some, List.all_map]
  rfl
/-- the frames written out -/
theorem mLc_mapE {α : Type} {L : Nat} {src : Src} {vs : List Nat} {mi : M Src} {g : D → M Unit} {elt : M D} {env : List (Option Rz)} {sto : List Box} (env1 E env2 : List (Option Rz)) (ys : List α) (hh : α → D) (F : α → D) (hE : wipeE vs env1 = E) (hb : backE vs env1 E = env2) (hm : mi ⟨env, sto⟩ = .ok src ⟨env1, sto⟩) (hx : src.items = some (ys.map hh)) (hz : ys.length < 10000)
    (hno : noOwn vs ⟨env1, sto⟩ = true) (h : ∀ y ∈ ys, ∃ env', ((g (hh y) ⟨E, sto⟩).bd fun _ s1 => elt s1) = .ok (F y) ⟨env', sto⟩ ∧ wipeE vs env' = E) :
    mLc L vs mi (turn1 vs g (Pure.pure true) elt) ⟨env, sto⟩ = .ok (.own (.lst (ys.map F))) ⟨env2, sto⟩ := by
  subst hE
  subst hb
  exact mLc_map ys hh F hm hx hz hno h
theorem mLc_mE {α : Type} {L : Nat} {src : Src} {vs : List Nat} {mi : M Src} {g : D → M Unit} {ifs : M Bool} {elt : M D} {env : List (Option Rz)} {sto : List Box} (env1 E env2 : List (Option Rz)) (ys : List α) (hh : α → D) (F : α → Option D) (hE : wipeE vs env1 = E) (hb : backE vs env1 E = env2) (hm : mi ⟨env, sto⟩ = .ok src ⟨env1, sto⟩) (hx : src.items = some (ys.map hh)) (hz : ys.length < 10000)
    (hno : noOwn vs ⟨env1, sto⟩ = true) (h : ∀ y ∈ ys, ∃ env', ((g (hh y) ⟨E, sto⟩).bd fun _ s1 => (ifs s1).bd fun b s2 => if b = true then (elt s2).bd fun e s3 => .ok (some e) s3 else .ok none s2) = .ok (F y) ⟨env', sto⟩ ∧ wipeE vs env' = E) :
    mLc L vs mi (turn1 vs g ifs elt) ⟨env, sto⟩ = .ok (.own (.lst (ys.filterMap F))) ⟨env2, sto⟩ := by
  subst hE
  subst hb
  exact mLc_m ys hh F hm hx hz hno h
end Vl
set_option Elab.async false
set_option linter.all false
set_option maxRecDepth 100000
set_option maxHeartbeats 4000000
/-! V28: dicts told by a key map -/
namespace Vl
open PySem PySem.Spec PyProof.Rows L2
theorem eachF_nx {g : D → M Unit} {body : M Fl} {d : D} {ds : List D} {s s1 s2 : S} {r : Res Fl} (h1 : g d s = .ok () s1) (h3 : eachF g body ds s2 = r) (h2 : body s1 = .ok .nx s2) : eachF g body (d :: ds) s = r := by
  unfold eachF
  rw [h1, bd_ok, h2, bd_ok]
  exact h3
theorem eachF_rt {g : D → M Unit} {body : M Fl} {d : D} {ds : List D} {s s1 s2 : S} {x : Rz} (h1 : g d s = .ok () s1) (h2 : body s1 = .ok (.rt x) s2) : eachF g body (d :: ds) s = .ok (.rt x) s2 := by
  unfold eachF
  rw [h1, bd_ok, h2, bd_ok]
  rfl
structure KF {α : Type} [DecidableEq α] (kf : α → D) : Prop where
  eq : ∀ a b, keyEq (kf a) (kf b) = decide (a = b)
  ok0 : ∀ a, keyOk (kf a) [] = true
  ok1 : ∀ a b v r, keyOk (kf a) ((kf b, v) :: r) = true
def mp {α : Type} (kf f : α → D) (V : List α) : List (D × D) := V.map fun a => (kf a, f a)
section
variable {α : Type} [DecidableEq α] {kf f : α → D}
@[simp] theorem mp_len (V : List α) : (mp kf f V).length = V.length := List.length_map ..
theorem mp_look (h : KF kf) (a : α) : ∀ V : List α, dLook (mp kf f V) (kf a) = if a ∈ V then some (f a) else none
  | [] => rfl
  | b :: V => by
    have ih := mp_look h a V
    unfold dLook mp at ih ⊢
    rw [List.map_cons, List.find?_cons]
    show Option.map _ (match keyEq (kf b) (kf a) with | true => _ | false => _) = _
    rw [h.eq]
    by_cases e : b = a
    · subst e; simp
    · have e' : ¬ a = b := fun z => e z.symm
      rw [decide_eq_false e]
      show Option.map _ (List.find? _ _) = _
      rw [ih]
      simp [e']
theorem mp_ok (h : KF kf) (a : α) (V : List α) : keyOk (kf a) (mp kf f V) = true := by
  cases V with
  | nil => exact h.ok0 a
  | cons b V => exact h.ok1 a b _ _
theorem mp_has (h : KF kf) (a : α) (V : List α) : dInB (kf a) (.dct (mp kf f V)) = some (decide (a ∈ V)) := by
  show dHas (kf a) (mp kf f V) = _
  unfold dHas
  rw [if_pos (mp_ok h a V), mp_look h]
  by_cases e : a ∈ V <;> simp [e]
theorem mp_in (h : KF kf) (a : α) (V : List α) : dIn (kf a) (.dct (mp kf f V)) = some (.dat (.bl (decide (a ∈ V)))) := by
  unfold dIn; rw [mp_has h]; rfl
theorem mp_nin (h : KF kf) (a : α) (V : List α) : dNotIn (kf a) (.dct (mp kf f V)) = some (.dat (.bl (!decide (a ∈ V)))) := by
  unfold dNotIn; rw [mp_has h]; rfl
theorem mp_get (h : KF kf) (a : α) (V : List α) (ha : a ∈ V) : dGet (.dct (mp kf f V)) (kf a) = some (f a) := by
  show (if keyOk (kf a) (mp kf f V) = true then dLook (mp kf f V) (kf a) else none) = _
  rw [if_pos (mp_ok h a V), mp_look h, if_pos ha]
theorem mp_put (h : KF kf) (a : α) (V : List α) (ha : a ∉ V) (hl : V.length < 10000) : putAt (.dct (mp kf f V)) (kf a) (f a) = some (.dct (mp kf f (V ++ [a]))) := by
  show (if keyOk (kf a) (mp kf f V) = true then (if (mp kf f V).length < sizeLine then some (Box.dct (dPut (mp kf f V) (kf a) (f a))) else none) else none) = _
  rw [if_pos (mp_ok h a V), if_pos (by rw [mp_len, sizeLine_eq]; omega)]
  unfold dPut
  rw [if_neg]
  · simp [mp]
  · rw [List.any_eq_true]
    rintro ⟨p, hp, e⟩
    unfold mp at hp
    obtain ⟨b, hb, rfl⟩ := List.mem_map.mp hp
    rw [show keyEq (kf b, f b).1 (kf a) = decide (b = a) from h.eq b a] at e
    exact ha (of_decide_eq_true e ▸ hb)
theorem mp_keys (V : List α) : (Src.keys (mp kf f V)).items = some (V.map kf) := by
  show some ((mp kf f V).map (·.1)) = _
  unfold mp
  rw [List.map_map]
  rfl
end
/-- a joint of one machine -/
def jt (s : Nat) : D := .tup [.int s]
theorem kf_jt : KF jt where
  eq a b := by
    have : (a : Int) = b ↔ a = b := by omega
    simp [keyEq, jt, keyN, keysN, this]
  ok0 a := by rfl
  ok1 a b v r := by rfl
/-- a place of one machine, with nothing left and nothing done -/
def pl0 (p : Nat × Nat) : D := .tup [jt p.1, .int p.2, .tup [], .int 0]
theorem kf_pl0 : KF pl0 where
  eq a b := by
    obtain ⟨a1, a2⟩ := a
    obtain ⟨b1, b2⟩ := b
    have h1 : (a1 : Int) = b1 ↔ a1 = b1 := by omega
    have h2 : (a2 : Int) = b2 ↔ a2 = b2 := by omega
    simp [keyEq, pl0, jt, keyN, keysN, h1, h2]
  ok0 a := by rfl
  ok1 a b v r := by rfl
/-! ### data that are laid plainly -/
structure Sp (d : D) (k : Nat) : Prop where
  can : (pyD d).canLay0 = true
  dep : (pyD d).depth ≤ k
theorem Sp.shaped {d : D} {k : Nat} (h : Sp d k) (hk : k ≤ 64) : SeqAt.shaped (pyD d) = true := by
  unfold SeqAt.shaped
  rw [h.can, Bool.true_and]
  exact decide_eq_true (Nat.le_trans h.dep hk)
theorem Sp.mono {d : D} {k j : Nat} (h : Sp d k) (hk : k ≤ j) : Sp d j := ⟨h.can, Nat.le_trans h.dep hk⟩
theorem sp_all {k : Nat} : ∀ {xs : List D}, (∀ x ∈ xs, Sp x k) → PyData.canLayAll0 (pyDs xs) = true ∧ PyData.depthAll (pyDs xs) ≤ k
  | [], _ => ⟨rfl, Nat.zero_le _⟩
  | x :: xs, h => by
    obtain ⟨a, b⟩ := sp_all (fun y hy => h y (.tail _ hy))
    have hx := h x (.head _)
    rw [pyDs]
    refine ⟨?_, ?_⟩
    · simp only [PyData.canLayAll0, hx.can, a, Bool.and_self]
    · simp only [PyData.depthAll]
      exact Nat.max_le.mpr ⟨hx.dep, b⟩
theorem Sp.lst {k : Nat} {xs : List D} (h : ∀ x ∈ xs, Sp x k) : Sp (.lst xs) (k + 1) := by
  obtain ⟨a, b⟩ := sp_all h
  refine ⟨?_, ?_⟩
  · rw [pyD]; simp only [PyData.canLay0]; exact a
  · rw [pyD]; simp only [PyData.depth]; omega
theorem Sp.tup {k : Nat} {xs : List D} (h : ∀ x ∈ xs, Sp x k) : Sp (.tup xs) (k + 1) := by
  obtain ⟨a, b⟩ := sp_all h
  refine ⟨?_, ?_⟩
  · rw [pyD]; simp only [PyData.canLay0]; exact a
  · rw [pyD]; simp only [PyData.depth]; omega
theorem Sp.int (i : Int) (k : Nat) : Sp (.int i) k := ⟨by rw [pyD]; simp only [PyData.canLay0], by rw [pyD]; simp only [PyData.depth]; exact Nat.zero_le _⟩
theorem Sp.str {x : Str} (h : PyData.strOk x = true) (k : Nat) : Sp (.str x) k := ⟨by rw [pyD]; simpa only [PyData.canLay0] using h, by rw [pyD]; simp only [PyData.depth]; exact Nat.zero_le _⟩
theorem sp_pl0 (p : Nat × Nat) : Sp (pl0 p) 2 := by
  refine .tup fun x hx => ?_
  simp only [List.mem_cons, List.not_mem_nil, or_false] at hx
  rcases hx with rfl | rfl | rfl | rfl
  · exact .tup fun x hx => by
      simp only [List.mem_cons, List.not_mem_nil, or_false] at hx
      subst hx; exact .int _ _
  · exact .int _ _
  · exact (Sp.tup (k := 0) fun x hx => nomatch hx)
  · exact .int _ _
theorem dIn_deep {x : D} {xs : List D} {k : Nat} (hx : Sp x k) (hs : ∀ y ∈ xs, Sp y k) (hk : k ≤ 60) (hf : flatD x = false) (hm : x ∈ xs) (he : PyData.eqv (pyD x) (pyD x) = true) : dIn x (.lst xs) = some (.dat (.bl true)) := by
  unfold dIn
  show blR (dSeqIn x xs true) = _
  unfold dSeqIn
  rw [if_neg (by rw [hf]; simp), if_pos ⟨rfl, hx.shaped (by omega), (Sp.lst hs).shaped (by omega)⟩]
  have : (xs.any fun z => PyData.eqv (pyD z) (pyD x)) = true := List.any_eq_true.mpr ⟨x, hm, he⟩
  rw [this]; rfl
end Vl
set_option Elab.async false
set_option linter.all false
set_option maxRecDepth 100000
set_option maxHeartbeats 4000000
/-! V29: loops and comprehensions with invariants -/
namespace Vl
open PySem PySem.Spec PyProof.Rows L2
theorem eachF_inv {g : D → M Unit} {body : M Fl} {xs : List D} {I : Nat → S → Prop}
    (h : ∀ i d s, xs[i]? = some d → I i s → ∃ s', ((g d s).bd fun _ s1 => body s1) = .ok .nx s' ∧ I (i + 1) s') :
    ∀ (n i : Nat) (s : S), n + i = xs.length → I i s → ∃ s', eachF g body (xs.drop i) s = .ok .nx s' ∧ I xs.length s'
  | 0, i, s, e, hI => by
    have : xs.drop i = [] := List.drop_eq_nil_of_le (by omega)
    rw [this]
    have : i = xs.length := by omega
    subst this
    exact ⟨s, rfl, hI⟩
  | n + 1, i, s, e, hI => by
    have hi : i < xs.length := by omega
    rw [List.drop_eq_getElem_cons hi]
    obtain ⟨s1, e1, I1⟩ := h i xs[i] s (List.getElem?_eq_getElem hi) hI
    obtain ⟨s2, e2, I2⟩ := eachF_inv h n (i + 1) s1 (by omega) I1
    refine ⟨s2, ?_, I2⟩
    unfold eachF
    cases eg : g xs[i] s with
    | ok u s3 =>
      rw [eg, bd_ok] at e1
      rw [bd_ok, e1, bd_ok, fl2_nx]
      exact e2
    | exn x s3 => rw [eg] at e1; cases e1
    | stuck => rw [eg] at e1; cases e1
theorem mFor_inv {L : Nat} {mi : M Src} {g : D → M Unit} {body : M Fl} {s s1 : S} {src : Src} {xs : List D} (I : Nat → S → Prop) (hm : mi s = .ok src s1) (hx : src.items = some xs) (h0 : I 0 s1)
    (h : ∀ i d s, xs[i]? = some d → I i s → ∃ s', ((g d s).bd fun _ s1 => body s1) = .ok .nx s' ∧ I (i + 1) s') :
    ∃ s', mFor L mi g body s = .ok .nx s' ∧ I xs.length s' := by
  rw [mFor_ap hm hx]
  obtain ⟨s', e, i⟩ := eachF_inv h xs.length 0 s1 (by omega) h0
  rw [List.drop_zero] at e
  exact ⟨s', e, i⟩
theorem lc_inv {src : Src} {xs : List D} (hx : src.items = some xs) {vs : List Nat} {g : D → M Unit} {ifs : M Bool} {elt : M D} {I : Nat → List D → S → Prop}
    (h : ∀ i d acc s, xs[i]? = some d → I i acc s → ∃ o s', elt1 vs g ifs elt d s = .ok o s' ∧ I (i + 1) (acc ++ optL o) s') :
    ∀ (n i : Nat) (acc : List D) (s : S), n + i = xs.length → acc.length + n < sizeLine → I i acc s → ∃ (acc' : List D) (s' : S), lcLoop src (turn1 vs g ifs elt) n i acc s = .ok acc' s' ∧ I xs.length acc' s'
  | 0, i, acc, s, e, hz, hI => by
    refine ⟨acc, s, ?_, by rw [← e, Nat.zero_add]; exact hI⟩
    show (if src.fin s i = true then Res.ok acc s else .stuck) = _
    rw [(items_at hx s i).2, if_pos (by simp; omega)]
  | n + 1, i, acc, s, e, hz, hI => by
    have hi : i < xs.length := by omega
    obtain ⟨o, s1, e1, I1⟩ := h i xs[i] acc s (List.getElem?_eq_getElem hi) hI
    have ht := turn1_elt (acc := acc) e1 (by omega)
    have hl : (acc ++ optL o).length + n < sizeLine := by
      cases o with
      | none => simp [optL]; omega
      | some a => simp [optL]; omega
    obtain ⟨acc', s2, e2, I2⟩ := lc_inv hx h n (i + 1) (acc ++ optL o) s1 (by omega) hl I1
    refine ⟨acc', s2, ?_, I2⟩
    show (if src.fin s i = true then Res.ok acc s else match src.at_ s i with
        | none => .stuck
        | some d => (do
          let acc' ← turn1 vs g ifs elt d acc
          lcLoop src (turn1 vs g ifs elt) n (i + 1) acc' : M (List D)) s) = _
    rw [(items_at hx s i).2, if_neg (by simp; omega), (items_at hx s i).1, List.getElem?_eq_getElem hi]
    show (turn1 vs g ifs elt xs[i] acc s).bd (fun acc' s' => lcLoop src (turn1 vs g ifs elt) n (i + 1) acc' s') = _
    rw [ht, bd_ok, e2]
theorem mLc_inv {L : Nat} {src : Src} {xs : List D} {vs : List Nat} {mi : M Src} {g : D → M Unit} {ifs : M Bool} {elt : M D} {s s1 : S} (I : Nat → List D → S → Prop) (hm : mi s = .ok src s1) (hx : src.items = some xs) (hz : xs.length < sizeLine) (hno : noOwn vs s1 = true)
    (h0 : I 0 [] s1) (h : ∀ i d acc s, xs[i]? = some d → I i acc s → ∃ o s', elt1 vs g ifs elt d s = .ok o s' ∧ I (i + 1) (acc ++ optL o) s') :
    ∃ (acc : List D) (s2 : S), mLc L vs mi (turn1 vs g ifs elt) s = .ok (.own (.lst acc)) ⟨backE vs s1.env (wipeE vs s2.env), s2.sto⟩ ∧ I xs.length acc s2 := by
  obtain ⟨acc, s2, e, I2⟩ := lc_inv hx h xs.length 0 [] s1 (by omega) (by simpa using hz) h0
  refine ⟨acc, s2, ?_, I2⟩
  show (mi s).bd (fun src s0 => (if noOwn vs s0 = true then (do
    let acc ← lcLoop src (turn1 vs g ifs elt) (src.fuel L) 0 []
    let _ ← backM vs s0.env
    Pure.pure (.own (.lst acc)) : M Rz) else stuck) s0) = _
  rw [hm, bd_ok, if_pos hno]
  show (lcLoop src (turn1 vs g ifs elt) (src.fuel L) 0 [] s1).bd (fun acc s' => Res.ok (Rz.own (.lst acc)) ⟨backE vs s1.env (wipeE vs s'.env), s'.sto⟩) = _
  rw [items_fuel hx, e, bd_ok]
/-- an expression that reads an integer and changes nothing -/
def EvI (m : M Ref) (s : S) (v : Int) : Prop := ∃ r, m s = .ok r s ∧ deref r s = some (.int v)
theorem EvI.lit (i : Int) (s : S) : EvI (rD (dR (Pure.pure (.dat (.int i))))) s i := ⟨_, rfl, rfl⟩
theorem EvI.slot {s : S} {i : Nat} {v : Int} (h : s.env[i]? = some (some (.dat (.int v)))) : EvI (rfSlot i) s v := by
  obtain ⟨env, sto⟩ := s
  refine ⟨.slot i, ?_, ?_⟩
  · rw [rfSlot_ap, show env[i]? = _ from h]
  · rw [deref_slot, show env[i]? = _ from h]; rfl
theorem EvI.bin0 {ma mb : M Ref} {g : D → D → Option Rz} {s : S} {x y z : Int} (ha : EvI ma s x) (hb : EvI mb s y) (hg : g (.int x) (.int y) = some (.dat (.int z))) : mBin ma mb g s = .ok (.dat (.int z)) s := by
  obtain ⟨ra, a1, a2⟩ := ha
  obtain ⟨rb, b1, b2⟩ := hb
  rw [mBin_ap, a1, bd_ok, b1, bd_ok, a2, lk_some, bd_ok, b2, lk_some, bd_ok, hg]; rfl
theorem EvI.bin {ma mb : M Ref} {g : D → D → Option Rz} {s : S} {x y z : Int} (ha : EvI ma s x) (hb : EvI mb s y) (hg : g (.int x) (.int y) = some (.dat (.int z))) : EvI (rD (dR (mBin ma mb g))) s z := by
  refine ⟨.dat (.int z), ?_, rfl⟩
  rw [rD_ap, dR_ap, EvI.bin0 ha hb hg]; rfl
theorem EvI.gint {m : M Ref} {s : S} {x : Int} (h : EvI m s x) : EvI (rD (dR (mCallB [m] gInt))) s x := by
  obtain ⟨r, a, b⟩ := h
  refine ⟨.dat (.int x), ?_, rfl⟩
  rw [rD_ap, dR_ap, mCallB_ap, mAll_cons, a, bd_ok, mAll_nil, bd_ok, bd_ok, lookAll_cons, b, lk_some, bd_ok, lookAll_nil, bd_ok, bd_ok]; rfl
theorem EvI.set {ma mb : M Ref} {g : D → D → Option Rz} {env : List (Option Rz)} {sto : List Box} {x y z : Int} (ha : EvI ma ⟨env, sto⟩ x) (hb : EvI mb ⟨env, sto⟩ y) (hg : g (.int x) (.int y) = some (.dat (.int z))) (i : Nat) : mSet (mBin ma mb g) i ⟨env, sto⟩ = .ok .nx ⟨env.set i (some (.dat (.int z))), sto⟩ := by
  rw [mSet_ap, EvI.bin0 ha hb hg]; rfl
theorem seq_nx {m n : M Fl} {s s1 : S} {r : Res Fl} (h1 : m s = .ok .nx s1) (h2 : n s1 = r) : mSeq m n s = r := by
  rw [mSeq_ap, h1, bd_ok, seq2_nx, h2]
/-- a comprehension whose items are drawn: the frame E stays, the store keeps J -/
theorem mLc_dr {β : Type} {L : Nat} {src : Src} {xs : List D} {vs : List Nat} {mi : M Src} {g : D → M Unit} {elt : M D} {env : List (Option Rz)} {sto sto1 : List Box} (env1 E env2 : List (Option Rz)) (J : List Box → Prop) (V : β → D) (P : D → β → Prop)
    (hE : wipeE vs env1 = E) (hb : backE vs env1 E = env2) (hm : mi ⟨env, sto⟩ = .ok src ⟨env1, sto1⟩) (hx : src.items = some xs) (hz : xs.length < 10000) (hno : noOwn vs ⟨env1, sto1⟩ = true) (hJ : J sto1)
    (h : ∀ d ∈ xs, ∀ sto, J sto → ∃ b env' sto', ((g d ⟨E, sto⟩).bd fun _ s1 => elt s1) = .ok (V b) ⟨env', sto'⟩ ∧ wipeE vs env' = E ∧ J sto' ∧ P d b) :
    ∃ (bs : List β) (sto2 : List Box), mLc L vs mi (turn1 vs g (Pure.pure true) elt) ⟨env, sto⟩ = .ok (.own (.lst (bs.map V))) ⟨env2, sto2⟩ ∧ J sto2 ∧ bs.length = xs.length ∧ ∀ (j : Nat) b, bs[j]? = some b → ∃ d, xs[j]? = some d ∧ P d b := by
  obtain ⟨acc, s2, e, bs, i1, i2, i3, i4, i5⟩ := mLc_inv (L := L) (g := g) (ifs := Pure.pure true) (elt := elt) (fun i acc s => ∃ bs : List β, acc = bs.map V ∧ wipeE vs s.env = E ∧ J s.sto ∧ bs.length = i ∧ ∀ (j : Nat) b, bs[j]? = some b → ∃ d, xs[j]? = some d ∧ P d b) hm hx (by rw [sizeLine_eq]; omega) hno ⟨[], rfl, hE, hJ, rfl, by simp⟩ (fun i d acc s hd ⟨bs, i1, i2, i3, i4, i5⟩ => by
    obtain ⟨b, env', sto', p1, p2, p3, p4⟩ := h d (List.mem_of_getElem? hd) s.sto i3
    refine ⟨some (V b), ⟨env', sto'⟩, ?_, bs ++ [b], by rw [i1]; simp [optL], p2, p3, by simp [i4], fun j c hc => ?_⟩
    · unfold elt1
      rw [i2]
      cases eg : g d ⟨E, s.sto⟩ with
      | ok u s3 =>
        rw [eg, bd_ok] at p1
        rw [bd_ok, pure_ap, bd_ok, if_pos rfl, p1, bd_ok]
      | exn x s3 => rw [eg] at p1; cases p1
      | stuck => rw [eg] at p1; cases p1
    · by_cases hj : j < bs.length
      · rw [List.getElem?_append_left hj] at hc
        exact i5 j c hc
      · rw [List.getElem?_append_right (by omega)] at hc
        have : j - bs.length = 0 := by
          rcases Nat.eq_zero_or_pos (j - bs.length) with q | q
          · exact q
          · rw [List.getElem?_eq_none (by simp; omega)] at hc; cases hc
        rw [this] at hc
        cases hc
        have : j = i := by omega
        subst this
        exact ⟨d, hd, p4⟩)
  refine ⟨bs, s2.sto, ?_, i3, i4, i5⟩
  rw [e, i1]
  show Res.ok _ (S.mk (backE vs env1 (wipeE vs s2.env)) s2.sto) = _
  rw [i2, hb]
end Vl
set_option Elab.async false
set_option linter.all false
set_option maxRecDepth 100000
set_option maxHeartbeats 4000000
/-! V30: more operations on data, told plainly -/
namespace Vl
open PySem PySem.Spec PyProof.Rows L2
def natsD (l : List Nat) : List D := l.map fun (i : Nat) => D.int i
theorem gPop_i {xs : List D} {d : Nat} (h : d < xs.length) (h2 : xs.length < 1000000) : gPop xs [.int d] = some (xs.take d ++ xs.drop (d + 1), xs[d]) := by
  unfold gPop
  simp only []
  have : seqIndex? (d : Int) xs.length = some d := by
    unfold seqIndex?
    simp
    omega
  rw [if_pos (by omega), this]
  simp only []
  rw [List.getElem?_eq_getElem h, List.eraseIdx_eq_take_drop_succ]
  rfl
theorem mRgL_n {j : Nat} (h : j < 1000000) : mRgL [.int j] = some (.own (.lst (natsD (List.range j)))) := by
  unfold mRgL
  simp only []
  have : rgOk 0 (j : Int) = true := by
    unfold rgOk
    exact decide_eq_true (by omega)
  rw [if_pos this]
  unfold rgD natsD
  simp
theorem split_at {α : Type} {l : List α} {d : Nat} (h : d < l.length) : l = l.take d ++ l[d] :: l.drop (d + 1) := by
  rw [List.getElem_cons_drop, List.take_append_drop]
theorem take_perm {α : Type} {l : List α} {d : Nat} (h : d < l.length) : (l[d] :: (l.take d ++ l.drop (d + 1))).Perm l := by
  conv => rhs; rw [split_at h]
  exact List.perm_middle.symm
theorem cut_to {α : Type} (xs : List α) (d : Nat) : cut xs none (some (d : Int)) = xs.take d := by
  unfold cut
  rw [HT.sIx_none, HT.sIx_nat, List.drop_zero, Nat.sub_zero, List.take_eq_take_iff]
  omega
theorem cut_from {α : Type} (xs : List α) (d : Nat) : cut xs (some (d : Int)) none = xs.drop d := by
  unfold cut
  rw [HT.sIx_none, HT.sIx_nat]
  by_cases h : d ≤ xs.length
  · rw [Nat.min_eq_left h, List.take_of_length_le (by rw [List.length_drop]; omega)]
  · rw [Nat.min_eq_right (by omega), List.drop_of_length_le (by omega), List.drop_of_length_le (by omega), List.take_nil]
theorem atI_m1 {α : Type} (xs : List α) (h : 0 < xs.length) : atI xs (-1) = xs[xs.length - 1]? := by
  unfold atI ixN
  rw [if_neg (by omega), if_pos (by omega), Option.bind_some]
  congr 1
  omega
@[simp] theorem dSlice_to (xs : List D) (d : Nat) : dSlice (.lst xs) none (some (d : Int)) = some (.own (.lst (xs.take d))) := by
  show some (Rz.own (Box.lst (cut xs none (some (d : Int))))) = _; rw [cut_to]
@[simp] theorem dSlice_from (xs : List D) (d : Nat) : dSlice (.lst xs) (some (d : Int)) none = some (.own (.lst (xs.drop d))) := by
  show some (Rz.own (Box.lst (cut xs (some (d : Int)) none))) = _; rw [cut_from]
theorem dAdd_l (xs ys : List D) (h : xs.length + ys.length < 10000) : dAdd (.lst xs) (.lst ys) = some (.own (.lst (xs ++ ys))) := by
  unfold dAdd
  simp only []
  rw [if_pos (by rw [sizeLine_eq]; omega)]
@[simp] theorem gMax_2 (i j : Int) : gMax [.int i, .int j] = some (.dat (.int (if j > i then j else i))) := rfl
/-- a loop that may be left -/
theorem eachF_invB {g : D → M Unit} {body : M Fl} {xs : List D} {I : Nat → S → Prop} {J : S → Prop}
    (h : ∀ i d s, xs[i]? = some d → I i s → ∃ f s', ((g d s).bd fun _ s1 => body s1) = .ok f s' ∧ ((f = .nx ∨ f = .ct) ∧ I (i + 1) s' ∨ f = .bk ∧ J s')) :
    ∀ (n i : Nat) (s : S), n + i = xs.length → I i s → ∃ s', eachF g body (xs.drop i) s = .ok .nx s' ∧ (I xs.length s' ∨ J s')
  | 0, i, s, e, hI => by
    have : xs.drop i = [] := List.drop_eq_nil_of_le (by omega)
    rw [this]
    have : i = xs.length := by omega
    subst this
    exact ⟨s, rfl, .inl hI⟩
  | n + 1, i, s, e, hI => by
    have hi : i < xs.length := by omega
    rw [List.drop_eq_getElem_cons hi]
    obtain ⟨f, s1, e1, c⟩ := h i xs[i] s (List.getElem?_eq_getElem hi) hI
    have hu : eachF g body (xs[i] :: xs.drop (i + 1)) s = fl2 (eachF g body (xs.drop (i + 1))) f s1 := by
      show (g xs[i] s).bd (fun _ s1 => (body s1).bd fun f s2 => fl2 (eachF g body (xs.drop (i + 1))) f s2) = _
      cases eg : g xs[i] s with
      | ok u s3 =>
        rw [eg, bd_ok] at e1
        rw [bd_ok, e1, bd_ok]
      | exn x s3 => rw [eg] at e1; cases e1
      | stuck => rw [eg] at e1; cases e1
    rw [hu]
    rcases c with ⟨rfl | rfl, I1⟩ | ⟨rfl, j⟩
    · exact eachF_invB h n (i + 1) s1 (by omega) I1
    · exact eachF_invB h n (i + 1) s1 (by omega) I1
    · exact ⟨s1, rfl, .inr j⟩
theorem mFor_invB {L : Nat} {mi : M Src} {g : D → M Unit} {body : M Fl} {s s1 : S} {src : Src} {xs : List D} (I : Nat → S → Prop) (J : S → Prop) (hm : mi s = .ok src s1) (hx : src.items = some xs) (h0 : I 0 s1)
    (h : ∀ i d s, xs[i]? = some d → I i s → ∃ f s', ((g d s).bd fun _ s1 => body s1) = .ok f s' ∧ ((f = .nx ∨ f = .ct) ∧ I (i + 1) s' ∨ f = .bk ∧ J s')) :
    ∃ s', mFor L mi g body s = .ok .nx s' ∧ (I xs.length s' ∨ J s') := by
  rw [mFor_ap hm hx]
  obtain ⟨s', e, i⟩ := eachF_invB h xs.length 0 s1 (by omega) h0
  rw [List.drop_zero] at e
  exact ⟨s', e, i⟩
theorem eqv_ii (i j : Int) : PyData.eqv (pyD (.int i)) (pyD (.int j)) = decide (i = j) := by
  unfold pyD PyData.eqv
  by_cases h : i = j <;> simp [h]
theorem eqv_bb (i j : Bool) : PyData.eqv (pyD (.bl i)) (pyD (.bl j)) = decide (i = j) := by
  cases i <;> cases j <;> decide +kernel
theorem in_ints {l : List Int} (i : Int) : dInB (.int i) (.lst (l.map .int)) = some (decide (i ∈ l)) := by
  show dSeqIn _ _ true = _
  unfold dSeqIn
  rw [if_pos ⟨rfl, by rw [List.all_eq_true]; intro x hx; obtain ⟨y, _, rfl⟩ := List.mem_map.mp hx; rfl⟩]
  congr 1
  rw [List.any_map]
  by_cases h : i ∈ l
  · rw [decide_eq_true h, List.any_eq_true]
    exact ⟨i, h, by show PyData.eqv (pyD (.int i)) (pyD (.int i)) = true; rw [eqv_ii]; simp⟩
  · rw [decide_eq_false h, List.any_eq_false]
    intro x hx e
    have e : PyData.eqv (pyD (.int x)) (pyD (.int i)) = true := e
    rw [eqv_ii] at e
    exact h (of_decide_eq_true e ▸ hx)
theorem natsD_int (l : List Nat) : natsD l = (l.map fun (i : Nat) => (i : Int)).map .int := by
  unfold natsD; rw [List.map_map]; rfl
theorem in_nats {l : List Nat} (i : Nat) : dInB (.int i) (.lst (natsD l)) = some (decide (i ∈ l)) := by
  rw [natsD_int, in_ints]
  congr 1
  rw [decide_eq_decide]
  constructor
  · intro h
    obtain ⟨j, hj, e⟩ := List.mem_map.mp h
    have : j = i := by omega
    exact this ▸ hj
  · exact fun h => List.mem_map.mpr ⟨i, h, rfl⟩
theorem nin_nats {l : List Nat} (i : Nat) : dNotIn (.int i) (.lst (natsD l)) = some (.dat (.bl (!decide (i ∈ l)))) := by
  unfold dNotIn; rw [in_nats]; rfl
theorem nin_ff (bs : List Bool) : dNotIn (.bl false) (.lst (bs.map .bl)) = some (.dat (.bl (bs.all id))) := by
  unfold dNotIn
  have : dInB (.bl false) (.lst (bs.map .bl)) = some (!bs.all id) := by
    show dSeqIn _ _ true = _
    unfold dSeqIn
    rw [if_pos ⟨rfl, by rw [List.all_eq_true]; intro x hx; obtain ⟨y, _, rfl⟩ := List.mem_map.mp hx; rfl⟩]
    congr 1
    rw [List.any_map, List.not_all_eq_any_not]
    congr 1
    funext b
    show PyData.eqv (pyD (.bl b)) (pyD (.bl false)) = !b
    rw [eqv_bb]
    cases b <;> rfl
  rw [this]
  show some (Rz.dat (.bl (!!bs.all id))) = _
  rw [Bool.not_not]
theorem atN {α : Type} {xs : List α} {i : Int} {j : Nat} (h : i = j) : atI xs i = xs[j]? := by subst h; exact atI_nn
@[simp] theorem natsD_len (l : List Nat) : (natsD l).length = l.length := by simp [natsD]
theorem natsD_get {l : List Nat} {i : Nat} : (natsD l)[i]? = (l[i]?).map fun (i : Nat) => .int i := by simp [natsD]
theorem seq_rt {m n : M Fl} {s s1 : S} {r : Rz} (h1 : m s = .ok (.rt r) s1) : mSeq m n s = .ok (.rt r) s1 := by
  rw [mSeq_ap, h1, bd_ok, seq2_rt]
theorem ifs_t {c : M Bool} {a b : M Fl} {s s1 : S} (h : c s = .ok true s1) : mIfS c a b s = a s1 := by
  rw [mIfS_ap, h, bd_ok, if_pos rfl]
theorem ifs_f {c : M Bool} {a b : M Fl} {s s1 : S} (h : c s = .ok false s1) : mIfS c a b s = b s1 := by
  rw [mIfS_ap, h, bd_ok, if_neg (by simp)]
end Vl
set_option Elab.async false
set_option linter.all false
set_option maxRecDepth 100000
set_option maxHeartbeats 4000000
/-! V31: plain data: copies, sameness -/
namespace Vl
open PySem PySem.Spec PyProof.Rows L2
theorem kf_str : KF D.str where
  eq a b := by simp [keyEq, keyN]
  ok0 a := by rfl
  ok1 a b v r := by rfl
/-- plain data of at most a depth -/
inductive Pn : Nat → D → Prop
  | non (k : Nat) : Pn k .non
  | bl (k : Nat) (b : Bool) : Pn k (.bl b)
  | int (k : Nat) (i : Int) : Pn k (.int i)
  | str (k : Nat) (x : Str) : Pn k (.str x)
  | lst {k : Nat} {xs : List D} (hl : xs.length < 1000) (h : ∀ x ∈ xs, Pn k x) : Pn (k + 1) (.lst xs)
  | tup {k : Nat} {xs : List D} (hl : xs.length < 1000) (h : ∀ x ∈ xs, Pn k x) : Pn (k + 1) (.tup xs)
  | dct {k : Nat} {V : List Str} {f : Str → D} (hl : V.length < 1000) (hn : V.Nodup) (h : ∀ a ∈ V, Pn k (f a)) : Pn (k + 1) (.dct (mp D.str f V))
theorem Pn.up {k : Nat} {d : D} (h : Pn k d) : Pn (k + 1) d := by
  induction h with
  | non => exact .non _
  | bl => exact .bl _ _
  | int => exact .int _ _
  | str => exact .str _ _
  | lst hl h ih => exact .lst hl ih
  | tup hl h ih => exact .tup hl ih
  | dct hl hn h ih => exact .dct hl hn ih
theorem Pn.mono {k j : Nat} {d : D} (h : Pn k d) (hj : k ≤ j) : Pn j d := by
  induction hj with
  | refl => exact h
  | step _ ih => exact ih.up
/-- what a copy gives -/
def cpR : D → Rz
  | .lst xs => .own (.lst xs)
  | .dct kvs => .own (.dct kvs)
  | d => .dat d
@[simp] theorem cpR_lst (xs : List D) : cpR (.lst xs) = .own (.lst xs) := rfl
@[simp] theorem cpR_dct (xs : List (D × D)) : cpR (.dct xs) = .own (.dct xs) := rfl
@[simp] theorem toD_cpR {k : Nat} {d : D} (h : Pn k d) (s : S) : toD (cpR d) s = .ok d s := by
  cases h <;> rfl
theorem dd_pn {k : Nat} {d : D} (h : Pn k d) (s : S) : derefD s d = some d := by
  cases h <;> rfl
mutual
def nd : D → Nat
  | .lst xs => ndL xs + 1
  | .tup xs => ndL xs + 1
  | .dct kvs => ndK kvs + 1
  | _ => 1
def ndL : List D → Nat
  | [] => 0
  | x :: xs => nd x + ndL xs
def ndK : List (D × D) → Nat
  | [] => 0
  | p :: r => nd p.2 + ndK r
end
theorem nd_pos (d : D) : 1 ≤ nd d := by
  cases d <;> simp [nd]
theorem ndL_app : ∀ xs ys : List D, ndL (xs ++ ys) = ndL xs + ndL ys
  | [], ys => by simp [ndL]
  | x :: xs, ys => by rw [List.cons_append, ndL, ndL, ndL_app xs ys]; omega
theorem ndL_len : ∀ xs : List D, xs.length ≤ ndL xs
  | [] => Nat.zero_le _
  | x :: xs => by rw [ndL, List.length_cons]; have := ndL_len xs; have := nd_pos x; omega
theorem ndL_le {xs : List D} {b : Nat} (h : ∀ x ∈ xs, nd x ≤ b) : ndL xs ≤ xs.length * b := by
  induction xs with
  | nil => simp [ndL]
  | cons x xs ih =>
    rw [ndL, List.length_cons, Nat.succ_mul]
    have := h x (.head _)
    have := ih fun y hy => h y (.tail _ hy)
    omega
theorem ndK_mp {f : Str → D} : ∀ V : List Str, ndK (mp D.str f V) = ndL (V.map f)
  | [] => by simp [mp, ndK, ndL]
  | a :: V => by
    have := ndK_mp (f := f) V
    unfold mp at this ⊢
    rw [List.map_cons, List.map_cons, ndK, ndL, this]
/-- a pair of a thing with itself -/
def pr2 (d : D) : D := .tup [d, d]
section
variable (xs : List D) (kvs : List (D × D)) (b : Bool) (i : Int) (x : Str)
@[simp] theorem isx_1 : dIsi .dict (.lst xs) = some false := rfl
@[simp] theorem isx_2 : dIsi .dict (.tup xs) = some false := rfl
@[simp] theorem isx_3 : dIsi .dict (.dct kvs) = some true := rfl
@[simp] theorem isx_4 : dIsi .dict (.bl b) = some false := rfl
@[simp] theorem isx_5 : dIsi .dict (.int i) = some false := rfl
@[simp] theorem isx_6 : dIsi .dict (.str x) = some false := rfl
@[simp] theorem isx_7 : dIsi .dict .non = some false := rfl
@[simp] theorem isl_2 : dIsi .list (.tup xs) = some false := rfl
@[simp] theorem isl_3 : dIsi .list (.dct kvs) = some false := rfl
@[simp] theorem isl_4 : dIsi .list (.bl b) = some false := rfl
@[simp] theorem isl_5 : dIsi .list (.int i) = some false := rfl
@[simp] theorem isl_6 : dIsi .list (.str x) = some false := rfl
@[simp] theorem isl_7 : dIsi .list .non = some false := rfl
@[simp] theorem ist_1 : dIsi .tuple (.lst xs) = some false := rfl
@[simp] theorem ist_3 : dIsi .tuple (.dct kvs) = some false := rfl
@[simp] theorem ist_4 : dIsi .tuple (.bl b) = some false := rfl
@[simp] theorem ist_5 : dIsi .tuple (.int i) = some false := rfl
@[simp] theorem ist_6 : dIsi .tuple (.str x) = some false := rfl
@[simp] theorem ist_7 : dIsi .tuple .non = some false := rfl
@[simp] theorem isb_1 : dIsi .bool (.bl b) = some true := rfl
@[simp] theorem isb_6 : dIsi .bool (.str x) = some false := rfl
@[simp] theorem isb_7 : dIsi .bool .non = some false := rfl
@[simp] theorem iss_4 : dIsi .str (.bl b) = some false := rfl
@[simp] theorem iss_5 : dIsi .str (.int i) = some false := rfl
@[simp] theorem iss_6 : dIsi .str (.str x) = some true := rfl
@[simp] theorem iss_7 : dIsi .str .non = some false := rfl
@[simp] theorem isi_6 : dIsi .int (.str x) = some false := rfl
@[simp] theorem isi_4 : dIsi .int (.bl b) = some true := rfl
theorem dNe_s (y : Str) : dNe (.str x) (.str y) = some (.dat (.bl (!decide (x = y)))) := rfl
@[simp] theorem gTuple_t : gTuple [.tup xs] = some (.dat (.tup xs)) := rfl
end
def kvF (kvs : List (Str × D)) (a : Str) : D := ((kvs.find? fun p => decide (p.1 = a)).map (·.2)).getD .non
theorem kvF_mem : ∀ {kvs : List (Str × D)}, (kvs.map (·.1)).Nodup → ∀ p ∈ kvs, kvF kvs p.1 = p.2
  | q :: kvs, hn, p, hp => by
    rw [List.map_cons, List.nodup_cons] at hn
    unfold kvF
    rw [List.find?_cons]
    rcases List.mem_cons.mp hp with rfl | hp
    · simp
    · have hne : q.1 ≠ p.1 := fun e => hn.1 (e ▸ List.mem_map.mpr ⟨p, hp, rfl⟩)
      rw [decide_eq_false hne]
      exact kvF_mem hn.2 p hp
theorem kv_mp {kvs : List (Str × D)} (hn : (kvs.map (·.1)).Nodup) : (kvs.map fun p => (D.str p.1, p.2)) = mp D.str (kvF kvs) (kvs.map (·.1)) := by
  unfold mp
  rw [List.map_map]
  apply List.map_congr_left
  intro p hp
  show (D.str p.1, p.2) = (D.str p.1, kvF kvs p.1)
  rw [kvF_mem hn p hp]
theorem Pn.kv {k : Nat} {kvs : List (Str × D)} (hl : kvs.length < 1000) (hn : (kvs.map (·.1)).Nodup) (h : ∀ p ∈ kvs, Pn k p.2) : Pn (k + 1) (.dct (kvs.map fun p => (D.str p.1, p.2))) := by
  rw [kv_mp hn]
  refine .dct (by rw [List.length_map]; exact hl) hn fun a ha => ?_
  obtain ⟨p, hp, rfl⟩ := List.mem_map.mp ha
  rw [kvF_mem hn p hp]
  exact h p hp
theorem Pn.tup0 {k : Nat} : Pn (k + 1) (.tup []) := .tup (by simp) (fun x hx => nomatch hx)
theorem Pn.lst0 {k : Nat} : Pn (k + 1) (.lst []) := .lst (by simp) (fun x hx => nomatch hx)
theorem Pn.tups {k : Nat} {xs : List D} (hl : xs.length < 1000) (h : xs.all (fun _ => true) = true) (h2 : ∀ x ∈ xs, Pn k x) : Pn (k + 1) (.tup xs) := .tup hl h2
theorem all_nil {P : D → Prop} : ∀ x ∈ ([] : List D), P x := fun x hx => nomatch hx
theorem all_cons {P : D → Prop} {y : D} {ys : List D} (h1 : P y) (h2 : ∀ x ∈ ys, P x) : ∀ x ∈ y :: ys, P x := fun x hx => by
  rcases List.mem_cons.mp hx with rfl | h
  · exact h1
  · exact h2 x h
end Vl
set_option Elab.async false
set_option linter.all false
set_option maxRecDepth 100000
set_option maxHeartbeats 0
/-! the walk of the law: its data, its head, its facts -/
namespace Vl.T
open PySem PySem.Spec PyProof.Rows L2
def top (i : Nat) : Stmt := PySem.Challenge.pw_holdagainst_k23_whole_counters_on_rings.main.body.getD i (.Pass ⟨0, 0, 0, 0⟩)
def f__wall : Fi := ⟨["k"], ["k"], defBody (top 0), defScope (top 0), []⟩
def f_is_integer : Fi := ⟨["value"], ["value"], defBody (top 2), defScope (top 2), []⟩
def f_is_between : Fi := ⟨["value", "low", "high"], ["value", "low", "high"], defBody (top 3), defScope (top 3), []⟩
def f_is_tuple_of : Fi := ⟨["value", "many"], ["value", "many"], defBody (top 4), defScope (top 4), []⟩
def f_is_state : Fi := ⟨["machines", "m", "state"], ["machines", "m", "state"], defBody (top 9), defScope (top 9), []⟩
def f_tables : Fi := ⟨["plant"], ["plant", "machines", "ways", "many", "knowing", "machine", "k", "m", "state", "letter", "to"], defBody (top 10), defScope (top 10), []⟩
def f_is_open_in : Fi := ⟨["table", "joint", "letter"], ["table", "joint", "letter", "m", "ways", "knowing"], defBody (top 11), defScope (top 11), []⟩
def f_open_in : Fi := ⟨["plant", "table", "joint", "side"], ["plant", "table", "joint", "side", "letters", "k"], defBody (top 12), defScope (top 12), []⟩
def f_moves_in : Fi := ⟨["plant", "table", "joint", "who"], ["plant", "table", "joint", "who", "found"], defBody (top 13), defScope (top 13), []⟩
def f_step_in : Fi := ⟨["table", "joint", "move"], ["table", "joint", "move", "new", "m", "ways", "knowing"], defBody (top 14), defScope (top 14), []⟩
def f_flag_holds : Fi := ⟨["plant", "joint", "i"], ["plant", "joint", "i", "m", "state"], defBody (top 15), defScope (top 15), []⟩
def f_is_joint : Fi := ⟨["plant", "value"], ["plant", "value", "machines", "m"], defBody (top 16), defScope (top 16), []⟩
def f_first_joint : Fi := ⟨["plant"], ["plant"], defBody (top 17), defScope (top 17), []⟩
def f_is_true : Fi := ⟨["plant", "joint", "e"], ["plant", "joint", "e", "truths", "part"], defBody (top 19), defScope (top 19), []⟩
def f_goal_word : Fi := ⟨["promise"], ["promise"], defBody (top 23), defScope (top 23), []⟩
def f_goal_rows : Fi := ⟨["promise"], ["promise", "goal", "word"], defBody (top 24), defScope (top 24), []⟩
def f_most_done : Fi := ⟨["promise"], ["promise", "word", "most", "parts"], defBody (top 25), defScope (top 25), []⟩
def f_moved_on : Fi := ⟨["done", "held"], ["done", "held", "at"], defBody (top 28), defScope (top 28), []⟩
def f_is_place : Fi := ⟨["plant", "promise", "value"], ["plant", "promise", "value", "left", "answers", "i"], defBody (top 30), defScope (top 30), []⟩
def f_first_place : Fi := ⟨["plant", "promise"], ["plant", "promise"], defBody (top 31), defScope (top 31), []⟩
def f_read_list : Fi := ⟨["plant", "promise", "who", "value", "size"], ["plant", "promise", "who", "value", "size", "table", "found", "entry"], defBody (top 33), defScope (top 33), []⟩
def f_is_move : Fi := ⟨["plant", "table", "place", "who", "move"], ["plant", "table", "place", "who", "move"], defBody (top 34), defScope (top 34), []⟩
def f_counting : Fi := ⟨["game", "place", "move"], ["game", "place", "move", "rows", "row"], defBody (top 35), defScope (top 35), []⟩
def f_is_measure : Fi := ⟨["value"], ["value", "item"], defBody (top 36), defScope (top 36), []⟩
def f_fits : Fi := ⟨["who", "r", "one", "other"], ["who", "r", "one", "other", "many", "p"], defBody (top 37), defScope (top 37), []⟩
def f_is_ranked_list : Fi := ⟨["plant", "promise", "who", "value", "flat"], ["plant", "promise", "who", "value", "flat", "table", "game", "place", "r", "row", "move", "measure"], defBody (top 38), defScope (top 38), []⟩
def f_height_table : Fi := ⟨["game", "who", "value", "rule"], ["game", "who", "value", "rule", "table", "place", "scale", "times", "minus", "slack", "arc", "move", "height", "behind", "wrong"], defBody (top 42), defScope (top 42), []⟩
def f_mean_rule : Fi := ⟨["promise", "scale"], ["promise", "scale", "p", "q"], defBody (top 43), defScope (top 43), []⟩
def f_is_mean_op : Fi := ⟨["plant", "promise", "paper"], ["plant", "promise", "paper", "game", "table"], defBody (top 44), defScope (top 44), []⟩
def f_scaled_table : Fi := ⟨["game", "value"], ["game", "value"], defBody (top 45), defScope (top 45), []⟩
def f_is_mean_world : Fi := ⟨["plant", "promise", "paper"], ["plant", "promise", "paper", "game", "first", "table"], defBody (top 46), defScope (top 46), []⟩
def f_need_table : Fi := ⟨["game", "value"], ["game", "value", "cap", "table", "place", "arc", "move", "need"], defBody (top 47), defScope (top 47), []⟩
def f_is_stock : Fi := ⟨["value", "cap"], ["value", "cap"], defBody (top 48), defScope (top 48), []⟩
def f_is_stock_op : Fi := ⟨["plant", "promise", "paper"], ["plant", "promise", "paper", "game", "table", "first"], defBody (top 49), defScope (top 49), []⟩
def f_stock_rows : Fi := ⟨["game", "value"], ["game", "value", "cap", "found", "entry"], defBody (top 50), defScope (top 50), []⟩
def f_fewest : Fi := ⟨["rows", "cap"], ["rows", "cap", "found", "stock", "move", "steps", "more"], defBody (top 51), defScope (top 51), []⟩
def f_is_ahead : Fi := ⟨["row", "behind"], ["row", "behind"], defBody (top 52), defScope (top 52), []⟩
def f_free_table : Fi := ⟨["game", "value"], ["game", "value", "table", "place", "arc", "move", "stock", "steps", "rows"], defBody (top 53), defScope (top 53), []⟩
def f_capped_table : Fi := ⟨["game", "value"], ["game", "value", "table", "cap", "least", "place", "arcs", "move", "stock", "steps", "arc", "told"], defBody (top 54), defScope (top 54), []⟩
def f_stock_table : Fi := ⟨["game", "value"], ["game", "value"], defBody (top 55), defScope (top 55), []⟩
def f_is_stock_world : Fi := ⟨["plant", "promise", "paper"], ["plant", "promise", "paper", "game", "first", "table", "row"], defBody (top 56), defScope (top 56), []⟩
def f_is_op_paper : Fi := ⟨["plant", "promise", "paper"], ["plant", "promise", "paper", "word"], defBody (top 58), defScope (top 58), []⟩
def f_is_world_paper : Fi := ⟨["plant", "promise", "paper"], ["plant", "promise", "paper", "word"], defBody (top 59), defScope (top 59), []⟩
def f_has_first : Fi := ⟨["plant", "promise", "paper"], ["plant", "promise", "paper", "first", "entry"], defBody (top 60), defScope (top 60), []⟩
def f__law_stream : Fi := ⟨["script"], ["script"], defBody (top 62), defScope (top 62), []⟩
def f__law_next : Fi := ⟨["stream", "many"], ["stream", "many", "digit", "k", "cell"], defBody (top 63), defScope (top 63), []⟩
def f__law_pick : Fi := ⟨["stream", "rows"], ["stream", "rows"], defBody (top 64), defScope (top 64), []⟩
def f__law_from : Fi := ⟨["stream", "low", "high"], ["stream", "low", "high"], defBody (top 65), defScope (top 65), []⟩
def f__law_same : Fi := ⟨["actual", "due"], ["actual", "due", "left", "turn", "one", "other", "at", "key"], defBody (top 66), defScope (top 66), []⟩
def f__law_copy : Fi := ⟨["value"], ["value", "found", "key", "item"], defBody (top 67), defScope (top 67), []⟩
def f__law_shuffle : Fi := ⟨["stream", "many"], ["stream", "many", "left", "k"], defBody (top 68), defScope (top 68), []⟩
def f__law_scaled : Fi := ⟨["stream", "paper"], ["stream", "paper", "times", "more", "wide", "jumps", "found", "place", "move", "counts", "keys", "k"], defBody (top 69), defScope (top 69), []⟩
def f__law_ahead : Fi := ⟨["side", "r", "one", "other"], ["side", "r", "one", "other", "many"], defBody (top 70), defScope (top 70), []⟩
def f__law_some : Fi := ⟨["states", "many"], ["states", "many", "s"], defBody (top 71), defScope (top 71), []⟩
def f__law_going : Fi := ⟨["stream"], ["stream", "many", "top", "states", "parts", "r", "letters", "machine", "plant", "levels", "s"], defBody (top 72), defScope (top 72), []⟩
def f__law_count : Fi := ⟨["levels", "at", "p"], ["levels", "at", "p", "found", "k", "r"], defBody (top 73), defScope (top 73), []⟩
def f__law_counters : Fi := ⟨["stream", "levels", "rows"], ["stream", "levels", "rows", "small", "found", "at", "entry", "p"], defBody (top 74), defScope (top 74), []⟩
def f__law_changed : Fi := ⟨["stream", "found"], ["stream", "found", "at", "k", "value", "other"], defBody (top 75), defScope (top 75), []⟩
def f__law_entries : Fi := ⟨["stream", "levels", "found", "side"], ["stream", "levels", "found", "side", "many", "paper", "at", "who", "move"], defBody (top 76), defScope (top 76), []⟩
def f__law_told : Fi := ⟨["plant", "promise", "paper", "dues"], ["plant", "promise", "paper", "dues", "before", "told"], defBody (top 77), defScope (top 77), []⟩
def f_law : Fi := ⟨["script"], ["script", "stream", "side", "plant", "promise", "levels", "rows", "found", "turn", "right", "at"], defBody (top 78), defScope (top 78), []⟩
def m_Game___init__ : Fi := ⟨["self", "plant", "promise", "rare"], ["self", "plant", "promise", "rare"], defBody (inClass (top 29) 0), defScope (inClass (top 29) 0), [.bl false]⟩
def m_Game_truths : Fi := ⟨["self", "joint"], ["self", "joint", "bad", "rows", "goal", "plant", "never", "parts", "e", "f", "ticks"], defBody (inClass (top 29) 1), defScope (inClass (top 29) 1), []⟩
def m_Game_blame : Fi := ⟨["self", "joint", "who", "left"], ["self", "joint", "who", "left", "bad", "rows", "goal", "i"], defBody (inClass (top 29) 2), defScope (inClass (top 29) 2), []⟩
def m_Game_waiting : Fi := ⟨["self", "i", "ticks", "row"], ["self", "i", "ticks", "row", "begins", "answered"], defBody (inClass (top 29) 3), defScope (inClass (top 29) 3), []⟩
def m_Game_further : Fi := ⟨["self", "goal", "done"], ["self", "goal", "done", "wide"], defBody (inClass (top 29) 4), defScope (inClass (top 29) 4), []⟩
def m_Game_enter : Fi := ⟨["self", "joint", "who", "left", "done"], ["self", "joint", "who", "left", "done", "bad", "rows", "goal", "i"], defBody (inClass (top 29) 5), defScope (inClass (top 29) 5), []⟩
def m_Game_first : Fi := ⟨["self"], ["self"], defBody (inClass (top 29) 6), defScope (inClass (top 29) 6), []⟩
def m_Game_moves_at : Fi := ⟨["self", "joint", "who"], ["self", "joint", "who", "found"], defBody (inClass (top 29) 7), defScope (inClass (top 29) 7), []⟩
def m_Game_leads : Fi := ⟨["self", "place"], ["self", "place", "found", "move", "joint", "who", "left", "done", "gain", "toll"], defBody (inClass (top 29) 8), defScope (inClass (top 29) 8), []⟩
def m_Game_lead : Fi := ⟨["self", "place", "move"], ["self", "place", "move"], defBody (inClass (top 29) 9), defScope (inClass (top 29) 9), []⟩
def m_Game_why : Fi := ⟨["self", "place", "move"], ["self", "place", "move", "joint", "who", "left", "done"], defBody (inClass (top 29) 10), defScope (inClass (top 29) 10), []⟩
def m_Game_rank_of : Fi := ⟨["self", "place"], ["self", "place", "held", "i", "wide"], defBody (inClass (top 29) 11), defScope (inClass (top 29) 11), []⟩
def fns : List (Str × Fi) := ([("_wall", f__wall), ("is_integer", f_is_integer), ("is_between", f_is_between), ("is_tuple_of", f_is_tuple_of), ("is_state", f_is_state), ("tables", f_tables), ("is_open_in", f_is_open_in), ("open_in", f_open_in), ("moves_in", f_moves_in), ("step_in", f_step_in), ("flag_holds", f_flag_holds), ("is_joint", f_is_joint), ("first_joint", f_first_joint), ("is_true", f_is_true), ("goal_word", f_goal_word), ("goal_rows", f_goal_rows), ("most_done", f_most_done), ("moved_on", f_moved_on), ("is_place", f_is_place), ("first_place", f_first_place)] : List (Str × Fi)) ++ ([("read_list", f_read_list), ("is_move", f_is_move), ("counting", f_counting), ("is_measure", f_is_measure), ("fits", f_fits), ("is_ranked_list", f_is_ranked_list), ("height_table", f_height_table), ("mean_rule", f_mean_rule), ("is_mean_op", f_is_mean_op), ("scaled_table", f_scaled_table), ("is_mean_world", f_is_mean_world), ("need_table", f_need_table), ("is_stock", f_is_stock), ("is_stock_op", f_is_stock_op), ("stock_rows", f_stock_rows), ("fewest", f_fewest), ("is_ahead", f_is_ahead), ("free_table", f_free_table), ("capped_table", f_capped_table), ("stock_table", f_stock_table)] : List (Str × Fi)) ++ ([("is_stock_world", f_is_stock_world), ("is_op_paper", f_is_op_paper), ("is_world_paper", f_is_world_paper), ("has_first", f_has_first), ("_law_stream", f__law_stream), ("_law_next", f__law_next), ("_law_pick", f__law_pick), ("_law_from", f__law_from), ("_law_same", f__law_same), ("_law_copy", f__law_copy), ("_law_shuffle", f__law_shuffle), ("_law_scaled", f__law_scaled), ("_law_ahead", f__law_ahead), ("_law_some", f__law_some), ("_law_going", f__law_going), ("_law_count", f__law_count), ("_law_counters", f__law_counters), ("_law_changed", f__law_changed), ("_law_entries", f__law_entries), ("_law_told", f__law_told)] : List (Str × Fi)) ++ ([("law", f_law)] : List (Str × Fi))
def cls : List (Str × List Str × List (Str × Fi)) := ([("Game", ["plant", "promise", "rare", "word", "rows", "most", "table", "seen"], ([("__init__", m_Game___init__), ("truths", m_Game_truths), ("blame", m_Game_blame), ("waiting", m_Game_waiting), ("further", m_Game_further), ("enter", m_Game_enter), ("first", m_Game_first), ("moves_at", m_Game_moves_at), ("leads", m_Game_leads), ("lead", m_Game_lead), ("why", m_Game_why), ("rank_of", m_Game_rank_of)] : List (Str × Fi)))] : List (Str × List Str × List (Str × Fi)))
def cst : List (Str × D) := ([("RARE", .str "rare"), ("SIDES", .tup [.str "op", .str "world", .str "rare"]), ("WAIT", .int (-1)), ("SINGLE", .tup [.str "reach", .str "again", .str "settle"]), ("LISTS", .tup [.str "ranked", .str "agains"]), ("OPERATOR_places", .int 0), ("OPERATOR_stockpapers", .int 0), ("WORLD", .int 1)] : List (Str × D))
def fre : List Str := ["abs", "all", "any", "bool", "dict", "int", "isinstance", "len", "list", "max", "min", "range", "str", "tuple"]
def bxs : List (Nat × Nat) := ([(392, 11), (100, 20)] : List (Nat × Nat))
def Γ : Gm := ⟨fns, cls, cst, fre, bxs, 100000⟩
def d__wall : He.DefD := ⟨("_wall", none), "_wall", "_wall", defArgs (top 0), f__wall.body, f__wall.sc, [], []⟩
def d_is_integer : He.DefD := ⟨("is_integer", none), "is_integer", "is_integer", defArgs (top 2), f_is_integer.body, f_is_integer.sc, [], []⟩
def d_is_between : He.DefD := ⟨("is_between", none), "is_between", "is_between", defArgs (top 3), f_is_between.body, f_is_between.sc, [], []⟩
def d_is_tuple_of : He.DefD := ⟨("is_tuple_of", none), "is_tuple_of", "is_tuple_of", defArgs (top 4), f_is_tuple_of.body, f_is_tuple_of.sc, [], []⟩
def d_is_state : He.DefD := ⟨("is_state", none), "is_state", "is_state", defArgs (top 9), f_is_state.body, f_is_state.sc, [], []⟩
def d_tables : He.DefD := ⟨("tables", none), "tables", "tables", defArgs (top 10), f_tables.body, f_tables.sc, [], []⟩
def d_is_open_in : He.DefD := ⟨("is_open_in", none), "is_open_in", "is_open_in", defArgs (top 11), f_is_open_in.body, f_is_open_in.sc, [], []⟩
def d_open_in : He.DefD := ⟨("open_in", none), "open_in", "open_in", defArgs (top 12), f_open_in.body, f_open_in.sc, [], []⟩
def d_moves_in : He.DefD := ⟨("moves_in", none), "moves_in", "moves_in", defArgs (top 13), f_moves_in.body, f_moves_in.sc, [], []⟩
def d_step_in : He.DefD := ⟨("step_in", none), "step_in", "step_in", defArgs (top 14), f_step_in.body, f_step_in.sc, [], []⟩
def d_flag_holds : He.DefD := ⟨("flag_holds", none), "flag_holds", "flag_holds", defArgs (top 15), f_flag_holds.body, f_flag_holds.sc, [], []⟩
def d_is_joint : He.DefD := ⟨("is_joint", none), "is_joint", "is_joint", defArgs (top 16), f_is_joint.body, f_is_joint.sc, [], []⟩
def d_first_joint : He.DefD := ⟨("first_joint", none), "first_joint", "first_joint", defArgs (top 17), f_first_joint.body, f_first_joint.sc, [], []⟩
def d_is_true : He.DefD := ⟨("is_true", none), "is_true", "is_true", defArgs (top 19), f_is_true.body, f_is_true.sc, [], []⟩
def d_goal_word : He.DefD := ⟨("goal_word", none), "goal_word", "goal_word", defArgs (top 23), f_goal_word.body, f_goal_word.sc, [], []⟩
def d_goal_rows : He.DefD := ⟨("goal_rows", none), "goal_rows", "goal_rows", defArgs (top 24), f_goal_rows.body, f_goal_rows.sc, [], []⟩
def d_most_done : He.DefD := ⟨("most_done", none), "most_done", "most_done", defArgs (top 25), f_most_done.body, f_most_done.sc, [], []⟩
def d_moved_on : He.DefD := ⟨("moved_on", none), "moved_on", "moved_on", defArgs (top 28), f_moved_on.body, f_moved_on.sc, [], []⟩
def d_is_place : He.DefD := ⟨("is_place", none), "is_place", "is_place", defArgs (top 30), f_is_place.body, f_is_place.sc, [], []⟩
def d_first_place : He.DefD := ⟨("first_place", none), "first_place", "first_place", defArgs (top 31), f_first_place.body, f_first_place.sc, [], []⟩
def d_read_list : He.DefD := ⟨("read_list", none), "read_list", "read_list", defArgs (top 33), f_read_list.body, f_read_list.sc, [], []⟩
def d_is_move : He.DefD := ⟨("is_move", none), "is_move", "is_move", defArgs (top 34), f_is_move.body, f_is_move.sc, [], []⟩
def d_counting : He.DefD := ⟨("counting", none), "counting", "counting", defArgs (top 35), f_counting.body, f_counting.sc, [], []⟩
def d_is_measure : He.DefD := ⟨("is_measure", none), "is_measure", "is_measure", defArgs (top 36), f_is_measure.body, f_is_measure.sc, [], []⟩
def d_fits : He.DefD := ⟨("fits", none), "fits", "fits", defArgs (top 37), f_fits.body, f_fits.sc, [], []⟩
def d_is_ranked_list : He.DefD := ⟨("is_ranked_list", none), "is_ranked_list", "is_ranked_list", defArgs (top 38), f_is_ranked_list.body, f_is_ranked_list.sc, [], []⟩
def d_height_table : He.DefD := ⟨("height_table", none), "height_table", "height_table", defArgs (top 42), f_height_table.body, f_height_table.sc, [], []⟩
def d_mean_rule : He.DefD := ⟨("mean_rule", none), "mean_rule", "mean_rule", defArgs (top 43), f_mean_rule.body, f_mean_rule.sc, [], []⟩
def d_is_mean_op : He.DefD := ⟨("is_mean_op", none), "is_mean_op", "is_mean_op", defArgs (top 44), f_is_mean_op.body, f_is_mean_op.sc, [], []⟩
def d_scaled_table : He.DefD := ⟨("scaled_table", none), "scaled_table", "scaled_table", defArgs (top 45), f_scaled_table.body, f_scaled_table.sc, [], []⟩
def d_is_mean_world : He.DefD := ⟨("is_mean_world", none), "is_mean_world", "is_mean_world", defArgs (top 46), f_is_mean_world.body, f_is_mean_world.sc, [], []⟩
def d_need_table : He.DefD := ⟨("need_table", none), "need_table", "need_table", defArgs (top 47), f_need_table.body, f_need_table.sc, [], []⟩
def d_is_stock : He.DefD := ⟨("is_stock", none), "is_stock", "is_stock", defArgs (top 48), f_is_stock.body, f_is_stock.sc, [], []⟩
def d_is_stock_op : He.DefD := ⟨("is_stock_op", none), "is_stock_op", "is_stock_op", defArgs (top 49), f_is_stock_op.body, f_is_stock_op.sc, [], []⟩
def d_stock_rows : He.DefD := ⟨("stock_rows", none), "stock_rows", "stock_rows", defArgs (top 50), f_stock_rows.body, f_stock_rows.sc, [], []⟩
def d_fewest : He.DefD := ⟨("fewest", none), "fewest", "fewest", defArgs (top 51), f_fewest.body, f_fewest.sc, [], []⟩
def d_is_ahead : He.DefD := ⟨("is_ahead", none), "is_ahead", "is_ahead", defArgs (top 52), f_is_ahead.body, f_is_ahead.sc, [], []⟩
def d_free_table : He.DefD := ⟨("free_table", none), "free_table", "free_table", defArgs (top 53), f_free_table.body, f_free_table.sc, [], []⟩
def d_capped_table : He.DefD := ⟨("capped_table", none), "capped_table", "capped_table", defArgs (top 54), f_capped_table.body, f_capped_table.sc, [], []⟩
def d_stock_table : He.DefD := ⟨("stock_table", none), "stock_table", "stock_table", defArgs (top 55), f_stock_table.body, f_stock_table.sc, [], []⟩
def d_is_stock_world : He.DefD := ⟨("is_stock_world", none), "is_stock_world", "is_stock_world", defArgs (top 56), f_is_stock_world.body, f_is_stock_world.sc, [], []⟩
def d_is_op_paper : He.DefD := ⟨("is_op_paper", none), "is_op_paper", "is_op_paper", defArgs (top 58), f_is_op_paper.body, f_is_op_paper.sc, [], []⟩
def d_is_world_paper : He.DefD := ⟨("is_world_paper", none), "is_world_paper", "is_world_paper", defArgs (top 59), f_is_world_paper.body, f_is_world_paper.sc, [], []⟩
def d_has_first : He.DefD := ⟨("has_first", none), "has_first", "has_first", defArgs (top 60), f_has_first.body, f_has_first.sc, [], []⟩
def d__law_stream : He.DefD := ⟨("_law_stream", none), "_law_stream", "_law_stream", defArgs (top 62), f__law_stream.body, f__law_stream.sc, [], []⟩
def d__law_next : He.DefD := ⟨("_law_next", none), "_law_next", "_law_next", defArgs (top 63), f__law_next.body, f__law_next.sc, [], []⟩
def d__law_pick : He.DefD := ⟨("_law_pick", none), "_law_pick", "_law_pick", defArgs (top 64), f__law_pick.body, f__law_pick.sc, [], []⟩
def d__law_from : He.DefD := ⟨("_law_from", none), "_law_from", "_law_from", defArgs (top 65), f__law_from.body, f__law_from.sc, [], []⟩
def d__law_same : He.DefD := ⟨("_law_same", none), "_law_same", "_law_same", defArgs (top 66), f__law_same.body, f__law_same.sc, [], []⟩
def d__law_copy : He.DefD := ⟨("_law_copy", none), "_law_copy", "_law_copy", defArgs (top 67), f__law_copy.body, f__law_copy.sc, [], []⟩
def d__law_shuffle : He.DefD := ⟨("_law_shuffle", none), "_law_shuffle", "_law_shuffle", defArgs (top 68), f__law_shuffle.body, f__law_shuffle.sc, [], []⟩
def d__law_scaled : He.DefD := ⟨("_law_scaled", none), "_law_scaled", "_law_scaled", defArgs (top 69), f__law_scaled.body, f__law_scaled.sc, [], []⟩
def d__law_ahead : He.DefD := ⟨("_law_ahead", none), "_law_ahead", "_law_ahead", defArgs (top 70), f__law_ahead.body, f__law_ahead.sc, [], []⟩
def d__law_some : He.DefD := ⟨("_law_some", none), "_law_some", "_law_some", defArgs (top 71), f__law_some.body, f__law_some.sc, [], []⟩
def d__law_going : He.DefD := ⟨("_law_going", none), "_law_going", "_law_going", defArgs (top 72), f__law_going.body, f__law_going.sc, [], []⟩
def d__law_count : He.DefD := ⟨("_law_count", none), "_law_count", "_law_count", defArgs (top 73), f__law_count.body, f__law_count.sc, [], []⟩
def d__law_counters : He.DefD := ⟨("_law_counters", none), "_law_counters", "_law_counters", defArgs (top 74), f__law_counters.body, f__law_counters.sc, [], []⟩
def d__law_changed : He.DefD := ⟨("_law_changed", none), "_law_changed", "_law_changed", defArgs (top 75), f__law_changed.body, f__law_changed.sc, [], []⟩
def d__law_entries : He.DefD := ⟨("_law_entries", none), "_law_entries", "_law_entries", defArgs (top 76), f__law_entries.body, f__law_entries.sc, [], []⟩
def d__law_told : He.DefD := ⟨("_law_told", none), "_law_told", "_law_told", defArgs (top 77), f__law_told.body, f__law_told.sc, [], []⟩
def d_law : He.DefD := ⟨("law", none), "law", "law", defArgs (top 78), f_law.body, f_law.sc, [], []⟩
def d_Game___init__ : He.DefD := ⟨("Game", some "__init__"), "__init__", "Game.__init__", defArgs (inClass (top 29) 0), m_Game___init__.body, m_Game___init__.sc, [.bl false], []⟩
def d_Game_truths : He.DefD := ⟨("Game", some "truths"), "truths", "Game.truths", defArgs (inClass (top 29) 1), m_Game_truths.body, m_Game_truths.sc, [], []⟩
def d_Game_blame : He.DefD := ⟨("Game", some "blame"), "blame", "Game.blame", defArgs (inClass (top 29) 2), m_Game_blame.body, m_Game_blame.sc, [], []⟩
def d_Game_waiting : He.DefD := ⟨("Game", some "waiting"), "waiting", "Game.waiting", defArgs (inClass (top 29) 3), m_Game_waiting.body, m_Game_waiting.sc, [], []⟩
def d_Game_further : He.DefD := ⟨("Game", some "further"), "further", "Game.further", defArgs (inClass (top 29) 4), m_Game_further.body, m_Game_further.sc, [], []⟩
def d_Game_enter : He.DefD := ⟨("Game", some "enter"), "enter", "Game.enter", defArgs (inClass (top 29) 5), m_Game_enter.body, m_Game_enter.sc, [], []⟩
def d_Game_first : He.DefD := ⟨("Game", some "first"), "first", "Game.first", defArgs (inClass (top 29) 6), m_Game_first.body, m_Game_first.sc, [], []⟩
def d_Game_moves_at : He.DefD := ⟨("Game", some "moves_at"), "moves_at", "Game.moves_at", defArgs (inClass (top 29) 7), m_Game_moves_at.body, m_Game_moves_at.sc, [], []⟩
def d_Game_leads : He.DefD := ⟨("Game", some "leads"), "leads", "Game.leads", defArgs (inClass (top 29) 8), m_Game_leads.body, m_Game_leads.sc, [], []⟩
def d_Game_lead : He.DefD := ⟨("Game", some "lead"), "lead", "Game.lead", defArgs (inClass (top 29) 9), m_Game_lead.body, m_Game_lead.sc, [], []⟩
def d_Game_why : He.DefD := ⟨("Game", some "why"), "why", "Game.why", defArgs (inClass (top 29) 10), m_Game_why.body, m_Game_why.sc, [], []⟩
def d_Game_rank_of : He.DefD := ⟨("Game", some "rank_of"), "rank_of", "Game.rank_of", defArgs (inClass (top 29) 11), m_Game_rank_of.body, m_Game_rank_of.sc, [], []⟩
def fn : List He.DefD := ([d__wall, d_is_integer, d_is_between, d_is_tuple_of, d_is_state, d_tables, d_is_open_in, d_open_in, d_moves_in, d_step_in, d_flag_holds, d_is_joint, d_first_joint, d_is_true, d_goal_word, d_goal_rows, d_most_done, d_moved_on, d_is_place, d_first_place] : List He.DefD) ++ ([d_read_list, d_is_move, d_counting, d_is_measure, d_fits, d_is_ranked_list, d_height_table, d_mean_rule, d_is_mean_op, d_scaled_table, d_is_mean_world, d_need_table, d_is_stock, d_is_stock_op, d_stock_rows, d_fewest, d_is_ahead, d_free_table, d_capped_table, d_stock_table] : List He.DefD) ++ ([d_is_stock_world, d_is_op_paper, d_is_world_paper, d_has_first, d__law_stream, d__law_next, d__law_pick, d__law_from, d__law_same, d__law_copy, d__law_shuffle, d__law_scaled, d__law_ahead, d__law_some, d__law_going, d__law_count, d__law_counters, d__law_changed, d__law_entries, d__law_told] : List He.DefD) ++ ([d_law, d_Game___init__, d_Game_truths, d_Game_blame, d_Game_waiting, d_Game_further, d_Game_enter, d_Game_first, d_Game_moves_at, d_Game_leads, d_Game_lead, d_Game_why, d_Game_rank_of] : List He.DefD)
def fa : List He.Fa := ([.glo "_wall", .glo "is_integer", .glo "is_between", .glo "is_tuple_of", .glo "is_state", .glo "tables", .glo "is_open_in", .glo "open_in", .glo "moves_in", .glo "step_in", .glo "flag_holds", .glo "is_joint", .glo "first_joint", .glo "is_true", .glo "goal_word", .glo "goal_rows", .glo "most_done", .glo "moved_on", .glo "is_place", .glo "first_place"] : List He.Fa) ++ ([.glo "read_list", .glo "is_move", .glo "counting", .glo "is_measure", .glo "fits", .glo "is_ranked_list", .glo "height_table", .glo "mean_rule", .glo "is_mean_op", .glo "scaled_table", .glo "is_mean_world", .glo "need_table", .glo "is_stock", .glo "is_stock_op", .glo "stock_rows", .glo "fewest", .glo "is_ahead", .glo "free_table", .glo "capped_table", .glo "stock_table"] : List He.Fa) ++ ([.glo "is_stock_world", .glo "is_op_paper", .glo "is_world_paper", .glo "has_first", .glo "_law_stream", .glo "_law_next", .glo "_law_pick", .glo "_law_from", .glo "_law_same", .glo "_law_copy", .glo "_law_shuffle", .glo "_law_scaled", .glo "_law_ahead", .glo "_law_some", .glo "_law_going", .glo "_law_count", .glo "_law_counters", .glo "_law_changed", .glo "_law_entries", .glo "_law_told"] : List He.Fa) ++ ([.glo "law", .glo "Game", .cls "Game", .mkr "Game", .noat "Game" "plant", .noat "Game" "promise", .noat "Game" "rare", .noat "Game" "word", .noat "Game" "rows", .noat "Game" "most", .noat "Game" "table", .noat "Game" "seen", .meth "Game" "truths", .meth "Game" "blame", .meth "Game" "waiting", .meth "Game" "further", .meth "Game" "enter", .meth "Game" "first", .meth "Game" "moves_at", .meth "Game" "leads"] : List He.Fa) ++ ([.meth "Game" "lead", .meth "Game" "why", .meth "Game" "rank_of", .free "abs", .free "all", .free "any", .free "bool", .free "dict", .free "int", .free "isinstance", .free "len", .free "list", .free "max", .free "min", .free "range", .free "str", .free "tuple"] : List He.Fa)
abbrev R : PySem.W.OpenRow := PySem.W.OpenLaw.row PySem.Challenge.rw_holdagainst_k23_whole_counters_on_rings
abbrev hk : PySem.W.Hook := hookV 5 fa fn cst
def ob (s : PySem.W.SharedT) : AlV := obsVG 5 fa fn cst (HandSHeadRun.getT s)
theorem ob_eq (s : PySem.W.SharedT) : ob s = hk.obs s.abs := obsVG_eq (HandSHeadRun.getT_eq s)
def loose : List Str := (["_wall", "__name__", "is_integer", "is_between", "is_tuple_of", "RARE", "SIDES", "WAIT", "is_state", "tables", "is_open_in", "open_in", "moves_in", "step_in", "flag_holds", "is_joint", "first_joint", "is_true", "SINGLE", "LISTS"] : List Str) ++ (["goal_word", "goal_rows", "most_done", "OPERATOR_places", "moved_on", "Game", "is_place", "first_place", "read_list", "is_move", "counting", "is_measure", "fits", "is_ranked_list", "OPERATOR_stockpapers", "WORLD", "height_table", "mean_rule", "is_mean_op", "scaled_table"] : List Str) ++ (["is_mean_world", "need_table", "is_stock", "is_stock_op", "stock_rows", "fewest", "is_ahead", "free_table", "capped_table", "stock_table", "is_stock_world", "is_op_paper", "is_world_paper", "has_first", "_law_stream", "_law_next", "_law_pick", "_law_from", "_law_same", "_law_copy"] : List Str) ++ (["_law_shuffle", "_law_scaled", "_law_ahead", "_law_some", "_law_going", "_law_count", "_law_counters", "_law_changed", "_law_entries", "_law_told"] : List Str)
theorem run (w : World) : HandSHeadRun.RunEq R (PySem.W.view R.prog [78]) hk ob 6000 loose w := by
  intro os
  kernel_rfl
section
variable {P : Program} {w : World} {K : PySem.W.Frag} {h : Heap} {mg : Str → Option Value}
theorem st__wall (c : SaysV fa fn cst K) (X : K.In h) (G : h.Ns mainGlobals mg) : StG P w K mg ("_wall", f__wall) := by
  obtain ⟨fd, F⟩ := c.toD.def_ 0 (d := d__wall) rfl
  exact ⟨_, fd, He.glo_ok X G (c.toD.fact 0 (f := .glo "_wall") rfl), F.kp, ⟨⟨_, _, _, _, _, F⟩, ⟨rfl, rfl, rfl, by decide +kernel, rfl, by decide +kernel, by decide +kernel⟩, bindA0 F rfl fun _ _ _ _ _ _ us hl => match us, hl with | [_], _ => rfl⟩⟩
theorem st_is_integer (c : SaysV fa fn cst K) (X : K.In h) (G : h.Ns mainGlobals mg) : StG P w K mg ("is_integer", f_is_integer) := by
  obtain ⟨fd, F⟩ := c.toD.def_ 1 (d := d_is_integer) rfl
  exact ⟨_, fd, He.glo_ok X G (c.toD.fact 1 (f := .glo "is_integer") rfl), F.kp, ⟨⟨_, _, _, _, _, F⟩, ⟨rfl, rfl, rfl, by decide +kernel, rfl, by decide +kernel, by decide +kernel⟩, bindA0 F rfl fun _ _ _ _ _ _ us hl => match us, hl with | [_], _ => rfl⟩⟩
theorem st_is_between (c : SaysV fa fn cst K) (X : K.In h) (G : h.Ns mainGlobals mg) : StG P w K mg ("is_between", f_is_between) := by
  obtain ⟨fd, F⟩ := c.toD.def_ 2 (d := d_is_between) rfl
  exact ⟨_, fd, He.glo_ok X G (c.toD.fact 2 (f := .glo "is_between") rfl), F.kp, ⟨⟨_, _, _, _, _, F⟩, ⟨rfl, rfl, rfl, by decide +kernel, rfl, by decide +kernel, by decide +kernel⟩, bindA0 F rfl fun _ _ _ _ _ _ us hl => match us, hl with | [_, _, _], _ => rfl⟩⟩
theorem st_is_tuple_of (c : SaysV fa fn cst K) (X : K.In h) (G : h.Ns mainGlobals mg) : StG P w K mg ("is_tuple_of", f_is_tuple_of) := by
  obtain ⟨fd, F⟩ := c.toD.def_ 3 (d := d_is_tuple_of) rfl
  exact ⟨_, fd, He.glo_ok X G (c.toD.fact 3 (f := .glo "is_tuple_of") rfl), F.kp, ⟨⟨_, _, _, _, _, F⟩, ⟨rfl, rfl, rfl, by decide +kernel, rfl, by decide +kernel, by decide +kernel⟩, bindA0 F rfl fun _ _ _ _ _ _ us hl => match us, hl with | [_, _], _ => rfl⟩⟩
theorem st_is_state (c : SaysV fa fn cst K) (X : K.In h) (G : h.Ns mainGlobals mg) : StG P w K mg ("is_state", f_is_state) := by
  obtain ⟨fd, F⟩ := c.toD.def_ 4 (d := d_is_state) rfl
  exact ⟨_, fd, He.glo_ok X G (c.toD.fact 4 (f := .glo "is_state") rfl), F.kp, ⟨⟨_, _, _, _, _, F⟩, ⟨rfl, rfl, rfl, by decide +kernel, rfl, by decide +kernel, by decide +kernel⟩, bindA0 F rfl fun _ _ _ _ _ _ us hl => match us, hl with | [_, _, _], _ => rfl⟩⟩
theorem st_tables (c : SaysV fa fn cst K) (X : K.In h) (G : h.Ns mainGlobals mg) : StG P w K mg ("tables", f_tables) := by
  obtain ⟨fd, F⟩ := c.toD.def_ 5 (d := d_tables) rfl
  exact ⟨_, fd, He.glo_ok X G (c.toD.fact 5 (f := .glo "tables") rfl), F.kp, ⟨⟨_, _, _, _, _, F⟩, ⟨rfl, rfl, rfl, by decide +kernel, rfl, by decide +kernel, by decide +kernel⟩, bindA0 F rfl fun _ _ _ _ _ _ us hl => match us, hl with | [_], _ => rfl⟩⟩
theorem st_is_open_in (c : SaysV fa fn cst K) (X : K.In h) (G : h.Ns mainGlobals mg) : StG P w K mg ("is_open_in", f_is_open_in) := by
  obtain ⟨fd, F⟩ := c.toD.def_ 6 (d := d_is_open_in) rfl
  exact ⟨_, fd, He.glo_ok X G (c.toD.fact 6 (f := .glo "is_open_in") rfl), F.kp, ⟨⟨_, _, _, _, _, F⟩, ⟨rfl, rfl, rfl, by decide +kernel, rfl, by decide +kernel, by decide +kernel⟩, bindA0 F rfl fun _ _ _ _ _ _ us hl => match us, hl with | [_, _, _], _ => rfl⟩⟩
theorem st_open_in (c : SaysV fa fn cst K) (X : K.In h) (G : h.Ns mainGlobals mg) : StG P w K mg ("open_in", f_open_in) := by
  obtain ⟨fd, F⟩ := c.toD.def_ 7 (d := d_open_in) rfl
  exact ⟨_, fd, He.glo_ok X G (c.toD.fact 7 (f := .glo "open_in") rfl), F.kp, ⟨⟨_, _, _, _, _, F⟩, ⟨rfl, rfl, rfl, by decide +kernel, rfl, by decide +kernel, by decide +kernel⟩, bindA0 F rfl fun _ _ _ _ _ _ us hl => match us, hl with | [_, _, _, _], _ => rfl⟩⟩
theorem st_moves_in (c : SaysV fa fn cst K) (X : K.In h) (G : h.Ns mainGlobals mg) : StG P w K mg ("moves_in", f_moves_in) := by
  obtain ⟨fd, F⟩ := c.toD.def_ 8 (d := d_moves_in) rfl
  exact ⟨_, fd, He.glo_ok X G (c.toD.fact 8 (f := .glo "moves_in") rfl), F.kp, ⟨⟨_, _, _, _, _, F⟩, ⟨rfl, rfl, rfl, by decide +kernel, rfl, by decide +kernel, by decide +kernel⟩, bindA0 F rfl fun _ _ _ _ _ _ us hl => match us, hl with | [_, _, _, _], _ => rfl⟩⟩
theorem st_step_in (c : SaysV fa fn cst K) (X : K.In h) (G : h.Ns mainGlobals mg) : StG P w K mg ("step_in", f_step_in) := by
  obtain ⟨fd, F⟩ := c.toD.def_ 9 (d := d_step_in) rfl
  exact ⟨_, fd, He.glo_ok X G (c.toD.fact 9 (f := .glo "step_in") rfl), F.kp, ⟨⟨_, _, _, _, _, F⟩, ⟨rfl, rfl, rfl, by decide +kernel, rfl, by decide +kernel, by decide +kernel⟩, bindA0 F rfl fun _ _ _ _ _ _ us hl => match us, hl with | [_, _, _], _ => rfl⟩⟩
theorem st_flag_holds (c : SaysV fa fn cst K) (X : K.In h) (G : h.Ns mainGlobals mg) : StG P w K mg ("flag_holds", f_flag_holds) := by
  obtain ⟨fd, F⟩ := c.toD.def_ 10 (d := d_flag_holds) rfl
  exact ⟨_, fd, He.glo_ok X G (c.toD.fact 10 (f := .glo "flag_holds") rfl), F.kp, ⟨⟨_, _, _, _, _, F⟩, ⟨rfl, rfl, rfl, by decide +kernel, rfl, by decide +kernel, by decide +kernel⟩, bindA0 F rfl fun _ _ _ _ _ _ us hl => match us, hl with | [_, _, _], _ => rfl⟩⟩
theorem st_is_joint (c : SaysV fa fn cst K) (X : K.In h) (G : h.Ns mainGlobals mg) : StG P w K mg ("is_joint", f_is_joint) := by
  obtain ⟨fd, F⟩ := c.toD.def_ 11 (d := d_is_joint) rfl
  exact ⟨_, fd, He.glo_ok X G (c.toD.fact 11 (f := .glo "is_joint") rfl), F.kp, ⟨⟨_, _, _, _, _, F⟩, ⟨rfl, rfl, rfl, by decide +kernel, rfl, by decide +kernel, by decide +kernel⟩, bindA0 F rfl fun _ _ _ _ _ _ us hl => match us, hl with | [_, _], _ => rfl⟩⟩
theorem st_first_joint (c : SaysV fa fn cst K) (X : K.In h) (G : h.Ns mainGlobals mg) : StG P w K mg ("first_joint", f_first_joint) := by
  obtain ⟨fd, F⟩ := c.toD.def_ 12 (d := d_first_joint) rfl
  exact ⟨_, fd, He.glo_ok X G (c.toD.fact 12 (f := .glo "first_joint") rfl), F.kp, ⟨⟨_, _, _, _, _, F⟩, ⟨rfl, rfl, rfl, by decide +kernel, rfl, by decide +kernel, by decide +kernel⟩, bindA0 F rfl fun _ _ _ _ _ _ us hl => match us, hl with | [_], _ => rfl⟩⟩
theorem st_is_true (c : SaysV fa fn cst K) (X : K.In h) (G : h.Ns mainGlobals mg) : StG P w K mg ("is_true", f_is_true) := by
  obtain ⟨fd, F⟩ := c.toD.def_ 13 (d := d_is_true) rfl
  exact ⟨_, fd, He.glo_ok X G (c.toD.fact 13 (f := .glo "is_true") rfl), F.kp, ⟨⟨_, _, _, _, _, F⟩, ⟨rfl, rfl, rfl, by decide +kernel, rfl, by decide +kernel, by decide +kernel⟩, bindA0 F rfl fun _ _ _ _ _ _ us hl => match us, hl with | [_, _, _], _ => rfl⟩⟩
theorem st_goal_word (c : SaysV fa fn cst K) (X : K.In h) (G : h.Ns mainGlobals mg) : StG P w K mg ("goal_word", f_goal_word) := by
  obtain ⟨fd, F⟩ := c.toD.def_ 14 (d := d_goal_word) rfl
  exact ⟨_, fd, He.glo_ok X G (c.toD.fact 14 (f := .glo "goal_word") rfl), F.kp, ⟨⟨_, _, _, _, _, F⟩, ⟨rfl, rfl, rfl, by decide +kernel, rfl, by decide +kernel, by decide +kernel⟩, bindA0 F rfl fun _ _ _ _ _ _ us hl => match us, hl with | [_], _ => rfl⟩⟩
theorem st_goal_rows (c : SaysV fa fn cst K) (X : K.In h) (G : h.Ns mainGlobals mg) : StG P w K mg ("goal_rows", f_goal_rows) := by
  obtain ⟨fd, F⟩ := c.toD.def_ 15 (d := d_goal_rows) rfl
  exact ⟨_, fd, He.glo_ok X G (c.toD.fact 15 (f := .glo "goal_rows") rfl), F.kp, ⟨⟨_, _, _, _, _, F⟩, ⟨rfl, rfl, rfl, by decide +kernel, rfl, by decide +kernel, by decide +kernel⟩, bindA0 F rfl fun _ _ _ _ _ _ us hl => match us, hl with | [_], _ => rfl⟩⟩
theorem st_most_done (c : SaysV fa fn cst K) (X : K.In h) (G : h.Ns mainGlobals mg) : StG P w K mg ("most_done", f_most_done) := by
  obtain ⟨fd, F⟩ := c.toD.def_ 16 (d := d_most_done) rfl
  exact ⟨_, fd, He.glo_ok X G (c.toD.fact 16 (f := .glo "most_done") rfl), F.kp, ⟨⟨_, _, _, _, _, F⟩, ⟨rfl, rfl, rfl, by decide +kernel, rfl, by decide +kernel, by decide +kernel⟩, bindA0 F rfl fun _ _ _ _ _ _ us hl => match us, hl with | [_], _ => rfl⟩⟩
theorem st_moved_on (c : SaysV fa fn cst K) (X : K.In h) (G : h.Ns mainGlobals mg) : StG P w K mg ("moved_on", f_moved_on) := by
  obtain ⟨fd, F⟩ := c.toD.def_ 17 (d := d_moved_on) rfl
  exact ⟨_, fd, He.glo_ok X G (c.toD.fact 17 (f := .glo "moved_on") rfl), F.kp, ⟨⟨_, _, _, _, _, F⟩, ⟨rfl, rfl, rfl, by decide +kernel, rfl, by decide +kernel, by decide +kernel⟩, bindA0 F rfl fun _ _ _ _ _ _ us hl => match us, hl with | [_, _], _ => rfl⟩⟩
theorem st_is_place (c : SaysV fa fn cst K) (X : K.In h) (G : h.Ns mainGlobals mg) : StG P w K mg ("is_place", f_is_place) := by
  obtain ⟨fd, F⟩ := c.toD.def_ 18 (d := d_is_place) rfl
  exact ⟨_, fd, He.glo_ok X G (c.toD.fact 18 (f := .glo "is_place") rfl), F.kp, ⟨⟨_, _, _, _, _, F⟩, ⟨rfl, rfl, rfl, by decide +kernel, rfl, by decide +kernel, by decide +kernel⟩, bindA0 F rfl fun _ _ _ _ _ _ us hl => match us, hl with | [_, _, _], _ => rfl⟩⟩
theorem st_first_place (c : SaysV fa fn cst K) (X : K.In h) (G : h.Ns mainGlobals mg) : StG P w K mg ("first_place", f_first_place) := by
  obtain ⟨fd, F⟩ := c.toD.def_ 19 (d := d_first_place) rfl
  exact ⟨_, fd, He.glo_ok X G (c.toD.fact 19 (f := .glo "first_place") rfl), F.kp, ⟨⟨_, _, _, _, _, F⟩, ⟨rfl, rfl, rfl, by decide +kernel, rfl, by decide +kernel, by decide +kernel⟩, bindA0 F rfl fun _ _ _ _ _ _ us hl => match us, hl with | [_, _], _ => rfl⟩⟩
theorem st_read_list (c : SaysV fa fn cst K) (X : K.In h) (G : h.Ns mainGlobals mg) : StG P w K mg ("read_list", f_read_list) := by
  obtain ⟨fd, F⟩ := c.toD.def_ 20 (d := d_read_list) rfl
  exact ⟨_, fd, He.glo_ok X G (c.toD.fact 20 (f := .glo "read_list") rfl), F.kp, ⟨⟨_, _, _, _, _, F⟩, ⟨rfl, rfl, rfl, by decide +kernel, rfl, by decide +kernel, by decide +kernel⟩, bindA0 F rfl fun _ _ _ _ _ _ us hl => match us, hl with | [_, _, _, _, _], _ => rfl⟩⟩
theorem st_is_move (c : SaysV fa fn cst K) (X : K.In h) (G : h.Ns mainGlobals mg) : StG P w K mg ("is_move", f_is_move) := by
  obtain ⟨fd, F⟩ := c.toD.def_ 21 (d := d_is_move) rfl
  exact ⟨_, fd, He.glo_ok X G (c.toD.fact 21 (f := .glo "is_move") rfl), F.kp, ⟨⟨_, _, _, _, _, F⟩, ⟨rfl, rfl, rfl, by decide +kernel, rfl, by decide +kernel, by decide +kernel⟩, bindA0 F rfl fun _ _ _ _ _ _ us hl => match us, hl with | [_, _, _, _, _], _ => rfl⟩⟩
theorem st_counting (c : SaysV fa fn cst K) (X : K.In h) (G : h.Ns mainGlobals mg) : StG P w K mg ("counting", f_counting) := by
  obtain ⟨fd, F⟩ := c.toD.def_ 22 (d := d_counting) rfl
  exact ⟨_, fd, He.glo_ok X G (c.toD.fact 22 (f := .glo "counting") rfl), F.kp, ⟨⟨_, _, _, _, _, F⟩, ⟨rfl, rfl, rfl, by decide +kernel, rfl, by decide +kernel, by decide +kernel⟩, bindA0 F rfl fun _ _ _ _ _ _ us hl => match us, hl with | [_, _, _], _ => rfl⟩⟩
theorem st_is_measure (c : SaysV fa fn cst K) (X : K.In h) (G : h.Ns mainGlobals mg) : StG P w K mg ("is_measure", f_is_measure) := by
  obtain ⟨fd, F⟩ := c.toD.def_ 23 (d := d_is_measure) rfl
  exact ⟨_, fd, He.glo_ok X G (c.toD.fact 23 (f := .glo "is_measure") rfl), F.kp, ⟨⟨_, _, _, _, _, F⟩, ⟨rfl, rfl, rfl, by decide +kernel, rfl, by decide +kernel, by decide +kernel⟩, bindA0 F rfl fun _ _ _ _ _ _ us hl => match us, hl with | [_], _ => rfl⟩⟩
theorem st_fits (c : SaysV fa fn cst K) (X : K.In h) (G : h.Ns mainGlobals mg) : StG P w K mg ("fits", f_fits) := by
  obtain ⟨fd, F⟩ := c.toD.def_ 24 (d := d_fits) rfl
  exact ⟨_, fd, He.glo_ok X G (c.toD.fact 24 (f := .glo "fits") rfl), F.kp, ⟨⟨_, _, _, _, _, F⟩, ⟨rfl, rfl, rfl, by decide +kernel, rfl, by decide +kernel, by decide +kernel⟩, bindA0 F rfl fun _ _ _ _ _ _ us hl => match us, hl with | [_, _, _, _], _ => rfl⟩⟩
theorem st_is_ranked_list (c : SaysV fa fn cst K) (X : K.In h) (G : h.Ns mainGlobals mg) : StG P w K mg ("is_ranked_list", f_is_ranked_list) := by
  obtain ⟨fd, F⟩ := c.toD.def_ 25 (d := d_is_ranked_list) rfl
  exact ⟨_, fd, He.glo_ok X G (c.toD.fact 25 (f := .glo "is_ranked_list") rfl), F.kp, ⟨⟨_, _, _, _, _, F⟩, ⟨rfl, rfl, rfl, by decide +kernel, rfl, by decide +kernel, by decide +kernel⟩, bindA0 F rfl fun _ _ _ _ _ _ us hl => match us, hl with | [_, _, _, _, _], _ => rfl⟩⟩
theorem st_height_table (c : SaysV fa fn cst K) (X : K.In h) (G : h.Ns mainGlobals mg) : StG P w K mg ("height_table", f_height_table) := by
  obtain ⟨fd, F⟩ := c.toD.def_ 26 (d := d_height_table) rfl
  exact ⟨_, fd, He.glo_ok X G (c.toD.fact 26 (f := .glo "height_table") rfl), F.kp, ⟨⟨_, _, _, _, _, F⟩, ⟨rfl, rfl, rfl, by decide +kernel, rfl, by decide +kernel, by decide +kernel⟩, bindA0 F rfl fun _ _ _ _ _ _ us hl => match us, hl with | [_, _, _, _], _ => rfl⟩⟩
theorem st_mean_rule (c : SaysV fa fn cst K) (X : K.In h) (G : h.Ns mainGlobals mg) : StG P w K mg ("mean_rule", f_mean_rule) := by
  obtain ⟨fd, F⟩ := c.toD.def_ 27 (d := d_mean_rule) rfl
  exact ⟨_, fd, He.glo_ok X G (c.toD.fact 27 (f := .glo "mean_rule") rfl), F.kp, ⟨⟨_, _, _, _, _, F⟩, ⟨rfl, rfl, rfl, by decide +kernel, rfl, by decide +kernel, by decide +kernel⟩, bindA0 F rfl fun _ _ _ _ _ _ us hl => match us, hl with | [_, _], _ => rfl⟩⟩
theorem st_is_mean_op (c : SaysV fa fn cst K) (X : K.In h) (G : h.Ns mainGlobals mg) : StG P w K mg ("is_mean_op", f_is_mean_op) := by
  obtain ⟨fd, F⟩ := c.toD.def_ 28 (d := d_is_mean_op) rfl
  exact ⟨_, fd, He.glo_ok X G (c.toD.fact 28 (f := .glo "is_mean_op") rfl), F.kp, ⟨⟨_, _, _, _, _, F⟩, ⟨rfl, rfl, rfl, by decide +kernel, rfl, by decide +kernel, by decide +kernel⟩, bindA0 F rfl fun _ _ _ _ _ _ us hl => match us, hl with | [_, _, _], _ => rfl⟩⟩
theorem st_scaled_table (c : SaysV fa fn cst K) (X : K.In h) (G : h.Ns mainGlobals mg) : StG P w K mg ("scaled_table", f_scaled_table) := by
  obtain ⟨fd, F⟩ := c.toD.def_ 29 (d := d_scaled_table) rfl
  exact ⟨_, fd, He.glo_ok X G (c.toD.fact 29 (f := .glo "scaled_table") rfl), F.kp, ⟨⟨_, _, _, _, _, F⟩, ⟨rfl, rfl, rfl, by decide +kernel, rfl, by decide +kernel, by decide +kernel⟩, bindA0 F rfl fun _ _ _ _ _ _ us hl => match us, hl with | [_, _], _ => rfl⟩⟩
theorem st_is_mean_world (c : SaysV fa fn cst K) (X : K.In h) (G : h.Ns mainGlobals mg) : StG P w K mg ("is_mean_world", f_is_mean_world) := by
  obtain ⟨fd, F⟩ := c.toD.def_ 30 (d := d_is_mean_world) rfl
  exact ⟨_, fd, He.glo_ok X G (c.toD.fact 30 (f := .glo "is_mean_world") rfl), F.kp, ⟨⟨_, _, _, _, _, F⟩, ⟨rfl, rfl, rfl, by decide +kernel, rfl, by decide +kernel, by decide +kernel⟩, bindA0 F rfl fun _ _ _ _ _ _ us hl => match us, hl with | [_, _, _], _ => rfl⟩⟩
theorem st_need_table (c : SaysV fa fn cst K) (X : K.In h) (G : h.Ns mainGlobals mg) : StG P w K mg ("need_table", f_need_table) := by
  obtain ⟨fd, F⟩ := c.toD.def_ 31 (d := d_need_table) rfl
  exact ⟨_, fd, He.glo_ok X G (c.toD.fact 31 (f := .glo "need_table") rfl), F.kp, ⟨⟨_, _, _, _, _, F⟩, ⟨rfl, rfl, rfl, by decide +kernel, rfl, by decide +kernel, by decide +kernel⟩, bindA0 F rfl fun _ _ _ _ _ _ us hl => match us, hl with | [_, _], _ => rfl⟩⟩
theorem st_is_stock (c : SaysV fa fn cst K) (X : K.In h) (G : h.Ns mainGlobals mg) : StG P w K mg ("is_stock", f_is_stock) := by
  obtain ⟨fd, F⟩ := c.toD.def_ 32 (d := d_is_stock) rfl
  exact ⟨_, fd, He.glo_ok X G (c.toD.fact 32 (f := .glo "is_stock") rfl), F.kp, ⟨⟨_, _, _, _, _, F⟩, ⟨rfl, rfl, rfl, by decide +kernel, rfl, by decide +kernel, by decide +kernel⟩, bindA0 F rfl fun _ _ _ _ _ _ us hl => match us, hl with | [_, _], _ => rfl⟩⟩
theorem st_is_stock_op (c : SaysV fa fn cst K) (X : K.In h) (G : h.Ns mainGlobals mg) : StG P w K mg ("is_stock_op", f_is_stock_op) := by
  obtain ⟨fd, F⟩ := c.toD.def_ 33 (d := d_is_stock_op) rfl
  exact ⟨_, fd, He.glo_ok X G (c.toD.fact 33 (f := .glo "is_stock_op") rfl), F.kp, ⟨⟨_, _, _, _, _, F⟩, ⟨rfl, rfl, rfl, by decide +kernel, rfl, by decide +kernel, by decide +kernel⟩, bindA0 F rfl fun _ _ _ _ _ _ us hl => match us, hl with | [_, _, _], _ => rfl⟩⟩
theorem st_stock_rows (c : SaysV fa fn cst K) (X : K.In h) (G : h.Ns mainGlobals mg) : StG P w K mg ("stock_rows", f_stock_rows) := by
  obtain ⟨fd, F⟩ := c.toD.def_ 34 (d := d_stock_rows) rfl
  exact ⟨_, fd, He.glo_ok X G (c.toD.fact 34 (f := .glo "stock_rows") rfl), F.kp, ⟨⟨_, _, _, _, _, F⟩, ⟨rfl, rfl, rfl, by decide +kernel, rfl, by decide +kernel, by decide +kernel⟩, bindA0 F rfl fun _ _ _ _ _ _ us hl => match us, hl with | [_, _], _ => rfl⟩⟩
theorem st_fewest (c : SaysV fa fn cst K) (X : K.In h) (G : h.Ns mainGlobals mg) : StG P w K mg ("fewest", f_fewest) := by
  obtain ⟨fd, F⟩ := c.toD.def_ 35 (d := d_fewest) rfl
  exact ⟨_, fd, He.glo_ok X G (c.toD.fact 35 (f := .glo "fewest") rfl), F.kp, ⟨⟨_, _, _, _, _, F⟩, ⟨rfl, rfl, rfl, by decide +kernel, rfl, by decide +kernel, by decide +kernel⟩, bindA0 F rfl fun _ _ _ _ _ _ us hl => match us, hl with | [_, _], _ => rfl⟩⟩
theorem st_is_ahead (c : SaysV fa fn cst K) (X : K.In h) (G : h.Ns mainGlobals mg) : StG P w K mg ("is_ahead", f_is_ahead) := by
  obtain ⟨fd, F⟩ := c.toD.def_ 36 (d := d_is_ahead) rfl
  exact ⟨_, fd, He.glo_ok X G (c.toD.fact 36 (f := .glo "is_ahead") rfl), F.kp, ⟨⟨_, _, _, _, _, F⟩, ⟨rfl, rfl, rfl, by decide +kernel, rfl, by decide +kernel, by decide +kernel⟩, bindA0 F rfl fun _ _ _ _ _ _ us hl => match us, hl with | [_, _], _ => rfl⟩⟩
theorem st_free_table (c : SaysV fa fn cst K) (X : K.In h) (G : h.Ns mainGlobals mg) : StG P w K mg ("free_table", f_free_table) := by
  obtain ⟨fd, F⟩ := c.toD.def_ 37 (d := d_free_table) rfl
  exact ⟨_, fd, He.glo_ok X G (c.toD.fact 37 (f := .glo "free_table") rfl), F.kp, ⟨⟨_, _, _, _, _, F⟩, ⟨rfl, rfl, rfl, by decide +kernel, rfl, by decide +kernel, by decide +kernel⟩, bindA0 F rfl fun _ _ _ _ _ _ us hl => match us, hl with | [_, _], _ => rfl⟩⟩
theorem st_capped_table (c : SaysV fa fn cst K) (X : K.In h) (G : h.Ns mainGlobals mg) : StG P w K mg ("capped_table", f_capped_table) := by
  obtain ⟨fd, F⟩ := c.toD.def_ 38 (d := d_capped_table) rfl
  exact ⟨_, fd, He.glo_ok X G (c.toD.fact 38 (f := .glo "capped_table") rfl), F.kp, ⟨⟨_, _, _, _, _, F⟩, ⟨rfl, rfl, rfl, by decide +kernel, rfl, by decide +kernel, by decide +kernel⟩, bindA0 F rfl fun _ _ _ _ _ _ us hl => match us, hl with | [_, _], _ => rfl⟩⟩
theorem st_stock_table (c : SaysV fa fn cst K) (X : K.In h) (G : h.Ns mainGlobals mg) : StG P w K mg ("stock_table", f_stock_table) := by
  obtain ⟨fd, F⟩ := c.toD.def_ 39 (d := d_stock_table) rfl
  exact ⟨_, fd, He.glo_ok X G (c.toD.fact 39 (f := .glo "stock_table") rfl), F.kp, ⟨⟨_, _, _, _, _, F⟩, ⟨rfl, rfl, rfl, by decide +kernel, rfl, by decide +kernel, by decide +kernel⟩, bindA0 F rfl fun _ _ _ _ _ _ us hl => match us, hl with | [_, _], _ => rfl⟩⟩
theorem st_is_stock_world (c : SaysV fa fn cst K) (X : K.In h) (G : h.Ns mainGlobals mg) : StG P w K mg ("is_stock_world", f_is_stock_world) := by
  obtain ⟨fd, F⟩ := c.toD.def_ 40 (d := d_is_stock_world) rfl
  exact ⟨_, fd, He.glo_ok X G (c.toD.fact 40 (f := .glo "is_stock_world") rfl), F.kp, ⟨⟨_, _, _, _, _, F⟩, ⟨rfl, rfl, rfl, by decide +kernel, rfl, by decide +kernel, by decide +kernel⟩, bindA0 F rfl fun _ _ _ _ _ _ us hl => match us, hl with | [_, _, _], _ => rfl⟩⟩
theorem st_is_op_paper (c : SaysV fa fn cst K) (X : K.In h) (G : h.Ns mainGlobals mg) : StG P w K mg ("is_op_paper", f_is_op_paper) := by
  obtain ⟨fd, F⟩ := c.toD.def_ 41 (d := d_is_op_paper) rfl
  exact ⟨_, fd, He.glo_ok X G (c.toD.fact 41 (f := .glo "is_op_paper") rfl), F.kp, ⟨⟨_, _, _, _, _, F⟩, ⟨rfl, rfl, rfl, by decide +kernel, rfl, by decide +kernel, by decide +kernel⟩, bindA0 F rfl fun _ _ _ _ _ _ us hl => match us, hl with | [_, _, _], _ => rfl⟩⟩
theorem st_is_world_paper (c : SaysV fa fn cst K) (X : K.In h) (G : h.Ns mainGlobals mg) : StG P w K mg ("is_world_paper", f_is_world_paper) := by
  obtain ⟨fd, F⟩ := c.toD.def_ 42 (d := d_is_world_paper) rfl
  exact ⟨_, fd, He.glo_ok X G (c.toD.fact 42 (f := .glo "is_world_paper") rfl), F.kp, ⟨⟨_, _, _, _, _, F⟩, ⟨rfl, rfl, rfl, by decide +kernel, rfl, by decide +kernel, by decide +kernel⟩, bindA0 F rfl fun _ _ _ _ _ _ us hl => match us, hl with | [_, _, _], _ => rfl⟩⟩
theorem st_has_first (c : SaysV fa fn cst K) (X : K.In h) (G : h.Ns mainGlobals mg) : StG P w K mg ("has_first", f_has_first) := by
  obtain ⟨fd, F⟩ := c.toD.def_ 43 (d := d_has_first) rfl
  exact ⟨_, fd, He.glo_ok X G (c.toD.fact 43 (f := .glo "has_first") rfl), F.kp, ⟨⟨_, _, _, _, _, F⟩, ⟨rfl, rfl, rfl, by decide +kernel, rfl, by decide +kernel, by decide +kernel⟩, bindA0 F rfl fun _ _ _ _ _ _ us hl => match us, hl with | [_, _, _], _ => rfl⟩⟩
theorem st__law_stream (c : SaysV fa fn cst K) (X : K.In h) (G : h.Ns mainGlobals mg) : StG P w K mg ("_law_stream", f__law_stream) := by
  obtain ⟨fd, F⟩ := c.toD.def_ 44 (d := d__law_stream) rfl
  exact ⟨_, fd, He.glo_ok X G (c.toD.fact 44 (f := .glo "_law_stream") rfl), F.kp, ⟨⟨_, _, _, _, _, F⟩, ⟨rfl, rfl, rfl, by decide +kernel, rfl, by decide +kernel, by decide +kernel⟩, bindA0 F rfl fun _ _ _ _ _ _ us hl => match us, hl with | [_], _ => rfl⟩⟩
theorem st__law_next (c : SaysV fa fn cst K) (X : K.In h) (G : h.Ns mainGlobals mg) : StG P w K mg ("_law_next", f__law_next) := by
  obtain ⟨fd, F⟩ := c.toD.def_ 45 (d := d__law_next) rfl
  exact ⟨_, fd, He.glo_ok X G (c.toD.fact 45 (f := .glo "_law_next") rfl), F.kp, ⟨⟨_, _, _, _, _, F⟩, ⟨rfl, rfl, rfl, by decide +kernel, rfl, by decide +kernel, by decide +kernel⟩, bindA0 F rfl fun _ _ _ _ _ _ us hl => match us, hl with | [_, _], _ => rfl⟩⟩
theorem st__law_pick (c : SaysV fa fn cst K) (X : K.In h) (G : h.Ns mainGlobals mg) : StG P w K mg ("_law_pick", f__law_pick) := by
  obtain ⟨fd, F⟩ := c.toD.def_ 46 (d := d__law_pick) rfl
  exact ⟨_, fd, He.glo_ok X G (c.toD.fact 46 (f := .glo "_law_pick") rfl), F.kp, ⟨⟨_, _, _, _, _, F⟩, ⟨rfl, rfl, rfl, by decide +kernel, rfl, by decide +kernel, by decide +kernel⟩, bindA0 F rfl fun _ _ _ _ _ _ us hl => match us, hl with | [_, _], _ => rfl⟩⟩
theorem st__law_from (c : SaysV fa fn cst K) (X : K.In h) (G : h.Ns mainGlobals mg) : StG P w K mg ("_law_from", f__law_from) := by
  obtain ⟨fd, F⟩ := c.toD.def_ 47 (d := d__law_from) rfl
  exact ⟨_, fd, He.glo_ok X G (c.toD.fact 47 (f := .glo "_law_from") rfl), F.kp, ⟨⟨_, _, _, _, _, F⟩, ⟨rfl, rfl, rfl, by decide +kernel, rfl, by decide +kernel, by decide +kernel⟩, bindA0 F rfl fun _ _ _ _ _ _ us hl => match us, hl with | [_, _, _], _ => rfl⟩⟩
theorem st__law_same (c : SaysV fa fn cst K) (X : K.In h) (G : h.Ns mainGlobals mg) : StG P w K mg ("_law_same", f__law_same) := by
  obtain ⟨fd, F⟩ := c.toD.def_ 48 (d := d__law_same) rfl
  exact ⟨_, fd, He.glo_ok X G (c.toD.fact 48 (f := .glo "_law_same") rfl), F.kp, ⟨⟨_, _, _, _, _, F⟩, ⟨rfl, rfl, rfl, by decide +kernel, rfl, by decide +kernel, by decide +kernel⟩, bindA0 F rfl fun _ _ _ _ _ _ us hl => match us, hl with | [_, _], _ => rfl⟩⟩
theorem st__law_copy (c : SaysV fa fn cst K) (X : K.In h) (G : h.Ns mainGlobals mg) : StG P w K mg ("_law_copy", f__law_copy) := by
  obtain ⟨fd, F⟩ := c.toD.def_ 49 (d := d__law_copy) rfl
  exact ⟨_, fd, He.glo_ok X G (c.toD.fact 49 (f := .glo "_law_copy") rfl), F.kp, ⟨⟨_, _, _, _, _, F⟩, ⟨rfl, rfl, rfl, by decide +kernel, rfl, by decide +kernel, by decide +kernel⟩, bindA0 F rfl fun _ _ _ _ _ _ us hl => match us, hl with | [_], _ => rfl⟩⟩
theorem st__law_shuffle (c : SaysV fa fn cst K) (X : K.In h) (G : h.Ns mainGlobals mg) : StG P w K mg ("_law_shuffle", f__law_shuffle) := by
  obtain ⟨fd, F⟩ := c.toD.def_ 50 (d := d__law_shuffle) rfl
  exact ⟨_, fd, He.glo_ok X G (c.toD.fact 50 (f := .glo "_law_shuffle") rfl), F.kp, ⟨⟨_, _, _, _, _, F⟩, ⟨rfl, rfl, rfl, by decide +kernel, rfl, by decide +kernel, by decide +kernel⟩, bindA0 F rfl fun _ _ _ _ _ _ us hl => match us, hl with | [_, _], _ => rfl⟩⟩
theorem st__law_scaled (c : SaysV fa fn cst K) (X : K.In h) (G : h.Ns mainGlobals mg) : StG P w K mg ("_law_scaled", f__law_scaled) := by
  obtain ⟨fd, F⟩ := c.toD.def_ 51 (d := d__law_scaled) rfl
  exact ⟨_, fd, He.glo_ok X G (c.toD.fact 51 (f := .glo "_law_scaled") rfl), F.kp, ⟨⟨_, _, _, _, _, F⟩, ⟨rfl, rfl, rfl, by decide +kernel, rfl, by decide +kernel, by decide +kernel⟩, bindA0 F rfl fun _ _ _ _ _ _ us hl => match us, hl with | [_, _], _ => rfl⟩⟩
theorem st__law_ahead (c : SaysV fa fn cst K) (X : K.In h) (G : h.Ns mainGlobals mg) : StG P w K mg ("_law_ahead", f__law_ahead) := by
  obtain ⟨fd, F⟩ := c.toD.def_ 52 (d := d__law_ahead) rfl
  exact ⟨_, fd, He.glo_ok X G (c.toD.fact 52 (f := .glo "_law_ahead") rfl), F.kp, ⟨⟨_, _, _, _, _, F⟩, ⟨rfl, rfl, rfl, by decide +kernel, rfl, by decide +kernel, by decide +kernel⟩, bindA0 F rfl fun _ _ _ _ _ _ us hl => match us, hl with | [_, _, _, _], _ => rfl⟩⟩
theorem st__law_some (c : SaysV fa fn cst K) (X : K.In h) (G : h.Ns mainGlobals mg) : StG P w K mg ("_law_some", f__law_some) := by
  obtain ⟨fd, F⟩ := c.toD.def_ 53 (d := d__law_some) rfl
  exact ⟨_, fd, He.glo_ok X G (c.toD.fact 53 (f := .glo "_law_some") rfl), F.kp, ⟨⟨_, _, _, _, _, F⟩, ⟨rfl, rfl, rfl, by decide +kernel, rfl, by decide +kernel, by decide +kernel⟩, bindA0 F rfl fun _ _ _ _ _ _ us hl => match us, hl with | [_, _], _ => rfl⟩⟩
theorem st__law_going (c : SaysV fa fn cst K) (X : K.In h) (G : h.Ns mainGlobals mg) : StG P w K mg ("_law_going", f__law_going) := by
  obtain ⟨fd, F⟩ := c.toD.def_ 54 (d := d__law_going) rfl
  exact ⟨_, fd, He.glo_ok X G (c.toD.fact 54 (f := .glo "_law_going") rfl), F.kp, ⟨⟨_, _, _, _, _, F⟩, ⟨rfl, rfl, rfl, by decide +kernel, rfl, by decide +kernel, by decide +kernel⟩, bindA0 F rfl fun _ _ _ _ _ _ us hl => match us, hl with | [_], _ => rfl⟩⟩
theorem st__law_count (c : SaysV fa fn cst K) (X : K.In h) (G : h.Ns mainGlobals mg) : StG P w K mg ("_law_count", f__law_count) := by
  obtain ⟨fd, F⟩ := c.toD.def_ 55 (d := d__law_count) rfl
  exact ⟨_, fd, He.glo_ok X G (c.toD.fact 55 (f := .glo "_law_count") rfl), F.kp, ⟨⟨_, _, _, _, _, F⟩, ⟨rfl, rfl, rfl, by decide +kernel, rfl, by decide +kernel, by decide +kernel⟩, bindA0 F rfl fun _ _ _ _ _ _ us hl => match us, hl with | [_, _, _], _ => rfl⟩⟩
theorem st__law_counters (c : SaysV fa fn cst K) (X : K.In h) (G : h.Ns mainGlobals mg) : StG P w K mg ("_law_counters", f__law_counters) := by
  obtain ⟨fd, F⟩ := c.toD.def_ 56 (d := d__law_counters) rfl
  exact ⟨_, fd, He.glo_ok X G (c.toD.fact 56 (f := .glo "_law_counters") rfl), F.kp, ⟨⟨_, _, _, _, _, F⟩, ⟨rfl, rfl, rfl, by decide +kernel, rfl, by decide +kernel, by decide +kernel⟩, bindA0 F rfl fun _ _ _ _ _ _ us hl => match us, hl with | [_, _, _], _ => rfl⟩⟩
theorem st__law_changed (c : SaysV fa fn cst K) (X : K.In h) (G : h.Ns mainGlobals mg) : StG P w K mg ("_law_changed", f__law_changed) := by
  obtain ⟨fd, F⟩ := c.toD.def_ 57 (d := d__law_changed) rfl
  exact ⟨_, fd, He.glo_ok X G (c.toD.fact 57 (f := .glo "_law_changed") rfl), F.kp, ⟨⟨_, _, _, _, _, F⟩, ⟨rfl, rfl, rfl, by decide +kernel, rfl, by decide +kernel, by decide +kernel⟩, bindA0 F rfl fun _ _ _ _ _ _ us hl => match us, hl with | [_, _], _ => rfl⟩⟩
theorem st__law_entries (c : SaysV fa fn cst K) (X : K.In h) (G : h.Ns mainGlobals mg) : StG P w K mg ("_law_entries", f__law_entries) := by
  obtain ⟨fd, F⟩ := c.toD.def_ 58 (d := d__law_entries) rfl
  exact ⟨_, fd, He.glo_ok X G (c.toD.fact 58 (f := .glo "_law_entries") rfl), F.kp, ⟨⟨_, _, _, _, _, F⟩, ⟨rfl, rfl, rfl, by decide +kernel, rfl, by decide +kernel, by decide +kernel⟩, bindA0 F rfl fun _ _ _ _ _ _ us hl => match us, hl with | [_, _, _, _], _ => rfl⟩⟩
theorem st__law_told (c : SaysV fa fn cst K) (X : K.In h) (G : h.Ns mainGlobals mg) : StG P w K mg ("_law_told", f__law_told) := by
  obtain ⟨fd, F⟩ := c.toD.def_ 59 (d := d__law_told) rfl
  exact ⟨_, fd, He.glo_ok X G (c.toD.fact 59 (f := .glo "_law_told") rfl), F.kp, ⟨⟨_, _, _, _, _, F⟩, ⟨rfl, rfl, rfl, by decide +kernel, rfl, by decide +kernel, by decide +kernel⟩, bindA0 F rfl fun _ _ _ _ _ _ us hl => match us, hl with | [_, _, _, _], _ => rfl⟩⟩
theorem st_law (c : SaysV fa fn cst K) (X : K.In h) (G : h.Ns mainGlobals mg) : StG P w K mg ("law", f_law) := by
  obtain ⟨fd, F⟩ := c.toD.def_ 60 (d := d_law) rfl
  exact ⟨_, fd, He.glo_ok X G (c.toD.fact 60 (f := .glo "law") rfl), F.kp, ⟨⟨_, _, _, _, _, F⟩, ⟨rfl, rfl, rfl, by decide +kernel, rfl, by decide +kernel, by decide +kernel⟩, bindA0 F rfl fun _ _ _ _ _ _ us hl => match us, hl with | [_], _ => rfl⟩⟩
theorem st_Game___init__ (c : SaysV fa fn cst K) : StM P w K "Game" ("__init__", m_Game___init__) := by
  obtain ⟨fd, F⟩ := c.toD.def_ 61 (d := d_Game___init__) rfl
  exact ⟨_, fd, ⟨⟨_, _, _, _, _, F⟩, ⟨rfl, rfl, rfl, by decide +kernel, rfl, by decide +kernel, by decide +kernel⟩, (by
    refine bindA1 F (by intro z; cases z) (fun W => .cons (.bl false) .nil) fun n h1 h2 T kV doc pm an cdv ct us its hl hi => ?_
    have h1 : n ≤ 4 := h1
    have h2 : 4 - n ≤ 1 := h2
    have h3 : n = 3 ∨ n = 4 := by omega
    have hi : its.length = 1 := hi
    rcases h3 with rfl | rfl
    · exact match us, its, hl, hi with | [_, _, _], [_], _, _ => ⟨_, rfl, rfl⟩
    · exact match us, its, hl, hi with | [_, _, _, _], [_], _, _ => ⟨_, rfl, rfl⟩)⟩, fun z => absurd rfl z, fun _ => He.mkr_ok (c.toD.fact 63 (f := .mkr "Game") rfl)⟩
theorem st_Game_truths (c : SaysV fa fn cst K) : StM P w K "Game" ("truths", m_Game_truths) := by
  obtain ⟨fd, F⟩ := c.toD.def_ 62 (d := d_Game_truths) rfl
  exact ⟨_, fd, ⟨⟨_, _, _, _, _, F⟩, ⟨rfl, rfl, rfl, by decide +kernel, rfl, by decide +kernel, by decide +kernel⟩, bindA0 F rfl fun _ _ _ _ _ _ us hl => match us, hl with | [_, _], _ => rfl⟩, fun _ => He.meth_ok (c.toD.fact 72 (f := .meth "Game" "truths") rfl), fun z => absurd z (by decide +kernel)⟩
theorem st_Game_blame (c : SaysV fa fn cst K) : StM P w K "Game" ("blame", m_Game_blame) := by
  obtain ⟨fd, F⟩ := c.toD.def_ 63 (d := d_Game_blame) rfl
  exact ⟨_, fd, ⟨⟨_, _, _, _, _, F⟩, ⟨rfl, rfl, rfl, by decide +kernel, rfl, by decide +kernel, by decide +kernel⟩, bindA0 F rfl fun _ _ _ _ _ _ us hl => match us, hl with | [_, _, _, _], _ => rfl⟩, fun _ => He.meth_ok (c.toD.fact 73 (f := .meth "Game" "blame") rfl), fun z => absurd z (by decide +kernel)⟩
theorem st_Game_waiting (c : SaysV fa fn cst K) : StM P w K "Game" ("waiting", m_Game_waiting) := by
  obtain ⟨fd, F⟩ := c.toD.def_ 64 (d := d_Game_waiting) rfl
  exact ⟨_, fd, ⟨⟨_, _, _, _, _, F⟩, ⟨rfl, rfl, rfl, by decide +kernel, rfl, by decide +kernel, by decide +kernel⟩, bindA0 F rfl fun _ _ _ _ _ _ us hl => match us, hl with | [_, _, _, _], _ => rfl⟩, fun _ => He.meth_ok (c.toD.fact 74 (f := .meth "Game" "waiting") rfl), fun z => absurd z (by decide +kernel)⟩
theorem st_Game_further (c : SaysV fa fn cst K) : StM P w K "Game" ("further", m_Game_further) := by
  obtain ⟨fd, F⟩ := c.toD.def_ 65 (d := d_Game_further) rfl
  exact ⟨_, fd, ⟨⟨_, _, _, _, _, F⟩, ⟨rfl, rfl, rfl, by decide +kernel, rfl, by decide +kernel, by decide +kernel⟩, bindA0 F rfl fun _ _ _ _ _ _ us hl => match us, hl with | [_, _, _], _ => rfl⟩, fun _ => He.meth_ok (c.toD.fact 75 (f := .meth "Game" "further") rfl), fun z => absurd z (by decide +kernel)⟩
theorem st_Game_enter (c : SaysV fa fn cst K) : StM P w K "Game" ("enter", m_Game_enter) := by
  obtain ⟨fd, F⟩ := c.toD.def_ 66 (d := d_Game_enter) rfl
  exact ⟨_, fd, ⟨⟨_, _, _, _, _, F⟩, ⟨rfl, rfl, rfl, by decide +kernel, rfl, by decide +kernel, by decide +kernel⟩, bindA0 F rfl fun _ _ _ _ _ _ us hl => match us, hl with | [_, _, _, _, _], _ => rfl⟩, fun _ => He.meth_ok (c.toD.fact 76 (f := .meth "Game" "enter") rfl), fun z => absurd z (by decide +kernel)⟩
theorem st_Game_first (c : SaysV fa fn cst K) : StM P w K "Game" ("first", m_Game_first) := by
  obtain ⟨fd, F⟩ := c.toD.def_ 67 (d := d_Game_first) rfl
  exact ⟨_, fd, ⟨⟨_, _, _, _, _, F⟩, ⟨rfl, rfl, rfl, by decide +kernel, rfl, by decide +kernel, by decide +kernel⟩, bindA0 F rfl fun _ _ _ _ _ _ us hl => match us, hl with | [_], _ => rfl⟩, fun _ => He.meth_ok (c.toD.fact 77 (f := .meth "Game" "first") rfl), fun z => absurd z (by decide +kernel)⟩
theorem st_Game_moves_at (c : SaysV fa fn cst K) : StM P w K "Game" ("moves_at", m_Game_moves_at) := by
  obtain ⟨fd, F⟩ := c.toD.def_ 68 (d := d_Game_moves_at) rfl
  exact ⟨_, fd, ⟨⟨_, _, _, _, _, F⟩, ⟨rfl, rfl, rfl, by decide +kernel, rfl, by decide +kernel, by decide +kernel⟩, bindA0 F rfl fun _ _ _ _ _ _ us hl => match us, hl with | [_, _, _], _ => rfl⟩, fun _ => He.meth_ok (c.toD.fact 78 (f := .meth "Game" "moves_at") rfl), fun z => absurd z (by decide +kernel)⟩
theorem st_Game_leads (c : SaysV fa fn cst K) : StM P w K "Game" ("leads", m_Game_leads) := by
  obtain ⟨fd, F⟩ := c.toD.def_ 69 (d := d_Game_leads) rfl
  exact ⟨_, fd, ⟨⟨_, _, _, _, _, F⟩, ⟨rfl, rfl, rfl, by decide +kernel, rfl, by decide +kernel, by decide +kernel⟩, bindA0 F rfl fun _ _ _ _ _ _ us hl => match us, hl with | [_, _], _ => rfl⟩, fun _ => He.meth_ok (c.toD.fact 79 (f := .meth "Game" "leads") rfl), fun z => absurd z (by decide +kernel)⟩
theorem st_Game_lead (c : SaysV fa fn cst K) : StM P w K "Game" ("lead", m_Game_lead) := by
  obtain ⟨fd, F⟩ := c.toD.def_ 70 (d := d_Game_lead) rfl
  exact ⟨_, fd, ⟨⟨_, _, _, _, _, F⟩, ⟨rfl, rfl, rfl, by decide +kernel, rfl, by decide +kernel, by decide +kernel⟩, bindA0 F rfl fun _ _ _ _ _ _ us hl => match us, hl with | [_, _, _], _ => rfl⟩, fun _ => He.meth_ok (c.toD.fact 80 (f := .meth "Game" "lead") rfl), fun z => absurd z (by decide +kernel)⟩
theorem st_Game_why (c : SaysV fa fn cst K) : StM P w K "Game" ("why", m_Game_why) := by
  obtain ⟨fd, F⟩ := c.toD.def_ 71 (d := d_Game_why) rfl
  exact ⟨_, fd, ⟨⟨_, _, _, _, _, F⟩, ⟨rfl, rfl, rfl, by decide +kernel, rfl, by decide +kernel, by decide +kernel⟩, bindA0 F rfl fun _ _ _ _ _ _ us hl => match us, hl with | [_, _, _], _ => rfl⟩, fun _ => He.meth_ok (c.toD.fact 81 (f := .meth "Game" "why") rfl), fun z => absurd z (by decide +kernel)⟩
theorem st_Game_rank_of (c : SaysV fa fn cst K) : StM P w K "Game" ("rank_of", m_Game_rank_of) := by
  obtain ⟨fd, F⟩ := c.toD.def_ 72 (d := d_Game_rank_of) rfl
  exact ⟨_, fd, ⟨⟨_, _, _, _, _, F⟩, ⟨rfl, rfl, rfl, by decide +kernel, rfl, by decide +kernel, by decide +kernel⟩, bindA0 F rfl fun _ _ _ _ _ _ us hl => match us, hl with | [_, _], _ => rfl⟩, fun _ => He.meth_ok (c.toD.fact 82 (f := .meth "Game" "rank_of") rfl), fun z => absurd z (by decide +kernel)⟩
def ms_Game : List (Str × Fi) := ([("__init__", m_Game___init__), ("truths", m_Game_truths), ("blame", m_Game_blame), ("waiting", m_Game_waiting), ("further", m_Game_further), ("enter", m_Game_enter), ("first", m_Game_first), ("moves_at", m_Game_moves_at), ("leads", m_Game_leads), ("lead", m_Game_lead), ("why", m_Game_why), ("rank_of", m_Game_rank_of)] : List (Str × Fi))
theorem st_Game (c : SaysV fa fn cst K) (X : K.In h) (G : h.Ns mainGlobals mg) : StC P w K mg ("Game", ["plant", "promise", "rare", "word", "rows", "most", "table", "seen"], ms_Game) := by
  have hm : AllP (StM P w K "Game") ms_Game := .cons (st_Game___init__ c) (.cons (st_Game_truths c) (.cons (st_Game_blame c) (.cons (st_Game_waiting c) (.cons (st_Game_further c) (.cons (st_Game_enter c) (.cons (st_Game_first c) (.cons (st_Game_moves_at c) (.cons (st_Game_leads c) (.cons (st_Game_lead c) (.cons (st_Game_why c) (.cons (st_Game_rank_of c) .nil)))))))))))
  have ha : AllP (fun f => NoAttr K (He.ga K "Game") f) ["plant", "promise", "rare", "word", "rows", "most", "table", "seen"] := .cons (He.noat_ok (c.toD.fact 64 (f := .noat "Game" "plant") rfl)) (.cons (He.noat_ok (c.toD.fact 65 (f := .noat "Game" "promise") rfl)) (.cons (He.noat_ok (c.toD.fact 66 (f := .noat "Game" "rare") rfl)) (.cons (He.noat_ok (c.toD.fact 67 (f := .noat "Game" "word") rfl)) (.cons (He.noat_ok (c.toD.fact 68 (f := .noat "Game" "rows") rfl)) (.cons (He.noat_ok (c.toD.fact 69 (f := .noat "Game" "most") rfl)) (.cons (He.noat_ok (c.toD.fact 70 (f := .noat "Game" "table") rfl)) (.cons (He.noat_ok (c.toD.fact 71 (f := .noat "Game" "seen") rfl)) .nil)))))))
  exact ⟨He.cls_ok (c.toD.fact 62 (f := .cls "Game") rfl), He.glo_ok X G (c.toD.fact 61 (f := .glo "Game") rfl), ha.mem, hm.mem⟩
theorem st_fns (c : SaysV fa fn cst K) (X : K.In h) (G : h.Ns mainGlobals mg) : AllP (StG P w K mg) fns := AllP.app (AllP.app (AllP.app (.cons (st__wall c X G) (.cons (st_is_integer c X G) (.cons (st_is_between c X G) (.cons (st_is_tuple_of c X G) (.cons (st_is_state c X G) (.cons (st_tables c X G) (.cons (st_is_open_in c X G) (.cons (st_open_in c X G) (.cons (st_moves_in c X G) (.cons (st_step_in c X G) (.cons (st_flag_holds c X G) (.cons (st_is_joint c X G) (.cons (st_first_joint c X G) (.cons (st_is_true c X G) (.cons (st_goal_word c X G) (.cons (st_goal_rows c X G) (.cons (st_most_done c X G) (.cons (st_moved_on c X G) (.cons (st_is_place c X G) (.cons (st_first_place c X G) .nil)))))))))))))))))))) (.cons (st_read_list c X G) (.cons (st_is_move c X G) (.cons (st_counting c X G) (.cons (st_is_measure c X G) (.cons (st_fits c X G) (.cons (st_is_ranked_list c X G) (.cons (st_height_table c X G) (.cons (st_mean_rule c X G) (.cons (st_is_mean_op c X G) (.cons (st_scaled_table c X G) (.cons (st_is_mean_world c X G) (.cons (st_need_table c X G) (.cons (st_is_stock c X G) (.cons (st_is_stock_op c X G) (.cons (st_stock_rows c X G) (.cons (st_fewest c X G) (.cons (st_is_ahead c X G) (.cons (st_free_table c X G) (.cons (st_capped_table c X G) (.cons (st_stock_table c X G) .nil))))))))))))))))))))) (.cons (st_is_stock_world c X G) (.cons (st_is_op_paper c X G) (.cons (st_is_world_paper c X G) (.cons (st_has_first c X G) (.cons (st__law_stream c X G) (.cons (st__law_next c X G) (.cons (st__law_pick c X G) (.cons (st__law_from c X G) (.cons (st__law_same c X G) (.cons (st__law_copy c X G) (.cons (st__law_shuffle c X G) (.cons (st__law_scaled c X G) (.cons (st__law_ahead c X G) (.cons (st__law_some c X G) (.cons (st__law_going c X G) (.cons (st__law_count c X G) (.cons (st__law_counters c X G) (.cons (st__law_changed c X G) (.cons (st__law_entries c X G) (.cons (st__law_told c X G) .nil))))))))))))))))))))) (.cons (st_law c X G) .nil)
theorem st_cls (c : SaysV fa fn cst K) (X : K.In h) (G : h.Ns mainGlobals mg) : AllP (StC P w K mg) cls := .cons (st_Game c X G) .nil
theorem st_fre (c : SaysV fa fn cst K) (X : K.In h) (G : h.Ns mainGlobals mg) : AllP (fun x => mg x = none) fre := .cons (He.free_ok X G (c.toD.fact 83 (f := .free "abs") rfl)) (.cons (He.free_ok X G (c.toD.fact 84 (f := .free "all") rfl)) (.cons (He.free_ok X G (c.toD.fact 85 (f := .free "any") rfl)) (.cons (He.free_ok X G (c.toD.fact 86 (f := .free "bool") rfl)) (.cons (He.free_ok X G (c.toD.fact 87 (f := .free "dict") rfl)) (.cons (He.free_ok X G (c.toD.fact 88 (f := .free "int") rfl)) (.cons (He.free_ok X G (c.toD.fact 89 (f := .free "isinstance") rfl)) (.cons (He.free_ok X G (c.toD.fact 90 (f := .free "len") rfl)) (.cons (He.free_ok X G (c.toD.fact 91 (f := .free "list") rfl)) (.cons (He.free_ok X G (c.toD.fact 92 (f := .free "max") rfl)) (.cons (He.free_ok X G (c.toD.fact 93 (f := .free "min") rfl)) (.cons (He.free_ok X G (c.toD.fact 94 (f := .free "range") rfl)) (.cons (He.free_ok X G (c.toD.fact 95 (f := .free "str") rfl)) (.cons (He.free_ok X G (c.toD.fact 96 (f := .free "tuple") rfl)) .nil)))))))))))))
theorem stat (c : SaysV fa fn cst K) (X : K.In h) (G : h.Ns mainGlobals mg) : Stat P w K mg Γ := ⟨(st_fns c X G).mem, (st_cls c X G).mem, fun x d e => c.cst X G e, (st_fre c X G).mem⟩
end
/-- the law's def, run -/
abbrev lawV : FV := runFi Γ (clN Γ 60 60) 60 f_law
end Vl.T
open PySem PySem.W PySem.Calls PyProof.Rows in
theorem Vl.T.law_of (hl : ∀ ns : List Int, ns.length ≤ 63 → ∃ sto, Vl.T.lawV [.scr ns] [] = .ok (.dat (.bl true)) sto) : PySem.Challenge.rw_holdagainst_k23_whole_counters_on_rings.Holds := by
  w_on; o_law
  refine HandSHeadRun.head_any (r := OpenLaw.row PySem.Challenge.rw_holdagainst_k23_whole_counters_on_rings) (q := view (OpenLaw.row PySem.Challenge.rw_holdagainst_k23_whole_counters_on_rings).prog [78]) (H := Vl.T.hk) (ob := Vl.T.ob) (M := 6000) (loose := Vl.T.loose) (d := HandSHeadRun.topDef (OpenLaw.row PySem.Challenge.rw_holdagainst_k23_whole_counters_on_rings).prog 78) (kwd := []) Vl.T.ob_eq
    (by kernel_rfl) (fun s => by kernel_rfl) Vl.T.run (by kernel_rfl) (by kernel_rfl) (by kernel_rfl) (by rfl) (by first | assumption | decide +kernel) (by decide +kernel) ⟨rfl, rfl, rfl, rfl, rfl, by decide +kernel⟩ ?hw ?hc
  case hw => w_witness2
  case hc =>
    refine L2.walk_ofE (l := PySem.Challenge.rw_holdagainst_k23_whole_counters_on_rings) (n := 63) (k := 122) (x := "script") (CX := L2.CX0) rfl (by decide) (by kernel_rfl) ⟨rfl, by decide, by decide⟩ ?F (fun _ _ _ _ z => z)
    intro w mg fa h Y G hmg0
    obtain ⟨K, KX, c⟩ := Y
    have hmg : mg ("law" : PySem.Str) = some (.ref fa) := by
      have e : (HandSHeadRun.topDef (OpenLaw.row PySem.Challenge.rw_holdagainst_k23_whole_counters_on_rings).prog 78).name = ("law" : PySem.Str) := by kernel_rfl
      rw [← e]
      exact hmg0
    obtain ⟨fd, F⟩ := c.toD.def_ 60 (d := Vl.T.d_law) rfl
    have e := hmg.symm.trans (He.glo_ok KX G (c.toD.fact 60 (f := .glo "law") rfl))
    cases e
    have st := Vl.T.stat (P := (PySem.Challenge.rw_holdagainst_k23_whole_counters_on_rings).prog) (w := w) c KX G
    have b := L2.FunD.bindsA (ps := ["script"]) F fun _ _ _ _ _ _ us hl => match us, hl with | [_], _ => rfl
    refine ⟨K, fd, Vl.spV (PySem.Challenge.rw_holdagainst_k23_whole_counters_on_rings).prog w K 1 Vl.T.lawV, KX, fun s v => b s [v] rfl, fun H a ns hn _ hS => Vl.law_end hS (hl ns hn), fun base _ _ => ?_⟩
    exact Vl.fi_ok (i := Vl.T.f_law) F ⟨rfl, rfl, rfl, by decide +kernel, rfl, by decide +kernel, by decide +kernel⟩ (Vl.facts_ok 60 st 60)
set_option Elab.async false
set_option linter.all false
set_option maxRecDepth 100000
set_option maxHeartbeats 0
namespace Vl.T
open PySem PySem.Spec PyProof.Rows L2
def c__wall_c1 (cl : Cl) : M Bool := (tTru (rD (dR (Pure.pure (.dat (.bl true))))))
def c__wall_b2 (cl : Cl) : M Fl := (Pure.pure .nx)
def c__wall (cl : Cl) : M Fl := (mWhile (c__wall_c1 cl) (c__wall_b2 cl) Γ.L)
theorem r__wall (cl : Cl) : runFi Γ cl 60 f__wall = runC 1 1 (c__wall cl) := by kernel_rfl
theorem q__wall (n : Nat) : (clN Γ 60 (n + 1)).fn "_wall" = runC 1 1 (c__wall (clN Γ 60 n)) := (show (clN Γ 60 (n + 1)).fn "_wall" = runFi Γ (clN Γ 60 n) 60 f__wall by kernel_rfl).trans (r__wall _)
def c_is_integer (cl : Cl) : M Fl := (mRet (vD (mAndV (dR (mIsi .int (rfSlot 0))) (dR (vD (mNotV (dR (mIsi .bool (rfSlot 0)))))))))
theorem r_is_integer (cl : Cl) : runFi Γ cl 60 f_is_integer = runC 1 1 (c_is_integer cl) := by kernel_rfl
theorem q_is_integer (n : Nat) : (clN Γ 60 (n + 1)).fn "is_integer" = runC 1 1 (c_is_integer (clN Γ 60 n)) := (show (clN Γ 60 (n + 1)).fn "is_integer" = runFi Γ (clN Γ 60 n) 60 f_is_integer by kernel_rfl).trans (r_is_integer _)
def c_is_between (cl : Cl) : M Fl := (mRet (vD (mAndV (dR (mCall (cl.fn "is_integer") (aC (rdSlot 0) aN) [])) (dR (mChain (rfSlot 1) (rfSlot 0) (rfSlot 2) dLe dLe)))))
theorem r_is_between (cl : Cl) : runFi Γ cl 60 f_is_between = runC 3 3 (c_is_between cl) := by kernel_rfl
theorem q_is_between (n : Nat) : (clN Γ 60 (n + 1)).fn "is_between" = runC 3 3 (c_is_between (clN Γ 60 n)) := (show (clN Γ 60 (n + 1)).fn "is_between" = runFi Γ (clN Γ 60 n) 60 f_is_between by kernel_rfl).trans (r_is_between _)
def c_is_tuple_of (cl : Cl) : M Fl := (mRet (vD (mAndV (dR (mIsi .tuple (rfSlot 0))) (dR (mBin (rD (dR (mCallB [(rfSlot 0)] gLen))) (rfSlot 1) dEq)))))
theorem r_is_tuple_of (cl : Cl) : runFi Γ cl 60 f_is_tuple_of = runC 2 2 (c_is_tuple_of cl) := by kernel_rfl
theorem q_is_tuple_of (n : Nat) : (clN Γ 60 (n + 1)).fn "is_tuple_of" = runC 2 2 (c_is_tuple_of (clN Γ 60 n)) := (show (clN Γ 60 (n + 1)).fn "is_tuple_of" = runFi Γ (clN Γ 60 n) 60 f_is_tuple_of by kernel_rfl).trans (r_is_tuple_of _)
def c_is_state (cl : Cl) : M Fl := (mRet (vD (mAndV (dR (mCall (cl.fn "is_between") (aC (rdSlot 1) (aC (dR (Pure.pure (.dat (.int 0)))) (aC (dR (mBin (rD (dR (mCallB [(rfSlot 0)] gLen))) (rD (dR (Pure.pure (.dat (.int 1))))) dSub)) aN))) [])) (dR (mCall (cl.fn "is_between") (aC (rdSlot 2) (aC (dR (Pure.pure (.dat (.int 0)))) (aC (dR (mBin (rD (dR (vD (mGet (rD (dR (vD (mGet (rfSlot 0) (rfSlot 1))))) (rD (dR (Pure.pure (.dat (.int 0))))))))) (rD (dR (Pure.pure (.dat (.int 1))))) dSub)) aN))) [])))))
theorem r_is_state (cl : Cl) : runFi Γ cl 60 f_is_state = runC 3 3 (c_is_state cl) := by kernel_rfl
theorem q_is_state (n : Nat) : (clN Γ 60 (n + 1)).fn "is_state" = runC 3 3 (c_is_state (clN Γ 60 n)) := (show (clN Γ 60 (n + 1)).fn "is_state" = runFi Γ (clN Γ 60 n) 60 f_is_state by kernel_rfl).trans (r_is_state _)
def c_tables_i1 (cl : Cl) : M Src := (mRng (aC (rdSlot 3) aN))
def c_tables_i2 (cl : Cl) : M Src := (mRng (aC (dR (mCallB [(rfSlot 1)] gLen)) aN))
def c_tables_t3 (cl : Cl) : D → List D → M (List D) := turn1 [7] (fun d => setSlot 7 (.dat d)) ((mBin (rfSlot 6) (rD (dR (vD (mGet (rD (dR (vD (mGet (rfSlot 1) (rfSlot 7))))) (rD (dR (Pure.pure (.dat (.int 1))))))))) dIn) >>= asB) (rdSlot 7)
def c_tables_t4 (cl : Cl) : D → List D → M (List D) := turn1 [6] (fun d => setSlot 6 (.dat d)) (Pure.pure true) (dR (mLc Γ.L [7] (c_tables_i2 cl) (c_tables_t3 cl)))
def c_tables_i5 (cl : Cl) : M Src := ((rdSlot 1) >>= srcOf)
def c_tables_i6 (cl : Cl) : M Src := ((dR (vD (mGet (rfSlot 5) (rD (dR (Pure.pure (.dat (.int 2)))))))) >>= srcOf)
def c_tables_t7 (cl : Cl) : D → KVs → M KVs := turnD [8, 9, 10] (gTupD 3 (gsCons (fun d => setSlot 8 (.dat d)) (gsCons (fun d => setSlot 9 (.dat d)) (gsCons (fun d => setSlot 10 (.dat d)) gsNil)))) (Pure.pure true) (dR (mTup (aC (rdSlot 8) (aC (rdSlot 9) aN)))) (rdSlot 10)
def c_tables_t8 (cl : Cl) : D → List D → M (List D) := turn1 [5] (fun d => setSlot 5 (.dat d)) (Pure.pure true) (dR (mDc Γ.L [8, 9, 10] (c_tables_i6 cl) (c_tables_t7 cl)))
def c_tables (cl : Cl) : M Fl := (mSeq (mSet (vD (mGet (rfSlot 0) (rD (dR (Pure.pure (.dat (.str "machines"))))))) 1)
    (mSeq (mSetC (mLc Γ.L [5] (c_tables_i5 cl) (c_tables_t8 cl)) false 2)
    (mSeq (mSet (mCallB [(rD (dR (vD (mGet (rfSlot 0) (rD (dR (Pure.pure (.dat (.str "letters")))))))))] gLen) 3)
    (mSeq (mSetC (mLc Γ.L [6] (c_tables_i1 cl) (c_tables_t4 cl)) false 4)
    (mRet (mTup (aC (rdSlot 2) (aC (rdSlot 4) aN))))))))
theorem r_tables (cl : Cl) : runFi Γ cl 60 f_tables = runC 1 11 (c_tables cl) := by kernel_rfl
theorem q_tables (n : Nat) : (clN Γ 60 (n + 1)).fn "tables" = runC 1 11 (c_tables (clN Γ 60 n)) := (show (clN Γ 60 (n + 1)).fn "tables" = runFi Γ (clN Γ 60 n) 60 f_tables by kernel_rfl).trans (r_tables _)
def c_is_open_in_i1 (cl : Cl) : M Src := ((dR (vD (mGet (rfSlot 5) (rfSlot 2)))) >>= srcOf)
def c_is_open_in_b2 (cl : Cl) : M Fl := (mIfS ((mBin (rD (dR (mTup (aC (dR (vD (mGet (rfSlot 1) (rfSlot 3)))) (aC (rdSlot 2) aN))))) (rD (dR (vD (mGet (rfSlot 4) (rfSlot 3))))) dNotIn) >>= asB)
    (mRet (Pure.pure (.dat (.bl false))))
    (Pure.pure .nx))
def c_is_open_in (cl : Cl) : M Fl := (mSeq (mAsg (rdSlot 0) (gTupD 2 (gsCons (fun d => setSlot 4 (.dat d)) (gsCons (fun d => setSlot 5 (.dat d)) gsNil))))
    (mSeq (mFor Γ.L (c_is_open_in_i1 cl) (fun d => setSlot 3 (.dat d)) (c_is_open_in_b2 cl))
    (mRet (Pure.pure (.dat (.bl true))))))
theorem r_is_open_in (cl : Cl) : runFi Γ cl 60 f_is_open_in = runC 3 6 (c_is_open_in cl) := by kernel_rfl
theorem q_is_open_in (n : Nat) : (clN Γ 60 (n + 1)).fn "is_open_in" = runC 3 6 (c_is_open_in (clN Γ 60 n)) := (show (clN Γ 60 (n + 1)).fn "is_open_in" = runFi Γ (clN Γ 60 n) 60 f_is_open_in by kernel_rfl).trans (r_is_open_in _)
def c_open_in_i1 (cl : Cl) : M Src := (mRng (aC (dR (mCallB [(rfSlot 4)] gLen)) aN))
def c_open_in_t2 (cl : Cl) : D → List D → M (List D) := turn1 [5] (fun d => setSlot 5 (.dat d)) (tAnd ((mBin (rD (dR (vD (mGet (rD (dR (vD (mGet (rfSlot 4) (rfSlot 5))))) (rD (dR (Pure.pure (.dat (.int 1))))))))) (rfSlot 3) dEq) >>= asB) (tTru (rD (dR (mCall (cl.fn "is_open_in") (aC (rdSlot 1) (aC (rdSlot 2) (aC (rdSlot 5) aN))) []))))) (rdSlot 5)
def c_open_in (cl : Cl) : M Fl := (mSeq (mSet (vD (mGet (rfSlot 0) (rD (dR (Pure.pure (.dat (.str "letters"))))))) 4)
    (mRet (mLc Γ.L [5] (c_open_in_i1 cl) (c_open_in_t2 cl))))
theorem r_open_in (cl : Cl) : runFi Γ cl 60 f_open_in = runC 4 6 (c_open_in cl) := by kernel_rfl
theorem q_open_in (n : Nat) : (clN Γ 60 (n + 1)).fn "open_in" = runC 4 6 (c_open_in (clN Γ 60 n)) := (show (clN Γ 60 (n + 1)).fn "open_in" = runFi Γ (clN Γ 60 n) 60 f_open_in by kernel_rfl).trans (r_open_in _)
def c_moves_in (cl : Cl) : M Fl := (mSeq (mSet (mCall (cl.fn "open_in") (aC (rdSlot 0) (aC (rdSlot 1) (aC (rdSlot 2) (aC (dR (vD (mGet (rD (Pure.pure (.tup [.str "op", .str "world", .str "rare"]))) (rfSlot 3)))) aN)))) []) 4)
    (mSeq (mIfS (tOr (tTru (rD (dR (vD (mGet (rD (dR (vD (mGet (rfSlot 0) (rD (dR (Pure.pure (.dat (.str "waits"))))))))) (rfSlot 3)))))) ((mBin (rfSlot 4) (rD (dR (mLst aN))) dEq) >>= asB))
    (mExp (vD (mMut (rfSlot 4) (aC (Pure.pure (.int (-1))) aN) gAppend)))
    (Pure.pure .nx))
    (mRet (mvSlot 4))))
theorem r_moves_in (cl : Cl) : runFi Γ cl 60 f_moves_in = runC 4 5 (c_moves_in cl) := by kernel_rfl
theorem q_moves_in (n : Nat) : (clN Γ 60 (n + 1)).fn "moves_in" = runC 4 5 (c_moves_in (clN Γ 60 n)) := (show (clN Γ 60 (n + 1)).fn "moves_in" = runFi Γ (clN Γ 60 n) 60 f_moves_in by kernel_rfl).trans (r_moves_in _)
def c_step_in_i1 (cl : Cl) : M Src := ((dR (vD (mGet (rfSlot 6) (rfSlot 2)))) >>= srcOf)
def c_step_in_b2 (cl : Cl) : M Fl := (mAsg (dR (vD (mGet (rD (dR (vD (mGet (rfSlot 5) (rfSlot 4))))) (rD (dR (mTup (aC (dR (vD (mGet (rfSlot 1) (rfSlot 4)))) (aC (rdSlot 2) aN)))))))) (mStore (rfSlot 3) (rfSlot 4)))
def c_step_in (cl : Cl) : M Fl := (mSeq (mIfS ((mBin (rfSlot 2) (rD (Pure.pure (.int (-1)))) dEq) >>= asB)
    (mRet (mvSlot 1))
    (Pure.pure .nx))
    (mSeq (mAsg (rdSlot 0) (gTupD 2 (gsCons (fun d => setSlot 5 (.dat d)) (gsCons (fun d => setSlot 6 (.dat d)) gsNil))))
    (mSeq (mSet (mCallB [(rfSlot 1)] gList) 3)
    (mSeq (mFor Γ.L (c_step_in_i1 cl) (fun d => setSlot 4 (.dat d)) (c_step_in_b2 cl))
    (mRet (mCallB [(rfSlot 3)] gTuple))))))
theorem r_step_in (cl : Cl) : runFi Γ cl 60 f_step_in = runC 3 7 (c_step_in cl) := by kernel_rfl
theorem q_step_in (n : Nat) : (clN Γ 60 (n + 1)).fn "step_in" = runC 3 7 (c_step_in (clN Γ 60 n)) := (show (clN Γ 60 (n + 1)).fn "step_in" = runFi Γ (clN Γ 60 n) 60 f_step_in by kernel_rfl).trans (r_step_in _)
def c_flag_holds_i1 (cl : Cl) : M Src := ((dR (vD (mGet (rD (dR (vD (mGet (rD (dR (vD (mGet (rfSlot 0) (rD (dR (Pure.pure (.dat (.str "flags"))))))))) (rfSlot 2))))) (rD (dR (Pure.pure (.dat (.int 1)))))))) >>= srcOf)
def c_flag_holds_t2 (cl : Cl) : D → List D → M (List D) := turn1 [3, 4] (gTupD 2 (gsCons (fun d => setSlot 3 (.dat d)) (gsCons (fun d => setSlot 4 (.dat d)) gsNil))) (Pure.pure true) (dR (mBin (rD (dR (vD (mGet (rfSlot 1) (rfSlot 3))))) (rfSlot 4) dEq))
def c_flag_holds (cl : Cl) : M Fl := (mRet (mCallB [(rD (dR (mLc Γ.L [3, 4] (c_flag_holds_i1 cl) (c_flag_holds_t2 cl))))] gAny))
theorem r_flag_holds (cl : Cl) : runFi Γ cl 60 f_flag_holds = runC 3 5 (c_flag_holds cl) := by kernel_rfl
theorem q_flag_holds (n : Nat) : (clN Γ 60 (n + 1)).fn "flag_holds" = runC 3 5 (c_flag_holds (clN Γ 60 n)) := (show (clN Γ 60 (n + 1)).fn "flag_holds" = runFi Γ (clN Γ 60 n) 60 f_flag_holds by kernel_rfl).trans (r_flag_holds _)
def c_is_joint_i1 (cl : Cl) : M Src := (mRng (aC (dR (mCallB [(rfSlot 2)] gLen)) aN))
def c_is_joint_t2 (cl : Cl) : D → List D → M (List D) := turn1 [3] (fun d => setSlot 3 (.dat d)) (Pure.pure true) (dR (mCall (cl.fn "is_state") (aC (rdSlot 2) (aC (rdSlot 3) (aC (dR (vD (mGet (rfSlot 1) (rfSlot 3)))) aN))) []))
def c_is_joint (cl : Cl) : M Fl := (mSeq (mSet (vD (mGet (rfSlot 0) (rD (dR (Pure.pure (.dat (.str "machines"))))))) 2)
    (mSeq (mIfS (tNot (tTru (rD (dR (mCall (cl.fn "is_tuple_of") (aC (rdSlot 1) (aC (dR (mCallB [(rfSlot 2)] gLen)) aN)) [])))))
    (mRet (Pure.pure (.dat (.bl false))))
    (Pure.pure .nx))
    (mRet (mCallB [(rD (dR (mLc Γ.L [3] (c_is_joint_i1 cl) (c_is_joint_t2 cl))))] gAll))))
theorem r_is_joint (cl : Cl) : runFi Γ cl 60 f_is_joint = runC 2 4 (c_is_joint cl) := by kernel_rfl
theorem q_is_joint (n : Nat) : (clN Γ 60 (n + 1)).fn "is_joint" = runC 2 4 (c_is_joint (clN Γ 60 n)) := (show (clN Γ 60 (n + 1)).fn "is_joint" = runFi Γ (clN Γ 60 n) 60 f_is_joint by kernel_rfl).trans (r_is_joint _)
def c_first_joint (cl : Cl) : M Fl := (mRet (mBin (rD (dR (mTup (aC (dR (Pure.pure (.dat (.int 0)))) aN)))) (rD (dR (mCallB [(rD (dR (vD (mGet (rfSlot 0) (rD (dR (Pure.pure (.dat (.str "machines")))))))))] gLen))) dMul))
theorem r_first_joint (cl : Cl) : runFi Γ cl 60 f_first_joint = runC 1 1 (c_first_joint cl) := by kernel_rfl
theorem q_first_joint (n : Nat) : (clN Γ 60 (n + 1)).fn "first_joint" = runC 1 1 (c_first_joint (clN Γ 60 n)) := (show (clN Γ 60 (n + 1)).fn "first_joint" = runFi Γ (clN Γ 60 n) 60 f_first_joint by kernel_rfl).trans (r_first_joint _)
def c_is_true_i1 (cl : Cl) : M Src := ((dR (vD (mGet (rfSlot 2) (rD (dR (Pure.pure (.dat (.int 1)))))))) >>= srcOf)
def c_is_true_t2 (cl : Cl) : D → List D → M (List D) := turn1 [4] (fun d => setSlot 4 (.dat d)) (Pure.pure true) (dR (mCall (cl.fn "is_true") (aC (rdSlot 0) (aC (rdSlot 1) (aC (rdSlot 4) aN))) []))
def c_is_true (cl : Cl) : M Fl := (mSeq (mIfS ((mBin (rD (dR (vD (mGet (rfSlot 2) (rD (dR (Pure.pure (.dat (.int 0))))))))) (rD (dR (Pure.pure (.dat (.str "flag"))))) dEq) >>= asB)
    (mRet (mCall (cl.fn "flag_holds") (aC (rdSlot 0) (aC (rdSlot 1) (aC (dR (vD (mGet (rfSlot 2) (rD (dR (Pure.pure (.dat (.int 1)))))))) aN))) []))
    (Pure.pure .nx))
    (mSeq (mIfS ((mBin (rD (dR (vD (mGet (rfSlot 2) (rD (dR (Pure.pure (.dat (.int 0))))))))) (rD (dR (Pure.pure (.dat (.str "at"))))) dEq) >>= asB)
    (mRet (mBin (rD (dR (vD (mGet (rfSlot 1) (rD (dR (vD (mGet (rfSlot 2) (rD (dR (Pure.pure (.dat (.int 1))))))))))))) (rD (dR (vD (mGet (rfSlot 2) (rD (dR (Pure.pure (.dat (.int 2))))))))) dEq))
    (Pure.pure .nx))
    (mSeq (mIfS ((mBin (rD (dR (vD (mGet (rfSlot 2) (rD (dR (Pure.pure (.dat (.int 0))))))))) (rD (dR (Pure.pure (.dat (.str "not"))))) dEq) >>= asB)
    (mRet (vD (mNotV (dR (mCall (cl.fn "is_true") (aC (rdSlot 0) (aC (rdSlot 1) (aC (dR (vD (mGet (rfSlot 2) (rD (dR (Pure.pure (.dat (.int 1)))))))) aN))) [])))))
    (Pure.pure .nx))
    (mSeq (mSetC (mLc Γ.L [4] (c_is_true_i1 cl) (c_is_true_t2 cl)) false 3)
    (mRet (mIf ((mBin (rD (dR (vD (mGet (rfSlot 2) (rD (dR (Pure.pure (.dat (.int 0))))))))) (rD (dR (Pure.pure (.dat (.str "all"))))) dEq) >>= asB) (mCallB [(rfSlot 3)] gAll) (mCallB [(rfSlot 3)] gAny)))))))
theorem r_is_true (cl : Cl) : runFi Γ cl 60 f_is_true = runC 3 5 (c_is_true cl) := by kernel_rfl
theorem q_is_true (n : Nat) : (clN Γ 60 (n + 1)).fn "is_true" = runC 3 5 (c_is_true (clN Γ 60 n)) := (show (clN Γ 60 (n + 1)).fn "is_true" = runFi Γ (clN Γ 60 n) 60 f_is_true by kernel_rfl).trans (r_is_true _)
def c_goal_word (cl : Cl) : M Fl := (mRet (mIf ((mBin (rD (dR (vD (mGet (rfSlot 0) (rD (dR (Pure.pure (.dat (.str "goal"))))))))) (rD (dR (Pure.pure (.dat (.non))))) dIs) >>= asB) (Pure.pure (.dat (.str "none"))) (vD (mGet (rD (dR (vD (mGet (rfSlot 0) (rD (dR (Pure.pure (.dat (.str "goal"))))))))) (rD (dR (Pure.pure (.dat (.int 0)))))))))
theorem r_goal_word (cl : Cl) : runFi Γ cl 60 f_goal_word = runC 1 1 (c_goal_word cl) := by kernel_rfl
theorem q_goal_word (n : Nat) : (clN Γ 60 (n + 1)).fn "goal_word" = runC 1 1 (c_goal_word (clN Γ 60 n)) := (show (clN Γ 60 (n + 1)).fn "goal_word" = runFi Γ (clN Γ 60 n) 60 f_goal_word by kernel_rfl).trans (r_goal_word _)
def c_goal_rows (cl : Cl) : M Fl := (mSeq (mPar [1, 2] (aC (dR (vD (mGet (rfSlot 0) (rD (dR (Pure.pure (.dat (.str "goal")))))))) (aC (dR (mCall (cl.fn "goal_word") (aC (rdSlot 0) aN) [])) aN)))
    (mSeq (mIfS ((mBin (rfSlot 2) (rD (Pure.pure (.tup [.str "reach", .str "again", .str "settle"]))) dIn) >>= asB)
    (mRet (mLst (aC (dR (mLst (aC (dR (vD (mGet (rfSlot 1) (rD (dR (Pure.pure (.dat (.int 1)))))))) aN))) aN)))
    (Pure.pure .nx))
    (mSeq (mIfS ((mBin (rfSlot 2) (rD (dR (Pure.pure (.dat (.str "given"))))) dEq) >>= asB)
    (mRet (mLst (aC (dR (mCallB [(rD (dR (vD (mGet (rfSlot 1) (rD (dR (Pure.pure (.dat (.int 1)))))))))] gList)) (aC (dR (mCallB [(rD (dR (vD (mGet (rfSlot 1) (rD (dR (Pure.pure (.dat (.int 2)))))))))] gList)) aN))))
    (Pure.pure .nx))
    (mRet (mIf ((mBin (rfSlot 2) (rD (Pure.pure (.tup [.str "ranked", .str "agains"]))) dIn) >>= asB) (mLst (aC (dR (mCallB [(rD (dR (vD (mGet (rfSlot 1) (rD (dR (Pure.pure (.dat (.int 1)))))))))] gList)) aN)) (mLst aN))))))
theorem r_goal_rows (cl : Cl) : runFi Γ cl 60 f_goal_rows = runC 1 3 (c_goal_rows cl) := by kernel_rfl
theorem q_goal_rows (n : Nat) : (clN Γ 60 (n + 1)).fn "goal_rows" = runC 1 3 (c_goal_rows (clN Γ 60 n)) := (show (clN Γ 60 (n + 1)).fn "goal_rows" = runFi Γ (clN Γ 60 n) 60 f_goal_rows by kernel_rfl).trans (r_goal_rows _)
def c_most_done_i1 (cl : Cl) : M Src := ((dR (mCall (cl.fn "goal_rows") (aC (rdSlot 0) aN) [])) >>= srcOf)
def c_most_done_b2 (cl : Cl) : M Fl := (mSet (mBin (rfSlot 2) (rD (dR (mBin (rD (dR (mCallB [(rfSlot 3)] gLen))) (rD (dR (Pure.pure (.dat (.int 1))))) dAdd))) dMul) 2)
def c_most_done (cl : Cl) : M Fl := (mSeq (mSet (mCall (cl.fn "goal_word") (aC (rdSlot 0) aN) []) 1)
    (mSeq (mIfS ((mBin (rfSlot 1) (rD (dR (Pure.pure (.dat (.str "reach"))))) dEq) >>= asB)
    (mRet (Pure.pure (.dat (.int 1))))
    (Pure.pure .nx))
    (mSeq (mSet (Pure.pure (.dat (.int 1))) 2)
    (mSeq (mIfS (tOr ((mBin (rfSlot 1) (rD (dR (Pure.pure (.dat (.str "agains"))))) dEq) >>= asB) ((mBin (rfSlot 1) (rD (dR (Pure.pure (.dat (.str "given"))))) dEq) >>= asB))
    (mFor Γ.L (c_most_done_i1 cl) (fun d => setSlot 3 (.dat d)) (c_most_done_b2 cl))
    (Pure.pure .nx))
    (mRet (mBin (rfSlot 2) (rD (dR (Pure.pure (.dat (.int 1))))) dSub))))))
theorem r_most_done (cl : Cl) : runFi Γ cl 60 f_most_done = runC 1 4 (c_most_done cl) := by kernel_rfl
theorem q_most_done (n : Nat) : (clN Γ 60 (n + 1)).fn "most_done" = runC 1 4 (c_most_done (clN Γ 60 n)) := (show (clN Γ 60 (n + 1)).fn "most_done" = runFi Γ (clN Γ 60 n) 60 f_most_done by kernel_rfl).trans (r_most_done _)
def c_moved_on (cl : Cl) : M Fl := (mSeq (mSet (mIf ((mBin (rfSlot 0) (rD (dR (mCallB [(rfSlot 1)] gLen))) dEq) >>= asB) (Pure.pure (.dat (.int 0))) (vD (rdSlot 0))) 2)
    (mRet (mIf (tTru (rD (dR (vD (mGet (rfSlot 1) (rfSlot 2)))))) (mBin (rfSlot 2) (rD (dR (Pure.pure (.dat (.int 1))))) dAdd) (vD (rdSlot 2)))))
theorem r_moved_on (cl : Cl) : runFi Γ cl 60 f_moved_on = runC 2 3 (c_moved_on cl) := by kernel_rfl
theorem q_moved_on (n : Nat) : (clN Γ 60 (n + 1)).fn "moved_on" = runC 2 3 (c_moved_on (clN Γ 60 n)) := (show (clN Γ 60 (n + 1)).fn "moved_on" = runFi Γ (clN Γ 60 n) 60 f_moved_on by kernel_rfl).trans (r_moved_on _)
def c_is_place_i1 (cl : Cl) : M Src := (mRng (aC (dR (mCallB [(rfSlot 4)] gLen)) aN))
def c_is_place_t2 (cl : Cl) : D → List D → M (List D) := turn1 [5] (fun d => setSlot 5 (.dat d)) (Pure.pure true) (dR (mCall (cl.fn "is_between") (aC (dR (vD (mGet (rfSlot 3) (rfSlot 5)))) (aC (dR (Pure.pure (.dat (.int 0)))) (aC (dR (vD (mGet (rD (dR (vD (mGet (rfSlot 4) (rfSlot 5))))) (rD (dR (Pure.pure (.dat (.int 2)))))))) aN))) []))
def c_is_place (cl : Cl) : M Fl := (mSeq (mIfS (tOr (tNot (tTru (rD (dR (mCall (cl.fn "is_tuple_of") (aC (rdSlot 2) (aC (dR (Pure.pure (.dat (.int 4)))) aN)) []))))) (tOr (tNot (tTru (rD (dR (mCall (cl.fn "is_joint") (aC (rdSlot 0) (aC (dR (vD (mGet (rfSlot 2) (rD (dR (Pure.pure (.dat (.int 0)))))))) aN)) []))))) (tNot (tTru (rD (dR (mCall (cl.fn "is_between") (aC (dR (vD (mGet (rfSlot 2) (rD (dR (Pure.pure (.dat (.int 1)))))))) (aC (dR (Pure.pure (.dat (.int 0)))) (aC (dR (Pure.pure (.dat (.int 1)))) aN))) [])))))))
    (mRet (Pure.pure (.dat (.bl false))))
    (Pure.pure .nx))
    (mSeq (mAsg (dR (mTup (aC (dR (vD (mGet (rfSlot 2) (rD (dR (Pure.pure (.dat (.int 2)))))))) (aC (dR (vD (mGet (rfSlot 1) (rD (dR (Pure.pure (.dat (.str "answers")))))))) aN)))) (gTupD 2 (gsCons (fun d => setSlot 3 (.dat d)) (gsCons (fun d => setSlot 4 (.dat d)) gsNil))))
    (mSeq (mIfS (tNot (tTru (rD (dR (mCall (cl.fn "is_tuple_of") (aC (rdSlot 3) (aC (dR (mCallB [(rfSlot 4)] gLen)) aN)) [])))))
    (mRet (Pure.pure (.dat (.bl false))))
    (Pure.pure .nx))
    (mSeq (mIfS (tNot (tTru (rD (dR (mCallB [(rD (dR (mLc Γ.L [5] (c_is_place_i1 cl) (c_is_place_t2 cl))))] gAll)))))
    (mRet (Pure.pure (.dat (.bl false))))
    (Pure.pure .nx))
    (mRet (mCall (cl.fn "is_between") (aC (dR (vD (mGet (rfSlot 2) (rD (dR (Pure.pure (.dat (.int 3)))))))) (aC (dR (Pure.pure (.dat (.int 0)))) (aC (dR (mCall (cl.fn "most_done") (aC (rdSlot 1) aN) [])) aN))) []))))))
theorem r_is_place (cl : Cl) : runFi Γ cl 60 f_is_place = runC 3 6 (c_is_place cl) := by kernel_rfl
theorem q_is_place (n : Nat) : (clN Γ 60 (n + 1)).fn "is_place" = runC 3 6 (c_is_place (clN Γ 60 n)) := (show (clN Γ 60 (n + 1)).fn "is_place" = runFi Γ (clN Γ 60 n) 60 f_is_place by kernel_rfl).trans (r_is_place _)
def c_first_place (cl : Cl) : M Fl := (mRet (mMeth (mtab Γ cl) (dR (mMake "Game" (cl.me "Game" "__init__") (aC (rdSlot 0) (aC (rdSlot 1) aN)) [.bl false])) "first" 0 aN))
theorem r_first_place (cl : Cl) : runFi Γ cl 60 f_first_place = runC 2 2 (c_first_place cl) := by kernel_rfl
theorem q_first_place (n : Nat) : (clN Γ 60 (n + 1)).fn "first_place" = runC 2 2 (c_first_place (clN Γ 60 n)) := (show (clN Γ 60 (n + 1)).fn "first_place" = runFi Γ (clN Γ 60 n) 60 f_first_place by kernel_rfl).trans (r_first_place _)
def c_read_list_i1 (cl : Cl) : M Src := ((rdSlot 3) >>= srcOf)
def c_read_list_b2 (cl : Cl) : M Fl := (mSeq (mIfS (tOr (tNot (tTru (rD (dR (mCall (cl.fn "is_tuple_of") (aC (rdSlot 7) (aC (rdSlot 4) aN)) []))))) (tOr (tNot (tTru (rD (dR (mCall (cl.fn "is_place") (aC (rdSlot 0) (aC (rdSlot 1) (aC (dR (vD (mGet (rfSlot 7) (rD (dR (Pure.pure (.dat (.int 0)))))))) aN))) []))))) ((mBin (rD (dR (vD (mGet (rfSlot 7) (rD (dR (Pure.pure (.dat (.int 0))))))))) (rfSlot 6) dIn) >>= asB)))
    (mRet (Pure.pure (.dat (.non))))
    (Pure.pure .nx))
    (mSeq (mIfS (tNot (tTru (rD (dR (mCall (cl.fn "is_move") (aC (rdSlot 0) (aC (rdSlot 5) (aC (dR (vD (mGet (rfSlot 7) (rD (dR (Pure.pure (.dat (.int 0)))))))) (aC (rdSlot 2) (aC (dR (vD (mGet (rfSlot 7) (rD (dR (Pure.pure (.dat (.int 1)))))))) aN))))) [])))))
    (mRet (Pure.pure (.dat (.non))))
    (Pure.pure .nx))
    (mAsg (dR (mSlice (rfSlot 7) (sB (dR (Pure.pure (.dat (.int 1))))) (Pure.pure none))) (mStore (rfSlot 6) (rD (dR (vD (mGet (rfSlot 7) (rD (dR (Pure.pure (.dat (.int 0)))))))))))))
def c_read_list (cl : Cl) : M Fl := (mSeq (mIfS (tNot (tTru (rD (dR (mIsi .list (rfSlot 3))))))
    (mRet (Pure.pure (.dat (.non))))
    (Pure.pure .nx))
    (mSeq (mSet (mCall (cl.fn "tables") (aC (rdSlot 0) aN) []) 5)
    (mSeq (mSet (Pure.pure (.own (.dct []))) 6)
    (mSeq (mFor Γ.L (c_read_list_i1 cl) (fun d => setSlot 7 (.dat d)) (c_read_list_b2 cl))
    (mRet (mvSlot 6))))))
theorem r_read_list (cl : Cl) : runFi Γ cl 60 f_read_list = runC 5 8 (c_read_list cl) := by kernel_rfl
theorem q_read_list (n : Nat) : (clN Γ 60 (n + 1)).fn "read_list" = runC 5 8 (c_read_list (clN Γ 60 n)) := (show (clN Γ 60 (n + 1)).fn "read_list" = runFi Γ (clN Γ 60 n) 60 f_read_list by kernel_rfl).trans (r_read_list _)
def c_is_move (cl : Cl) : M Fl := (mSeq (mIfS ((mBin (rD (dR (vD (mGet (rfSlot 2) (rD (dR (Pure.pure (.dat (.int 1))))))))) (rfSlot 3) dNe) >>= asB)
    (mRet (mBin (rfSlot 4) (rD (dR (Pure.pure (.dat (.non))))) dIs))
    (Pure.pure .nx))
    (mRet (vD (mAndV (dR (mCall (cl.fn "is_integer") (aC (rdSlot 4) aN) [])) (dR (mBin (rfSlot 4) (rD (dR (mCall (cl.fn "moves_in") (aC (rdSlot 0) (aC (rdSlot 1) (aC (dR (vD (mGet (rfSlot 2) (rD (dR (Pure.pure (.dat (.int 0)))))))) (aC (rdSlot 3) aN)))) []))) dIn))))))
theorem r_is_move (cl : Cl) : runFi Γ cl 60 f_is_move = runC 5 5 (c_is_move cl) := by kernel_rfl
theorem q_is_move (n : Nat) : (clN Γ 60 (n + 1)).fn "is_move" = runC 5 5 (c_is_move (clN Γ 60 n)) := (show (clN Γ 60 (n + 1)).fn "is_move" = runFi Γ (clN Γ 60 n) 60 f_is_move by kernel_rfl).trans (r_is_move _)
def c_counting_i1 (cl : Cl) : M Src := ((rdSlot 3) >>= srcOf)
def c_counting_t2 (cl : Cl) : D → List D → M (List D) := turn1 [4] (fun d => setSlot 4 (.dat d)) ((mBin (rD (dR (vD (mGet (rfSlot 4) (rD (dR (Pure.pure (.dat (.int 0))))))))) (rfSlot 2) dEq) >>= asB) (rdSlot 4)
def c_counting (cl : Cl) : M Fl := (mSeq (mSet (mMeth (mtab Γ cl) (rdSlot 0) "leads" 1 (aC (rdSlot 1) aN)) 3)
    (mSeq (mIfS ((mBin (rfSlot 2) (rD (dR (Pure.pure (.dat (.non))))) dIs) >>= asB)
    (mRet (mvSlot 3))
    (Pure.pure .nx))
    (mRet (mLc Γ.L [4] (c_counting_i1 cl) (c_counting_t2 cl)))))
theorem r_counting (cl : Cl) : runFi Γ cl 60 f_counting = runC 3 5 (c_counting cl) := by kernel_rfl
theorem q_counting (n : Nat) : (clN Γ 60 (n + 1)).fn "counting" = runC 3 5 (c_counting (clN Γ 60 n)) := (show (clN Γ 60 (n + 1)).fn "counting" = runFi Γ (clN Γ 60 n) 60 f_counting by kernel_rfl).trans (r_counting _)
def c_is_measure_i1 (cl : Cl) : M Src := ((rdSlot 0) >>= srcOf)
def c_is_measure_t2 (cl : Cl) : D → List D → M (List D) := turn1 [1] (fun d => setSlot 1 (.dat d)) (Pure.pure true) (dR (vD (mAndV (dR (mCall (cl.fn "is_integer") (aC (rdSlot 1) aN) [])) (dR (mBin (rfSlot 1) (rD (dR (Pure.pure (.dat (.int 0))))) dGe)))))
def c_is_measure (cl : Cl) : M Fl := (mRet (vD (mAndV (dR (mCall (cl.fn "is_tuple_of") (aC (rdSlot 0) (aC (dR (Pure.pure (.dat (.int 3)))) aN)) [])) (dR (mCallB [(rD (dR (mLc Γ.L [1] (c_is_measure_i1 cl) (c_is_measure_t2 cl))))] gAll)))))
theorem r_is_measure (cl : Cl) : runFi Γ cl 60 f_is_measure = runC 1 2 (c_is_measure cl) := by kernel_rfl
theorem q_is_measure (n : Nat) : (clN Γ 60 (n + 1)).fn "is_measure" = runC 1 2 (c_is_measure (clN Γ 60 n)) := (show (clN Γ 60 (n + 1)).fn "is_measure" = runFi Γ (clN Γ 60 n) 60 f_is_measure by kernel_rfl).trans (r_is_measure _)
def c_fits_i1 (cl : Cl) : M Src := ((dR (mTup (aC (dR (mBin (rD (dR (Pure.pure (.dat (.int 5))))) (rfSlot 0) dSub)) (aC (dR (mBin (rD (dR (Pure.pure (.dat (.int 3))))) (rfSlot 0) dSub)) (aC (dR (mBin (rD (dR (Pure.pure (.dat (.int 1))))) (rfSlot 0) dSub)) aN))))) >>= srcOf)
def c_fits_t2 (cl : Cl) : D → List D → M (List D) := turn1 [5] (fun d => setSlot 5 (.dat d)) ((mBin (rfSlot 5) (rfSlot 1) dGe) >>= asB) (rdSlot 5)
def c_fits (cl : Cl) : M Fl := (mSeq (mSet (mCallB [(rD (dR (mLc Γ.L [5] (c_fits_i1 cl) (c_fits_t2 cl))))] gLen) 4)
    (mSeq (mIfS ((mBin (rD (dR (mBin (rfSlot 1) (rD (dR (Pure.pure (.dat (.int 2))))) dMod))) (rfSlot 0) dNe) >>= asB)
    (mRet (mBin (rD (dR (mSlice (rfSlot 2) (Pure.pure none) (sB (rdSlot 4))))) (rD (dR (mSlice (rfSlot 3) (Pure.pure none) (sB (rdSlot 4))))) dGt))
    (Pure.pure .nx))
    (mRet (mBin (rD (dR (mSlice (rfSlot 2) (Pure.pure none) (sB (rdSlot 4))))) (rD (dR (mSlice (rfSlot 3) (Pure.pure none) (sB (rdSlot 4))))) dGe))))
theorem r_fits (cl : Cl) : runFi Γ cl 60 f_fits = runC 4 6 (c_fits cl) := by kernel_rfl
theorem q_fits (n : Nat) : (clN Γ 60 (n + 1)).fn "fits" = runC 4 6 (c_fits (clN Γ 60 n)) := (show (clN Γ 60 (n + 1)).fn "fits" = runFi Γ (clN Γ 60 n) 60 f_fits by kernel_rfl).trans (r_fits _)
def c_is_ranked_list_i1 (cl : Cl) : M Src := ((rdSlot 5) >>= srcOf)
def c_is_ranked_list_i2 (cl : Cl) : M Src := ((dR (mCall (cl.fn "counting") (aC (rdSlot 6) (aC (rdSlot 7) (aC (rdSlot 10) aN))) [])) >>= srcOf)
def c_is_ranked_list_b3 (cl : Cl) : M Fl := (mIfS ((mBin (rD (dR (vD (mGet (rfSlot 9) (rD (dR (Pure.pure (.dat (.int 1))))))))) (rD (dR (Pure.pure (.dat (.non))))) dIs) >>= asB)
    (mIfS ((mBin (rfSlot 2) (rD (dR (Pure.pure (.dat (.int 0))))) dEq) >>= asB)
    (mRet (Pure.pure (.dat (.bl false))))
    (Pure.pure .nx))
    (mIfS (tOr ((mBin (rD (dR (vD (mGet (rfSlot 9) (rD (dR (Pure.pure (.dat (.int 1))))))))) (rfSlot 5) dNotIn) >>= asB) (tNot (tTru (rD (dR (mCall (cl.fn "fits") (aC (rdSlot 2) (aC (rdSlot 8) (aC (rdSlot 11) (aC (dR (vD (mGet (rD (dR (vD (mGet (rfSlot 5) (rD (dR (vD (mGet (rfSlot 9) (rD (dR (Pure.pure (.dat (.int 1))))))))))))) (rD (dR (Pure.pure (.dat (.int 1)))))))) aN)))) []))))))
    (mRet (Pure.pure (.dat (.bl false))))
    (Pure.pure .nx)))
def c_is_ranked_list_b4 (cl : Cl) : M Fl := (mSeq (mAsg (dR (vD (mGet (rfSlot 5) (rfSlot 7)))) (gTupD 2 (gsCons (fun d => setSlot 10 (.dat d)) (gsCons (fun d => setSlot 11 (.dat d)) gsNil))))
    (mSeq (mSet (mIf (tTru (rfSlot 4)) (Pure.pure (.dat (.int 0))) (mMeth (mtab Γ cl) (rdSlot 6) "rank_of" 1 (aC (rdSlot 7) aN))) 8)
    (mFor Γ.L (c_is_ranked_list_i2 cl) (fun d => setSlot 9 (.dat d)) (c_is_ranked_list_b3 cl))))
def c_is_ranked_list_i5 (cl : Cl) : M Src := ((rdSlot 5) >>= srcOf)
def c_is_ranked_list_t6 (cl : Cl) : D → List D → M (List D) := turn1 [7] (fun d => setSlot 7 (.dat d)) (Pure.pure true) (dR (mCall (cl.fn "is_measure") (aC (dR (vD (mGet (rD (dR (vD (mGet (rfSlot 5) (rfSlot 7))))) (rD (dR (Pure.pure (.dat (.int 1)))))))) aN) []))
def c_is_ranked_list (cl : Cl) : M Fl := (mSeq (mSet (mCall (cl.fn "read_list") (aC (rdSlot 0) (aC (rdSlot 1) (aC (rdSlot 2) (aC (rdSlot 3) (aC (dR (Pure.pure (.dat (.int 3)))) aN))))) []) 5)
    (mSeq (mIfS (tOr ((mBin (rfSlot 5) (rD (dR (Pure.pure (.dat (.non))))) dIs) >>= asB) (tNot (tTru (rD (dR (mCallB [(rD (dR (mLc Γ.L [7] (c_is_ranked_list_i5 cl) (c_is_ranked_list_t6 cl))))] gAll))))))
    (mRet (Pure.pure (.dat (.bl false))))
    (Pure.pure .nx))
    (mSeq (mSet (mMake "Game" (cl.me "Game" "__init__") (aC (rdSlot 0) (aC (rdSlot 1) aN)) [.bl false]) 6)
    (mSeq (mFor Γ.L (c_is_ranked_list_i1 cl) (fun d => setSlot 7 (.dat d)) (c_is_ranked_list_b4 cl))
    (mRet (Pure.pure (.dat (.bl true))))))))
theorem r_is_ranked_list (cl : Cl) : runFi Γ cl 60 f_is_ranked_list = runC 5 12 (c_is_ranked_list cl) := by kernel_rfl
theorem q_is_ranked_list (n : Nat) : (clN Γ 60 (n + 1)).fn "is_ranked_list" = runC 5 12 (c_is_ranked_list (clN Γ 60 n)) := (show (clN Γ 60 (n + 1)).fn "is_ranked_list" = runFi Γ (clN Γ 60 n) 60 f_is_ranked_list by kernel_rfl).trans (r_is_ranked_list _)
def c_height_table_i1 (cl : Cl) : M Src := ((rdSlot 4) >>= srcOf)
def c_height_table_i2 (cl : Cl) : M Src := ((dR (mCall (cl.fn "counting") (aC (rdSlot 0) (aC (rdSlot 5) (aC (rdSlot 11) aN))) [])) >>= srcOf)
def c_height_table_b3 (cl : Cl) : M Fl := (mSeq (mIfS (tAnd ((mBin (rD (dR (vD (mGet (rfSlot 10) (rD (dR (Pure.pure (.dat (.int 1))))))))) (rD (dR (Pure.pure (.dat (.non))))) dIs) >>= asB) ((mBin (rfSlot 1) (rD (Pure.pure (.int 1))) dEq) >>= asB))
    (Pure.pure .ct)
    (Pure.pure .nx))
    (mSeq (mIfS (tOr ((mBin (rD (dR (vD (mGet (rfSlot 10) (rD (dR (Pure.pure (.dat (.int 1))))))))) (rD (dR (Pure.pure (.dat (.non))))) dIs) >>= asB) ((mBin (rD (dR (vD (mGet (rfSlot 10) (rD (dR (Pure.pure (.dat (.int 1))))))))) (rfSlot 4) dNotIn) >>= asB))
    (mRet (Pure.pure (.dat (.non))))
    (Pure.pure .nx))
    (mSeq (mSet (mBin (rD (dR (mBin (rfSlot 6) (rD (dR (mBin (rD (dR (mBin (rfSlot 7) (rD (dR (vD (mGet (rfSlot 10) (rD (dR (Pure.pure (.dat (.int 2))))))))) dMul))) (rfSlot 8) dSub))) dMul))) (rD (dR (vD (mGet (rD (dR (vD (mGet (rfSlot 4) (rD (dR (vD (mGet (rfSlot 10) (rD (dR (Pure.pure (.dat (.int 1))))))))))))) (rD (dR (Pure.pure (.dat (.int 1))))))))) dAdd) 13)
    (mSeq (mSet (mIf ((mBin (rfSlot 1) (rD (Pure.pure (.int 0))) dEq) >>= asB) (mBin (rfSlot 13) (rfSlot 12) dLt) (mBin (rfSlot 13) (rD (dR (mBin (rfSlot 12) (rfSlot 9) dSub))) dGt)) 14)
    (mIfS (tTru (rfSlot 14))
    (mRet (Pure.pure (.dat (.non))))
    (Pure.pure .nx))))))
def c_height_table_b4 (cl : Cl) : M Fl := (mSeq (mAsg (dR (vD (mGet (rfSlot 4) (rfSlot 5)))) (gTupD 2 (gsCons (fun d => setSlot 11 (.dat d)) (gsCons (fun d => setSlot 12 (.dat d)) gsNil))))
    (mFor Γ.L (c_height_table_i2 cl) (fun d => setSlot 10 (.dat d)) (c_height_table_b3 cl)))
def c_height_table_i5 (cl : Cl) : M Src := ((rdSlot 4) >>= srcOf)
def c_height_table_t6 (cl : Cl) : D → List D → M (List D) := turn1 [5] (fun d => setSlot 5 (.dat d)) (Pure.pure true) (dR (mCall (cl.fn "is_integer") (aC (dR (vD (mGet (rD (dR (vD (mGet (rfSlot 4) (rfSlot 5))))) (rD (dR (Pure.pure (.dat (.int 1)))))))) aN) []))
def c_height_table (cl : Cl) : M Fl := (mSeq (mAsg (rdSlot 3) (gTupD 4 (gsCons (fun d => setSlot 6 (.dat d)) (gsCons (fun d => setSlot 7 (.dat d)) (gsCons (fun d => setSlot 8 (.dat d)) (gsCons (fun d => setSlot 9 (.dat d)) gsNil))))))
    (mSeq (mSet (mCall (cl.fn "read_list") (aC (dR (vD (mFld (atB Γ) (rdSlot 0) "plant"))) (aC (dR (vD (mFld (atB Γ) (rdSlot 0) "promise"))) (aC (rdSlot 1) (aC (rdSlot 2) (aC (dR (Pure.pure (.dat (.int 3)))) aN))))) []) 4)
    (mSeq (mIfS (tOr ((mBin (rfSlot 4) (rD (dR (Pure.pure (.dat (.non))))) dIs) >>= asB) (tNot (tTru (rD (dR (mCallB [(rD (dR (mLc Γ.L [5] (c_height_table_i5 cl) (c_height_table_t6 cl))))] gAll))))))
    (mRet (Pure.pure (.dat (.non))))
    (Pure.pure .nx))
    (mSeq (mFor Γ.L (c_height_table_i1 cl) (fun d => setSlot 5 (.dat d)) (c_height_table_b4 cl))
    (mRet (mvSlot 4))))))
theorem r_height_table (cl : Cl) : runFi Γ cl 60 f_height_table = runC 4 15 (c_height_table cl) := by kernel_rfl
theorem q_height_table (n : Nat) : (clN Γ 60 (n + 1)).fn "height_table" = runC 4 15 (c_height_table (clN Γ 60 n)) := (show (clN Γ 60 (n + 1)).fn "height_table" = runFi Γ (clN Γ 60 n) 60 f_height_table by kernel_rfl).trans (r_height_table _)
def c_mean_rule (cl : Cl) : M Fl := (mSeq (mAsg (dR (mSlice (rD (dR (vD (mGet (rfSlot 0) (rD (dR (Pure.pure (.dat (.str "goal"))))))))) (sB (dR (Pure.pure (.dat (.int 1))))) (Pure.pure none))) (gTupD 2 (gsCons (fun d => setSlot 2 (.dat d)) (gsCons (fun d => setSlot 3 (.dat d)) gsNil))))
    (mRet (mTup (aC (rdSlot 1) (aC (dR (mBin (rD (dR (Pure.pure (.dat (.int 2))))) (rfSlot 3) dMul)) (aC (rdSlot 2) (aC (dR (Pure.pure (.dat (.int 1)))) aN)))))))
theorem r_mean_rule (cl : Cl) : runFi Γ cl 60 f_mean_rule = runC 2 4 (c_mean_rule cl) := by kernel_rfl
theorem q_mean_rule (n : Nat) : (clN Γ 60 (n + 1)).fn "mean_rule" = runC 2 4 (c_mean_rule (clN Γ 60 n)) := (show (clN Γ 60 (n + 1)).fn "mean_rule" = runFi Γ (clN Γ 60 n) 60 f_mean_rule by kernel_rfl).trans (r_mean_rule _)
def c_is_mean_op (cl : Cl) : M Fl := (mSeq (mSet (mMake "Game" (cl.me "Game" "__init__") (aC (rdSlot 0) (aC (rdSlot 1) aN)) [.bl false]) 3)
    (mSeq (mSet (mCall (cl.fn "height_table") (aC (rdSlot 3) (aC (Pure.pure (.int 0)) (aC (rdSlot 2) (aC (dR (mCall (cl.fn "mean_rule") (aC (rdSlot 1) (aC (dR (Pure.pure (.dat (.int 1)))) aN)) [])) aN)))) []) 4)
    (mRet (vD (mAndV (dR (mBin (rfSlot 4) (rD (dR (Pure.pure (.dat (.non))))) dIsNot)) (dR (mBin (rD (dR (mMeth (mtab Γ cl) (rdSlot 3) "first" 0 aN))) (rfSlot 4) dIn)))))))
theorem r_is_mean_op (cl : Cl) : runFi Γ cl 60 f_is_mean_op = runC 3 5 (c_is_mean_op cl) := by kernel_rfl
theorem q_is_mean_op (n : Nat) : (clN Γ 60 (n + 1)).fn "is_mean_op" = runC 3 5 (c_is_mean_op (clN Γ 60 n)) := (show (clN Γ 60 (n + 1)).fn "is_mean_op" = runFi Γ (clN Γ 60 n) 60 f_is_mean_op by kernel_rfl).trans (r_is_mean_op _)
def c_scaled_table (cl : Cl) : M Fl := (mSeq (mIfS (tOr (tNot (tTru (rD (dR (mCall (cl.fn "is_tuple_of") (aC (rdSlot 1) (aC (dR (Pure.pure (.dat (.int 2)))) aN)) []))))) (tOr (tNot (tTru (rD (dR (mCall (cl.fn "is_integer") (aC (dR (vD (mGet (rfSlot 1) (rD (dR (Pure.pure (.dat (.int 0)))))))) aN) []))))) ((mBin (rD (dR (vD (mGet (rfSlot 1) (rD (dR (Pure.pure (.dat (.int 0))))))))) (rD (dR (Pure.pure (.dat (.int 1))))) dLt) >>= asB)))
    (mRet (Pure.pure (.dat (.non))))
    (Pure.pure .nx))
    (mRet (mCall (cl.fn "height_table") (aC (rdSlot 0) (aC (Pure.pure (.int 1)) (aC (dR (vD (mGet (rfSlot 1) (rD (dR (Pure.pure (.dat (.int 1)))))))) (aC (dR (mCall (cl.fn "mean_rule") (aC (dR (vD (mFld (atB Γ) (rdSlot 0) "promise"))) (aC (dR (vD (mGet (rfSlot 1) (rD (dR (Pure.pure (.dat (.int 0)))))))) aN)) [])) aN)))) [])))
theorem r_scaled_table (cl : Cl) : runFi Γ cl 60 f_scaled_table = runC 2 2 (c_scaled_table cl) := by kernel_rfl
theorem q_scaled_table (n : Nat) : (clN Γ 60 (n + 1)).fn "scaled_table" = runC 2 2 (c_scaled_table (clN Γ 60 n)) := (show (clN Γ 60 (n + 1)).fn "scaled_table" = runFi Γ (clN Γ 60 n) 60 f_scaled_table by kernel_rfl).trans (r_scaled_table _)
def c_is_mean_world (cl : Cl) : M Fl := (mSeq (mSet (mMake "Game" (cl.me "Game" "__init__") (aC (rdSlot 0) (aC (rdSlot 1) aN)) [.bl false]) 3)
    (mSeq (mSet (mMeth (mtab Γ cl) (rdSlot 3) "first" 0 aN) 4)
    (mSeq (mSet (mCall (cl.fn "scaled_table") (aC (rdSlot 3) (aC (rdSlot 2) aN)) []) 5)
    (mSeq (mIfS ((mBin (rfSlot 5) (rD (dR (Pure.pure (.dat (.non))))) dIs) >>= asB)
    (mRet (Pure.pure (.dat (.bl false))))
    (Pure.pure .nx))
    (mSeq (mIfS ((mBin (rfSlot 4) (rD (dR (Pure.pure (.dat (.non))))) dIs) >>= asB)
    (mRet (vD (mAndV (dR (mBin (rD (dR (vD (mGet (rfSlot 2) (rD (dR (Pure.pure (.dat (.int 0))))))))) (rD (dR (Pure.pure (.dat (.int 1))))) dEq)) (dR (mBin (rD (dR (mCallB [(rfSlot 5)] gLen))) (rD (dR (Pure.pure (.dat (.int 0))))) dEq)))))
    (Pure.pure .nx))
    (mRet (mBin (rfSlot 4) (rfSlot 5) dIn)))))))
theorem r_is_mean_world (cl : Cl) : runFi Γ cl 60 f_is_mean_world = runC 3 6 (c_is_mean_world cl) := by kernel_rfl
theorem q_is_mean_world (n : Nat) : (clN Γ 60 (n + 1)).fn "is_mean_world" = runC 3 6 (c_is_mean_world (clN Γ 60 n)) := (show (clN Γ 60 (n + 1)).fn "is_mean_world" = runFi Γ (clN Γ 60 n) 60 f_is_mean_world by kernel_rfl).trans (r_is_mean_world _)
def c_need_table_i1 (cl : Cl) : M Src := ((rdSlot 3) >>= srcOf)
def c_need_table_i2 (cl : Cl) : M Src := ((dR (mCall (cl.fn "counting") (aC (rdSlot 0) (aC (rdSlot 4) (aC (rdSlot 6) aN))) [])) >>= srcOf)
def c_need_table_b3 (cl : Cl) : M Fl := (mIfS (tOr ((mBin (rD (dR (vD (mGet (rfSlot 5) (rD (dR (Pure.pure (.dat (.int 1))))))))) (rD (dR (Pure.pure (.dat (.non))))) dIs) >>= asB) (tOr ((mBin (rD (dR (vD (mGet (rfSlot 5) (rD (dR (Pure.pure (.dat (.int 1))))))))) (rfSlot 3) dNotIn) >>= asB) ((mBin (rD (dR (vD (mGet (rD (dR (vD (mGet (rfSlot 3) (rD (dR (vD (mGet (rfSlot 5) (rD (dR (Pure.pure (.dat (.int 1))))))))))))) (rD (dR (Pure.pure (.dat (.int 1))))))))) (rD (dR (mBin (rfSlot 7) (rD (dR (vD (mGet (rfSlot 5) (rD (dR (Pure.pure (.dat (.int 2))))))))) dAdd))) dGt) >>= asB)))
    (mRet (Pure.pure (.dat (.non))))
    (Pure.pure .nx))
def c_need_table_b4 (cl : Cl) : M Fl := (mSeq (mAsg (dR (vD (mGet (rfSlot 3) (rfSlot 4)))) (gTupD 2 (gsCons (fun d => setSlot 6 (.dat d)) (gsCons (fun d => setSlot 7 (.dat d)) gsNil))))
    (mFor Γ.L (c_need_table_i2 cl) (fun d => setSlot 5 (.dat d)) (c_need_table_b3 cl)))
def c_need_table_i5 (cl : Cl) : M Src := ((rdSlot 3) >>= srcOf)
def c_need_table_t6 (cl : Cl) : D → List D → M (List D) := turn1 [4] (fun d => setSlot 4 (.dat d)) (Pure.pure true) (dR (mCall (cl.fn "is_stock") (aC (dR (vD (mGet (rD (dR (vD (mGet (rfSlot 3) (rfSlot 4))))) (rD (dR (Pure.pure (.dat (.int 1)))))))) (aC (rdSlot 2) aN)) []))
def c_need_table (cl : Cl) : M Fl := (mSeq (mSet (vD (mGet (rD (dR (vD (mGet (rD (dR (vD (mFld (atB Γ) (rdSlot 0) "promise")))) (rD (dR (Pure.pure (.dat (.str "goal"))))))))) (rD (dR (Pure.pure (.dat (.int 2))))))) 2)
    (mSeq (mSet (mCall (cl.fn "read_list") (aC (dR (vD (mFld (atB Γ) (rdSlot 0) "plant"))) (aC (dR (vD (mFld (atB Γ) (rdSlot 0) "promise"))) (aC (Pure.pure (.int 0)) (aC (rdSlot 1) (aC (dR (Pure.pure (.dat (.int 3)))) aN))))) []) 3)
    (mSeq (mIfS (tOr ((mBin (rfSlot 3) (rD (dR (Pure.pure (.dat (.non))))) dIs) >>= asB) (tNot (tTru (rD (dR (mCallB [(rD (dR (mLc Γ.L [4] (c_need_table_i5 cl) (c_need_table_t6 cl))))] gAll))))))
    (mRet (Pure.pure (.dat (.non))))
    (Pure.pure .nx))
    (mSeq (mFor Γ.L (c_need_table_i1 cl) (fun d => setSlot 4 (.dat d)) (c_need_table_b4 cl))
    (mRet (mvSlot 3))))))
theorem r_need_table (cl : Cl) : runFi Γ cl 60 f_need_table = runC 2 8 (c_need_table cl) := by kernel_rfl
theorem q_need_table (n : Nat) : (clN Γ 60 (n + 1)).fn "need_table" = runC 2 8 (c_need_table (clN Γ 60 n)) := (show (clN Γ 60 (n + 1)).fn "need_table" = runFi Γ (clN Γ 60 n) 60 f_need_table by kernel_rfl).trans (r_need_table _)
def c_is_stock (cl : Cl) : M Fl := (mRet (mIf ((mBin (rfSlot 1) (rD (dR (Pure.pure (.dat (.non))))) dIs) >>= asB) (vD (mAndV (dR (mCall (cl.fn "is_integer") (aC (rdSlot 0) aN) [])) (dR (mBin (rfSlot 0) (rD (dR (Pure.pure (.dat (.int 0))))) dGe)))) (mCall (cl.fn "is_between") (aC (rdSlot 0) (aC (dR (Pure.pure (.dat (.int 0)))) (aC (rdSlot 1) aN))) [])))
theorem r_is_stock (cl : Cl) : runFi Γ cl 60 f_is_stock = runC 2 2 (c_is_stock cl) := by kernel_rfl
theorem q_is_stock (n : Nat) : (clN Γ 60 (n + 1)).fn "is_stock" = runC 2 2 (c_is_stock (clN Γ 60 n)) := (show (clN Γ 60 (n + 1)).fn "is_stock" = runFi Γ (clN Γ 60 n) 60 f_is_stock by kernel_rfl).trans (r_is_stock _)
def c_is_stock_op (cl : Cl) : M Fl := (mSeq (mSet (mMake "Game" (cl.me "Game" "__init__") (aC (rdSlot 0) (aC (rdSlot 1) aN)) [.bl false]) 3)
    (mSeq (mSet (mCall (cl.fn "need_table") (aC (rdSlot 3) (aC (rdSlot 2) aN)) []) 4)
    (mSeq (mSet (mMeth (mtab Γ cl) (rdSlot 3) "first" 0 aN) 5)
    (mRet (vD (mAndV (dR (mBin (rfSlot 4) (rD (dR (Pure.pure (.dat (.non))))) dIsNot)) (mAndV (dR (mBin (rfSlot 5) (rfSlot 4) dIn)) (dR (mBin (rD (dR (vD (mGet (rD (dR (vD (mGet (rfSlot 4) (rfSlot 5))))) (rD (dR (Pure.pure (.dat (.int 1))))))))) (rD (dR (vD (mGet (rD (dR (vD (mGet (rfSlot 1) (rD (dR (Pure.pure (.dat (.str "goal"))))))))) (rD (dR (Pure.pure (.dat (.int 1))))))))) dLe)))))))))
theorem r_is_stock_op (cl : Cl) : runFi Γ cl 60 f_is_stock_op = runC 3 6 (c_is_stock_op cl) := by kernel_rfl
theorem q_is_stock_op (n : Nat) : (clN Γ 60 (n + 1)).fn "is_stock_op" = runC 3 6 (c_is_stock_op (clN Γ 60 n)) := (show (clN Γ 60 (n + 1)).fn "is_stock_op" = runFi Γ (clN Γ 60 n) 60 f_is_stock_op by kernel_rfl).trans (r_is_stock_op _)
def c_stock_rows_i1 (cl : Cl) : M Src := ((rdSlot 1) >>= srcOf)
def c_stock_rows_b2 (cl : Cl) : M Fl := (mSeq (mIfS (tOr (tNot (tTru (rD (dR (mCall (cl.fn "is_tuple_of") (aC (rdSlot 4) (aC (dR (Pure.pure (.dat (.int 4)))) aN)) []))))) (tNot (tTru (rD (dR (mCall (cl.fn "is_place") (aC (dR (vD (mFld (atB Γ) (rdSlot 0) "plant"))) (aC (dR (vD (mFld (atB Γ) (rdSlot 0) "promise"))) (aC (dR (vD (mGet (rfSlot 4) (rD (dR (Pure.pure (.dat (.int 0)))))))) aN))) []))))))
    (mRet (Pure.pure (.dat (.non))))
    (Pure.pure .nx))
    (mSeq (mIfS (tNot (tTru (rD (dR (mCall (cl.fn "is_move") (aC (dR (vD (mFld (atB Γ) (rdSlot 0) "plant"))) (aC (dR (vD (mFld (atB Γ) (rdSlot 0) "table"))) (aC (dR (vD (mGet (rfSlot 4) (rD (dR (Pure.pure (.dat (.int 0)))))))) (aC (Pure.pure (.int 1)) (aC (dR (vD (mGet (rfSlot 4) (rD (dR (Pure.pure (.dat (.int 1)))))))) aN))))) [])))))
    (mRet (Pure.pure (.dat (.non))))
    (Pure.pure .nx))
    (mSeq (mIfS (tOr (tNot (tTru (rD (dR (mCall (cl.fn "is_stock") (aC (dR (vD (mGet (rfSlot 4) (rD (dR (Pure.pure (.dat (.int 2)))))))) (aC (rdSlot 2) aN)) []))))) (tOr (tNot (tTru (rD (dR (mCall (cl.fn "is_integer") (aC (dR (vD (mGet (rfSlot 4) (rD (dR (Pure.pure (.dat (.int 3)))))))) aN) []))))) ((mBin (rD (dR (vD (mGet (rfSlot 4) (rD (dR (Pure.pure (.dat (.int 3))))))))) (rD (dR (Pure.pure (.dat (.int 1))))) dLt) >>= asB)))
    (mRet (Pure.pure (.dat (.non))))
    (Pure.pure .nx))
    (mExp (vD (mMut (rD (dR (mMeth (mtab Γ cl) (rdSlot 3) "setdefault" 2 (aC (dR (vD (mGet (rfSlot 4) (rD (dR (Pure.pure (.dat (.int 0)))))))) (aC (dR (mLst aN)) aN))))) (aC (dR (mSlice (rfSlot 4) (sB (dR (Pure.pure (.dat (.int 1))))) (Pure.pure none))) aN) gAppend))))))
def c_stock_rows (cl : Cl) : M Fl := (mSeq (mIfS (tNot (tTru (rD (dR (mIsi .list (rfSlot 1))))))
    (mRet (Pure.pure (.dat (.non))))
    (Pure.pure .nx))
    (mSeq (mSet (vD (mGet (rD (dR (vD (mGet (rD (dR (vD (mFld (atB Γ) (rdSlot 0) "promise")))) (rD (dR (Pure.pure (.dat (.str "goal"))))))))) (rD (dR (Pure.pure (.dat (.int 2))))))) 2)
    (mSeq (mSet (Pure.pure (.own (.dct []))) 3)
    (mSeq (mFor Γ.L (c_stock_rows_i1 cl) (fun d => setSlot 4 (.dat d)) (c_stock_rows_b2 cl))
    (mSeq (mIfS (tAnd ((mBin (rfSlot 2) (rD (dR (Pure.pure (.dat (.non))))) dIs) >>= asB) ((mBin (rD (dR (mCallB [(rfSlot 3)] gLen))) (rD (dR (mCallB [(rfSlot 1)] gLen))) dLt) >>= asB))
    (mRet (Pure.pure (.dat (.non))))
    (Pure.pure .nx))
    (mRet (mvSlot 3)))))))
theorem r_stock_rows (cl : Cl) : runFi Γ cl 60 f_stock_rows = runC 2 5 (c_stock_rows cl) := by kernel_rfl
theorem q_stock_rows (n : Nat) : (clN Γ 60 (n + 1)).fn "stock_rows" = runC 2 5 (c_stock_rows (clN Γ 60 n)) := (show (clN Γ 60 (n + 1)).fn "stock_rows" = runFi Γ (clN Γ 60 n) 60 f_stock_rows by kernel_rfl).trans (r_stock_rows _)
def c_fewest_i1 (cl : Cl) : M Src := (mRng (aC (dR (mBin (rfSlot 1) (rD (dR (Pure.pure (.dat (.int 1))))) dSub)) (aC (dR (mNeg (dR (Pure.pure (.dat (.int 1)))))) (aC (dR (mNeg (dR (Pure.pure (.dat (.int 1)))))) aN))))
def c_fewest_b2 (cl : Cl) : M Fl := (mSeq (mSet (vD (mGet (rfSlot 2) (rD (dR (mBin (rfSlot 3) (rD (dR (Pure.pure (.dat (.int 1))))) dAdd))))) 6)
    (mIfS (tAnd ((mBin (rfSlot 6) (rD (dR (Pure.pure (.dat (.non))))) dIsNot) >>= asB) (tOr ((mBin (rD (dR (vD (mGet (rfSlot 2) (rfSlot 3))))) (rD (dR (Pure.pure (.dat (.non))))) dIs) >>= asB) ((mBin (rfSlot 6) (rD (dR (vD (mGet (rfSlot 2) (rfSlot 3))))) dLt) >>= asB)))
    (mAsg (rdSlot 6) (mStore (rfSlot 2) (rfSlot 3)))
    (Pure.pure .nx)))
def c_fewest_i3 (cl : Cl) : M Src := ((rdSlot 0) >>= srcOf)
def c_fewest_b4 (cl : Cl) : M Fl := (mIfS (tOr ((mBin (rD (dR (vD (mGet (rfSlot 2) (rfSlot 3))))) (rD (dR (Pure.pure (.dat (.non))))) dIs) >>= asB) ((mBin (rfSlot 5) (rD (dR (vD (mGet (rfSlot 2) (rfSlot 3))))) dLt) >>= asB))
    (mAsg (rdSlot 5) (mStore (rfSlot 2) (rfSlot 3)))
    (Pure.pure .nx))
def c_fewest (cl : Cl) : M Fl := (mSeq (mSet (mBin (rD (dR (mLst (aC (dR (Pure.pure (.dat (.non)))) aN)))) (rD (dR (mBin (rfSlot 1) (rD (dR (Pure.pure (.dat (.int 1))))) dAdd))) dMul) 2)
    (mSeq (mFor Γ.L (c_fewest_i3 cl) (gTupD 3 (gsCons (fun d => setSlot 4 (.dat d)) (gsCons (fun d => setSlot 3 (.dat d)) (gsCons (fun d => setSlot 5 (.dat d)) gsNil)))) (c_fewest_b4 cl))
    (mSeq (mFor Γ.L (c_fewest_i1 cl) (fun d => setSlot 3 (.dat d)) (c_fewest_b2 cl))
    (mRet (mvSlot 2)))))
theorem r_fewest (cl : Cl) : runFi Γ cl 60 f_fewest = runC 2 7 (c_fewest cl) := by kernel_rfl
theorem q_fewest (n : Nat) : (clN Γ 60 (n + 1)).fn "fewest" = runC 2 7 (c_fewest (clN Γ 60 n)) := (show (clN Γ 60 (n + 1)).fn "fewest" = runFi Γ (clN Γ 60 n) 60 f_fewest by kernel_rfl).trans (r_fewest _)
def c_is_ahead (cl : Cl) : M Fl := (mRet (vD (mAndV (dR (mBin (rfSlot 0) (rD (dR (Pure.pure (.dat (.non))))) dIsNot)) (dR (vD (mOrV (dR (mBin (rD (dR (vD (mGet (rfSlot 0) (rD (dR (Pure.pure (.dat (.int 1))))))))) (rD (dR (vD (mGet (rfSlot 1) (rD (dR (Pure.pure (.dat (.int 0))))))))) dGt)) (dR (vD (mAndV (dR (mBin (rD (dR (vD (mGet (rfSlot 0) (rD (dR (Pure.pure (.dat (.int 1))))))))) (rD (dR (vD (mGet (rfSlot 1) (rD (dR (Pure.pure (.dat (.int 0))))))))) dEq)) (dR (mBin (rD (dR (vD (mGet (rfSlot 0) (rD (dR (Pure.pure (.dat (.int 2))))))))) (rD (dR (vD (mGet (rfSlot 1) (rD (dR (Pure.pure (.dat (.int 1))))))))) dLt)))))))))))
theorem r_is_ahead (cl : Cl) : runFi Γ cl 60 f_is_ahead = runC 2 2 (c_is_ahead cl) := by kernel_rfl
theorem q_is_ahead (n : Nat) : (clN Γ 60 (n + 1)).fn "is_ahead" = runC 2 2 (c_is_ahead (clN Γ 60 n)) := (show (clN Γ 60 (n + 1)).fn "is_ahead" = runFi Γ (clN Γ 60 n) 60 f_is_ahead by kernel_rfl).trans (r_is_ahead _)
def c_free_table_i1 (cl : Cl) : M Src := ((rdSlot 2) >>= srcOf)
def c_free_table_i2 (cl : Cl) : M Src := ((dR (mCall (cl.fn "counting") (aC (rdSlot 0) (aC (rdSlot 3) (aC (rdSlot 5) aN))) [])) >>= srcOf)
def c_free_table_b3 (cl : Cl) : M Fl := (mIfS (tAnd ((mBin (rD (dR (vD (mGet (rfSlot 4) (rD (dR (Pure.pure (.dat (.int 1))))))))) (rD (dR (Pure.pure (.dat (.non))))) dIsNot) >>= asB) ((mBin (rD (dR (mBin (rfSlot 6) (rD (dR (vD (mGet (rfSlot 4) (rD (dR (Pure.pure (.dat (.int 2))))))))) dAdd))) (rD (dR (Pure.pure (.dat (.int 0))))) dGe) >>= asB))
    (mSeq (mSet (mMeth (mtab Γ cl) (rdSlot 2) "get" 2 (aC (dR (vD (mGet (rfSlot 4) (rD (dR (Pure.pure (.dat (.int 1)))))))) (aC (dR (mLst (aC (dR (Pure.pure (.dat (.non)))) aN))) aN))) 8)
    (mIfS (tNot (tTru (rD (dR (mCall (cl.fn "is_ahead") (aC (dR (vD (mGet (rfSlot 8) (rD (dR (Pure.pure (.dat (.int 0)))))))) (aC (dR (mTup (aC (dR (mBin (rfSlot 6) (rD (dR (vD (mGet (rfSlot 4) (rD (dR (Pure.pure (.dat (.int 2))))))))) dAdd)) (aC (rdSlot 7) aN)))) aN)) [])))))
    (mRet (Pure.pure (.dat (.non))))
    (Pure.pure .nx)))
    (Pure.pure .nx))
def c_free_table_b4 (cl : Cl) : M Fl := (mSeq (mAsg (dR (vD (mGet (rD (dR (vD (mGet (rfSlot 2) (rfSlot 3))))) (rD (dR (Pure.pure (.dat (.int 0)))))))) (gTupD 3 (gsCons (fun d => setSlot 5 (.dat d)) (gsCons (fun d => setSlot 6 (.dat d)) (gsCons (fun d => setSlot 7 (.dat d)) gsNil)))))
    (mFor Γ.L (c_free_table_i2 cl) (fun d => setSlot 4 (.dat d)) (c_free_table_b3 cl)))
def c_free_table (cl : Cl) : M Fl := (mSeq (mSet (mCall (cl.fn "stock_rows") (aC (rdSlot 0) (aC (rdSlot 1) aN)) []) 2)
    (mSeq (mIfS ((mBin (rfSlot 2) (rD (dR (Pure.pure (.dat (.non))))) dIs) >>= asB)
    (mRet (Pure.pure (.dat (.non))))
    (Pure.pure .nx))
    (mSeq (mFor Γ.L (c_free_table_i1 cl) (fun d => setSlot 3 (.dat d)) (c_free_table_b4 cl))
    (mRet (mvSlot 2)))))
theorem r_free_table (cl : Cl) : runFi Γ cl 60 f_free_table = runC 2 9 (c_free_table cl) := by kernel_rfl
theorem q_free_table (n : Nat) : (clN Γ 60 (n + 1)).fn "free_table" = runC 2 9 (c_free_table (clN Γ 60 n)) := (show (clN Γ 60 (n + 1)).fn "free_table" = runFi Γ (clN Γ 60 n) 60 f_free_table by kernel_rfl).trans (r_free_table _)
def c_capped_table_i1 (cl : Cl) : M Src := ((rdSlot 2) >>= srcOf)
def c_capped_table_i2 (cl : Cl) : M Src := ((dR (vD (mGet (rfSlot 2) (rfSlot 5)))) >>= srcOf)
def c_capped_table_i3 (cl : Cl) : M Src := ((rdSlot 6) >>= srcOf)
def c_capped_table_b4 (cl : Cl) : M Fl := (mSeq (mIfS (tOr (tAnd ((mBin (rfSlot 7) (rD (dR (Pure.pure (.dat (.non))))) dIsNot) >>= asB) ((mBin (rD (dR (vD (mGet (rfSlot 10) (rD (dR (Pure.pure (.dat (.int 0))))))))) (rfSlot 7) dNe) >>= asB)) (tOr ((mBin (rD (dR (vD (mGet (rfSlot 10) (rD (dR (Pure.pure (.dat (.int 1))))))))) (rD (dR (Pure.pure (.dat (.non))))) dIs) >>= asB) ((mBin (rD (dR (mBin (rfSlot 8) (rD (dR (vD (mGet (rfSlot 10) (rD (dR (Pure.pure (.dat (.int 2))))))))) dAdd))) (rD (dR (Pure.pure (.dat (.int 0))))) dLt) >>= asB)))
    (Pure.pure .ct)
    (Pure.pure .nx))
    (mSeq (mSet (mIf ((mBin (rD (dR (vD (mGet (rfSlot 10) (rD (dR (Pure.pure (.dat (.int 1))))))))) (rfSlot 4) dIn) >>= asB) (vD (mGet (rD (dR (vD (mGet (rfSlot 4) (rD (dR (vD (mGet (rfSlot 10) (rD (dR (Pure.pure (.dat (.int 1))))))))))))) (rD (dR (mCallB [(rfSlot 3), (rD (dR (mBin (rfSlot 8) (rD (dR (vD (mGet (rfSlot 10) (rD (dR (Pure.pure (.dat (.int 2))))))))) dAdd)))] gMin))))) (Pure.pure (.dat (.non)))) 11)
    (mIfS (tOr ((mBin (rfSlot 11) (rD (dR (Pure.pure (.dat (.non))))) dIs) >>= asB) ((mBin (rfSlot 11) (rfSlot 9) dGe) >>= asB))
    (mRet (Pure.pure (.dat (.non))))
    (Pure.pure .nx))))
def c_capped_table_b5 (cl : Cl) : M Fl := (mFor Γ.L (c_capped_table_i3 cl) (fun d => setSlot 10 (.dat d)) (c_capped_table_b4 cl))
def c_capped_table_b6 (cl : Cl) : M Fl := (mSeq (mSet (mMeth (mtab Γ cl) (rdSlot 0) "leads" 1 (aC (rdSlot 5) aN)) 6)
    (mFor Γ.L (c_capped_table_i2 cl) (gTupD 3 (gsCons (fun d => setSlot 7 (.dat d)) (gsCons (fun d => setSlot 8 (.dat d)) (gsCons (fun d => setSlot 9 (.dat d)) gsNil)))) (c_capped_table_b5 cl)))
def c_capped_table_i7 (cl : Cl) : M Src := ((rdSlot 2) >>= srcOf)
def c_capped_table_t8 (cl : Cl) : D → KVs → M KVs := turnD [5] (fun d => setSlot 5 (.dat d)) (Pure.pure true) (rdSlot 5) (dR (mCall (cl.fn "fewest") (aC (dR (vD (mGet (rfSlot 2) (rfSlot 5)))) (aC (rdSlot 3) aN)) []))
def c_capped_table (cl : Cl) : M Fl := (mSeq (mSet (mCall (cl.fn "stock_rows") (aC (rdSlot 0) (aC (rdSlot 1) aN)) []) 2)
    (mSeq (mIfS ((mBin (rfSlot 2) (rD (dR (Pure.pure (.dat (.non))))) dIs) >>= asB)
    (mRet (Pure.pure (.dat (.non))))
    (Pure.pure .nx))
    (mSeq (mSet (vD (mGet (rD (dR (vD (mGet (rD (dR (vD (mFld (atB Γ) (rdSlot 0) "promise")))) (rD (dR (Pure.pure (.dat (.str "goal"))))))))) (rD (dR (Pure.pure (.dat (.int 2))))))) 3)
    (mSeq (mSetC (mDc Γ.L [5] (c_capped_table_i7 cl) (c_capped_table_t8 cl)) false 4)
    (mSeq (mFor Γ.L (c_capped_table_i1 cl) (fun d => setSlot 5 (.dat d)) (c_capped_table_b6 cl))
    (mRet (mvSlot 2)))))))
theorem r_capped_table (cl : Cl) : runFi Γ cl 60 f_capped_table = runC 2 12 (c_capped_table cl) := by kernel_rfl
theorem q_capped_table (n : Nat) : (clN Γ 60 (n + 1)).fn "capped_table" = runC 2 12 (c_capped_table (clN Γ 60 n)) := (show (clN Γ 60 (n + 1)).fn "capped_table" = runFi Γ (clN Γ 60 n) 60 f_capped_table by kernel_rfl).trans (r_capped_table _)
def c_stock_table (cl : Cl) : M Fl := (mSeq (mIfS ((mBin (rD (dR (vD (mGet (rD (dR (vD (mGet (rD (dR (vD (mFld (atB Γ) (rdSlot 0) "promise")))) (rD (dR (Pure.pure (.dat (.str "goal"))))))))) (rD (dR (Pure.pure (.dat (.int 2))))))))) (rD (dR (Pure.pure (.dat (.non))))) dIs) >>= asB)
    (mRet (mCall (cl.fn "free_table") (aC (rdSlot 0) (aC (rdSlot 1) aN)) []))
    (Pure.pure .nx))
    (mRet (mCall (cl.fn "capped_table") (aC (rdSlot 0) (aC (rdSlot 1) aN)) [])))
theorem r_stock_table (cl : Cl) : runFi Γ cl 60 f_stock_table = runC 2 2 (c_stock_table cl) := by kernel_rfl
theorem q_stock_table (n : Nat) : (clN Γ 60 (n + 1)).fn "stock_table" = runC 2 2 (c_stock_table (clN Γ 60 n)) := (show (clN Γ 60 (n + 1)).fn "stock_table" = runFi Γ (clN Γ 60 n) 60 f_stock_table by kernel_rfl).trans (r_stock_table _)
def c_is_stock_world_i1 (cl : Cl) : M Src := ((dR (vD (mGet (rfSlot 5) (rfSlot 4)))) >>= srcOf)
def c_is_stock_world_t2 (cl : Cl) : D → List D → M (List D) := turn1 [6] (fun d => setSlot 6 (.dat d)) (Pure.pure true) (dR (vD (mGet (rfSlot 6) (rD (dR (Pure.pure (.dat (.int 1))))))))
def c_is_stock_world (cl : Cl) : M Fl := (mSeq (mSet (mMake "Game" (cl.me "Game" "__init__") (aC (rdSlot 0) (aC (rdSlot 1) aN)) [.bl false]) 3)
    (mSeq (mSet (mMeth (mtab Γ cl) (rdSlot 3) "first" 0 aN) 4)
    (mSeq (mIfS ((mBin (rfSlot 4) (rD (dR (Pure.pure (.dat (.non))))) dIs) >>= asB)
    (mRet (vD (mAndV (dR (mIsi .list (rfSlot 2))) (dR (mBin (rD (dR (mCallB [(rfSlot 2)] gLen))) (rD (dR (Pure.pure (.dat (.int 0))))) dEq)))))
    (Pure.pure .nx))
    (mSeq (mSet (mCall (cl.fn "stock_table") (aC (rdSlot 3) (aC (rdSlot 2) aN)) []) 5)
    (mRet (vD (mAndV (dR (mBin (rfSlot 5) (rD (dR (Pure.pure (.dat (.non))))) dIsNot)) (mAndV (dR (mBin (rfSlot 4) (rfSlot 5) dIn)) (dR (mBin (rD (dR (mCallB [(rD (dR (mLc Γ.L [6] (c_is_stock_world_i1 cl) (c_is_stock_world_t2 cl))))] gMax))) (rD (dR (vD (mGet (rD (dR (vD (mGet (rfSlot 1) (rD (dR (Pure.pure (.dat (.str "goal"))))))))) (rD (dR (Pure.pure (.dat (.int 1))))))))) dGe))))))))))
theorem r_is_stock_world (cl : Cl) : runFi Γ cl 60 f_is_stock_world = runC 3 7 (c_is_stock_world cl) := by kernel_rfl
theorem q_is_stock_world (n : Nat) : (clN Γ 60 (n + 1)).fn "is_stock_world" = runC 3 7 (c_is_stock_world (clN Γ 60 n)) := (show (clN Γ 60 (n + 1)).fn "is_stock_world" = runFi Γ (clN Γ 60 n) 60 f_is_stock_world by kernel_rfl).trans (r_is_stock_world _)
def c_is_op_paper (cl : Cl) : M Fl := (mSeq (mSet (mCall (cl.fn "goal_word") (aC (rdSlot 1) aN) []) 3)
    (mSeq (mIfS ((mBin (rfSlot 3) (rD (dR (Pure.pure (.dat (.str "stock"))))) dEq) >>= asB)
    (mRet (mCall (cl.fn "is_stock_op") (aC (rdSlot 0) (aC (rdSlot 1) (aC (rdSlot 2) aN))) []))
    (Pure.pure .nx))
    (mSeq (mIfS ((mBin (rfSlot 3) (rD (dR (Pure.pure (.dat (.str "mean"))))) dEq) >>= asB)
    (mRet (mCall (cl.fn "is_mean_op") (aC (rdSlot 0) (aC (rdSlot 1) (aC (rdSlot 2) aN))) []))
    (Pure.pure .nx))
    (mRet (vD (mAndV (dR (mCall (cl.fn "is_ranked_list") (aC (rdSlot 0) (aC (rdSlot 1) (aC (dR (Pure.pure (.dat (.int 0)))) (aC (rdSlot 2) (aC (dR (Pure.pure (.dat (.bl false)))) aN))))) [])) (dR (mCall (cl.fn "has_first") (aC (rdSlot 0) (aC (rdSlot 1) (aC (rdSlot 2) aN))) []))))))))
theorem r_is_op_paper (cl : Cl) : runFi Γ cl 60 f_is_op_paper = runC 3 4 (c_is_op_paper cl) := by kernel_rfl
theorem q_is_op_paper (n : Nat) : (clN Γ 60 (n + 1)).fn "is_op_paper" = runC 3 4 (c_is_op_paper (clN Γ 60 n)) := (show (clN Γ 60 (n + 1)).fn "is_op_paper" = runFi Γ (clN Γ 60 n) 60 f_is_op_paper by kernel_rfl).trans (r_is_op_paper _)
def c_is_world_paper (cl : Cl) : M Fl := (mSeq (mSet (mCall (cl.fn "goal_word") (aC (rdSlot 1) aN) []) 3)
    (mSeq (mIfS ((mBin (rfSlot 3) (rD (dR (Pure.pure (.dat (.str "stock"))))) dEq) >>= asB)
    (mRet (mCall (cl.fn "is_stock_world") (aC (rdSlot 0) (aC (rdSlot 1) (aC (rdSlot 2) aN))) []))
    (Pure.pure .nx))
    (mSeq (mIfS ((mBin (rfSlot 3) (rD (dR (Pure.pure (.dat (.str "mean"))))) dEq) >>= asB)
    (mRet (mCall (cl.fn "is_mean_world") (aC (rdSlot 0) (aC (rdSlot 1) (aC (rdSlot 2) aN))) []))
    (Pure.pure .nx))
    (mSeq (mIfS ((mBin (rD (dR (mCall (cl.fn "first_place") (aC (rdSlot 0) (aC (rdSlot 1) aN)) []))) (rD (dR (Pure.pure (.dat (.non))))) dIs) >>= asB)
    (mRet (vD (mAndV (dR (mIsi .list (rfSlot 2))) (dR (mBin (rD (dR (mCallB [(rfSlot 2)] gLen))) (rD (dR (Pure.pure (.dat (.int 0))))) dEq)))))
    (Pure.pure .nx))
    (mRet (vD (mAndV (dR (mCall (cl.fn "is_ranked_list") (aC (rdSlot 0) (aC (rdSlot 1) (aC (dR (Pure.pure (.dat (.int 1)))) (aC (rdSlot 2) (aC (dR (Pure.pure (.dat (.bl false)))) aN))))) [])) (dR (mCall (cl.fn "has_first") (aC (rdSlot 0) (aC (rdSlot 1) (aC (rdSlot 2) aN))) [])))))))))
theorem r_is_world_paper (cl : Cl) : runFi Γ cl 60 f_is_world_paper = runC 3 4 (c_is_world_paper cl) := by kernel_rfl
theorem q_is_world_paper (n : Nat) : (clN Γ 60 (n + 1)).fn "is_world_paper" = runC 3 4 (c_is_world_paper (clN Γ 60 n)) := (show (clN Γ 60 (n + 1)).fn "is_world_paper" = runFi Γ (clN Γ 60 n) 60 f_is_world_paper by kernel_rfl).trans (r_is_world_paper _)
def c_has_first_i1 (cl : Cl) : M Src := ((rdSlot 2) >>= srcOf)
def c_has_first_t2 (cl : Cl) : D → List D → M (List D) := turn1 [4] (fun d => setSlot 4 (.dat d)) (Pure.pure true) (dR (vD (mGet (rfSlot 4) (rD (dR (Pure.pure (.dat (.int 0))))))))
def c_has_first (cl : Cl) : M Fl := (mSeq (mSet (mCall (cl.fn "first_place") (aC (rdSlot 0) (aC (rdSlot 1) aN)) []) 3)
    (mRet (vD (mAndV (dR (mBin (rfSlot 3) (rD (dR (Pure.pure (.dat (.non))))) dIsNot)) (dR (mBin (rfSlot 3) (rD (dR (mLc Γ.L [4] (c_has_first_i1 cl) (c_has_first_t2 cl)))) dIn))))))
theorem r_has_first (cl : Cl) : runFi Γ cl 60 f_has_first = runC 3 5 (c_has_first cl) := by kernel_rfl
theorem q_has_first (n : Nat) : (clN Γ 60 (n + 1)).fn "has_first" = runC 3 5 (c_has_first (clN Γ 60 n)) := (show (clN Γ 60 (n + 1)).fn "has_first" = runFi Γ (clN Γ 60 n) 60 f_has_first by kernel_rfl).trans (r_has_first _)
def c__law_stream (cl : Cl) : M Fl := (mRet ((mLst (aC (dR (mCallB [(rfSlot 0)] gList)) (aC (dR (Pure.pure (.dat (.int 0)))) (aC (dR (Pure.pure (.dat (.int 0)))) aN)))) >>= toBox))
theorem r__law_stream (cl : Cl) : runFi Γ cl 60 f__law_stream = runC 1 1 (c__law_stream cl) := by kernel_rfl
theorem q__law_stream (n : Nat) : (clN Γ 60 (n + 1)).fn "_law_stream" = runC 1 1 (c__law_stream (clN Γ 60 n)) := (show (clN Γ 60 (n + 1)).fn "_law_stream" = runFi Γ (clN Γ 60 n) 60 f__law_stream by kernel_rfl).trans (r__law_stream _)
def c__law_next_s1 (cl : Cl) : M Fl := (mSeq (mSet (mBin (rD (dR (mCallB [(rD (dR (mBin (rD (dR (mBin (rD (dR (mBin (rfSlot 4) (rD (dR (Pure.pure (.dat (.int 48271))))) dMul))) (rD (dR (mBin (rfSlot 3) (rD (dR (Pure.pure (.dat (.int 69621))))) dMul))) dAdd))) (rD (dR (Pure.pure (.dat (.int 11))))) dAdd)))] gInt))) (rD (dR (Pure.pure (.dat (.int 2147483647))))) dMod) 4)
    (mSet (mBin (rD (dR (mBin (rD (dR (mBin (rD (dR (mCallB [(rD (dR (mBin (rD (dR (mBin (rfSlot 4) (rD (dR (Pure.pure (.dat (.int 16807))))) dMul))) (rD (dR (Pure.pure (.dat (.int 13))))) dAdd)))] gInt))) (rD (dR (Pure.pure (.dat (.int 2147483647))))) dMod))) (rD (dR (Pure.pure (.dat (.int 65537))))) dMul))) (rfSlot 4) dAdd) 4))
def c__law_next_s2 (cl : Cl) : M Fl := (mSet (mCallB [(rD (dR (vD (mGet (rD (dR (vD (mGet (rfSlot 0) (rD (dR (Pure.pure (.dat (.int 0))))))))) (rfSlot 3)))))] gAbs) 4)
def c__law_next_s3 (cl : Cl) : M Fl := (mSeq (mSet (vD (mGet (rfSlot 0) (rD (dR (Pure.pure (.dat (.int 2))))))) 3)
    (mSeq (mSet (mBin (rD (dR (Pure.pure (.dat (.int 7))))) (rfSlot 3) dAdd) 4)
    (mSeq (mIfS ((mBin (rfSlot 3) (rD (dR (mCallB [(rD (dR (vD (mGet (rfSlot 0) (rD (dR (Pure.pure (.dat (.int 0)))))))))] gLen))) dLt) >>= asB)
    (c__law_next_s2 cl)
    (Pure.pure .nx))
    (mSeq (mIfS ((mBin (rfSlot 4) (rD (dR (mBin (rD (dR (Pure.pure (.dat (.int 10))))) (rD (dR (Pure.pure (.dat (.int 18))))) dPow))) dLt) >>= asB)
    (c__law_next_s1 cl)
    (Pure.pure .nx))
    (mSeq (mAsg (rdSlot 4) (mStore (rfSlot 0) (rD (dR (Pure.pure (.dat (.int 1)))))))
    (mAsg (dR (mBin (rfSlot 3) (rD (dR (Pure.pure (.dat (.int 1))))) dAdd)) (mStore (rfSlot 0) (rD (dR (Pure.pure (.dat (.int 2))))))))))))
def c__law_next (cl : Cl) : M Fl := (mSeq (mIfS ((mBin (rD (dR (vD (mGet (rfSlot 0) (rD (dR (Pure.pure (.dat (.int 1))))))))) (rD (dR (Pure.pure (.dat (.int 0))))) dEq) >>= asB)
    (c__law_next_s3 cl)
    (Pure.pure .nx))
    (mSeq (mSet (mBin (rD (dR (mCallB [(rD (dR (vD (mGet (rfSlot 0) (rD (dR (Pure.pure (.dat (.int 1)))))))))] gInt))) (rfSlot 1) dMod) 2)
    (mSeq (mAsg (dR (mBin (rD (dR (vD (mGet (rfSlot 0) (rD (dR (Pure.pure (.dat (.int 1))))))))) (rfSlot 1) dDiv)) (mStore (rfSlot 0) (rD (dR (Pure.pure (.dat (.int 1)))))))
    (mRet (mvSlot 2)))))
theorem r__law_next (cl : Cl) : runFi Γ cl 60 f__law_next = runC 2 5 (c__law_next cl) := by kernel_rfl
theorem q__law_next (n : Nat) : (clN Γ 60 (n + 1)).fn "_law_next" = runC 2 5 (c__law_next (clN Γ 60 n)) := (show (clN Γ 60 (n + 1)).fn "_law_next" = runFi Γ (clN Γ 60 n) 60 f__law_next by kernel_rfl).trans (r__law_next _)
def c__law_pick (cl : Cl) : M Fl := (mRet (vD (mGet (rfSlot 1) (rD (dR (mCall (cl.fn "_law_next") (aC (rdSlot 0) (aC (dR (mCallB [(rfSlot 1)] gLen)) aN)) []))))))
theorem r__law_pick (cl : Cl) : runFi Γ cl 60 f__law_pick = runC 2 2 (c__law_pick cl) := by kernel_rfl
theorem q__law_pick (n : Nat) : (clN Γ 60 (n + 1)).fn "_law_pick" = runC 2 2 (c__law_pick (clN Γ 60 n)) := (show (clN Γ 60 (n + 1)).fn "_law_pick" = runFi Γ (clN Γ 60 n) 60 f__law_pick by kernel_rfl).trans (r__law_pick _)
def c__law_from (cl : Cl) : M Fl := (mRet (mBin (rfSlot 1) (rD (dR (mCall (cl.fn "_law_next") (aC (rdSlot 0) (aC (dR (mBin (rD (dR (mBin (rfSlot 2) (rfSlot 1) dSub))) (rD (dR (Pure.pure (.dat (.int 1))))) dAdd)) aN)) []))) dAdd))
theorem r__law_from (cl : Cl) : runFi Γ cl 60 f__law_from = runC 3 3 (c__law_from cl) := by kernel_rfl
theorem q__law_from (n : Nat) : (clN Γ 60 (n + 1)).fn "_law_from" = runC 3 3 (c__law_from (clN Γ 60 n)) := (show (clN Γ 60 (n + 1)).fn "_law_from" = runFi Γ (clN Γ 60 n) 60 f__law_from by kernel_rfl).trans (r__law_from _)
def c__law_same_i1 (cl : Cl) : M Src := (mRng (aC (dR (Pure.pure (.dat (.int 2000000)))) aN))
def c__law_same_i2 (cl : Cl) : M Src := (mRng (aC (dR (mCallB [(rfSlot 5)] gLen)) aN))
def c__law_same_t3 (cl : Cl) : D → List D → M (List D) := turn1 [6] (fun d => setSlot 6 (.dat d)) (Pure.pure true) (dR (mTup (aC (dR (vD (mGet (rfSlot 4) (rfSlot 6)))) (aC (dR (vD (mGet (rfSlot 5) (rfSlot 6)))) aN))))
def c__law_same_i4 (cl : Cl) : M Src := ((rdSlot 5) >>= srcOf)
def c__law_same_t5 (cl : Cl) : D → List D → M (List D) := turn1 [7] (fun d => setSlot 7 (.dat d)) (Pure.pure true) (dR (mTup (aC (dR (vD (mGet (rfSlot 4) (rfSlot 7)))) (aC (dR (vD (mGet (rfSlot 5) (rfSlot 7)))) aN))))
def c__law_same_i6 (cl : Cl) : M Src := ((rdSlot 5) >>= srcOf)
def c__law_same_t7 (cl : Cl) : D → List D → M (List D) := turn1 [7] (fun d => setSlot 7 (.dat d)) ((mBin (rfSlot 7) (rfSlot 4) dNotIn) >>= asB) (rdSlot 7)
def c__law_same_b8 (cl : Cl) : M Fl := (mSeq (mIfS ((mBin (rD (dR (mCallB [(rfSlot 2)] gLen))) (rD (dR (Pure.pure (.dat (.int 0))))) dEq) >>= asB)
    (mRet (Pure.pure (.dat (.bl true))))
    (Pure.pure .nx))
    (mSeq (mAsg (dR (vD (mMut (rfSlot 2) aN gPop))) (gTupD 2 (gsCons (fun d => setSlot 4 (.dat d)) (gsCons (fun d => setSlot 5 (.dat d)) gsNil))))
    (mIfS (tOr (tTru (rD (dR (mIsi .tuple (rfSlot 5))))) (tTru (rD (dR (mIsi .list (rfSlot 5))))))
    (mSeq (mIfS (tOr ((mBin (rD (dR (mIsi .tuple (rfSlot 5)))) (rD (dR (mIsi .tuple (rfSlot 4)))) dNe) >>= asB) (tOr ((mBin (rD (dR (mIsi .list (rfSlot 5)))) (rD (dR (mIsi .list (rfSlot 4)))) dNe) >>= asB) ((mBin (rD (dR (mCallB [(rfSlot 4)] gLen))) (rD (dR (mCallB [(rfSlot 5)] gLen))) dNe) >>= asB)))
    (mRet (Pure.pure (.dat (.bl false))))
    (Pure.pure .nx))
    (mExp (vD (mMut (rfSlot 2) (aC (dR (mLc Γ.L [6] (c__law_same_i2 cl) (c__law_same_t3 cl))) aN) gExtend))))
    (mIfS (tTru (rD (dR (mIsi .dict (rfSlot 5)))))
    (mSeq (mIfS (tOr (tNot (tTru (rD (dR (mIsi .dict (rfSlot 4)))))) (tOr ((mBin (rD (dR (mCallB [(rfSlot 4)] gLen))) (rD (dR (mCallB [(rfSlot 5)] gLen))) dNe) >>= asB) ((mBin (rD (dR (mCallB [(rD (dR (mLc Γ.L [7] (c__law_same_i6 cl) (c__law_same_t7 cl))))] gLen))) (rD (dR (Pure.pure (.dat (.int 0))))) dGt) >>= asB)))
    (mRet (Pure.pure (.dat (.bl false))))
    (Pure.pure .nx))
    (mExp (vD (mMut (rfSlot 2) (aC (dR (mLc Γ.L [7] (c__law_same_i4 cl) (c__law_same_t5 cl))) aN) gExtend))))
    (mIfS (tOr (tTru (rD (dR (mIsi .bool (rfSlot 5))))) (tTru (rD (dR (mIsi .str (rfSlot 5))))))
    (mIfS (tOr ((mBin (rD (dR (mIsi .bool (rfSlot 4)))) (rD (dR (mIsi .bool (rfSlot 5)))) dNe) >>= asB) (tOr ((mBin (rD (dR (mIsi .str (rfSlot 4)))) (rD (dR (mIsi .str (rfSlot 5)))) dNe) >>= asB) ((mBin (rfSlot 4) (rfSlot 5) dNe) >>= asB)))
    (mRet (Pure.pure (.dat (.bl false))))
    (Pure.pure .nx))
    (mIfS (tTru (rD (dR (mIsi .int (rfSlot 5)))))
    (mIfS (tOr (tNot (tTru (rD (dR (mIsi .int (rfSlot 4)))))) (tOr (tTru (rD (dR (mIsi .bool (rfSlot 4))))) ((mBin (rfSlot 4) (rfSlot 5) dNe) >>= asB)))
    (mRet (Pure.pure (.dat (.bl false))))
    (Pure.pure .nx))
    (mIfS ((mBin (rfSlot 4) (rD (dR (Pure.pure (.dat (.non))))) dIsNot) >>= asB)
    (mRet (Pure.pure (.dat (.bl false))))
    (Pure.pure .nx))))))))
def c__law_same (cl : Cl) : M Fl := (mSeq (mSet (mLst (aC (dR (mTup (aC (rdSlot 0) (aC (rdSlot 1) aN)))) aN)) 2)
    (mSeq (mFor Γ.L (c__law_same_i1 cl) (fun d => setSlot 3 (.dat d)) (c__law_same_b8 cl))
    (mRet (Pure.pure (.dat (.bl false))))))
theorem r__law_same (cl : Cl) : runFi Γ cl 60 f__law_same = runC 2 8 (c__law_same cl) := by kernel_rfl
theorem q__law_same (n : Nat) : (clN Γ 60 (n + 1)).fn "_law_same" = runC 2 8 (c__law_same (clN Γ 60 n)) := (show (clN Γ 60 (n + 1)).fn "_law_same" = runFi Γ (clN Γ 60 n) 60 f__law_same by kernel_rfl).trans (r__law_same _)
def c__law_copy_i1 (cl : Cl) : M Src := ((rdSlot 0) >>= srcOf)
def c__law_copy_t2 (cl : Cl) : D → List D → M (List D) := turn1 [3] (fun d => setSlot 3 (.dat d)) (Pure.pure true) (dR (mCall (cl.fn "_law_copy") (aC (rdSlot 3) aN) []))
def c__law_copy_i3 (cl : Cl) : M Src := ((rdSlot 0) >>= srcOf)
def c__law_copy_t4 (cl : Cl) : D → List D → M (List D) := turn1 [3] (fun d => setSlot 3 (.dat d)) (Pure.pure true) (dR (mCall (cl.fn "_law_copy") (aC (rdSlot 3) aN) []))
def c__law_copy_i5 (cl : Cl) : M Src := ((rdSlot 0) >>= srcOf)
def c__law_copy_b6 (cl : Cl) : M Fl := (mAsg (dR (mCall (cl.fn "_law_copy") (aC (dR (vD (mGet (rfSlot 0) (rfSlot 2)))) aN) [])) (mStore (rfSlot 1) (rfSlot 2)))
def c__law_copy (cl : Cl) : M Fl := (mSeq (mIfS (tTru (rD (dR (mIsi .dict (rfSlot 0)))))
    (mSeq (mSet (Pure.pure (.own (.dct []))) 1)
    (mSeq (mFor Γ.L (c__law_copy_i5 cl) (fun d => setSlot 2 (.dat d)) (c__law_copy_b6 cl))
    (mRet (mvSlot 1))))
    (Pure.pure .nx))
    (mSeq (mIfS (tTru (rD (dR (mIsi .list (rfSlot 0)))))
    (mRet (mLc Γ.L [3] (c__law_copy_i3 cl) (c__law_copy_t4 cl)))
    (Pure.pure .nx))
    (mSeq (mIfS (tTru (rD (dR (mIsi .tuple (rfSlot 0)))))
    (mRet (mCallB [(rD (dR (mLc Γ.L [3] (c__law_copy_i1 cl) (c__law_copy_t2 cl))))] gTuple))
    (Pure.pure .nx))
    (mRet (mvSlot 0)))))
theorem r__law_copy (cl : Cl) : runFi Γ cl 60 f__law_copy = runC 1 4 (c__law_copy cl) := by kernel_rfl
theorem q__law_copy (n : Nat) : (clN Γ 60 (n + 1)).fn "_law_copy" = runC 1 4 (c__law_copy (clN Γ 60 n)) := (show (clN Γ 60 (n + 1)).fn "_law_copy" = runFi Γ (clN Γ 60 n) 60 f__law_copy by kernel_rfl).trans (r__law_copy _)
def c__law_shuffle_i1 (cl : Cl) : M Src := (mRng (aC (rdSlot 1) aN))
def c__law_shuffle_t2 (cl : Cl) : D → List D → M (List D) := turn1 [3] (fun d => setSlot 3 (.dat d)) (Pure.pure true) (dR (vD (mMut (rfSlot 2) (aC (dR (mCall (cl.fn "_law_next") (aC (rdSlot 0) (aC (dR (mCallB [(rfSlot 2)] gLen)) aN)) [])) aN) gPop)))
def c__law_shuffle (cl : Cl) : M Fl := (mSeq (mSet (mLrg [(rdSlot 1)]) 2)
    (mRet (mLc Γ.L [3] (c__law_shuffle_i1 cl) (c__law_shuffle_t2 cl))))
theorem r__law_shuffle (cl : Cl) : runFi Γ cl 60 f__law_shuffle = runC 2 4 (c__law_shuffle cl) := by kernel_rfl
theorem q__law_shuffle (n : Nat) : (clN Γ 60 (n + 1)).fn "_law_shuffle" = runC 2 4 (c__law_shuffle (clN Γ 60 n)) := (show (clN Γ 60 (n + 1)).fn "_law_shuffle" = runFi Γ (clN Γ 60 n) 60 f__law_shuffle by kernel_rfl).trans (r__law_shuffle _)
def c__law_scaled_i1 (cl : Cl) : M Src := ((rdSlot 1) >>= srcOf)
def c__law_scaled_i2 (cl : Cl) : M Src := (mRng (aC (dR (Pure.pure (.dat (.int 3)))) aN))
def c__law_scaled_t3 (cl : Cl) : D → List D → M (List D) := turn1 [11] (fun d => setSlot 11 (.dat d)) (Pure.pure true) (dR (mBin (rD (dR (mBin (rD (dR (mBin (rD (dR (vD (mGet (rfSlot 9) (rfSlot 11))))) (rD (dR (vD (mGet (rfSlot 2) (rfSlot 11))))) dMul))) (rD (dR (vD (mGet (rfSlot 3) (rfSlot 11))))) dAdd))) (rD (dR (mBin (rD (dR (mCallB [(rD (dR (vD (mGet (rfSlot 10) (rfSlot 11)))))] gInt))) (rD (dR (vD (mGet (rfSlot 4) (rfSlot 11))))) dMod))) dAdd))
def c__law_scaled_b4 (cl : Cl) : M Fl := (mSeq (mSet (mLst (aC (dR (Pure.pure (.dat (.int 0)))) (aC (dR (mBin (rD (dR (vD (mGet (rfSlot 9) (rD (dR (Pure.pure (.dat (.int 0))))))))) (rD (dR (vD (mGet (rfSlot 5) (rD (dR (Pure.pure (.dat (.int 0))))))))) dMul)) (aC (dR (mBin (rD (dR (mBin (rD (dR (vD (mGet (rfSlot 9) (rD (dR (Pure.pure (.dat (.int 0))))))))) (rD (dR (vD (mGet (rfSlot 5) (rD (dR (Pure.pure (.dat (.int 1))))))))) dMul))) (rD (dR (mBin (rD (dR (vD (mGet (rfSlot 9) (rD (dR (Pure.pure (.dat (.int 1))))))))) (rD (dR (vD (mGet (rfSlot 5) (rD (dR (Pure.pure (.dat (.int 2))))))))) dMul))) dAdd)) aN)))) 10)
    (mExp (vD (mMut (rfSlot 6) (aC (dR (mTup (aC (rdSlot 7) (aC (rdSlot 8) (aC (dR (mCallB [(rD (dR (mLc Γ.L [11] (c__law_scaled_i2 cl) (c__law_scaled_t3 cl))))] gTuple)) aN))))) aN) gAppend))))
def c__law_scaled_i5 (cl : Cl) : M Src := (mRng (aC (dR (Pure.pure (.dat (.int 3)))) aN))
def c__law_scaled_t6 (cl : Cl) : D → List D → M (List D) := turn1 [11] (fun d => setSlot 11 (.dat d)) (Pure.pure true) (dR (mCall (cl.fn "_law_from") (aC (rdSlot 0) (aC (dR (Pure.pure (.dat (.int 1)))) (aC (dR (Pure.pure (.dat (.int 30)))) aN))) []))
def c__law_scaled_i7 (cl : Cl) : M Src := (mRng (aC (dR (Pure.pure (.dat (.int 3)))) aN))
def c__law_scaled_t8 (cl : Cl) : D → List D → M (List D) := turn1 [11] (fun d => setSlot 11 (.dat d)) (Pure.pure true) (dR (mCall (cl.fn "_law_pick") (aC (rdSlot 0) (aC (dR (mLst (aC (dR (Pure.pure (.dat (.int 1)))) (aC (dR (Pure.pure (.dat (.int 1)))) (aC (dR (Pure.pure (.dat (.int 5)))) (aC (dR (Pure.pure (.dat (.int 9)))) (aC (dR (Pure.pure (.dat (.int 40)))) aN))))))) aN)) []))
def c__law_scaled_i9 (cl : Cl) : M Src := (mRng (aC (dR (Pure.pure (.dat (.int 3)))) aN))
def c__law_scaled_t10 (cl : Cl) : D → List D → M (List D) := turn1 [11] (fun d => setSlot 11 (.dat d)) (Pure.pure true) (dR (mCall (cl.fn "_law_pick") (aC (rdSlot 0) (aC (dR (mLst (aC (dR (Pure.pure (.dat (.int 0)))) (aC (dR (Pure.pure (.dat (.int 0)))) (aC (dR (Pure.pure (.dat (.int 1)))) (aC (dR (Pure.pure (.dat (.int 7)))) (aC (dR (mBin (rD (dR (Pure.pure (.dat (.int 10))))) (rD (dR (Pure.pure (.dat (.int 30))))) dPow)) aN))))))) aN)) []))
def c__law_scaled_i11 (cl : Cl) : M Src := (mRng (aC (dR (Pure.pure (.dat (.int 3)))) aN))
def c__law_scaled_t12 (cl : Cl) : D → List D → M (List D) := turn1 [11] (fun d => setSlot 11 (.dat d)) (Pure.pure true) (dR (mCall (cl.fn "_law_pick") (aC (rdSlot 0) (aC (dR (mLst (aC (dR (Pure.pure (.dat (.int 1)))) (aC (dR (Pure.pure (.dat (.int 1)))) (aC (dR (Pure.pure (.dat (.int 2)))) (aC (dR (Pure.pure (.dat (.int 5)))) (aC (dR (mBin (rD (dR (Pure.pure (.dat (.int 10))))) (rD (dR (Pure.pure (.dat (.int 12))))) dPow)) aN))))))) aN)) []))
def c__law_scaled (cl : Cl) : M Fl := (mSeq (mSetC (mLc Γ.L [11] (c__law_scaled_i11 cl) (c__law_scaled_t12 cl)) false 2)
    (mSeq (mSetC (mLc Γ.L [11] (c__law_scaled_i9 cl) (c__law_scaled_t10 cl)) false 3)
    (mSeq (mSetC (mLc Γ.L [11] (c__law_scaled_i7 cl) (c__law_scaled_t8 cl)) false 4)
    (mSeq (mSetC (mLc Γ.L [11] (c__law_scaled_i5 cl) (c__law_scaled_t6 cl)) false 5)
    (mSeq (mSet (mLst aN) 6)
    (mSeq (mFor Γ.L (c__law_scaled_i1 cl) (gTupD 3 (gsCons (fun d => setSlot 7 (.dat d)) (gsCons (fun d => setSlot 8 (.dat d)) (gsCons (fun d => setSlot 9 (.dat d)) gsNil)))) (c__law_scaled_b4 cl))
    (mRet (mvSlot 6))))))))
theorem r__law_scaled (cl : Cl) : runFi Γ cl 60 f__law_scaled = runC 2 12 (c__law_scaled cl) := by kernel_rfl
theorem q__law_scaled (n : Nat) : (clN Γ 60 (n + 1)).fn "_law_scaled" = runC 2 12 (c__law_scaled (clN Γ 60 n)) := (show (clN Γ 60 (n + 1)).fn "_law_scaled" = runFi Γ (clN Γ 60 n) 60 f__law_scaled by kernel_rfl).trans (r__law_scaled _)
def c__law_ahead (cl : Cl) : M Fl := (mSeq (mSet (mIf ((mBin (rfSlot 0) (rD (dR (Pure.pure (.dat (.int 1))))) dEq) >>= asB) (vD (mGet (rD (dR (mLst (aC (dR (Pure.pure (.dat (.int 3)))) (aC (dR (Pure.pure (.dat (.int 2)))) (aC (dR (Pure.pure (.dat (.int 2)))) (aC (dR (Pure.pure (.dat (.int 1)))) (aC (dR (Pure.pure (.dat (.int 1)))) (aC (dR (Pure.pure (.dat (.int 0)))) aN))))))))) (rfSlot 1))) (vD (mGet (rD (dR (mLst (aC (dR (Pure.pure (.dat (.int 3)))) (aC (dR (Pure.pure (.dat (.int 3)))) (aC (dR (Pure.pure (.dat (.int 2)))) (aC (dR (Pure.pure (.dat (.int 2)))) (aC (dR (Pure.pure (.dat (.int 1)))) (aC (dR (Pure.pure (.dat (.int 1)))) aN))))))))) (rfSlot 1)))) 4)
    (mSeq (mIfS ((mBin (rD (dR (mBin (rD (dR (mCallB [(rfSlot 1)] gInt))) (rD (dR (Pure.pure (.dat (.int 2))))) dMod))) (rfSlot 0) dNe) >>= asB)
    (mRet (mBin (rD (dR (mSlice (rfSlot 2) (Pure.pure none) (sB (rdSlot 4))))) (rD (dR (mSlice (rfSlot 3) (Pure.pure none) (sB (rdSlot 4))))) dGt))
    (Pure.pure .nx))
    (mRet (mBin (rD (dR (mSlice (rfSlot 2) (Pure.pure none) (sB (rdSlot 4))))) (rD (dR (mSlice (rfSlot 3) (Pure.pure none) (sB (rdSlot 4))))) dGe))))
theorem r__law_ahead (cl : Cl) : runFi Γ cl 60 f__law_ahead = runC 4 5 (c__law_ahead cl) := by kernel_rfl
theorem q__law_ahead (n : Nat) : (clN Γ 60 (n + 1)).fn "_law_ahead" = runC 4 5 (c__law_ahead (clN Γ 60 n)) := (show (clN Γ 60 (n + 1)).fn "_law_ahead" = runFi Γ (clN Γ 60 n) 60 f__law_ahead by kernel_rfl).trans (r__law_ahead _)
def c__law_some_i1 (cl : Cl) : M Src := ((rdSlot 0) >>= srcOf)
def c__law_some_t2 (cl : Cl) : D → List D → M (List D) := turn1 [2] (fun d => setSlot 2 (.dat d)) (Pure.pure true) (dR (mTup (aC (dR (Pure.pure (.dat (.str "at")))) (aC (dR (Pure.pure (.dat (.int 0)))) (aC (rdSlot 2) aN)))))
def c__law_some_i3 (cl : Cl) : M Src := (mRng (aC (rdSlot 1) aN))
def c__law_some_t4 (cl : Cl) : D → List D → M (List D) := turn1 [2] (fun d => setSlot 2 (.dat d)) ((mBin (rfSlot 2) (rfSlot 0) dNotIn) >>= asB) (dR (mTup (aC (dR (Pure.pure (.dat (.str "at")))) (aC (dR (Pure.pure (.dat (.int 0)))) (aC (rdSlot 2) aN)))))
def c__law_some (cl : Cl) : M Fl := (mSeq (mIfS ((mBin (rD (dR (mCallB [(rfSlot 0)] gLen))) (rD (dR (Pure.pure (.dat (.int 6))))) dGt) >>= asB)
    (mRet (mTup (aC (dR (Pure.pure (.dat (.str "not")))) (aC (dR (mTup (aC (dR (Pure.pure (.dat (.str "some")))) (aC (dR (mLc Γ.L [2] (c__law_some_i3 cl) (c__law_some_t4 cl))) aN)))) aN))))
    (Pure.pure .nx))
    (mRet (mTup (aC (dR (Pure.pure (.dat (.str "some")))) (aC (dR (mLc Γ.L [2] (c__law_some_i1 cl) (c__law_some_t2 cl))) aN)))))
theorem r__law_some (cl : Cl) : runFi Γ cl 60 f__law_some = runC 2 3 (c__law_some cl) := by kernel_rfl
theorem q__law_some (n : Nat) : (clN Γ 60 (n + 1)).fn "_law_some" = runC 2 3 (c__law_some (clN Γ 60 n)) := (show (clN Γ 60 (n + 1)).fn "_law_some" = runFi Γ (clN Γ 60 n) 60 f__law_some by kernel_rfl).trans (r__law_some _)
def c__law_going_i1 (cl : Cl) : M Src := (mRng (aC (rdSlot 1) aN))
def c__law_going_b2 (cl : Cl) : M Fl := (mSet (mBin (rfSlot 9) (rD (dR (mLst (aC (dR (vD (mGet (rfSlot 3) (rfSlot 10)))) (aC (dR (vD (mGet (rfSlot 3) (rD (dR (mBin (rD (dR (mCallB [(rD (dR (mBin (rfSlot 10) (rD (dR (Pure.pure (.dat (.int 1))))) dAdd)))] gInt))) (rfSlot 1) dMod)))))) aN))))) dAdd) 9)
def c__law_going_i3 (cl : Cl) : M Src := (mRng (aC (rdSlot 1) aN))
def c__law_going_t4 (cl : Cl) : D → List D → M (List D) := turn1 [10] (fun d => setSlot 10 (.dat d)) (Pure.pure true) (dR (mTup (aC (rdSlot 10) (aC (dR (Pure.pure (.dat (.int 0)))) (aC (dR (mBin (rD (dR (mCallB [(rD (dR (mBin (rfSlot 10) (rD (dR (Pure.pure (.dat (.int 1))))) dAdd)))] gInt))) (rfSlot 1) dMod)) aN)))))
def c__law_going_i5 (cl : Cl) : M Src := (mRng (aC (dR (Pure.pure (.dat (.int 1)))) (aC (dR (mBin (rD (dR (mCallB [(rD (dR (Pure.pure (.dat (.int 1))))), (rD (dR (mCall (cl.fn "_law_from") (aC (rdSlot 0) (aC (rdSlot 2) (aC (dR (Pure.pure (.dat (.int 5)))) aN))) [])))] gMax))) (rD (dR (Pure.pure (.dat (.int 1))))) dAdd)) aN)))
def c__law_going_i6 (cl : Cl) : M Src := (mRng (aC (rdSlot 1) aN))
def c__law_going_t7 (cl : Cl) : D → List D → M (List D) := turn1 [10] (fun d => setSlot 10 (.dat d)) (tOr ((mBin (rD (dR (vD (mGet (rfSlot 3) (rfSlot 10))))) (rfSlot 5) dEq) >>= asB) (tAnd ((mBin (rD (dR (vD (mGet (rfSlot 3) (rfSlot 10))))) (rfSlot 5) dGt) >>= asB) ((mBin (rD (dR (mCall (cl.fn "_law_next") (aC (rdSlot 0) (aC (dR (Pure.pure (.dat (.int 3)))) aN)) []))) (rD (dR (Pure.pure (.dat (.int 0))))) dEq) >>= asB))) (rdSlot 10)
def c__law_going_b8 (cl : Cl) : M Fl := (mExp (vD (mMut (rfSlot 4) (aC (dR (mCall (cl.fn "_law_some") (aC (dR (mLc Γ.L [10] (c__law_going_i6 cl) (c__law_going_t7 cl))) (aC (rdSlot 1) aN)) [])) aN) gAppend)))
def c__law_going_i9 (cl : Cl) : M Src := (mRng (aC (rdSlot 1) aN))
def c__law_going_t10 (cl : Cl) : D → List D → M (List D) := turn1 [10] (fun d => setSlot 10 (.dat d)) (Pure.pure true) (dR (mCall (cl.fn "_law_next") (aC (rdSlot 0) (aC (dR (mBin (rfSlot 2) (rD (dR (Pure.pure (.dat (.int 1))))) dAdd)) aN)) []))
def c__law_going (cl : Cl) : M Fl := (mSeq (mSet (mCall (cl.fn "_law_from") (aC (rdSlot 0) (aC (dR (Pure.pure (.dat (.int 1)))) (aC (dR (Pure.pure (.dat (.int 8)))) aN))) []) 1)
    (mSeq (mSet (mCall (cl.fn "_law_next") (aC (rdSlot 0) (aC (dR (Pure.pure (.dat (.int 6)))) aN)) []) 2)
    (mSeq (mSetC (mLc Γ.L [10] (c__law_going_i9 cl) (c__law_going_t10 cl)) false 3)
    (mSeq (mAsg (rdSlot 2) (mStore (rfSlot 3) (rD (dR (mCall (cl.fn "_law_next") (aC (rdSlot 0) (aC (rdSlot 1) aN)) [])))))
    (mSeq (mSet (mLst aN) 4)
    (mSeq (mFor Γ.L (c__law_going_i5 cl) (fun d => setSlot 5 (.dat d)) (c__law_going_b8 cl))
    (mSeq (mSet (mLst (aC (dR (mTup (aC (dR (Pure.pure (.dat (.str "go")))) (aC (dR (Pure.pure (.dat (.str "op")))) (aC (dR (mCall (cl.fn "_law_from") (aC (rdSlot 0) (aC (dR (mNeg (dR (Pure.pure (.dat (.int 20)))))) (aC (dR (Pure.pure (.dat (.int 20)))) aN))) [])) (aC (dR (mCall (cl.fn "_law_next") (aC (rdSlot 0) (aC (dR (Pure.pure (.dat (.int 10)))) aN)) [])) aN)))))) (aC (dR (mTup (aC (dR (Pure.pure (.dat (.str "on")))) (aC (dR (Pure.pure (.dat (.str "world")))) (aC (dR (Pure.pure (.dat (.int 1)))) (aC (dR (Pure.pure (.dat (.int 1)))) aN)))))) aN))) 6)
    (mSeq (mSet (mTup (aC (rdSlot 1) (aC (dR (mCall (cl.fn "_law_pick") (aC (rdSlot 0) (aC (dR (mLst (aC (dR (mLst (aC (dR (Pure.pure (.dat (.int 0)))) aN))) (aC (dR (mLst (aC (dR (Pure.pure (.dat (.int 0)))) (aC (dR (Pure.pure (.dat (.int 1)))) aN)))) aN)))) aN)) [])) (aC (dR (mLc Γ.L [10] (c__law_going_i3 cl) (c__law_going_t4 cl))) aN)))) 7)
    (mSeq (mIfS ((mBin (rD (dR (Pure.pure (.dat (.int 1))))) (rD (dR (vD (mGet (rfSlot 7) (rD (dR (Pure.pure (.dat (.int 1))))))))) dNotIn) >>= asB)
    (mSet (mSlice (rfSlot 6) (Pure.pure none) (sB (dR (Pure.pure (.dat (.int 1)))))) 6)
    (Pure.pure .nx))
    (mSeq (mSet (mDct ["letters", "machines", "waits", "flags"] [(rdSlot 6), (dR (mLst (aC (rdSlot 7) aN))), (dR (mTup (aC (dR (Pure.pure (.dat (.bl false)))) (aC (dR (mBin (rD (dR (mCall (cl.fn "_law_next") (aC (rdSlot 0) (aC (dR (Pure.pure (.dat (.int 2)))) aN)) []))) (rD (dR (Pure.pure (.dat (.int 0))))) dEq)) aN)))), (dR (mLst aN))]) 8)
    (mSeq (mSet (mLst aN) 9)
    (mSeq (mFor Γ.L (c__law_going_i1 cl) (fun d => setSlot 10 (.dat d)) (c__law_going_b2 cl))
    (mRet (mLst (aC (rdSlot 8) (aC (dR (mDct ["never", "answers", "goal"] [(dR (Pure.pure (.dat (.non)))), (dR (mLst aN)), (dR (mTup (aC (dR (Pure.pure (.dat (.str "ranked")))) (aC (rdSlot 4) aN))))])) (aC (rdSlot 9) aN)))))))))))))))))
theorem r__law_going (cl : Cl) : runFi Γ cl 60 f__law_going = runC 1 11 (c__law_going cl) := by kernel_rfl
theorem q__law_going (n : Nat) : (clN Γ 60 (n + 1)).fn "_law_going" = runC 1 11 (c__law_going (clN Γ 60 n)) := (show (clN Γ 60 (n + 1)).fn "_law_going" = runFi Γ (clN Γ 60 n) 60 f__law_going by kernel_rfl).trans (r__law_going _)
def c__law_count_i1 (cl : Cl) : M Src := (mRng (aC (dR (mCallB [(rfSlot 0)] gLen)) aN))
def c__law_count_b2 (cl : Cl) : M Fl := (mSeq (mSet (vD (mGet (rfSlot 0) (rD (dR (mBin (rD (dR (mCallB [(rD (dR (mBin (rfSlot 1) (rfSlot 4) dAdd)))] gInt))) (rD (dR (mCallB [(rfSlot 0)] gLen))) dMod))))) 5)
    (mSeq (mIfS ((mBin (rfSlot 5) (rfSlot 2) dGt) >>= asB)
    (Pure.pure .bk)
    (Pure.pure .nx))
    (mSet (mBin (rfSlot 3) (rD (dR (mCallB [(rD (dR (mBin (rfSlot 5) (rfSlot 2) dEq)))] gInt))) dAdd) 3)))
def c__law_count (cl : Cl) : M Fl := (mSeq (mSet (Pure.pure (.dat (.int 0))) 3)
    (mSeq (mFor Γ.L (c__law_count_i1 cl) (fun d => setSlot 4 (.dat d)) (c__law_count_b2 cl))
    (mRet (mvSlot 3))))
theorem r__law_count (cl : Cl) : runFi Γ cl 60 f__law_count = runC 3 6 (c__law_count cl) := by kernel_rfl
theorem q__law_count (n : Nat) : (clN Γ 60 (n + 1)).fn "_law_count" = runC 3 6 (c__law_count (clN Γ 60 n)) := (show (clN Γ 60 (n + 1)).fn "_law_count" = runFi Γ (clN Γ 60 n) 60 f__law_count by kernel_rfl).trans (r__law_count _)
def c__law_counters_i1 (cl : Cl) : M Src := ((dR (mCall (cl.fn "_law_scaled") (aC (rdSlot 0) (aC (rdSlot 4) aN)) [])) >>= srcOf)
def c__law_counters_t2 (cl : Cl) : D → List D → M (List D) := turn1 [6] (fun d => setSlot 6 (.dat d)) (Pure.pure true) (dR (vD (mGet (rfSlot 6) (rD (dR (Pure.pure (.dat (.int 2))))))))
def c__law_counters_i3 (cl : Cl) : M Src := (mRng (aC (dR (mCallB [(rfSlot 1)] gLen)) aN))
def c__law_counters_i4 (cl : Cl) : M Src := ((rdSlot 2) >>= srcOf)
def c__law_counters_t5 (cl : Cl) : D → List D → M (List D) := turn1 [7] (fun d => setSlot 7 (.dat d)) (Pure.pure true) (dR (mIf (tTru (rfSlot 3)) (mCall (cl.fn "_law_next") (aC (rdSlot 0) (aC (dR (Pure.pure (.dat (.int 3)))) aN)) []) (mCall (cl.fn "_law_count") (aC (rdSlot 1) (aC (rdSlot 5) (aC (rdSlot 7) aN))) [])))
def c__law_counters_t6 (cl : Cl) : D → List D → M (List D) := turn1 [5] (fun d => setSlot 5 (.dat d)) (Pure.pure true) (dR (mTup (aC (rdSlot 5) (aC (dR (Pure.pure (.dat (.non)))) (aC (dR (mCallB [(rD (dR (mLc Γ.L [7] (c__law_counters_i4 cl) (c__law_counters_t5 cl))))] gTuple)) aN)))))
def c__law_counters (cl : Cl) : M Fl := (mSeq (mSet (mBin (rD (dR (mCall (cl.fn "_law_next") (aC (rdSlot 0) (aC (dR (Pure.pure (.dat (.int 6)))) aN)) []))) (rD (dR (Pure.pure (.dat (.int 0))))) dEq) 3)
    (mSeq (mSetC (mLc Γ.L [5] (c__law_counters_i3 cl) (c__law_counters_t6 cl)) false 4)
    (mRet (mLc Γ.L [6] (c__law_counters_i1 cl) (c__law_counters_t2 cl)))))
theorem r__law_counters (cl : Cl) : runFi Γ cl 60 f__law_counters = runC 3 8 (c__law_counters cl) := by kernel_rfl
theorem q__law_counters (n : Nat) : (clN Γ 60 (n + 1)).fn "_law_counters" = runC 3 8 (c__law_counters (clN Γ 60 n)) := (show (clN Γ 60 (n + 1)).fn "_law_counters" = runFi Γ (clN Γ 60 n) 60 f__law_counters by kernel_rfl).trans (r__law_counters _)
def c__law_changed (cl : Cl) : M Fl := (mSeq (mSet (mCall (cl.fn "_law_next") (aC (rdSlot 0) (aC (dR (mCallB [(rfSlot 1)] gLen)) aN)) []) 2)
    (mSeq (mSet (mCall (cl.fn "_law_next") (aC (rdSlot 0) (aC (dR (Pure.pure (.dat (.int 3)))) aN)) []) 3)
    (mSeq (mSet (vD (mGet (rD (dR (vD (mGet (rfSlot 1) (rfSlot 2))))) (rfSlot 3))) 4)
    (mSeq (mSet (mCall (cl.fn "_law_pick") (aC (rdSlot 0) (aC (dR (mLst (aC (dR (mBin (rfSlot 4) (rD (dR (Pure.pure (.dat (.int 1))))) dAdd)) (aC (dR (mBin (rfSlot 4) (rD (dR (Pure.pure (.dat (.int 1))))) dAdd)) (aC (dR (mCallB [(rD (dR (Pure.pure (.dat (.int 0))))), (rD (dR (mBin (rfSlot 4) (rD (dR (Pure.pure (.dat (.int 1))))) dSub)))] gMax)) (aC (dR (mCallB [(rD (dR (Pure.pure (.dat (.int 0))))), (rD (dR (mBin (rfSlot 4) (rD (dR (Pure.pure (.dat (.int 1))))) dSub)))] gMax)) (aC (dR (Pure.pure (.dat (.int 0)))) (aC (dR (mBin (rfSlot 4) (rD (dR (mBin (rD (dR (Pure.pure (.dat (.int 10))))) (rD (dR (Pure.pure (.dat (.int 9))))) dPow))) dAdd)) (aC (dR (vD (mGet (rD (dR (vD (mGet (rfSlot 1) (rD (dR (mBin (rfSlot 2) (rD (dR (Pure.pure (.dat (.int 1))))) dSub))))))) (rfSlot 3)))) aN))))))))) aN)) []) 5)
    (mRet (mBin (rD (dR (mBin (rD (dR (mSlice (rfSlot 1) (Pure.pure none) (sB (rdSlot 2))))) (rD (dR (mLst (aC (dR (mBin (rD (dR (mBin (rD (dR (mSlice (rD (dR (vD (mGet (rfSlot 1) (rfSlot 2))))) (Pure.pure none) (sB (rdSlot 3))))) (rD (dR (mTup (aC (rdSlot 5) aN)))) dAdd))) (rD (dR (mSlice (rD (dR (vD (mGet (rfSlot 1) (rfSlot 2))))) (sB (dR (mBin (rfSlot 3) (rD (dR (Pure.pure (.dat (.int 1))))) dAdd))) (Pure.pure none)))) dAdd)) aN)))) dAdd))) (rD (dR (mSlice (rfSlot 1) (sB (dR (mBin (rfSlot 2) (rD (dR (Pure.pure (.dat (.int 1))))) dAdd))) (Pure.pure none)))) dAdd))))))
theorem r__law_changed (cl : Cl) : runFi Γ cl 60 f__law_changed = runC 2 6 (c__law_changed cl) := by kernel_rfl
theorem q__law_changed (n : Nat) : (clN Γ 60 (n + 1)).fn "_law_changed" = runC 2 6 (c__law_changed (clN Γ 60 n)) := (show (clN Γ 60 (n + 1)).fn "_law_changed" = runFi Γ (clN Γ 60 n) 60 f__law_changed by kernel_rfl).trans (r__law_changed _)
def c__law_entries_i1 (cl : Cl) : M Src := ((dR (mCall (cl.fn "_law_shuffle") (aC (rdSlot 0) (aC (dR (mCallB [(rfSlot 1)] gLen)) aN)) [])) >>= srcOf)
def c__law_entries_b2 (cl : Cl) : M Fl := (mSeq (mSet (mBin (rD (dR (mCallB [(rfSlot 6)] gInt))) (rD (dR (Pure.pure (.dat (.int 2))))) dMod) 7)
    (mSeq (mSet (mIf ((mBin (rfSlot 7) (rfSlot 3) dNe) >>= asB) (Pure.pure (.dat (.non))) (mIf ((mBin (rfSlot 7) (rD (dR (Pure.pure (.dat (.int 0))))) dEq) >>= asB) (Pure.pure (.dat (.int 0))) (mNeg (dR (Pure.pure (.dat (.int 1))))))) 8)
    (mExp (vD (mMut (rfSlot 5) (aC (dR (mTup (aC (dR (mTup (aC (dR (mTup (aC (dR (mBin (rD (dR (mCallB [(rD (dR (mBin (rD (dR (mBin (rfSlot 6) (rD (dR (Pure.pure (.dat (.int 1))))) dAdd))) (rD (dR (Pure.pure (.dat (.int 2))))) dDiv)))] gInt))) (rfSlot 4) dMod)) aN))) (aC (rdSlot 7) (aC (dR (mTup aN)) (aC (dR (Pure.pure (.dat (.int 0)))) aN)))))) (aC (rdSlot 8) (aC (dR (vD (mGet (rfSlot 2) (rfSlot 6)))) aN))))) aN) gAppend)))))
def c__law_entries (cl : Cl) : M Fl := (mSeq (mSet (mBin (rD (dR (mCallB [(rfSlot 1)] gLen))) (rD (dR (Pure.pure (.dat (.int 2))))) dDiv) 4)
    (mSeq (mSet (mLst aN) 5)
    (mSeq (mFor Γ.L (c__law_entries_i1 cl) (fun d => setSlot 6 (.dat d)) (c__law_entries_b2 cl))
    (mRet (mvSlot 5)))))
theorem r__law_entries (cl : Cl) : runFi Γ cl 60 f__law_entries = runC 4 9 (c__law_entries cl) := by kernel_rfl
theorem q__law_entries (n : Nat) : (clN Γ 60 (n + 1)).fn "_law_entries" = runC 4 9 (c__law_entries (clN Γ 60 n)) := (show (clN Γ 60 (n + 1)).fn "_law_entries" = runFi Γ (clN Γ 60 n) 60 f__law_entries by kernel_rfl).trans (r__law_entries _)
def c__law_told (cl : Cl) : M Fl := (mSeq (mSet (mCall (cl.fn "_law_copy") (aC (dR (mLst (aC (rdSlot 0) (aC (rdSlot 1) (aC (rdSlot 2) aN))))) aN) []) 4)
    (mSeq (mSet (mLst (aC (dR (mCall (cl.fn "is_op_paper") (aC (rdSlot 0) (aC (rdSlot 1) (aC (rdSlot 2) aN))) [])) (aC (dR (mCall (cl.fn "is_world_paper") (aC (rdSlot 0) (aC (rdSlot 1) (aC (rdSlot 2) aN))) [])) aN))) 5)
    (mRet (vD (mAndV (dR (mCall (cl.fn "_law_same") (aC (rdSlot 5) (aC (rdSlot 3) aN)) [])) (dR (mCall (cl.fn "_law_same") (aC (dR (mLst (aC (rdSlot 0) (aC (rdSlot 1) (aC (rdSlot 2) aN))))) (aC (rdSlot 4) aN)) [])))))))
theorem r__law_told (cl : Cl) : runFi Γ cl 60 f__law_told = runC 4 6 (c__law_told cl) := by kernel_rfl
theorem q__law_told (n : Nat) : (clN Γ 60 (n + 1)).fn "_law_told" = runC 4 6 (c__law_told (clN Γ 60 n)) := (show (clN Γ 60 (n + 1)).fn "_law_told" = runFi Γ (clN Γ 60 n) 60 f__law_told by kernel_rfl).trans (r__law_told _)
def c_law_i1 (cl : Cl) : M Src := ((dR (mCall (cl.fn "_law_pick") (aC (rdSlot 1) (aC (dR (mLst (aC (dR (mLst (aC (dR (Pure.pure (.dat (.int 0)))) (aC (dR (Pure.pure (.dat (.int 1)))) aN)))) (aC (dR (mLst (aC (dR (Pure.pure (.dat (.int 1)))) (aC (dR (Pure.pure (.dat (.int 0)))) aN)))) aN)))) aN)) [])) >>= srcOf)
def c_law_i2 (cl : Cl) : M Src := (mRng (aC (dR (Pure.pure (.dat (.int 2)))) aN))
def c_law_i3 (cl : Cl) : M Src := (mRng (aC (dR (mCallB [(rfSlot 7)] gLen)) aN))
def c_law_t4 (cl : Cl) : D → List D → M (List D) := turn1 [10] (fun d => setSlot 10 (.dat d)) (Pure.pure true) (dR (mCall (cl.fn "_law_ahead") (aC (rdSlot 2) (aC (dR (vD (mGet (rfSlot 5) (rfSlot 10)))) (aC (dR (vD (mGet (rfSlot 7) (rfSlot 10)))) (aC (dR (vD (mGet (rfSlot 7) (rD (dR (mBin (rD (dR (mCallB [(rD (dR (mBin (rfSlot 10) (rD (dR (Pure.pure (.dat (.int 1))))) dAdd)))] gInt))) (rD (dR (mCallB [(rfSlot 7)] gLen))) dMod)))))) aN)))) []))
def c_law_b5 (cl : Cl) : M Fl := (mSeq (mSet (mBin (rD (dR (Pure.pure (.dat (.bl false))))) (rD (dR (mLc Γ.L [10] (c_law_i3 cl) (c_law_t4 cl)))) dNotIn) 9)
    (mSeq (mIfS (tNot (tTru (rD (dR (mCall (cl.fn "_law_told") (aC (rdSlot 3) (aC (rdSlot 4) (aC (dR (mCall (cl.fn "_law_entries") (aC (rdSlot 1) (aC (rdSlot 5) (aC (rdSlot 7) (aC (rdSlot 2) aN)))) [])) (aC (dR (mLst (aC (dR (vD (mAndV (rdSlot 9) (dR (mBin (rfSlot 2) (rD (dR (Pure.pure (.dat (.int 0))))) dEq))))) (aC (dR (vD (mAndV (rdSlot 9) (dR (mBin (rfSlot 2) (rD (dR (Pure.pure (.dat (.int 1))))) dEq))))) aN)))) aN)))) [])))))
    (mRet (Pure.pure (.dat (.bl false))))
    (Pure.pure .nx))
    (mSet (mCall (cl.fn "_law_changed") (aC (rdSlot 1) (aC (rdSlot 7) aN)) []) 7)))
def c_law_b6 (cl : Cl) : M Fl := (mSeq (mSet (mIf ((mBin (rfSlot 2) (rD (dR (Pure.pure (.dat (.int 1))))) dEq) >>= asB) (mLst (aC (dR (Pure.pure (.dat (.int 4)))) (aC (dR (Pure.pure (.dat (.int 2)))) (aC (dR (Pure.pure (.dat (.int 0)))) aN)))) (mLst (aC (dR (Pure.pure (.dat (.int 5)))) (aC (dR (Pure.pure (.dat (.int 3)))) (aC (dR (Pure.pure (.dat (.int 1)))) aN))))) 6)
    (mSeq (mSet (mCall (cl.fn "_law_counters") (aC (rdSlot 1) (aC (rdSlot 5) (aC (rdSlot 6) aN))) []) 7)
    (mFor Γ.L (c_law_i2 cl) (fun d => setSlot 8 (.dat d)) (c_law_b5 cl))))
def c_law (cl : Cl) : M Fl := (mSeq (mSet (mCall (cl.fn "_law_stream") (aC (rdSlot 0) aN) []) 1)
    (mSeq (mAsg (dR (mCall (cl.fn "_law_going") (aC (rdSlot 1) aN) [])) (gTupD 3 (gsCons (fun d => setSlot 3 (.dat d)) (gsCons (fun d => setSlot 4 (.dat d)) (gsCons (fun d => setSlot 5 (.dat d)) gsNil)))))
    (mSeq (mFor Γ.L (c_law_i1 cl) (fun d => setSlot 2 (.dat d)) (c_law_b6 cl))
    (mRet (Pure.pure (.dat (.bl true)))))))
theorem r_law (cl : Cl) : runFi Γ cl 60 f_law = runC 1 11 (c_law cl) := by kernel_rfl
theorem q_law (n : Nat) : (clN Γ 60 (n + 1)).fn "law" = runC 1 11 (c_law (clN Γ 60 n)) := (show (clN Γ 60 (n + 1)).fn "law" = runFi Γ (clN Γ 60 n) 60 f_law by kernel_rfl).trans (r_law _)
def c_Game___init__ (cl : Cl) : M Fl := (mSeq (mAtt (atB Γ) (rdSlot 1) (rdSlot 0) "plant")
    (mSeq (mAtt (atB Γ) (rdSlot 2) (rdSlot 0) "promise")
    (mSeq (mAtt (atB Γ) (rdSlot 3) (rdSlot 0) "rare")
    (mSeq (mAtt (atB Γ) (dR (mCall (cl.fn "goal_word") (aC (rdSlot 2) aN) [])) (rdSlot 0) "word")
    (mSeq (mAtt (atB Γ) (dR (mCall (cl.fn "goal_rows") (aC (rdSlot 2) aN) [])) (rdSlot 0) "rows")
    (mSeq (mAtt (atB Γ) (dR (mCall (cl.fn "most_done") (aC (rdSlot 2) aN) [])) (rdSlot 0) "most")
    (mSeq (mAtt (atB Γ) (dR (mCall (cl.fn "tables") (aC (rdSlot 1) aN) [])) (rdSlot 0) "table")
    (mAtt (atB Γ) (dR ((Pure.pure (.own (.dct []))) >>= toBox)) (rdSlot 0) "seen"))))))))
theorem r_Game___init__ (cl : Cl) : runFi Γ cl 60 m_Game___init__ = runC 4 4 (c_Game___init__ cl) := by kernel_rfl
theorem q_Game___init__ (n : Nat) : (clN Γ 60 (n + 1)).me "Game" "__init__" = runC 4 4 (c_Game___init__ (clN Γ 60 n)) := (show (clN Γ 60 (n + 1)).me "Game" "__init__" = runFi Γ (clN Γ 60 n) 60 m_Game___init__ by kernel_rfl).trans (r_Game___init__ _)
def c_Game_truths_i1 (cl : Cl) : M Src := ((dR (vD (mFld (atB Γ) (rdSlot 0) "rows"))) >>= srcOf)
def c_Game_truths_i2 (cl : Cl) : M Src := ((rdSlot 7) >>= srcOf)
def c_Game_truths_t3 (cl : Cl) : D → List D → M (List D) := turn1 [8] (fun d => setSlot 8 (.dat d)) (Pure.pure true) (dR (mCall (cl.fn "is_true") (aC (rdSlot 5) (aC (rdSlot 1) (aC (rdSlot 8) aN))) []))
def c_Game_truths_t4 (cl : Cl) : D → List D → M (List D) := turn1 [7] (fun d => setSlot 7 (.dat d)) (Pure.pure true) (dR (mLc Γ.L [8] (c_Game_truths_i2 cl) (c_Game_truths_t3 cl)))
def c_Game_truths_i5 (cl : Cl) : M Src := ((dR (vD (mGet (rD (dR (vD (mFld (atB Γ) (rdSlot 0) "promise")))) (rD (dR (Pure.pure (.dat (.str "answers")))))))) >>= srcOf)
def c_Game_truths_t6 (cl : Cl) : D → List D → M (List D) := turn1 [8, 9, 10] (gTupD 3 (gsCons (fun d => setSlot 8 (.dat d)) (gsCons (fun d => setSlot 9 (.dat d)) (gsCons (fun d => setSlot 10 (.dat d)) gsNil)))) (Pure.pure true) (dR (mTup (aC (dR (mCall (cl.fn "is_true") (aC (rdSlot 5) (aC (rdSlot 1) (aC (rdSlot 8) aN))) [])) (aC (dR (mCall (cl.fn "is_true") (aC (rdSlot 5) (aC (rdSlot 1) (aC (rdSlot 9) aN))) [])) aN))))
def c_Game_truths (cl : Cl) : M Fl := (mSeq (mIfS ((mBin (rfSlot 1) (rD (dR (vD (mFld (atB Γ) (rdSlot 0) "seen")))) dNotIn) >>= asB)
    (mSeq (mAsg (dR (mTup (aC (dR (vD (mFld (atB Γ) (rdSlot 0) "plant"))) (aC (dR (vD (mGet (rD (dR (vD (mFld (atB Γ) (rdSlot 0) "promise")))) (rD (dR (Pure.pure (.dat (.str "never")))))))) aN)))) (gTupD 2 (gsCons (fun d => setSlot 5 (.dat d)) (gsCons (fun d => setSlot 6 (.dat d)) gsNil))))
    (mSeq (mSet (vD (mAndV (dR (mBin (rfSlot 6) (rD (dR (Pure.pure (.dat (.non))))) dIsNot)) (dR (mCall (cl.fn "is_true") (aC (rdSlot 5) (aC (rdSlot 1) (aC (rdSlot 6) aN))) [])))) 2)
    (mSeq (mSetC (mLc Γ.L [8, 9, 10] (c_Game_truths_i5 cl) (c_Game_truths_t6 cl)) false 3)
    (mSeq (mSetC (mLc Γ.L [7] (c_Game_truths_i1 cl) (c_Game_truths_t4 cl)) false 4)
    (mAsg (dR (mTup (aC (rdSlot 2) (aC (rdSlot 3) (aC (rdSlot 4) aN))))) (mStore (rD (dR (vD (mFld (atB Γ) (rdSlot 0) "seen")))) (rfSlot 1)))))))
    (Pure.pure .nx))
    (mRet (vD (mGet (rD (dR (vD (mFld (atB Γ) (rdSlot 0) "seen")))) (rfSlot 1)))))
theorem r_Game_truths (cl : Cl) : runFi Γ cl 60 m_Game_truths = runC 2 11 (c_Game_truths cl) := by kernel_rfl
theorem q_Game_truths (n : Nat) : (clN Γ 60 (n + 1)).me "Game" "truths" = runC 2 11 (c_Game_truths (clN Γ 60 n)) := (show (clN Γ 60 (n + 1)).me "Game" "truths" = runFi Γ (clN Γ 60 n) 60 m_Game_truths by kernel_rfl).trans (r_Game_truths _)
def c_Game_blame_i1 (cl : Cl) : M Src := (mRng (aC (dR (mCallB [(rfSlot 3)] gLen)) aN))
def c_Game_blame_b2 (cl : Cl) : M Fl := (mIfS (tAnd ((mBin (rD (dR (vD (mGet (rfSlot 3) (rfSlot 7))))) (rD (dR (Pure.pure (.dat (.int 1))))) dEq) >>= asB) (tNot (tTru (rD (dR (vD (mGet (rD (dR (vD (mGet (rfSlot 5) (rfSlot 7))))) (rD (dR (Pure.pure (.dat (.int 1))))))))))))
    (mRet (mTup (aC (dR (Pure.pure (.dat (.str "answer")))) (aC (rdSlot 7) aN))))
    (Pure.pure .nx))
def c_Game_blame (cl : Cl) : M Fl := (mSeq (mAsg (dR (mMeth (mtab Γ cl) (rdSlot 0) "truths" 1 (aC (rdSlot 1) aN))) (gTupD 3 (gsCons (fun d => setSlot 4 (.dat d)) (gsCons (fun d => setSlot 5 (.dat d)) (gsCons (fun d => setSlot 6 (.dat d)) gsNil)))))
    (mSeq (mIfS (tTru (rfSlot 4))
    (mRet (Pure.pure (.dat (.str "never"))))
    (Pure.pure .nx))
    (mSeq (mIfS ((mBin (rfSlot 2) (rD (Pure.pure (.int 0))) dEq) >>= asB)
    (mFor Γ.L (c_Game_blame_i1 cl) (fun d => setSlot 7 (.dat d)) (c_Game_blame_b2 cl))
    (Pure.pure .nx))
    (mRet (Pure.pure (.dat (.non)))))))
theorem r_Game_blame (cl : Cl) : runFi Γ cl 60 m_Game_blame = runC 4 8 (c_Game_blame cl) := by kernel_rfl
theorem q_Game_blame (n : Nat) : (clN Γ 60 (n + 1)).me "Game" "blame" = runC 4 8 (c_Game_blame (clN Γ 60 n)) := (show (clN Γ 60 (n + 1)).me "Game" "blame" = runFi Γ (clN Γ 60 n) 60 m_Game_blame by kernel_rfl).trans (r_Game_blame _)
def c_Game_waiting (cl : Cl) : M Fl := (mSeq (mAsg (rdSlot 3) (gTupD 2 (gsCons (fun d => setSlot 4 (.dat d)) (gsCons (fun d => setSlot 5 (.dat d)) gsNil))))
    (mSeq (mIfS (tTru (rfSlot 5))
    (mRet (Pure.pure (.dat (.int 0))))
    (Pure.pure .nx))
    (mSeq (mIfS ((mBin (rfSlot 2) (rD (dR (Pure.pure (.dat (.int 0))))) dGt) >>= asB)
    (mRet (mBin (rfSlot 2) (rD (dR (Pure.pure (.dat (.int 1))))) dSub))
    (Pure.pure .nx))
    (mRet (mIf (tTru (rfSlot 4)) (vD (mGet (rD (dR (vD (mGet (rD (dR (vD (mGet (rD (dR (vD (mFld (atB Γ) (rdSlot 0) "promise")))) (rD (dR (Pure.pure (.dat (.str "answers"))))))))) (rfSlot 1))))) (rD (dR (Pure.pure (.dat (.int 2))))))) (Pure.pure (.dat (.int 0))))))))
theorem r_Game_waiting (cl : Cl) : runFi Γ cl 60 m_Game_waiting = runC 4 6 (c_Game_waiting cl) := by kernel_rfl
theorem q_Game_waiting (n : Nat) : (clN Γ 60 (n + 1)).me "Game" "waiting" = runC 4 6 (c_Game_waiting (clN Γ 60 n)) := (show (clN Γ 60 (n + 1)).me "Game" "waiting" = runFi Γ (clN Γ 60 n) 60 m_Game_waiting by kernel_rfl).trans (r_Game_waiting _)
def c_Game_further (cl : Cl) : M Fl := (mSeq (mIfS ((mBin (rD (dR (vD (mFld (atB Γ) (rdSlot 0) "word")))) (rD (dR (Pure.pure (.dat (.str "reach"))))) dEq) >>= asB)
    (mRet (mIf (tTru (rD (dR (vD (mGet (rD (dR (vD (mGet (rfSlot 1) (rD (dR (Pure.pure (.dat (.int 0))))))))) (rD (dR (Pure.pure (.dat (.int 0)))))))))) (Pure.pure (.dat (.int 1))) (vD (rdSlot 2))))
    (Pure.pure .nx))
    (mSeq (mIfS ((mBin (rD (dR (vD (mFld (atB Γ) (rdSlot 0) "word")))) (rD (dR (Pure.pure (.dat (.str "agains"))))) dEq) >>= asB)
    (mRet (mCall (cl.fn "moved_on") (aC (rdSlot 2) (aC (dR (vD (mGet (rfSlot 1) (rD (dR (Pure.pure (.dat (.int 0)))))))) aN)) []))
    (Pure.pure .nx))
    (mSeq (mIfS ((mBin (rD (dR (vD (mFld (atB Γ) (rdSlot 0) "word")))) (rD (dR (Pure.pure (.dat (.str "given"))))) dEq) >>= asB)
    (mSeq (mSet (mBin (rD (dR (mCallB [(rD (dR (vD (mGet (rfSlot 1) (rD (dR (Pure.pure (.dat (.int 1)))))))))] gLen))) (rD (dR (Pure.pure (.dat (.int 1))))) dAdd) 3)
    (mRet (mBin (rD (dR (mBin (rD (dR (mCall (cl.fn "moved_on") (aC (dR (mBin (rfSlot 2) (rfSlot 3) dDiv)) (aC (dR (vD (mGet (rfSlot 1) (rD (dR (Pure.pure (.dat (.int 0)))))))) aN)) []))) (rfSlot 3) dMul))) (rD (dR (mCall (cl.fn "moved_on") (aC (dR (mBin (rfSlot 2) (rfSlot 3) dMod)) (aC (dR (vD (mGet (rfSlot 1) (rD (dR (Pure.pure (.dat (.int 1)))))))) aN)) []))) dAdd)))
    (Pure.pure .nx))
    (mRet (mvSlot 2)))))
theorem r_Game_further (cl : Cl) : runFi Γ cl 60 m_Game_further = runC 3 4 (c_Game_further cl) := by kernel_rfl
theorem q_Game_further (n : Nat) : (clN Γ 60 (n + 1)).me "Game" "further" = runC 3 4 (c_Game_further (clN Γ 60 n)) := (show (clN Γ 60 (n + 1)).me "Game" "further" = runFi Γ (clN Γ 60 n) 60 m_Game_further by kernel_rfl).trans (r_Game_further _)
def c_Game_enter_i1 (cl : Cl) : M Src := (mRng (aC (dR (mCallB [(rfSlot 3)] gLen)) aN))
def c_Game_enter_t2 (cl : Cl) : D → List D → M (List D) := turn1 [8] (fun d => setSlot 8 (.dat d)) (Pure.pure true) (dR (mMeth (mtab Γ cl) (rdSlot 0) "waiting" 3 (aC (rdSlot 8) (aC (dR (vD (mGet (rfSlot 3) (rfSlot 8)))) (aC (dR (vD (mGet (rfSlot 6) (rfSlot 8)))) aN)))))
def c_Game_enter (cl : Cl) : M Fl := (mSeq (mIfS ((mBin (rD (dR (mMeth (mtab Γ cl) (rdSlot 0) "blame" 3 (aC (rdSlot 1) (aC (rdSlot 2) (aC (rdSlot 3) aN)))))) (rD (dR (Pure.pure (.dat (.non))))) dIsNot) >>= asB)
    (mRet (Pure.pure (.dat (.non))))
    (Pure.pure .nx))
    (mSeq (mAsg (dR (mMeth (mtab Γ cl) (rdSlot 0) "truths" 1 (aC (rdSlot 1) aN))) (gTupD 3 (gsCons (fun d => setSlot 5 (.dat d)) (gsCons (fun d => setSlot 6 (.dat d)) (gsCons (fun d => setSlot 7 (.dat d)) gsNil)))))
    (mSeq (mIfS (tAnd ((mBin (rfSlot 2) (rD (Pure.pure (.int 0))) dEq) >>= asB) ((mBin (rD (dR (mCallB [(rfSlot 3)] gLen))) (rD (dR (Pure.pure (.dat (.int 0))))) dGt) >>= asB))
    (mSet (mCallB [(rD (dR (mLc Γ.L [8] (c_Game_enter_i1 cl) (c_Game_enter_t2 cl))))] gTuple) 3)
    (Pure.pure .nx))
    (mRet (mTup (aC (rdSlot 1) (aC (rdSlot 2) (aC (rdSlot 3) (aC (dR (mMeth (mtab Γ cl) (rdSlot 0) "further" 2 (aC (rdSlot 7) (aC (rdSlot 4) aN)))) aN)))))))))
theorem r_Game_enter (cl : Cl) : runFi Γ cl 60 m_Game_enter = runC 5 9 (c_Game_enter cl) := by kernel_rfl
theorem q_Game_enter (n : Nat) : (clN Γ 60 (n + 1)).me "Game" "enter" = runC 5 9 (c_Game_enter (clN Γ 60 n)) := (show (clN Γ 60 (n + 1)).me "Game" "enter" = runFi Γ (clN Γ 60 n) 60 m_Game_enter by kernel_rfl).trans (r_Game_enter _)
def c_Game_first (cl : Cl) : M Fl := (mRet (mMeth (mtab Γ cl) (rdSlot 0) "enter" 4 (aC (dR (mCall (cl.fn "first_joint") (aC (dR (vD (mFld (atB Γ) (rdSlot 0) "plant"))) aN) [])) (aC (Pure.pure (.int 0)) (aC (dR (mBin (rD (dR (mTup (aC (dR (Pure.pure (.dat (.int 0)))) aN)))) (rD (dR (mCallB [(rD (dR (vD (mGet (rD (dR (vD (mFld (atB Γ) (rdSlot 0) "promise")))) (rD (dR (Pure.pure (.dat (.str "answers")))))))))] gLen))) dMul)) (aC (dR (Pure.pure (.dat (.int 0)))) aN))))))
theorem r_Game_first (cl : Cl) : runFi Γ cl 60 m_Game_first = runC 1 1 (c_Game_first cl) := by kernel_rfl
theorem q_Game_first (n : Nat) : (clN Γ 60 (n + 1)).me "Game" "first" = runC 1 1 (c_Game_first (clN Γ 60 n)) := (show (clN Γ 60 (n + 1)).me "Game" "first" = runFi Γ (clN Γ 60 n) 60 m_Game_first by kernel_rfl).trans (r_Game_first _)
def c_Game_moves_at (cl : Cl) : M Fl := (mSeq (mSet (mCall (cl.fn "moves_in") (aC (dR (vD (mFld (atB Γ) (rdSlot 0) "plant"))) (aC (dR (vD (mFld (atB Γ) (rdSlot 0) "table"))) (aC (rdSlot 1) (aC (rdSlot 2) aN)))) []) 3)
    (mSeq (mIfS (tAnd (tTru (rD (dR (vD (mFld (atB Γ) (rdSlot 0) "rare"))))) ((mBin (rfSlot 2) (rD (Pure.pure (.int 0))) dNe) >>= asB))
    (mRet (mBin (rfSlot 3) (rD (dR (mCall (cl.fn "open_in") (aC (dR (vD (mFld (atB Γ) (rdSlot 0) "plant"))) (aC (dR (vD (mFld (atB Γ) (rdSlot 0) "table"))) (aC (rdSlot 1) (aC (Pure.pure (.str "rare")) aN)))) []))) dAdd))
    (Pure.pure .nx))
    (mRet (mvSlot 3))))
theorem r_Game_moves_at (cl : Cl) : runFi Γ cl 60 m_Game_moves_at = runC 3 4 (c_Game_moves_at cl) := by kernel_rfl
theorem q_Game_moves_at (n : Nat) : (clN Γ 60 (n + 1)).me "Game" "moves_at" = runC 3 4 (c_Game_moves_at (clN Γ 60 n)) := (show (clN Γ 60 (n + 1)).me "Game" "moves_at" = runFi Γ (clN Γ 60 n) 60 m_Game_moves_at by kernel_rfl).trans (r_Game_moves_at _)
def c_Game_leads_i1 (cl : Cl) : M Src := ((dR (mMeth (mtab Γ cl) (rdSlot 0) "moves_at" 2 (aC (rdSlot 4) (aC (rdSlot 5) aN)))) >>= srcOf)
def c_Game_leads_b2 (cl : Cl) : M Fl := (mSeq (mAsg (dR (mIf ((mBin (rfSlot 3) (rD (Pure.pure (.int (-1)))) dEq) >>= asB) (mTup (aC (dR (Pure.pure (.dat (.int 0)))) (aC (dR (Pure.pure (.dat (.int 0)))) aN))) (mSlice (rD (dR (vD (mGet (rD (dR (vD (mGet (rD (dR (vD (mFld (atB Γ) (rdSlot 0) "plant")))) (rD (dR (Pure.pure (.dat (.str "letters"))))))))) (rfSlot 3))))) (sB (dR (Pure.pure (.dat (.int 2))))) (Pure.pure none)))) (gTupD 2 (gsCons (fun d => setSlot 8 (.dat d)) (gsCons (fun d => setSlot 9 (.dat d)) gsNil))))
    (mExp (vD (mMut (rfSlot 2) (aC (dR (mTup (aC (rdSlot 3) (aC (dR (mMeth (mtab Γ cl) (rdSlot 0) "enter" 4 (aC (dR (mCall (cl.fn "step_in") (aC (dR (vD (mFld (atB Γ) (rdSlot 0) "table"))) (aC (rdSlot 4) (aC (rdSlot 3) aN))) [])) (aC (dR (mBin (rD (dR (Pure.pure (.dat (.int 1))))) (rfSlot 5) dSub)) (aC (rdSlot 6) (aC (rdSlot 7) aN)))))) (aC (rdSlot 8) (aC (rdSlot 9) aN)))))) aN) gAppend))))
def c_Game_leads (cl : Cl) : M Fl := (mSeq (mAsg (rdSlot 1) (gTupD 4 (gsCons (fun d => setSlot 4 (.dat d)) (gsCons (fun d => setSlot 5 (.dat d)) (gsCons (fun d => setSlot 6 (.dat d)) (gsCons (fun d => setSlot 7 (.dat d)) gsNil))))))
    (mSeq (mSet (mLst aN) 2)
    (mSeq (mFor Γ.L (c_Game_leads_i1 cl) (fun d => setSlot 3 (.dat d)) (c_Game_leads_b2 cl))
    (mRet (mvSlot 2)))))
theorem r_Game_leads (cl : Cl) : runFi Γ cl 60 m_Game_leads = runC 2 10 (c_Game_leads cl) := by kernel_rfl
theorem q_Game_leads (n : Nat) : (clN Γ 60 (n + 1)).me "Game" "leads" = runC 2 10 (c_Game_leads (clN Γ 60 n)) := (show (clN Γ 60 (n + 1)).me "Game" "leads" = runFi Γ (clN Γ 60 n) 60 m_Game_leads by kernel_rfl).trans (r_Game_leads _)
def c_Game_lead (cl : Cl) : M Fl := (mExp (mCall (cl.fn "_wall") (aC (dR (Pure.pure (.dat (.int 0)))) aN) []))
theorem r_Game_lead (cl : Cl) : runFi Γ cl 60 m_Game_lead = runC 3 3 (c_Game_lead cl) := by kernel_rfl
theorem q_Game_lead (n : Nat) : (clN Γ 60 (n + 1)).me "Game" "lead" = runC 3 3 (c_Game_lead (clN Γ 60 n)) := (show (clN Γ 60 (n + 1)).me "Game" "lead" = runFi Γ (clN Γ 60 n) 60 m_Game_lead by kernel_rfl).trans (r_Game_lead _)
def c_Game_why (cl : Cl) : M Fl := (mSeq (mAsg (rdSlot 1) (gTupD 4 (gsCons (fun d => setSlot 3 (.dat d)) (gsCons (fun d => setSlot 4 (.dat d)) (gsCons (fun d => setSlot 5 (.dat d)) (gsCons (fun d => setSlot 6 (.dat d)) gsNil))))))
    (mRet (mMeth (mtab Γ cl) (rdSlot 0) "blame" 3 (aC (dR (mCall (cl.fn "step_in") (aC (dR (vD (mFld (atB Γ) (rdSlot 0) "table"))) (aC (rdSlot 3) (aC (rdSlot 2) aN))) [])) (aC (dR (mBin (rD (dR (Pure.pure (.dat (.int 1))))) (rfSlot 4) dSub)) (aC (rdSlot 5) aN))))))
theorem r_Game_why (cl : Cl) : runFi Γ cl 60 m_Game_why = runC 3 7 (c_Game_why cl) := by kernel_rfl
theorem q_Game_why (n : Nat) : (clN Γ 60 (n + 1)).me "Game" "why" = runC 3 7 (c_Game_why (clN Γ 60 n)) := (show (clN Γ 60 (n + 1)).me "Game" "why" = runFi Γ (clN Γ 60 n) 60 m_Game_why by kernel_rfl).trans (r_Game_why _)
def c_Game_rank_of_i1 (cl : Cl) : M Src := (mRng (aC (dR (mBin (rD (dR (mCallB [(rfSlot 2)] gLen))) (rD (dR (Pure.pure (.dat (.int 1))))) dSub)) (aC (dR (mNeg (dR (Pure.pure (.dat (.int 1)))))) (aC (dR (mNeg (dR (Pure.pure (.dat (.int 1)))))) aN))))
def c_Game_rank_of_b2 (cl : Cl) : M Fl := (mIfS (tTru (rD (dR (vD (mGet (rfSlot 2) (rfSlot 3))))))
    (mRet (mBin (rfSlot 3) (rD (dR (Pure.pure (.dat (.int 1))))) dAdd))
    (Pure.pure .nx))
def c_Game_rank_of (cl : Cl) : M Fl := (mSeq (mIfS ((mBin (rD (dR (vD (mFld (atB Γ) (rdSlot 0) "word")))) (rD (dR (mTup (aC (dR (Pure.pure (.dat (.str "reach")))) (aC (dR (Pure.pure (.dat (.str "agains")))) aN))))) dIn) >>= asB)
    (mRet (mIf ((mBin (rD (dR (vD (mGet (rfSlot 1) (rD (dR (Pure.pure (.dat (.int 3))))))))) (rD (dR (vD (mFld (atB Γ) (rdSlot 0) "most")))) dEq) >>= asB) (Pure.pure (.dat (.int 2))) (Pure.pure (.dat (.int 1)))))
    (Pure.pure .nx))
    (mSeq (mIfS ((mBin (rD (dR (vD (mFld (atB Γ) (rdSlot 0) "word")))) (rD (dR (Pure.pure (.dat (.str "given"))))) dEq) >>= asB)
    (mSeq (mSet (mBin (rD (dR (mCallB [(rD (dR (vD (mGet (rD (dR (vD (mFld (atB Γ) (rdSlot 0) "rows")))) (rD (dR (Pure.pure (.dat (.int 1)))))))))] gLen))) (rD (dR (Pure.pure (.dat (.int 1))))) dAdd) 4)
    (mSeq (mIfS ((mBin (rD (dR (mBin (rD (dR (vD (mGet (rfSlot 1) (rD (dR (Pure.pure (.dat (.int 3))))))))) (rfSlot 4) dMod))) (rD (dR (mBin (rfSlot 4) (rD (dR (Pure.pure (.dat (.int 1))))) dSub))) dEq) >>= asB)
    (mRet (Pure.pure (.dat (.int 2))))
    (Pure.pure .nx))
    (mRet (mIf ((mBin (rD (dR (mBin (rD (dR (vD (mGet (rfSlot 1) (rD (dR (Pure.pure (.dat (.int 3))))))))) (rfSlot 4) dDiv))) (rD (dR (mCallB [(rD (dR (vD (mGet (rD (dR (vD (mFld (atB Γ) (rdSlot 0) "rows")))) (rD (dR (Pure.pure (.dat (.int 0)))))))))] gLen))) dEq) >>= asB) (Pure.pure (.dat (.int 1))) (Pure.pure (.dat (.int 0)))))))
    (Pure.pure .nx))
    (mSeq (mIfS ((mBin (rD (dR (vD (mFld (atB Γ) (rdSlot 0) "rows")))) (rD (dR (mLst aN))) dEq) >>= asB)
    (mRet (Pure.pure (.dat (.int 0))))
    (Pure.pure .nx))
    (mSeq (mSet (vD (mGet (rD (dR (vD (mGet (rD (dR (mMeth (mtab Γ cl) (rdSlot 0) "truths" 1 (aC (dR (vD (mGet (rfSlot 1) (rD (dR (Pure.pure (.dat (.int 0)))))))) aN)))) (rD (dR (Pure.pure (.dat (.int 2))))))))) (rD (dR (Pure.pure (.dat (.int 0))))))) 2)
    (mSeq (mIfS ((mBin (rD (dR (vD (mFld (atB Γ) (rdSlot 0) "word")))) (rD (dR (Pure.pure (.dat (.str "again"))))) dEq) >>= asB)
    (mRet (mIf (tTru (rD (dR (vD (mGet (rfSlot 2) (rD (dR (Pure.pure (.dat (.int 0)))))))))) (Pure.pure (.dat (.int 2))) (Pure.pure (.dat (.int 1)))))
    (Pure.pure .nx))
    (mSeq (mIfS ((mBin (rD (dR (vD (mFld (atB Γ) (rdSlot 0) "word")))) (rD (dR (Pure.pure (.dat (.str "settle"))))) dEq) >>= asB)
    (mRet (mIf (tTru (rD (dR (vD (mGet (rfSlot 2) (rD (dR (Pure.pure (.dat (.int 0)))))))))) (Pure.pure (.dat (.int 0))) (Pure.pure (.dat (.int 1)))))
    (Pure.pure .nx))
    (mSeq (mFor Γ.L (c_Game_rank_of_i1 cl) (fun d => setSlot 3 (.dat d)) (c_Game_rank_of_b2 cl))
    (mRet (Pure.pure (.dat (.int 0)))))))))))
theorem r_Game_rank_of (cl : Cl) : runFi Γ cl 60 m_Game_rank_of = runC 2 5 (c_Game_rank_of cl) := by kernel_rfl
theorem q_Game_rank_of (n : Nat) : (clN Γ 60 (n + 1)).me "Game" "rank_of" = runC 2 5 (c_Game_rank_of (clN Γ 60 n)) := (show (clN Γ 60 (n + 1)).me "Game" "rank_of" = runFi Γ (clN Γ 60 n) 60 m_Game_rank_of by kernel_rfl).trans (r_Game_rank_of _)
end Vl.T
set_option Elab.async false
set_option linter.all false
set_option maxRecDepth 100000
set_option maxHeartbeats 1000000
/-! k23: what each def does -/
namespace Vl.T
open PySem
variable (n : Nat) (sto : List Box)
@[simp] theorem s_is_integer (i : Int) : (clN Γ 60 (n + 1)).fn "is_integer" [.int i] sto = .ok (.dat (.bl true)) sto := by
  simp [q_is_integer, c_is_integer]
@[simp] theorem s_is_between (i lo hi : Int) : (clN Γ 60 (n + 2)).fn "is_between" [.int i, .int lo, .int hi] sto = .ok (.dat (.bl (decide (lo ≤ i) && decide (i ≤ hi)))) sto := by
  by_cases h : lo ≤ i <;> simp [q_is_between, c_is_between, h]
@[simp] theorem s_is_tuple_of (xs : List D) (k : Int) : (clN Γ 60 (n + 1)).fn "is_tuple_of" [.tup xs, .int k] sto = .ok (.dat (.bl (decide ((xs.length : Int) = k)))) sto := by
  simp [q_is_tuple_of, c_is_tuple_of]
/-! the ring -/
def letO (g t : Int) : D := .tup [.str "go", .str "op", .int g, .int t]
def letW : D := .tup [.str "on", .str "world", .int 1, .int 1]
def knows (both : Bool) : D := .lst (if both then [.int 0, .int 1] else [.int 0])
def arcsD (m : Nat) : D := .lst ((List.range m).map fun (s : Nat) => .tup [.int s, .int 0, .int (((s + 1) % m : Nat) : Int)])
def machD (m : Nat) (both : Bool) : D := .tup [.int m, knows both, arcsD m]
def lettersD (both : Bool) (g t : Int) : D := .lst (if both then [letO g t, letW] else [letO g t])
def plantD (m : Nat) (both w1 : Bool) (g t : Int) : D := .dct [(.str "letters", lettersD both g t), (.str "machines", .lst [machD m both]), (.str "waits", .tup [.bl false, .bl w1]), (.str "flags", .lst [])]
def waysD (m : Nat) : D := .dct ((List.range m).map fun (s : Nat) => (.tup [.int s, .int 0], .int (((s + 1) % m : Nat) : Int)))
def tableD (m : Nat) (both : Bool) : D := .tup [.lst [waysD m], .lst (if both then [.lst [.int 0], .lst [.int 0]] else [.lst [.int 0]])]
variable {m : Nat} (both w1 : Bool) (g t : Int)
theorem m8 (h1 : 1 ≤ m) (h8 : m ≤ 8) : m = 1 ∨ m = 2 ∨ m = 3 ∨ m = 4 ∨ m = 5 ∨ m = 6 ∨ m = 7 ∨ m = 8 := by omega
theorem s_tables (h1 : 1 ≤ m) (h8 : m ≤ 8) : (clN Γ 60 (n + 1)).fn "tables" [plantD m both w1 g t] sto = .ok (.dat (tableD m both)) sto := by
  rcases m8 h1 h8 with rfl | rfl | rfl | rfl | rfl | rfl | rfl | rfl <;> cases both <;> kernel_rfl
theorem s8 {s : Nat} (h8 : m ≤ 8) (h : s < m) : s = 0 ∨ s = 1 ∨ s = 2 ∨ s = 3 ∨ s = 4 ∨ s = 5 ∨ s = 6 ∨ s = 7 := by omega
theorem s_step (h1 : 1 ≤ m) (h8 : m ≤ 8) {s : Nat} (hs : s < m) : (clN Γ 60 (n + 1)).fn "step_in" [tableD m both, .tup [.int s], .int 0] sto = .ok (.dat (.tup [.int (((s + 1) % m : Nat) : Int)])) sto := by
  rcases m8 h1 h8 with rfl | rfl | rfl | rfl | rfl | rfl | rfl | rfl <;> rcases s8 h8 hs with rfl | rfl | rfl | rfl | rfl | rfl | rfl | rfl <;> first | (exfalso; omega; done) | (cases both <;> kernel_rfl)
/-! moves -/
def movesD (who : Nat) : List D := if who = 0 then [.int 0] else [.int (-1)]
theorem s_moves (h1 : 1 ≤ m) (h8 : m ≤ 8) {s : Nat} (hs : s < m) {who : Nat} (hw : who < 2) : (clN Γ 60 (n + 3)).fn "moves_in" [plantD m both w1 g t, tableD m both, .tup [.int s], .int who] sto = .ok (.own (.lst (movesD who))) sto := by
  rcases m8 h1 h8 with rfl | rfl | rfl | rfl | rfl | rfl | rfl | rfl <;> rcases s8 h8 hs with rfl | rfl | rfl | rfl | rfl | rfl | rfl | rfl <;> first | (exfalso; omega; done) |
    (rcases (show who = 0 ∨ who = 1 by omega) with rfl | rfl <;> cases both <;> cases w1 <;> kernel_rfl)
end Vl.T
set_option Elab.async false
set_option linter.all false
set_option maxRecDepth 100000
set_option maxHeartbeats 1000000
/-! k23: expressions -/
namespace Vl.T
open PySem
variable (n : Nat) (sto : List Box)
def atE (s : Int) : D := .tup [.str "at", .int 0, .int s]
def someE (S : List Int) : D := .tup [.str "some", .lst (S.map atE)]
def notE (e : D) : D := .tup [.str "not", e]
theorem k1 : decide (("at" : Str) = "flag") = false := by decide +kernel
theorem k2 : decide (("some" : Str) = "flag") = false := by decide +kernel
theorem k3 : decide (("some" : Str) = "at") = false := by decide +kernel
theorem k4 : decide (("some" : Str) = "not") = false := by decide +kernel
theorem k5 : decide (("some" : Str) = "all") = false := by decide +kernel
theorem k6 : decide (("not" : Str) = "flag") = false := by decide +kernel
theorem k7 : decide (("not" : Str) = "at") = false := by decide +kernel
@[simp] theorem s_at (pl : D) (j s : Int) : (clN Γ 60 (n + 1)).fn "is_true" [pl, .tup [.int j], atE s] sto = .ok (.dat (.bl (decide (j = s)))) sto := by
  simp [q_is_true, c_is_true, atE, k1]
theorem s_some (pl : D) (j : Int) (S : List Int) (hS : S.length < 100) : (clN Γ 60 (n + 2)).fn "is_true" [pl, .tup [.int j], someE S] sto = .ok (.dat (.bl (S.any fun s => decide (j = s)))) sto := by
  have hl : mLc Γ.L [4] (c_is_true_i1 (clN Γ 60 (n + 1))) (c_is_true_t2 (clN Γ 60 (n + 1))) ⟨[some (.dat pl), some (.dat (.tup [.int j])), some (.dat (someE S)), none, none], sto⟩ = .ok (.own (.lst (S.map fun s => .bl (decide (j = s))))) ⟨[some (.dat pl), some (.dat (.tup [.int j])), some (.dat (someE S)), none, none], sto⟩ := by
    refine mLc_mapE [some (.dat pl), some (.dat (.tup [.int j])), some (.dat (someE S)), none, none] _ _ S atE (fun s => .bl (decide (j = s))) (src := .seq (S.map atE)) rfl rfl (by simp [c_is_true_i1, someE]) rfl (by omega) rfl fun s hs => ?_
    refine ⟨[some (.dat pl), some (.dat (.tup [.int j])), some (.dat (someE S)), none, some (.dat (atE s))], ?_, rfl⟩
    simp [wipeE]
  unfold someE at hl
  simp [q_is_true, c_is_true, someE, k2, k3, k4, k5, hl]
theorem s_not (pl e : D) (j : Int) (b : Bool) (h : (clN Γ 60 (n + 1)).fn "is_true" [pl, .tup [.int j], e] sto = .ok (.dat (.bl b)) sto) : (clN Γ 60 (n + 2)).fn "is_true" [pl, .tup [.int j], notE e] sto = .ok (.dat (.bl (!b))) sto := by
  rw [q_is_true (n + 1)]
  simp [c_is_true, notE, k6, k7, h]
/-! the promise -/
def promD (parts : List D) : D := .dct [(.str "never", .non), (.str "answers", .lst []), (.str "goal", .tup [.str "ranked", .lst parts])]
theorem s_goal_word (ps : List D) : (clN Γ 60 (n + 1)).fn "goal_word" [promD ps] sto = .ok (.dat (.str "ranked")) sto := by kernel_rfl
theorem s_goal_rows (ps : List D) : (clN Γ 60 (n + 2)).fn "goal_rows" [promD ps] sto = .ok (.own (.lst [.lst ps])) sto := by kernel_rfl
theorem s_most_done (ps : List D) : (clN Γ 60 (n + 2)).fn "most_done" [promD ps] sto = .ok (.dat (.int 0)) sto := by kernel_rfl
theorem s_first_joint {m : Nat} (both w1 : Bool) (g t : Int) : (clN Γ 60 (n + 1)).fn "first_joint" [plantD m both w1 g t] sto = .ok (.dat (.tup [.int 0])) sto := by kernel_rfl
/-! the game -/
def gameF (pl pr tb : D) (ps : List D) (k : Nat) : List (Str × D) := [("plant", pl), ("promise", pr), ("rare", .bl false), ("word", .str "ranked"), ("rows", .lst [.lst ps]), ("most", .int 0), ("table", tb), ("seen", .box k)]
end Vl.T
set_option Elab.async false
set_option linter.all false
set_option maxRecDepth 100000
set_option maxHeartbeats 2000000
/-! k23: the game -/
namespace Vl.T
open PySem
variable (n : Nat)
/-! attributes, methods -/
@[simp] theorem a1 : atB Γ "Game" "plant" = true := by kernel_rfl
@[simp] theorem a2 : atB Γ "Game" "promise" = true := by kernel_rfl
@[simp] theorem a3 : atB Γ "Game" "rare" = true := by kernel_rfl
@[simp] theorem a4 : atB Γ "Game" "word" = true := by kernel_rfl
@[simp] theorem a5 : atB Γ "Game" "rows" = true := by kernel_rfl
@[simp] theorem a6 : atB Γ "Game" "most" = true := by kernel_rfl
@[simp] theorem a7 : atB Γ "Game" "table" = true := by kernel_rfl
@[simp] theorem a8 : atB Γ "Game" "seen" = true := by kernel_rfl
section
variable (cl : Cl)
@[simp] theorem mt1 : mtab Γ cl "Game" "truths" 1 = some (cl.me "Game" "truths", []) := by kernel_rfl
@[simp] theorem mt2 : mtab Γ cl "Game" "blame" 3 = some (cl.me "Game" "blame", []) := by kernel_rfl
@[simp] theorem mt3 : mtab Γ cl "Game" "further" 2 = some (cl.me "Game" "further", []) := by kernel_rfl
@[simp] theorem mt4 : mtab Γ cl "Game" "enter" 4 = some (cl.me "Game" "enter", []) := by kernel_rfl
@[simp] theorem mt5 : mtab Γ cl "Game" "first" 0 = some (cl.me "Game" "first", []) := by kernel_rfl
@[simp] theorem mt6 : mtab Γ cl "Game" "moves_at" 2 = some (cl.me "Game" "moves_at", []) := by kernel_rfl
@[simp] theorem mt7 : mtab Γ cl "Game" "leads" 1 = some (cl.me "Game" "leads", []) := by kernel_rfl
@[simp] theorem mt8 : mtab Γ cl "Game" "rank_of" 1 = some (cl.me "Game" "rank_of", []) := by kernel_rfl
end
/-! the fields of a made game -/
section
variable (pl pr tb : D) (ps : List D) (k : Nat)
@[simp] theorem f1 : (gameF pl pr tb ps k).lookup ("plant" : Str) = some pl := by kernel_rfl
@[simp] theorem f2 : (gameF pl pr tb ps k).lookup ("promise" : Str) = some pr := by kernel_rfl
@[simp] theorem f3 : (gameF pl pr tb ps k).lookup ("rare" : Str) = some (.bl false) := by kernel_rfl
@[simp] theorem f4 : (gameF pl pr tb ps k).lookup ("word" : Str) = some (.str "ranked") := by kernel_rfl
@[simp] theorem f5 : (gameF pl pr tb ps k).lookup ("rows" : Str) = some (.lst [.lst ps]) := by kernel_rfl
@[simp] theorem f6 : (gameF pl pr tb ps k).lookup ("most" : Str) = some (.int 0) := by kernel_rfl
@[simp] theorem f7 : (gameF pl pr tb ps k).lookup ("table" : Str) = some tb := by kernel_rfl
@[simp] theorem f8 : (gameF pl pr tb ps k).lookup ("seen" : Str) = some (.box k) := by kernel_rfl
@[simp] theorem n1 : (gameF pl pr tb ps k).lookup ("truths" : Str) = none := by kernel_rfl
@[simp] theorem n2 : (gameF pl pr tb ps k).lookup ("blame" : Str) = none := by kernel_rfl
@[simp] theorem n3 : (gameF pl pr tb ps k).lookup ("further" : Str) = none := by kernel_rfl
@[simp] theorem n4 : (gameF pl pr tb ps k).lookup ("enter" : Str) = none := by kernel_rfl
@[simp] theorem n5 : (gameF pl pr tb ps k).lookup ("first" : Str) = none := by kernel_rfl
@[simp] theorem n6 : (gameF pl pr tb ps k).lookup ("moves_at" : Str) = none := by kernel_rfl
@[simp] theorem n7 : (gameF pl pr tb ps k).lookup ("leads" : Str) = none := by kernel_rfl
@[simp] theorem n8 : (gameF pl pr tb ps k).lookup ("rank_of" : Str) = none := by kernel_rfl
end
section
variable (a b c d e f g h : D)
@[simp] theorem p1 : putG "plant" a ([] : List (Str × D)) = ([("plant", a)] : List (Str × D)) := rfl
@[simp] theorem p2 : putG "promise" b ([("plant", a)] : List (Str × D)) = ([("plant", a), ("promise", b)] : List (Str × D)) := by kernel_rfl
@[simp] theorem p3 : putG "rare" c ([("plant", a), ("promise", b)] : List (Str × D)) = ([("plant", a), ("promise", b), ("rare", c)] : List (Str × D)) := by kernel_rfl
@[simp] theorem p4 : putG "word" d ([("plant", a), ("promise", b), ("rare", c)] : List (Str × D)) = ([("plant", a), ("promise", b), ("rare", c), ("word", d)] : List (Str × D)) := by kernel_rfl
@[simp] theorem p5 : putG "rows" e ([("plant", a), ("promise", b), ("rare", c), ("word", d)] : List (Str × D)) = ([("plant", a), ("promise", b), ("rare", c), ("word", d), ("rows", e)] : List (Str × D)) := by kernel_rfl
@[simp] theorem p6 : putG "most" f ([("plant", a), ("promise", b), ("rare", c), ("word", d), ("rows", e)] : List (Str × D)) = ([("plant", a), ("promise", b), ("rare", c), ("word", d), ("rows", e), ("most", f)] : List (Str × D)) := by kernel_rfl
@[simp] theorem p7 : putG "table" g ([("plant", a), ("promise", b), ("rare", c), ("word", d), ("rows", e), ("most", f)] : List (Str × D)) = ([("plant", a), ("promise", b), ("rare", c), ("word", d), ("rows", e), ("most", f), ("table", g)] : List (Str × D)) := by kernel_rfl
@[simp] theorem p8 : putG "seen" h ([("plant", a), ("promise", b), ("rare", c), ("word", d), ("rows", e), ("most", f), ("table", g)] : List (Str × D)) = ([("plant", a), ("promise", b), ("rare", c), ("word", d), ("rows", e), ("most", f), ("table", g), ("seen", h)] : List (Str × D)) := by kernel_rfl
end
theorem put_at {env : List (Option Rz)} {sto : List Box} {f : Str} {v : D} {gs : List (Str × D)} {tl : List Box} (h1 : atB Γ "Game" f = true) (h2 : gs.length < 1000) : mPutF (atB Γ) (.box sto.length) v f ⟨env, sto ++ .ins "Game" gs :: tl⟩ = .ok () ⟨env, sto ++ .ins "Game" (putG f v gs) :: tl⟩ := by
  have e : (sto ++ .ins "Game" gs :: tl)[sto.length]? = some (.ins "Game" gs) := by simp
  rw [putF_box e h1 h2]
  simp
@[simp] theorem toBox_own (b : Box) (env : List (Option Rz)) (sto : List Box) : toBox (.own b) ⟨env, sto⟩ = .ok (.dat (.box sto.length)) ⟨env, sto ++ [b]⟩ := rfl
theorem s_init (pl tb : D) (ps : List D) (sto : List Box) (ht : ∀ s, (clN Γ 60 (n + 2)).fn "tables" [pl] s = .ok (.dat tb) s) : (clN Γ 60 (n + 3)).me "Game" "__init__" [.box sto.length, pl, promD ps, .bl false] (sto ++ [.ins "Game" []]) = .ok (.dat .non) (sto ++ [.ins "Game" (gameF pl (promD ps) tb ps (sto.length + 1)), .dct []]) := by
  rw [q_Game___init__ (n + 2)]
  simp [c_Game___init__, put_at, s_goal_word, s_goal_rows, s_most_done, ht]
  rfl
end Vl.T
set_option Elab.async false
set_option linter.all false
set_option maxRecDepth 100000
set_option maxHeartbeats 2000000
/-! k23: the game's methods -/
namespace Vl.T
open PySem
variable (n : Nat)
def look (V : List Nat) (s : Nat) : List Nat := if s ∈ V then V else V ++ [s]
def heldD (ev : Nat → D → Bool) (ps : List D) (s : Nat) : List D := ps.map fun e => .bl (ev s e)
def truD (ev : Nat → D → Bool) (ps : List D) (s : Nat) : D := .tup [.bl false, .lst [], .lst [.lst (heldD ev ps s)]]
def St (B : List Box) (k : Nat) (ev : Nat → D → Bool) (ps : List D) (V : List Nat) : List Box := B.set (k + 1) (.dct (mp jt (truD ev ps) V))
/-- a game in the store -/
structure GB (B : List Box) (k : Nat) (pl tb : D) (ps : List D) : Prop where
  g : B[k]? = some (.ins "Game" (gameF pl (promD ps) tb ps (k + 1)))
  l : k + 1 < B.length
section
variable {B : List Box} {k : Nat} {pl tb : D} {ps : List D} {ev : Nat → D → Bool} {V : List Nat} {s : Nat}
theorem St_s (h : GB B k pl tb ps) : (St B k ev ps V)[k + 1]? = some (.dct (mp jt (truD ev ps) V)) := by
  unfold St; rw [List.getElem?_set_self h.l]
theorem St_g (h : GB B k pl tb ps) : (St B k ev ps V)[k]? = some (.ins "Game" (gameF pl (promD ps) tb ps (k + 1))) := by
  unfold St; rw [List.getElem?_set_ne (by omega)]; exact h.g
theorem St_f (h : GB B k pl tb ps) {env : List (Option Rz)} {f : Str} : dField ⟨env, St B k ev ps V⟩ (.box k) f = some (("Game" : Str), (gameF pl (promD ps) tb ps (k + 1)).lookup f) := dField_box (St_g h)
theorem St_set {V' : List Nat} : (St B k ev ps V).set (k + 1) (.dct (mp jt (truD ev ps) V')) = St B k ev ps V' := by
  unfold St; rw [List.set_set]
theorem see_nin : dNotIn (.tup [.int s]) (.dct (mp jt (truD ev ps) V)) = some (.dat (.bl (!decide (s ∈ V)))) := mp_nin kf_jt s V
theorem see_get (h : s ∈ V) : dGet (.dct (mp jt (truD ev ps) V)) (.tup [.int s]) = some (truD ev ps s) := mp_get kf_jt s V h
theorem see_put (h : s ∉ V) (hl : V.length < 10000) : putAt (.dct (mp jt (truD ev ps) V)) (.tup [.int s]) (.tup [.bl false, .lst [], .lst [.lst (heldD ev ps s)]]) = some (.dct (mp jt (truD ev ps) (V ++ [s]))) := mp_put kf_jt s V h hl
@[simp] theorem dd_prom (x : S) : derefD x (promD ps) = some (promD ps) := rfl
@[simp] theorem prom_never : dGet (promD ps) (.str "never") = some .non := by kernel_rfl
@[simp] theorem prom_answers : dGet (promD ps) (.str "answers") = some (.lst []) := by kernel_rfl
theorem s_truths (h : GB B k pl tb ps) (hp : ps.length < 100) (hV : V.length < 1000) (he : ∀ e ∈ ps, ∀ sto, (clN Γ 60 (n + 3)).fn "is_true" [pl, .tup [.int s], e] sto = .ok (.dat (.bl (ev s e))) sto) :
    (clN Γ 60 (n + 4)).me "Game" "truths" [.box k, .tup [.int s]] (St B k ev ps V) = .ok (.dat (truD ev ps s)) (St B k ev ps (look V s)) := by
  rw [q_Game_truths (n + 3)]
  by_cases hs : s ∈ V
  · simp [c_Game_truths, St_f h, St_s h, see_nin, hs, see_get hs, look]
  · have h1 : mLc Γ.L [8, 9, 10] (c_Game_truths_i5 (clN Γ 60 (n + 3))) (c_Game_truths_t6 (clN Γ 60 (n + 3))) ⟨[some (.dat (.box k)), some (.dat (.tup [.int s])), some (.dat (.bl false)), none, none, some (.dat pl), some (.dat .non), none, none, none, none], St B k ev ps V⟩ = .ok (.own (.lst [])) ⟨[some (.dat (.box k)), some (.dat (.tup [.int s])), some (.dat (.bl false)), none, none, some (.dat pl), some (.dat .non), none, none, none, none], St B k ev ps V⟩ := by
      refine mLc_mapE [some (.dat (.box k)), some (.dat (.tup [.int s])), some (.dat (.bl false)), none, none, some (.dat pl), some (.dat .non), none, none, none, none] _ _ ([] : List D) id (fun _ => .non) (src := .seq []) rfl rfl (by simp [c_Game_truths_i5, St_f h]) rfl (by simp) rfl fun s hs => nomatch hs
    have h2 : mLc Γ.L [7] (c_Game_truths_i1 (clN Γ 60 (n + 3))) (c_Game_truths_t4 (clN Γ 60 (n + 3))) ⟨[some (.dat (.box k)), some (.dat (.tup [.int s])), some (.dat (.bl false)), some (.own (.lst [])), none, some (.dat pl), some (.dat .non), none, none, none, none], St B k ev ps V⟩ = .ok (.own (.lst ([ps].map fun _ => .lst (heldD ev ps s)))) ⟨[some (.dat (.box k)), some (.dat (.tup [.int s])), some (.dat (.bl false)), some (.own (.lst [])), none, some (.dat pl), some (.dat .non), none, none, none, none], St B k ev ps V⟩ := by
      refine mLc_mapE [some (.dat (.box k)), some (.dat (.tup [.int s])), some (.dat (.bl false)), some (.own (.lst [])), none, some (.dat pl), some (.dat .non), none, none, none, none] _ _ [ps] (fun xs => .lst xs) _ (src := .seq [.lst ps]) rfl rfl (by simp [c_Game_truths_i1, St_f h]) rfl (by simp) rfl fun y hy => ?_
      have hy' : y = ps := by simpa using hy
      subst hy'
      have h3 : mLc Γ.L [8] (c_Game_truths_i2 (clN Γ 60 (n + 3))) (c_Game_truths_t3 (clN Γ 60 (n + 3))) ⟨[some (.dat (.box k)), some (.dat (.tup [.int s])), some (.dat (.bl false)), some (.own (.lst [])), none, some (.dat pl), some (.dat .non), some (.dat (.lst y)), none, none, none], St B k ev y V⟩ = .ok (.own (.lst (y.map fun e => .bl (ev s e)))) ⟨[some (.dat (.box k)), some (.dat (.tup [.int s])), some (.dat (.bl false)), some (.own (.lst [])), none, some (.dat pl), some (.dat .non), some (.dat (.lst y)), none, none, none], St B k ev y V⟩ := by
        refine mLc_mapE [some (.dat (.box k)), some (.dat (.tup [.int s])), some (.dat (.bl false)), some (.own (.lst [])), none, some (.dat pl), some (.dat .non), some (.dat (.lst y)), none, none, none] _ _ y id _ (src := .seq y) rfl rfl (by simp [c_Game_truths_i2]) (by simp [Src.items]) (by omega) rfl fun e hy => ⟨[some (.dat (.box k)), some (.dat (.tup [.int s])), some (.dat (.bl false)), some (.own (.lst [])), none, some (.dat pl), some (.dat .non), some (.dat (.lst y)), some (.dat e), none, none], ?_, rfl⟩
        simp [wipeE, he e hy]
      exact ⟨[some (.dat (.box k)), some (.dat (.tup [.int s])), some (.dat (.bl false)), some (.own (.lst [])), none, some (.dat pl), some (.dat .non), some (.dat (.lst y)), none, none, none], by simp [wipeE, h3, heldD], rfl⟩
    simp [c_Game_truths, St_f h, St_s h, see_nin, hs, h1, h2, see_put hs (show V.length < 10000 by omega), St_set, see_get (show s ∈ V ++ [s] by simp), look]
end
end Vl.T
set_option Elab.async false
set_option linter.all false
set_option maxRecDepth 100000
set_option maxHeartbeats 2000000
/-! k23: the game's methods, 2 -/
namespace Vl.T
open PySem PyProof.Rows
variable (n : Nat)
structure EV (m : Nat) (pl : D) (ps : List D) (ev : Nat → D → Bool) : Prop where
  t : ∀ n s e sto, s < m → e ∈ ps → (clN Γ 60 (n + 3)).fn "is_true" [pl, .tup [.int (s : Nat)], e] sto = .ok (.dat (.bl (ev s e))) sto
  l : ps.length < 100
  sh : SeqAt.shaped (pyD (.lst [.lst ps])) = true
structure VV (m : Nat) (V : List Nat) : Prop where
  nd : V.Nodup
  lt : ∀ x ∈ V, x < m
theorem VV.nil {m : Nat} : VV m [] := ⟨List.nodup_nil, fun _ h => nomatch h⟩
theorem VV.look {m : Nat} {V : List Nat} (h : VV m V) {s : Nat} (hs : s < m) : VV m (look V s) := by
  unfold Vl.T.look
  split
  · exact h
  · rename_i hn
    refine ⟨List.nodup_append.mpr ⟨h.nd, by simp, fun a ha b hb => ?_⟩, fun x hx => ?_⟩
    · have : b = s := by simpa using hb
      subst this
      intro e; exact hn (e ▸ ha)
    · rcases List.mem_append.mp hx with hx | hx
      · exact h.lt x hx
      · have : x = s := by simpa using hx
        omega
theorem nd_len : ∀ (m : Nat) (V : List Nat), V.Nodup → (∀ x ∈ V, x < m) → V.length ≤ m
  | 0, V, _, h => by
    cases V with
    | nil => exact Nat.le_refl _
    | cons a V => exact absurd (h a (.head _)) (Nat.not_lt_zero _)
  | m + 1, V, nd, h => by
    have ih := nd_len m (V.erase m) (nd.erase m) fun x hx => by
      have := (List.Nodup.mem_erase_iff nd).mp hx
      have := h x this.2
      omega
    by_cases e : m ∈ V
    · rw [List.length_erase_of_mem e] at ih; omega
    · rw [List.erase_of_not_mem e] at ih; omega
theorem VV.len {m : Nat} {V : List Nat} (h : VV m V) (h8 : m ≤ 8) : V.length < 1000 := by
  have := nd_len m V h.nd h.lt
  omega
theorem look_look (V : List Nat) (s : Nat) : look (look V s) s = look V s := by
  unfold look
  by_cases h : s ∈ V <;> simp [h]
theorem w1 : decide (("ranked" : Str) = "reach") = false := by decide +kernel
theorem w2 : decide (("ranked" : Str) = "agains") = false := by decide +kernel
theorem w3 : decide (("ranked" : Str) = "given") = false := by decide +kernel
theorem w4 : decide (("ranked" : Str) = "again") = false := by decide +kernel
theorem w5 : decide (("ranked" : Str) = "settle") = false := by decide +kernel
section
variable {B : List Box} {k m : Nat} {pl tb : D} {ps : List D} {ev : Nat → D → Bool} {V : List Nat} {s : Nat}
theorem s_blame (h : GB B k pl tb ps) (E : EV m pl ps ev) (h8 : m ≤ 8) (hV : VV m V) (hs : s < m) (who : Nat) :
    (clN Γ 60 (n + 5)).me "Game" "blame" [.box k, .tup [.int s], .int who, .tup []] (St B k ev ps V) = .ok (.dat .non) (St B k ev ps (look V s)) := by
  rw [q_Game_blame (n + 4)]
  have ht := s_truths n h E.l (hV.len h8) (s := s) (fun e he sto => E.t n s e sto hs he)
  have hf : mFor Γ.L (c_Game_blame_i1 (clN Γ 60 (n + 4))) (fun d => setSlot 7 (.dat d)) (c_Game_blame_b2 (clN Γ 60 (n + 4))) ⟨[some (.dat (.box k)), some (.dat (.tup [.int s])), some (.dat (.int who)), some (.dat (.tup [])), some (.dat (.bl false)), some (.dat (.lst [])), some (.dat (.lst [.lst (heldD ev ps s)])), none], St B k ev ps (look V s)⟩ = .ok .nx ⟨[some (.dat (.box k)), some (.dat (.tup [.int s])), some (.dat (.int who)), some (.dat (.tup [])), some (.dat (.bl false)), some (.dat (.lst [])), some (.dat (.lst [.lst (heldD ev ps s)])), none], St B k ev ps (look V s)⟩ := by
    rw [mFor_ap (xs := []) (src := .rng 0 1 0) (s1 := ⟨[some (.dat (.box k)), some (.dat (.tup [.int s])), some (.dat (.int who)), some (.dat (.tup [])), some (.dat (.bl false)), some (.dat (.lst [])), some (.dat (.lst [.lst (heldD ev ps s)])), none], St B k ev ps (look V s)⟩) (by simp [c_Game_blame_i1]; rfl) rfl]
    rfl
  simp [c_Game_blame, St_f h, meth2_s (mt1 _), ht, truD]
  by_cases hw : who = 0
  · rw [if_pos hw, hf]; rfl
  · rw [if_neg hw]; rfl
theorem s_further (h : GB B k pl tb ps) (g : D) : (clN Γ 60 (n + 1)).me "Game" "further" [.box k, g, .int 0] (St B k ev ps V) = .ok (.dat (.int 0)) (St B k ev ps V) := by
  rw [q_Game_further n]
  simp [c_Game_further, St_f h, w1, w2, w3]
theorem s_enter (h : GB B k pl tb ps) (E : EV m pl ps ev) (h8 : m ≤ 8) (hV : VV m V) (hs : s < m) (who : Nat) :
    (clN Γ 60 (n + 6)).me "Game" "enter" [.box k, .tup [.int s], .int who, .tup [], .int 0] (St B k ev ps V) = .ok (.dat (pl0 (s, who))) (St B k ev ps (look V s)) := by
  rw [q_Game_enter (n + 5)]
  have hb := s_blame n h E h8 hV hs who
  have ht := s_truths (n + 1) h E.l ((hV.look hs).len h8) (s := s) (fun e he sto => E.t (n + 1) s e sto hs he)
  rw [look_look] at ht
  simp [c_Game_enter, St_f h, meth2_s (mt2 _), meth2_s (mt1 _), meth2_s (mt3 _), hb, ht, truD, s_further _ h, pl0, jt]
end
end Vl.T
set_option Elab.async false
set_option linter.all false
set_option maxRecDepth 100000
set_option maxHeartbeats 2000000
/-! k23: first, leads, rank_of -/
namespace Vl.T
open PySem
variable (n : Nat)
@[simp] theorem dd_plant (x : S) (m : Nat) (both w1 : Bool) (g t : Int) : derefD x (plantD m both w1 g t) = some (plantD m both w1 g t) := rfl
@[simp] theorem plant_letters (m : Nat) (both w1 : Bool) (g t : Int) : dGet (plantD m both w1 g t) (.str "letters") = some (lettersD both g t) := by kernel_rfl
@[simp] theorem dd_letters (x : S) (both : Bool) (g t : Int) : derefD x (lettersD both g t) = some (lettersD both g t) := rfl
@[simp] theorem letters_0 (both : Bool) (g t : Int) : dGet (lettersD both g t) (.int 0) = some (letO g t) := by cases both <;> rfl
@[simp] theorem dd_letO (x : S) (g t : Int) : derefD x (letO g t) = some (letO g t) := rfl
@[simp] theorem letO_sl (g t : Int) : dSlice (letO g t) (some 2) none = some (.dat (.tup [.int g, .int t])) := by kernel_rfl
theorem zeros : dMul (.tup [.int 0]) (.int 0) = some (.dat (.tup [])) := by kernel_rfl
theorem s_step_w (m : Nat) (tb : D) (j : D) (sto : List Box) : (clN Γ 60 (n + 1)).fn "step_in" [tb, j, .int (-1)] sto = .ok (.dat j) sto := by
  rw [q_step_in n]
  simp [c_step_in]
/-- the place behind a place -/
def nxt (m : Nat) (p : Nat × Nat) : Nat × Nat := (if p.2 = 0 then (p.1 + 1) % m else p.1, 1 - p.2)
def leadD (m : Nat) (g t : Int) (p : Nat × Nat) : D := if p.2 = 0 then .tup [.int 0, pl0 (nxt m p), .int g, .int t] else .tup [.int (-1), pl0 (nxt m p), .int 0, .int 0]
def dnl : Nat → List D
  | 0 => []
  | j + 1 => .int j :: dnl j
theorem dnl_eq : ∀ (j : Nat) (lo : Int), lo + 1 = j → ((List.range j).map fun (i : Nat) => D.int (lo + (i : Nat) * (-1))) = dnl j
  | 0, _, _ => rfl
  | j + 1, lo, h => by
    rw [List.range_succ_eq_map, List.map_cons, List.map_map]
    unfold dnl
    rw [← dnl_eq j (lo - 1) (by omega)]
    congr 1
    · congr 1; omega
    · apply List.map_congr_left; intro i hi
      show D.int (lo + ((i + 1 : Nat) : Int) * (-1)) = _
      congr 1; omega
theorem rng_dn {j : Nat} (h : j < 1000) : rngOf [.int ((j : Nat) - 1 : Int), .int (-1), .int (-1)] = some (.rng ((j : Nat) - 1 : Int) (-1) j) := by
  unfold rngOf
  simp only []
  rw [if_pos trivial, if_pos ⟨by omega, by omega⟩]
  congr 2; omega
theorem items_dn (j : Nat) : (Src.rng ((j : Nat) - 1 : Int) (-1) j).items = some (dnl j) := by
  show some ((List.range j).map fun (i : Nat) => D.int (((j : Nat) - 1 : Int) + (i : Nat) * (-1))) = _
  rw [dnl_eq j _ (by omega)]
/-- the highest true one, plus 1 -/
def topB (f : Nat → Bool) : Nat → Nat
  | 0 => 0
  | j + 1 => if f j = true then j + 1 else topB f j
def rnk (ev : Nat → D → Bool) (ps : List D) (s : Nat) : Nat := topB (fun i => ((ps[i]?).map (ev s)).getD false) ps.length
section
variable {B : List Box} {k m : Nat} {both w1 : Bool} {g t : Int} {ps : List D} {ev : Nat → D → Bool} {V : List Nat} {s : Nat}
theorem s_first (h : GB B k (plantD m both w1 g t) (tableD m both) ps) (E : EV m (plantD m both w1 g t) ps ev) (h1 : 1 ≤ m) (h8 : m ≤ 8) (hV : VV m V) :
    (clN Γ 60 (n + 7)).me "Game" "first" [.box k] (St B k ev ps V) = .ok (.dat (pl0 (0, 0))) (St B k ev ps (look V 0)) := by
  rw [q_Game_first (n + 6)]
  have he := s_enter n h E h8 hV (s := 0) h1 0
  simp at he
  simp [c_Game_first, St_f h, meth2_s (mt4 _), s_first_joint, zeros, he]
theorem s_moves_at (h : GB B k (plantD m both w1 g t) (tableD m both) ps) (h1 : 1 ≤ m) (h8 : m ≤ 8) (hs : s < m) {who : Nat} (hw : who < 2) :
    (clN Γ 60 (n + 4)).me "Game" "moves_at" [.box k, .tup [.int s], .int who] (St B k ev ps V) = .ok (.own (.lst (movesD who))) (St B k ev ps V) := by
  rw [q_Game_moves_at (n + 3)]
  simp [c_Game_moves_at, St_f h, s_moves n _ both w1 g t h1 h8 hs hw]
theorem s_leads (h : GB B k (plantD m both w1 g t) (tableD m both) ps) (E : EV m (plantD m both w1 g t) ps ev) (h1 : 1 ≤ m) (h8 : m ≤ 8) (hV : VV m V) (hs : s < m) {who : Nat} (hw : who < 2) :
    (clN Γ 60 (n + 7)).me "Game" "leads" [.box k, pl0 (s, who)] (St B k ev ps V) = .ok (.own (.lst [leadD m g t (s, who)])) (St B k ev ps (look V (nxt m (s, who)).1)) := by
  rw [q_Game_leads (n + 6)]
  have hm := s_moves_at (n + 2) h (ev := ev) (V := V) h1 h8 hs hw
  rcases (show who = 0 ∨ who = 1 by omega) with rfl | rfl
  · have hn : (s + 1) % m < m := Nat.mod_lt _ (by omega)
    have he := s_enter n h E h8 hV hn 1
    have hst : ∀ sto, (clN Γ 60 (n + 6)).fn "step_in" [tableD m both, .tup [.int s], .int 0] sto = _ := fun sto => s_step (n + 5) sto both h1 h8 hs
    simp at he hst hm
    have hf : mFor Γ.L (c_Game_leads_i1 (clN Γ 60 (n + 6))) (fun d => setSlot 3 (.dat d)) (c_Game_leads_b2 (clN Γ 60 (n + 6))) ⟨[some (.dat (.box k)), some (.dat (pl0 (s, 0))), some (.own (.lst [])), none, some (.dat (.tup [.int s])), some (.dat (.int 0)), some (.dat (.tup [])), some (.dat (.int 0)), none, none], St B k ev ps V⟩ = .ok .nx ⟨[some (.dat (.box k)), some (.dat (pl0 (s, 0))), some (.own (.lst [leadD m g t (s, 0)])), some (.dat (.int 0)), some (.dat (.tup [.int s])), some (.dat (.int 0)), some (.dat (.tup [])), some (.dat (.int 0)), some (.dat (.int g)), some (.dat (.int t))], St B k ev ps (look V ((s + 1) % m))⟩ := by
      rw [mFor_ap (xs := movesD 0) (src := .seq (movesD 0)) (s1 := ⟨[some (.dat (.box k)), some (.dat (pl0 (s, 0))), some (.own (.lst [])), none, some (.dat (.tup [.int s])), some (.dat (.int 0)), some (.dat (.tup [])), some (.dat (.int 0)), none, none], St B k ev ps V⟩) (by simp [c_Game_leads_i1, St_f h, meth2_s (mt6 _), hm]) rfl]
      simp [movesD, eachF, c_Game_leads_b2, St_f h, meth2_s (mt4 _), hst, he, gAppend_ok, sizeLine_eq, leadD, nxt]
    simp [c_Game_leads, hf, pl0, jt]
    simp [pl0, jt] at hf
    simp [hf, nxt]
  · have he := s_enter n h E h8 hV hs 0
    simp at he hm
    have hf : mFor Γ.L (c_Game_leads_i1 (clN Γ 60 (n + 6))) (fun d => setSlot 3 (.dat d)) (c_Game_leads_b2 (clN Γ 60 (n + 6))) ⟨[some (.dat (.box k)), some (.dat (pl0 (s, 1))), some (.own (.lst [])), none, some (.dat (.tup [.int s])), some (.dat (.int 1)), some (.dat (.tup [])), some (.dat (.int 0)), none, none], St B k ev ps V⟩ = .ok .nx ⟨[some (.dat (.box k)), some (.dat (pl0 (s, 1))), some (.own (.lst [leadD m g t (s, 1)])), some (.dat (.int (-1))), some (.dat (.tup [.int s])), some (.dat (.int 1)), some (.dat (.tup [])), some (.dat (.int 0)), some (.dat (.int 0)), some (.dat (.int 0))], St B k ev ps (look V s)⟩ := by
      rw [mFor_ap (xs := movesD 1) (src := .seq (movesD 1)) (s1 := ⟨[some (.dat (.box k)), some (.dat (pl0 (s, 1))), some (.own (.lst [])), none, some (.dat (.tup [.int s])), some (.dat (.int 1)), some (.dat (.tup [])), some (.dat (.int 0)), none, none], St B k ev ps V⟩) (by simp [c_Game_leads_i1, St_f h, meth2_s (mt6 _), hm]) rfl]
      simp [movesD, eachF, c_Game_leads_b2, St_f h, meth2_s (mt4 _), s_step_w _ m, he, gAppend_ok, sizeLine_eq, leadD, nxt]
    simp [c_Game_leads, hf, pl0, jt]
    simp [pl0, jt] at hf
    simp [hf, nxt]
end
end Vl.T
set_option Elab.async false
set_option linter.all false
set_option maxRecDepth 100000
set_option maxHeartbeats 2000000
/-! k23: rank_of -/
namespace Vl.T
open PySem
variable (n : Nat)
theorem rk_in : dIn (.str "ranked") (.tup [.str "reach", .str "agains"]) = some (.dat (.bl false)) := by kernel_rfl
theorem rk_eq {ps : List D} (h : SeqAt.shaped (pyD (.lst [.lst ps])) = true) : dEq (.lst [.lst ps]) (.lst []) = some (.dat (.bl false)) := by
  show blR (if SeqAt.shaped (pyD (.lst [.lst ps])) = true ∧ SeqAt.shaped (pyD (.lst [])) = true then some (PyData.eqv (pyD (.lst [.lst ps])) (pyD (.lst []))) else none) = _
  rw [if_pos ⟨h, by decide +kernel⟩]
  rfl
section
variable {B : List Box} {k m : Nat} {both w1 : Bool} {g t : Int} {ps : List D} {ev : Nat → D → Bool} {V : List Nat} {s : Nat} {pl tb : D}
theorem s_rk_loop (sf pc : Option Rz) (cl : Cl) (sto : List Box) : ∀ (j : Nat) (x : Option Rz), j ≤ ps.length → ∃ y, eachF (fun d => setSlot 3 (.dat d)) (c_Game_rank_of_b2 cl) (dnl j) ⟨[sf, pc, some (.dat (.lst (heldD ev ps s))), x, none], sto⟩ = .ok (if topB (fun i => ((ps[i]?).map (ev s)).getD false) j = 0 then .nx else .rt (.dat (.int (topB (fun i => ((ps[i]?).map (ev s)).getD false) j : Nat)))) ⟨[sf, pc, some (.dat (.lst (heldD ev ps s))), y, none], sto⟩
  | 0, x, _ => ⟨x, rfl⟩
  | j + 1, x, h => by
    obtain ⟨y, e⟩ := s_rk_loop sf pc cl sto j (some (.dat (.int j))) (by omega)
    have hj : ps[j]? = some ps[j] := List.getElem?_eq_getElem (by omega)
    have hg : (heldD ev ps s)[j]? = some (.bl (ev s ps[j])) := by unfold heldD; rw [List.getElem?_map, hj]; rfl
    unfold dnl eachF topB
    cases hb : ev s ps[j] with
    | true =>
      refine ⟨some (.dat (.int j)), ?_⟩
      rw [hb] at hg
      simp [c_Game_rank_of_b2, atI_nn, hg, hj, hb]
    | false =>
      refine ⟨y, ?_⟩
      rw [hb] at hg
      simp [c_Game_rank_of_b2, atI_nn, hg, hj, hb]
      exact e
theorem s_rank_of (h : GB B k pl tb ps) (E : EV m pl ps ev) (h8 : m ≤ 8) (hV : VV m V) (hs : s < m) (who : Nat) :
    (clN Γ 60 (n + 5)).me "Game" "rank_of" [.box k, pl0 (s, who)] (St B k ev ps V) = .ok (.dat (.int (rnk ev ps s : Nat))) (St B k ev ps (look V s)) := by
  rw [q_Game_rank_of (n + 4)]
  have ht := s_truths n h E.l (hV.len h8) (s := s) (fun e he sto => E.t n s e sto hs he)
  obtain ⟨y, e⟩ := s_rk_loop (ev := ev) (s := s) (ps := ps) (some (.dat (.box k))) (some (.dat (.tup [.tup [.int s], .int who, .tup [], .int 0]))) (clN Γ 60 (n + 4)) (St B k ev ps (look V s)) ps.length none (Nat.le_refl _)
  have hf : mFor Γ.L (c_Game_rank_of_i1 (clN Γ 60 (n + 4))) (fun d => setSlot 3 (.dat d)) (c_Game_rank_of_b2 (clN Γ 60 (n + 4))) ⟨[some (.dat (.box k)), some (.dat (.tup [.tup [.int s], .int who, .tup [], .int 0])), some (.dat (.lst (heldD ev ps s))), none, none], St B k ev ps (look V s)⟩ = .ok (if rnk ev ps s = 0 then .nx else .rt (.dat (.int (rnk ev ps s : Nat)))) ⟨[some (.dat (.box k)), some (.dat (.tup [.tup [.int s], .int who, .tup [], .int 0])), some (.dat (.lst (heldD ev ps s))), y, none], St B k ev ps (look V s)⟩ := by
    rw [mFor_ap (xs := dnl ps.length) (src := .rng ((ps.length : Nat) - 1 : Int) (-1) ps.length) (s1 := ⟨[some (.dat (.box k)), some (.dat (.tup [.tup [.int s], .int who, .tup [], .int 0])), some (.dat (.lst (heldD ev ps s))), none, none], St B k ev ps (look V s)⟩) (by
      have hl : (heldD ev ps s).length = ps.length := List.length_map ..
      have := E.l
      simp [c_Game_rank_of_i1, hl, rng_dn (show ps.length < 1000 by omega)]) (items_dn _)]
    exact e
  unfold pl0 jt
  simp [c_Game_rank_of, St_f h, meth2_s (mt1 _), ht, truD, rk_in, rk_eq E.sh, w3, w4, w5, hf]
  by_cases hz : rnk ev ps s = 0
  · rw [if_pos hz, hz]; rfl
  · rw [if_neg hz]; rfl
end
end Vl.T
set_option Elab.async false
set_option linter.all false
set_option maxRecDepth 100000
set_option maxHeartbeats 2000000
/-! k23: places and lists -/
namespace Vl.T
open PySem
variable (n : Nat)
@[simp] theorem dd_mach (x : S) (m : Nat) (both : Bool) : derefD x (machD m both) = some (machD m both) := rfl
@[simp] theorem plant_machines (m : Nat) (both w1 : Bool) (g t : Int) : dGet (plantD m both w1 g t) (.str "machines") = some (.lst [machD m both]) := by kernel_rfl
@[simp] theorem mach_0 (m : Nat) (both : Bool) : dGet (machD m both) (.int 0) = some (.int m) := by kernel_rfl
theorem s_is_int_non (sto : List Box) : (clN Γ 60 (n + 1)).fn "is_integer" [.non] sto = .ok (.dat (.bl false)) sto := by kernel_rfl
section
variable {m : Nat} (both w1 : Bool) (g t : Int) (sto : List Box) {s : Nat}
theorem s_is_state (hs : s < m) : (clN Γ 60 (n + 3)).fn "is_state" [.lst [machD m both], .int 0, .int s] sto = .ok (.dat (.bl true)) sto := by
  rw [q_is_state (n + 2)]
  simp [c_is_state, s_is_between]
  omega
theorem s_is_joint (hs : s < m) : (clN Γ 60 (n + 4)).fn "is_joint" [plantD m both w1 g t, .tup [.int s]] sto = .ok (.dat (.bl true)) sto := by
  rw [q_is_joint (n + 3)]
  have hl : mLc Γ.L [3] (c_is_joint_i1 (clN Γ 60 (n + 3))) (c_is_joint_t2 (clN Γ 60 (n + 3))) ⟨[some (.dat (plantD m both w1 g t)), some (.dat (.tup [.int s])), some (.dat (.lst [machD m both])), none], sto⟩ = .ok (.own (.lst ([0].map fun _ => .bl true))) ⟨[some (.dat (plantD m both w1 g t)), some (.dat (.tup [.int s])), some (.dat (.lst [machD m both])), none], sto⟩ := by
    refine mLc_mapE [some (.dat (plantD m both w1 g t)), some (.dat (.tup [.int s])), some (.dat (.lst [machD m both])), none] _ _ [0] (fun (i : Nat) => .int i) (fun _ => .bl true) (src := .rng 0 1 1) rfl rfl (by simp [c_is_joint_i1]; rfl) rfl (by simp) rfl fun y hy => ⟨[some (.dat (plantD m both w1 g t)), some (.dat (.tup [.int s])), some (.dat (.lst [machD m both])), some (.dat (.int y))], ?_, rfl⟩
    have : y = 0 := by simpa using hy
    subst this
    simp [wipeE, s_is_state _ both sto hs]
  simp [c_is_joint, hl]
  rfl
theorem s_is_place (ps : List D) (hs : s < m) {who : Nat} (hw : who < 2) : (clN Γ 60 (n + 5)).fn "is_place" [plantD m both w1 g t, promD ps, pl0 (s, who)] sto = .ok (.dat (.bl true)) sto := by
  rw [q_is_place (n + 4)]
  have hl : mLc Γ.L [5] (c_is_place_i1 (clN Γ 60 (n + 4))) (c_is_place_t2 (clN Γ 60 (n + 4))) ⟨[some (.dat (plantD m both w1 g t)), some (.dat (promD ps)), some (.dat (.tup [.tup [.int s], .int who, .tup [], .int 0])), some (.dat (.tup [])), some (.dat (.lst [])), none], sto⟩ = .ok (.own (.lst [])) ⟨[some (.dat (plantD m both w1 g t)), some (.dat (promD ps)), some (.dat (.tup [.tup [.int s], .int who, .tup [], .int 0])), some (.dat (.tup [])), some (.dat (.lst [])), none], sto⟩ :=
    mLc_mapE [some (.dat (plantD m both w1 g t)), some (.dat (promD ps)), some (.dat (.tup [.tup [.int s], .int who, .tup [], .int 0])), some (.dat (.tup [])), some (.dat (.lst [])), none] _ _ ([] : List D) id (fun _ => .non) (src := .rng 0 1 0) rfl rfl (by simp [c_is_place_i1]; rfl) rfl (by simp) rfl fun y hy => nomatch hy
  have hb : (clN Γ 60 (n + 4)).fn "is_between" [.int who, .int 0, .int 1] sto = .ok (.dat (.bl true)) sto := by
    rw [s_is_between (n + 2)]
    congr 3
    simp; omega
  have hc : (clN Γ 60 (n + 4)).fn "is_between" [.int 0, .int 0, .int 0] sto = .ok (.dat (.bl true)) sto := by
    rw [s_is_between (n + 2)]; rfl
  have hg : gAll [.lst []] = some (.dat (.bl true)) := rfl
  unfold pl0 jt
  simp [c_is_place, s_is_joint _ both w1 g t sto hs, hb, hc, hl, hg, s_most_done]
theorem mv1 : dIn (.int 0) (.lst [.int 0]) = some (.dat (.bl true)) := by kernel_rfl
theorem mv2 : dIn (.int (-1)) (.lst [.int (-1)]) = some (.dat (.bl true)) := by kernel_rfl
theorem mv_in {who : Nat} (hw : who < 2) : dIn (if who = 0 then .int 0 else .int (-1)) (.lst (movesD who)) = some (.dat (.bl true)) := by
  rcases (show who = 0 ∨ who = 1 by omega) with rfl | rfl
  · exact mv1
  · exact mv2
/-- the move that an entry of a side's paper holds -/
def mvD (side who : Nat) : D := if who = side then (if who = 0 then .int 0 else .int (-1)) else .non
theorem s_is_int_mv (who : Nat) : (clN Γ 60 (n + 1)).fn "is_integer" [if who = 0 then .int 0 else .int (-1)] sto = .ok (.dat (.bl true)) sto := by
  split <;> exact s_is_integer n sto _
@[simp] theorem dd_mv (x : S) (who : Nat) : derefD x (if who = 0 then .int 0 else .int (-1)) = some (if who = 0 then .int 0 else .int (-1)) := by
  split <;> rfl
theorem is_mv (who : Nat) : dIs (if who = 0 then .int 0 else .int (-1)) .non = some (.dat (.bl false)) := by
  split <;> rfl
theorem s_is_move (h1 : 1 ≤ m) (h8 : m ≤ 8) (hs : s < m) {who : Nat} (hw : who < 2) {side : Nat} (hd : side < 2) {ask : Nat} (ha : ask < 2) : (clN Γ 60 (n + 4)).fn "is_move" [plantD m both w1 g t, tableD m both, pl0 (s, who), .int ask, mvD side who] sto = .ok (.dat (.bl (decide (ask = side)))) sto := by
  rw [q_is_move (n + 3)]
  unfold pl0 jt mvD
  by_cases e1 : who = ask
  · subst e1
    have hm := s_moves n sto both w1 g t h1 h8 hs hw
    by_cases e2 : who = side
    · rw [if_pos e2]
      have : decide (who = side) = true := decide_eq_true e2
      simp [c_is_move, s_is_int_mv, hm, mv_in hw, this]
    · rw [if_neg e2]
      simp [c_is_move, s_is_int_non, e2]
  · have e3 : ¬ ((who : Int) = ask) := by omega
    by_cases e2 : who = side
    · rw [if_pos e2]
      have : ¬ ask = side := by omega
      simp [c_is_move, e3, is_mv, this]
    · rw [if_neg e2]
      have : ask = side := by omega
      rw [decide_eq_true this]
      simp [c_is_move, e3]
end
end Vl.T
set_option Elab.async false
set_option linter.all false
set_option maxRecDepth 100000
set_option maxHeartbeats 2000000
/-! k23: measures, lists -/
namespace Vl.T
open PySem
variable (n : Nat)
def msD (t : Int × Int × Int) : D := .tup [.int t.1, .int t.2.1, .int t.2.2]
def msL (t : Int × Int × Int) : List Int := [t.1, t.2.1, t.2.2]
def kN (side r : Nat) : Nat := [5 - side, 3 - side, 1 - side].countP fun p => decide (r ≤ p)
/-- one is ahead of other, at a rank -/
def aheadB (side r : Nat) (x y : Int × Int × Int) : Bool := lexB (!decide (r % 2 = side)) ((msL y).take (kN side r)) ((msL x).take (kN side r))
theorem r6 {r : Nat} (h : r < 6) : r = 0 ∨ r = 1 ∨ r = 2 ∨ r = 3 ∨ r = 4 ∨ r = 5 := by omega
theorem s_fits (sto : List Box) {side r : Nat} (hs : side < 2) (hr : r < 6) (x y : Int × Int × Int) : (clN Γ 60 (n + 1)).fn "fits" [.int side, .int r, msD x, msD y] sto = .ok (.dat (.bl (aheadB side r x y))) sto := by
  rcases (show side = 0 ∨ side = 1 by omega) with rfl | rfl <;> rcases r6 hr with rfl | rfl | rfl | rfl | rfl | rfl <;> kernel_rfl
theorem s_law_ahead (sto : List Box) {side r : Nat} (hs : side < 2) (hr : r < 6) (x y : Int × Int × Int) : (clN Γ 60 (n + 1)).fn "_law_ahead" [.int side, .int r, msD x, msD y] sto = .ok (.dat (.bl (aheadB side r x y))) sto := by
  rcases (show side = 0 ∨ side = 1 by omega) with rfl | rfl <;> rcases r6 hr with rfl | rfl | rfl | rfl | rfl | rfl <;> kernel_rfl
theorem s_is_measure (sto : List Box) (x : Int × Int × Int) (h : 0 ≤ x.1 ∧ 0 ≤ x.2.1 ∧ 0 ≤ x.2.2) : (clN Γ 60 (n + 2)).fn "is_measure" [msD x] sto = .ok (.dat (.bl true)) sto := by
  rw [q_is_measure (n + 1)]
  have hl : mLc Γ.L [1] (c_is_measure_i1 (clN Γ 60 (n + 1))) (c_is_measure_t2 (clN Γ 60 (n + 1))) ⟨[some (.dat (.tup [.int x.1, .int x.2.1, .int x.2.2])), none], sto⟩ = .ok (.own (.lst ([x.1, x.2.1, x.2.2].map fun i => .bl (decide (0 ≤ i))))) ⟨[some (.dat (.tup [.int x.1, .int x.2.1, .int x.2.2])), none], sto⟩ := by
    refine mLc_mapE [some (.dat (.tup [.int x.1, .int x.2.1, .int x.2.2])), none] _ _ [x.1, x.2.1, x.2.2] D.int (fun i => .bl (decide (0 ≤ i))) (src := .seq [.int x.1, .int x.2.1, .int x.2.2]) rfl rfl (by simp [c_is_measure_i1]) rfl (by simp) rfl fun y hy => ⟨[some (.dat (.tup [.int x.1, .int x.2.1, .int x.2.2])), some (.dat (.int y))], ?_, rfl⟩
    simp [wipeE]
  have hg : gAll [.lst [.bl true, .bl true, .bl true]] = some (.dat (.bl true)) := rfl
  simp [h.1, h.2.1, h.2.2] at hl
  unfold msD
  simp [c_is_measure, hl, hg]
section
variable {B : List Box} {k m : Nat} {both w1 : Bool} {g t : Int} {ps : List D} {ev : Nat → D → Bool} {V : List Nat} {s : Nat}
theorem s_counting (h : GB B k (plantD m both w1 g t) (tableD m both) ps) (E : EV m (plantD m both w1 g t) ps ev) (h1 : 1 ≤ m) (h8 : m ≤ 8) (hV : VV m V) (hs : s < m) {who : Nat} (hw : who < 2) {side : Nat} (hd : side < 2) :
    (clN Γ 60 (n + 8)).fn "counting" [.box k, pl0 (s, who), mvD side who] (St B k ev ps V) = .ok (.own (.lst [leadD m g t (s, who)])) (St B k ev ps (look V (nxt m (s, who)).1)) := by
  rw [q_counting (n + 7)]
  have hl := s_leads n h E h1 h8 hV hs hw
  by_cases e : who = side
  · subst e
    have e1 : mvD who who = if who = 0 then .int 0 else .int (-1) := if_pos rfl
    rw [e1]
    have hc : mLc Γ.L [4] (c_counting_i1 (clN Γ 60 (n + 7))) (c_counting_t2 (clN Γ 60 (n + 7))) ⟨[some (.dat (.box k)), some (.dat (pl0 (s, who))), some (.dat (if who = 0 then .int 0 else .int (-1))), some (.own (.lst [leadD m g t (s, who)])), none], St B k ev ps (look V (nxt m (s, who)).1)⟩ = .ok (.own (.lst ([leadD m g t (s, who)].filterMap fun d => some d))) ⟨[some (.dat (.box k)), some (.dat (pl0 (s, who))), some (.dat (if who = 0 then .int 0 else .int (-1))), some (.dat (.lst [leadD m g t (s, who)])), none], St B k ev ps (look V (nxt m (s, who)).1)⟩ := by
      refine mLc_mE [some (.dat (.box k)), some (.dat (pl0 (s, who))), some (.dat (if who = 0 then .int 0 else .int (-1))), some (.dat (.lst [leadD m g t (s, who)])), none] _ _ [leadD m g t (s, who)] id (fun d => some d) (src := .seq [leadD m g t (s, who)]) rfl rfl (by simp [c_counting_i1]) rfl (by simp) rfl fun y hy => ⟨[some (.dat (.box k)), some (.dat (pl0 (s, who))), some (.dat (if who = 0 then .int 0 else .int (-1))), some (.dat (.lst [leadD m g t (s, who)])), some (.dat y)], ?_, rfl⟩
      have : y = leadD m g t (s, who) := by simpa using hy
      subst this
      rcases (show who = 0 ∨ who = 1 by omega) with rfl | rfl <;> simp [wipeE, leadD]
    simp [c_counting, St_f h, hl, hc, is_mv, meth2_s (mt7 _)]
  · have e1 : mvD side who = .non := if_neg e
    rw [e1]
    simp [c_counting, St_f h, hl, meth2_s (mt7 _)]
end
end Vl.T
set_option Elab.async false
set_option linter.all false
set_option maxRecDepth 100000
set_option maxHeartbeats 4000000
/-! k23: read_list -/
namespace Vl.T
open PySem
variable (n : Nat)
def entD (side : Nat) (c : Nat × Nat → Int × Int × Int) (p : Nat × Nat) : D := .tup [pl0 p, mvD side p.2, msD (c p)]
def rowD (side : Nat) (c : Nat × Nat → Int × Int × Int) (p : Nat × Nat) : D := .tup [mvD side p.2, msD (c p)]
@[simp] theorem dd_pl0 (x : S) (p : Nat × Nat) : derefD x (pl0 p) = some (pl0 p) := rfl
@[simp] theorem dd_ms (x : S) (p : Int × Int × Int) : derefD x (msD p) = some (msD p) := rfl
@[simp] theorem dd_mvD (x : S) (side who : Nat) : derefD x (mvD side who) = some (mvD side who) := by
  unfold mvD; split
  · exact dd_mv x who
  · rfl
@[simp] theorem sl3 (a b c : D) : dSlice (.tup [a, b, c]) (some 1) none = some (.dat (.tup [b, c])) := by kernel_rfl
theorem pl_in {f : Nat × Nat → D} (p : Nat × Nat) (V : List (Nat × Nat)) : dIn (pl0 p) (.dct (mp pl0 f V)) = some (.dat (.bl (decide (p ∈ V)))) := (mp_in kf_pl0 p V).trans (by congr)
theorem pl_nin {f : Nat × Nat → D} (p : Nat × Nat) (V : List (Nat × Nat)) : dNotIn (pl0 p) (.dct (mp pl0 f V)) = some (.dat (.bl (!decide (p ∈ V)))) := (mp_nin kf_pl0 p V).trans (by congr)
theorem pl_get {f : Nat × Nat → D} {p : Nat × Nat} {V : List (Nat × Nat)} (h : p ∈ V) : dGet (.dct (mp pl0 f V)) (pl0 p) = some (f p) := mp_get kf_pl0 p V h
theorem pl_put {side : Nat} {c : Nat × Nat → Int × Int × Int} {p : Nat × Nat} {V : List (Nat × Nat)} (h : p ∉ V) (hl : V.length < 10000) : putAt (.dct (mp pl0 (rowD side c) V)) (pl0 p) (.tup [mvD side p.2, msD (c p)]) = some (.dct (mp pl0 (rowD side c) (V ++ [p]))) := mp_put kf_pl0 p V h hl
/-- the places of a paper -/
structure QS (m : Nat) (qs : List (Nat × Nat)) : Prop where
  nd : qs.Nodup
  lt : ∀ p ∈ qs, p.1 < m ∧ p.2 < 2
  ln : qs.length < 1000
section
variable {m : Nat} {both w1 : Bool} {g t : Int} {ps : List D} {side : Nat} {c : Nat × Nat → Int × Int × Int} {sto : List Box}
theorem s_rl_loop (h1 : 1 ≤ m) (h8 : m ≤ 8) (hd : side < 2) (val : Option Rz) : ∀ (rest done : List (Nat × Nat)) (x : Option Rz), QS m (done ++ rest) → ∃ y, eachF (fun d => setSlot 7 (.dat d)) (c_read_list_b2 (clN Γ 60 (n + 5))) (rest.map (entD side c)) ⟨[some (.dat (plantD m both w1 g t)), some (.dat (promD ps)), some (.dat (.int side)), val, some (.dat (.int 3)), some (.dat (tableD m both)), some (.own (.dct (mp pl0 (rowD side c) done))), x], sto⟩ = .ok .nx ⟨[some (.dat (plantD m both w1 g t)), some (.dat (promD ps)), some (.dat (.int side)), val, some (.dat (.int 3)), some (.dat (tableD m both)), some (.own (.dct (mp pl0 (rowD side c) (done ++ rest)))), y], sto⟩
  | [], done, x, _ => ⟨x, by simp [eachF]⟩
  | p :: rest, done, x, hq => by
    obtain ⟨y, e⟩ := s_rl_loop h1 h8 hd val rest (done ++ [p]) (some (.dat (entD side c p))) (by simpa using hq)
    refine ⟨y, ?_⟩
    have hp := hq.lt p (by simp)
    have hn : p ∉ done := fun hm => by
      have := (List.nodup_append.mp hq.nd).2.2 p hm p (.head _)
      exact this rfl
    have hl : done.length < 10000 := by have := hq.ln; simp at this; omega
    have i1 := s_is_place n both w1 g t sto ps hp.1 hp.2
    have i2 := s_is_move (n + 1) both w1 g t sto h1 h8 hp.1 hp.2 hd hd
    simp at i2
    rw [show done ++ p :: rest = done ++ [p] ++ rest by simp]
    exact eachF_nx rfl e (by simp [c_read_list_b2, entD, i1, i2, pl_in, hn, pl_put hn hl])
theorem s_read_list (h1 : 1 ≤ m) (h8 : m ≤ 8) (hd : side < 2) {qs : List (Nat × Nat)} (hq : QS m qs) : (clN Γ 60 (n + 6)).fn "read_list" [plantD m both w1 g t, promD ps, .int side, .lst (qs.map (entD side c)), .int 3] sto = .ok (.own (.dct (mp pl0 (rowD side c) qs))) sto := by
  rw [q_read_list (n + 5)]
  obtain ⟨y, e⟩ := s_rl_loop n (both := both) (w1 := w1) (g := g) (t := t) (ps := ps) (c := c) (sto := sto) h1 h8 hd (some (.dat (.lst (qs.map (entD side c))))) qs [] none hq
  have hf : mFor Γ.L (c_read_list_i1 (clN Γ 60 (n + 5))) (fun d => setSlot 7 (.dat d)) (c_read_list_b2 (clN Γ 60 (n + 5))) ⟨[some (.dat (plantD m both w1 g t)), some (.dat (promD ps)), some (.dat (.int side)), some (.dat (.lst (qs.map (entD side c)))), some (.dat (.int 3)), some (.dat (tableD m both)), some (.own (.dct [])), none], sto⟩ = .ok .nx ⟨[some (.dat (plantD m both w1 g t)), some (.dat (promD ps)), some (.dat (.int side)), some (.dat (.lst (qs.map (entD side c)))), some (.dat (.int 3)), some (.dat (tableD m both)), some (.own (.dct (mp pl0 (rowD side c) qs))), y], sto⟩ := by
    rw [mFor_ap (xs := qs.map (entD side c)) (src := .seq (qs.map (entD side c))) (s1 := ⟨[some (.dat (plantD m both w1 g t)), some (.dat (promD ps)), some (.dat (.int side)), some (.dat (.lst (qs.map (entD side c)))), some (.dat (.int 3)), some (.dat (tableD m both)), some (.own (.dct [])), none], sto⟩) (by simp [c_read_list_i1]) rfl]
    exact e
  simp [c_read_list, s_tables _ _ both w1 g t h1 h8, hf]
theorem s_read_list_no (h1 : 1 ≤ m) (h8 : m ≤ 8) (hd : side < 2) {ask : Nat} (ha : ask < 2) (hne : ask ≠ side) {p : Nat × Nat} {qs : List (Nat × Nat)} (hp : p.1 < m ∧ p.2 < 2) : (clN Γ 60 (n + 6)).fn "read_list" [plantD m both w1 g t, promD ps, .int ask, .lst ((p :: qs).map (entD side c)), .int 3] sto = .ok (.dat .non) sto := by
  rw [q_read_list (n + 5)]
  have i1 := s_is_place n both w1 g t sto ps hp.1 hp.2
  have i2 := s_is_move (n + 1) both w1 g t sto h1 h8 hp.1 hp.2 hd ha
  rw [decide_eq_false hne] at i2
  have i3 : dIn (pl0 p) (.dct []) = some (.dat (.bl false)) := pl_in (f := fun _ => .non) p []
  have hf : mFor Γ.L (c_read_list_i1 (clN Γ 60 (n + 5))) (fun d => setSlot 7 (.dat d)) (c_read_list_b2 (clN Γ 60 (n + 5))) ⟨[some (.dat (plantD m both w1 g t)), some (.dat (promD ps)), some (.dat (.int ask)), some (.dat (.lst (entD side c p :: qs.map (entD side c)))), some (.dat (.int 3)), some (.dat (tableD m both)), some (.own (.dct [])), none], sto⟩ = .ok (.rt (.dat .non)) ⟨[some (.dat (plantD m both w1 g t)), some (.dat (promD ps)), some (.dat (.int ask)), some (.dat (.lst (entD side c p :: qs.map (entD side c)))), some (.dat (.int 3)), some (.dat (tableD m both)), some (.own (.dct [])), some (.dat (entD side c p))], sto⟩ := by
    rw [mFor_ap (xs := entD side c p :: qs.map (entD side c)) (src := .seq (entD side c p :: qs.map (entD side c))) (s1 := ⟨[some (.dat (plantD m both w1 g t)), some (.dat (promD ps)), some (.dat (.int ask)), some (.dat (.lst (entD side c p :: qs.map (entD side c)))), some (.dat (.int 3)), some (.dat (tableD m both)), some (.own (.dct [])), none], sto⟩) (by simp [c_read_list_i1]) rfl]
    unfold eachF
    simp [c_read_list_b2, entD, i1, i2, i3]
  simp [c_read_list, s_tables _ _ both w1 g t h1 h8, hf]
end
end Vl.T
set_option Elab.async false
set_option linter.all false
set_option maxRecDepth 100000
set_option maxHeartbeats 4000000
/-! k23: is_ranked_list -/
namespace Vl.T
open PySem
variable (n : Nat)
theorem St_nil {sto : List Box} {pl tb : D} {ps : List D} {ev : Nat → D → Bool} : St (sto ++ [.ins "Game" (gameF pl (promD ps) tb ps (sto.length + 1)), .dct []]) sto.length ev ps [] = sto ++ [.ins "Game" (gameF pl (promD ps) tb ps (sto.length + 1)), .dct []] := by
  unfold St mp
  simp
theorem GB_new {sto : List Box} {pl tb : D} {ps : List D} : GB (sto ++ [.ins "Game" (gameF pl (promD ps) tb ps (sto.length + 1)), .dct []]) sto.length pl tb ps := ⟨by simp, by simp⟩
theorem gTup_row (gs : List D → M Unit) (side : Nat) (c : Nat × Nat → Int × Int × Int) (p : Nat × Nat) (s : S) : gTupD 2 gs (rowD side c p) s = gs [mvD side p.2, msD (c p)] s := gTup_ap 2 gs [mvD side p.2, msD (c p)] s rfl
theorem row_1 (side : Nat) (c : Nat × Nat → Int × Int × Int) (p : Nat × Nat) : dGet (rowD side c p) (.int 1) = some (msD (c p)) := rfl
@[simp] theorem dd_row (x : S) (side : Nat) (c : Nat × Nat → Int × Int × Int) (p : Nat × Nat) : derefD x (rowD side c p) = some (rowD side c p) := rfl
@[simp] theorem dd_dctmp (x : S) (f g : Nat × Nat → D) (V : List (Nat × Nat)) : derefD x (.dct (mp f g V)) = some (.dct (mp f g V)) := rfl
@[simp] theorem lead_1 (m : Nat) (g t : Int) (p : Nat × Nat) : dGet (leadD m g t p) (.int 1) = some (pl0 (nxt m p)) := by
  unfold leadD; split <;> rfl
@[simp] theorem dd_lead (x : S) (m : Nat) (g t : Int) (p : Nat × Nat) : derefD x (leadD m g t p) = some (leadD m g t p) := by
  unfold leadD; split <;> rfl
@[simp] theorem is_pl0 (p : Nat × Nat) : dIs (pl0 p) .non = some (.dat (.bl false)) := rfl
@[simp] theorem isnot_pl0 (p : Nat × Nat) : dIsNot (pl0 p) .non = some (.dat (.bl true)) := rfl
section
variable {B : List Box} {k m : Nat} {both w1 : Bool} {g t : Int} {ps : List D} {ev : Nat → D → Bool} {side : Nat} {c : Nat × Nat → Int × Int × Int} {sto : List Box}
/-- the turn of a place -/
def okB (ev : Nat → D → Bool) (ps : List D) (m side : Nat) (c : Nat × Nat → Int × Int × Int) (p : Nat × Nat) : Bool := aheadB side (rnk ev ps p.1) (c p) (c (nxt m p))
theorem s_rk_turn (h : GB B k (plantD m both w1 g t) (tableD m both) ps) (E : EV m (plantD m both w1 g t) ps ev) (h1 : 1 ≤ m) (h8 : m ≤ 8) (hd : side < 2) (hr : ∀ s, s < m → rnk ev ps s < 6) {qs : List (Nat × Nat)} (p : Nat × Nat) (hp : p ∈ qs) (hn : nxt m p ∈ qs) (hq : QS m qs) (val : Option Rz) {V : List Nat} (hV : VV m V) (x8 x9 x10 x11 : Option Rz) :
    ∃ y8 y9 y10 y11, c_is_ranked_list_b4 (clN Γ 60 (n + 8 + 1)) ⟨[some (.dat (plantD m both w1 g t)), some (.dat (promD ps)), some (.dat (.int side)), val, some (.dat (.bl false)), some (.dat (.dct (mp pl0 (rowD side c) qs))), some (.dat (.box k)), some (.dat (pl0 p)), x8, x9, x10, x11], St B k ev ps V⟩ = .ok (if okB ev ps m side c p = true then .nx else .rt (.dat (.bl false))) ⟨[some (.dat (plantD m both w1 g t)), some (.dat (promD ps)), some (.dat (.int side)), val, some (.dat (.bl false)), some (.dat (.dct (mp pl0 (rowD side c) qs))), some (.dat (.box k)), some (.dat (pl0 p)), y8, y9, y10, y11], St B k ev ps (look (look V p.1) (nxt m p).1)⟩ := by
  obtain ⟨hp1, hp2⟩ := hq.lt p hp
  have i1 := s_rank_of (n + 4) h E h8 hV hp1 p.2
  have i2 := s_counting (n + 1) h E h1 h8 (hV.look hp1) hp1 hp2 hd
  have i3 := fun sto => s_fits (n + 8) sto hd (hr p.1 hp1) (c p) (c (nxt m p))
  have hf : mFor Γ.L (c_is_ranked_list_i2 (clN Γ 60 (n + 8 + 1))) (fun d => setSlot 9 (.dat d)) (c_is_ranked_list_b3 (clN Γ 60 (n + 8 + 1))) ⟨[some (.dat (plantD m both w1 g t)), some (.dat (promD ps)), some (.dat (.int side)), val, some (.dat (.bl false)), some (.dat (.dct (mp pl0 (rowD side c) qs))), some (.dat (.box k)), some (.dat (pl0 p)), some (.dat (.int (rnk ev ps p.1 : Nat))), x9, some (.dat (mvD side p.2)), some (.dat (msD (c p)))], St B k ev ps (look V p.1)⟩ = .ok (if okB ev ps m side c p = true then .nx else .rt (.dat (.bl false))) ⟨[some (.dat (plantD m both w1 g t)), some (.dat (promD ps)), some (.dat (.int side)), val, some (.dat (.bl false)), some (.dat (.dct (mp pl0 (rowD side c) qs))), some (.dat (.box k)), some (.dat (pl0 p)), some (.dat (.int (rnk ev ps p.1 : Nat))), some (.dat (leadD m g t p)), some (.dat (mvD side p.2)), some (.dat (msD (c p)))], St B k ev ps (look (look V p.1) (nxt m p).1)⟩ := by
    rw [mFor_ap (xs := [leadD m g t p]) (src := .seq [leadD m g t p]) (s1 := ⟨[some (.dat (plantD m both w1 g t)), some (.dat (promD ps)), some (.dat (.int side)), val, some (.dat (.bl false)), some (.dat (.dct (mp pl0 (rowD side c) qs))), some (.dat (.box k)), some (.dat (pl0 p)), some (.dat (.int (rnk ev ps p.1 : Nat))), x9, some (.dat (mvD side p.2)), some (.dat (msD (c p)))], St B k ev ps (look (look V p.1) (nxt m p).1)⟩) (by simp [c_is_ranked_list_i2, i2]) rfl]
    unfold eachF
    cases ho : okB ev ps m side c p
    · have ho' : aheadB side (rnk ev ps p.1) (c p) (c (nxt m p)) = false := ho
      rw [ho'] at i3
      simp [c_is_ranked_list_b3, pl_nin, hn, pl_get hn, row_1, i3]
    · have ho' : aheadB side (rnk ev ps p.1) (c p) (c (nxt m p)) = true := ho
      rw [ho'] at i3
      simp [c_is_ranked_list_b3, pl_nin, hn, pl_get hn, row_1, i3]
      rfl
  refine ⟨some (.dat (.int (rnk ev ps p.1 : Nat))), some (.dat (leadD m g t p)), some (.dat (mvD side p.2)), some (.dat (msD (c p))), ?_⟩
  simp [c_is_ranked_list_b4, pl_get hp, St_f h, meth2_s (mt8 _), i1, gTup_row, hf]
theorem s_rk_places (h : GB B k (plantD m both w1 g t) (tableD m both) ps) (E : EV m (plantD m both w1 g t) ps ev) (h1 : 1 ≤ m) (h8 : m ≤ 8) (hd : side < 2) (hr : ∀ s, s < m → rnk ev ps s < 6) {qs : List (Nat × Nat)} (hn : ∀ p ∈ qs, nxt m p ∈ qs) (hq : QS m qs) (val : Option Rz) : ∀ (rest : List (Nat × Nat)) (V : List Nat) (x7 x8 x9 x10 x11 : Option Rz), (∀ p ∈ rest, p ∈ qs) → VV m V →
    ∃ env' V', eachF (fun d => setSlot 7 (.dat d)) (c_is_ranked_list_b4 (clN Γ 60 (n + 8 + 1))) (rest.map pl0) ⟨[some (.dat (plantD m both w1 g t)), some (.dat (promD ps)), some (.dat (.int side)), val, some (.dat (.bl false)), some (.dat (.dct (mp pl0 (rowD side c) qs))), some (.dat (.box k)), x7, x8, x9, x10, x11], St B k ev ps V⟩ = .ok (if rest.all (okB ev ps m side c) = true then .nx else .rt (.dat (.bl false))) ⟨env', St B k ev ps V'⟩
  | [], V, x7, x8, x9, x10, x11, _, _ => ⟨_, V, rfl⟩
  | p :: rest, V, x7, x8, x9, x10, x11, hs, hV => by
    have hp := hs p (.head _)
    obtain ⟨y8, y9, y10, y11, e⟩ := s_rk_turn n (c := c) h E h1 h8 hd hr p hp (hn p hp) hq val hV x8 x9 x10 x11
    have hV' : VV m (look (look V p.1) (nxt m p).1) := (hV.look (hq.lt p hp).1).look (hq.lt _ (hn p hp)).1
    cases ho : okB ev ps m side c p with
    | true =>
      obtain ⟨env', V', e2⟩ := s_rk_places h E h1 h8 hd hr hn hq val rest _ (some (.dat (pl0 p))) y8 y9 y10 y11 (fun q hq => hs q (.tail _ hq)) hV'
      rw [ho, if_pos rfl] at e
      refine ⟨env', V', ?_⟩
      rw [List.all_cons, ho, Bool.true_and]
      exact eachF_nx rfl e2 e
    | false =>
      rw [ho, if_neg Bool.false_ne_true] at e
      rw [List.all_cons, ho, Bool.false_and, if_neg Bool.false_ne_true]
      exact ⟨_, _, eachF_rt rfl e⟩
theorem s_ranked (E : EV m (plantD m both w1 g t) ps ev) (h1 : 1 ≤ m) (h8 : m ≤ 8) (hd : side < 2) (hr : ∀ s, s < m → rnk ev ps s < 6) {qs : List (Nat × Nat)} (hn : ∀ p ∈ qs, nxt m p ∈ qs) (hq : QS m qs) (hc : ∀ p ∈ qs, 0 ≤ (c p).1 ∧ 0 ≤ (c p).2.1 ∧ 0 ≤ (c p).2.2) :
    ∃ X, (clN Γ 60 (n + 10)).fn "is_ranked_list" [plantD m both w1 g t, promD ps, .int side, .lst (qs.map (entD side c)), .bl false] sto = .ok (.dat (.bl (qs.all (okB ev ps m side c)))) (sto ++ X) := by
  rw [q_is_ranked_list (n + 9)]
  have i1 := s_read_list (n + 3) (both := both) (w1 := w1) (g := g) (t := t) (ps := ps) (c := c) (sto := sto) h1 h8 hd hq
  have i2 := s_init (n + 6) (plantD m both w1 g t) (tableD m both) ps sto (fun s => s_tables _ s both w1 g t h1 h8)
  obtain ⟨env', V', e⟩ := s_rk_places n (c := c) (GB_new (sto := sto)) E h1 h8 hd hr hn hq (some (.dat (.lst (qs.map (entD side c))))) qs [] none none none none none (fun _ h => h) .nil
  rw [St_nil] at e
  have hl : mLc Γ.L [7] (c_is_ranked_list_i5 (clN Γ 60 (n + 9))) (c_is_ranked_list_t6 (clN Γ 60 (n + 9))) ⟨[some (.dat (plantD m both w1 g t)), some (.dat (promD ps)), some (.dat (.int side)), some (.dat (.lst (qs.map (entD side c)))), some (.dat (.bl false)), some (.own (.dct (mp pl0 (rowD side c) qs))), none, none, none, none, none, none], sto⟩ = .ok (.own (.lst (qs.map fun _ => .bl true))) ⟨[some (.dat (plantD m both w1 g t)), some (.dat (promD ps)), some (.dat (.int side)), some (.dat (.lst (qs.map (entD side c)))), some (.dat (.bl false)), some (.dat (.dct (mp pl0 (rowD side c) qs))), none, none, none, none, none, none], sto⟩ := by
    refine mLc_mapE [some (.dat (plantD m both w1 g t)), some (.dat (promD ps)), some (.dat (.int side)), some (.dat (.lst (qs.map (entD side c)))), some (.dat (.bl false)), some (.dat (.dct (mp pl0 (rowD side c) qs))), none, none, none, none, none, none] _ _ qs pl0 (fun _ => .bl true) (src := .keys (mp pl0 (rowD side c) qs)) rfl rfl (by simp [c_is_ranked_list_i5]) (mp_keys qs) (by have := hq.ln; omega) rfl fun p hp => ⟨[some (.dat (plantD m both w1 g t)), some (.dat (promD ps)), some (.dat (.int side)), some (.dat (.lst (qs.map (entD side c)))), some (.dat (.bl false)), some (.dat (.dct (mp pl0 (rowD side c) qs))), none, some (.dat (pl0 p)), none, none, none, none], ?_, rfl⟩
    simp [wipeE, pl_get hp, row_1, s_is_measure _ sto (c p) (hc p hp)]
  have hg : gAll [.lst (qs.map fun _ => .bl true)] = some (.dat (.bl true)) := by
    have := gAll_map qs (fun _ => true)
    rw [this]; simp
  have hf : mFor Γ.L (c_is_ranked_list_i1 (clN Γ 60 (n + 9))) (fun d => setSlot 7 (.dat d)) (c_is_ranked_list_b4 (clN Γ 60 (n + 9))) ⟨[some (.dat (plantD m both w1 g t)), some (.dat (promD ps)), some (.dat (.int side)), some (.dat (.lst (qs.map (entD side c)))), some (.dat (.bl false)), some (.dat (.dct (mp pl0 (rowD side c) qs))), some (.dat (.box sto.length)), none, none, none, none, none], sto ++ [.ins "Game" (gameF (plantD m both w1 g t) (promD ps) (tableD m both) ps (sto.length + 1)), .dct []]⟩ = _ := (mFor_ap (xs := qs.map pl0) (src := .keys (mp pl0 (rowD side c) qs)) (s1 := ⟨[some (.dat (plantD m both w1 g t)), some (.dat (promD ps)), some (.dat (.int side)), some (.dat (.lst (qs.map (entD side c)))), some (.dat (.bl false)), some (.dat (.dct (mp pl0 (rowD side c) qs))), some (.dat (.box sto.length)), none, none, none, none, none], sto ++ [.ins "Game" (gameF (plantD m both w1 g t) (promD ps) (tableD m both) ps (sto.length + 1)), .dct []]⟩) (by simp [c_is_ranked_list_i1]) (mp_keys qs)).trans e
  refine ⟨[.ins "Game" (gameF (plantD m both w1 g t) (promD ps) (tableD m both) ps (sto.length + 1)), .dct (mp jt (truD ev ps) V')], ?_⟩
  simp [c_is_ranked_list, i1, i2, hl, hg, hf]
  cases ho : qs.all (okB ev ps m side c) <;> simp [St]
theorem s_ranked_no (h1 : 1 ≤ m) (h8 : m ≤ 8) (hd : side < 2) {ask : Nat} (ha : ask < 2) (hne : ask ≠ side) {p : Nat × Nat} {qs : List (Nat × Nat)} (hp : p.1 < m ∧ p.2 < 2) :
    (clN Γ 60 (n + 10)).fn "is_ranked_list" [plantD m both w1 g t, promD ps, .int ask, .lst ((p :: qs).map (entD side c)), .bl false] sto = .ok (.dat (.bl false)) sto := by
  rw [q_is_ranked_list (n + 9)]
  have i1 := s_read_list_no (n + 3) (both := both) (w1 := w1) (g := g) (t := t) (ps := ps) (c := c) (sto := sto) (qs := qs) h1 h8 hd ha hne hp
  simp at i1
  simp [c_is_ranked_list, i1]
end
end Vl.T
set_option Elab.async false
set_option linter.all false
set_option maxRecDepth 100000
set_option maxHeartbeats 4000000
/-! k23: the two papers -/
namespace Vl.T
open PySem
variable (n : Nat)
section
variable {m : Nat} {both w1 : Bool} {g t : Int} {ps : List D} {ev : Nat → D → Bool} {side : Nat} {c : Nat × Nat → Int × Int × Int} {sto : List Box}
theorem s_first_place (E : EV m (plantD m both w1 g t) ps ev) (h1 : 1 ≤ m) (h8 : m ≤ 8) : ∃ X, (clN Γ 60 (n + 8)).fn "first_place" [plantD m both w1 g t, promD ps] sto = .ok (.dat (pl0 (0, 0))) (sto ++ X) := by
  rw [q_first_place (n + 7)]
  have i2 := s_init (n + 4) (plantD m both w1 g t) (tableD m both) ps sto (fun s => s_tables _ s both w1 g t h1 h8)
  have i3 := s_first n (GB_new (sto := sto)) E h1 h8 .nil
  rw [St_nil] at i3
  have i4 : ∀ env, dField ⟨env, sto ++ [.ins "Game" (gameF (plantD m both w1 g t) (promD ps) (tableD m both) ps (sto.length + 1)), .dct []]⟩ (.box sto.length) "first" = some (("Game" : Str), (gameF (plantD m both w1 g t) (promD ps) (tableD m both) ps (sto.length + 1)).lookup ("first" : Str)) := fun env => dField_box (by simp)
  refine ⟨[.ins "Game" (gameF (plantD m both w1 g t) (promD ps) (tableD m both) ps (sto.length + 1)), .dct (mp jt (truD ev ps) (look [] 0))], ?_⟩
  simp [c_first_place, i2, i4, meth2_s (mt5 _), i3]
  simp [St]
theorem pl0_self : PyData.eqv (pyD (pl0 (0, 0))) (pyD (pl0 (0, 0))) = true := by decide +kernel
theorem s_has_first (E : EV m (plantD m both w1 g t) ps ev) (h1 : 1 ≤ m) (h8 : m ≤ 8) {qs : List (Nat × Nat)} (hq : QS m qs) (h0 : (0, 0) ∈ qs) : ∃ X, (clN Γ 60 (n + 9)).fn "has_first" [plantD m both w1 g t, promD ps, .lst (qs.map (entD side c))] sto = .ok (.dat (.bl true)) (sto ++ X) := by
  rw [q_has_first (n + 8)]
  obtain ⟨X, i1⟩ := s_first_place n (sto := sto) E h1 h8
  refine ⟨X, ?_⟩
  have hl : mLc Γ.L [4] (c_has_first_i1 (clN Γ 60 (n + 8))) (c_has_first_t2 (clN Γ 60 (n + 8))) ⟨[some (.dat (plantD m both w1 g t)), some (.dat (promD ps)), some (.dat (.lst (qs.map (entD side c)))), some (.dat (pl0 (0, 0))), none], sto ++ X⟩ = .ok (.own (.lst (qs.map pl0))) ⟨[some (.dat (plantD m both w1 g t)), some (.dat (promD ps)), some (.dat (.lst (qs.map (entD side c)))), some (.dat (pl0 (0, 0))), none], sto ++ X⟩ := by
    refine mLc_mapE [some (.dat (plantD m both w1 g t)), some (.dat (promD ps)), some (.dat (.lst (qs.map (entD side c)))), some (.dat (pl0 (0, 0))), none] _ _ qs (entD side c) pl0 (src := .seq (qs.map (entD side c))) rfl rfl (by simp [c_has_first_i1]) rfl (by have := hq.ln; omega) rfl fun p hp => ⟨[some (.dat (plantD m both w1 g t)), some (.dat (promD ps)), some (.dat (.lst (qs.map (entD side c)))), some (.dat (pl0 (0, 0))), some (.dat (entD side c p))], ?_, rfl⟩
    simp [wipeE, entD]
  have hi : dIn (pl0 (0, 0)) (.lst (qs.map pl0)) = some (.dat (.bl true)) := dIn_deep (sp_pl0 _) (fun y hy => by
    obtain ⟨p, _, rfl⟩ := List.mem_map.mp hy
    exact sp_pl0 p) (by omega) rfl (List.mem_map.mpr ⟨_, h0, rfl⟩) pl0_self
  simp [c_has_first, i1, hl, hi]
theorem wd1 : decide (("ranked" : Str) = "stock") = false := by decide +kernel
theorem wd2 : decide (("ranked" : Str) = "mean") = false := by decide +kernel
/-- a paper in order -/
structure PS (m : Nat) (c : Nat × Nat → Int × Int × Int) (qs : List (Nat × Nat)) : Prop where
  q : QS m qs
  n : ∀ p ∈ qs, nxt m p ∈ qs
  c : ∀ p ∈ qs, 0 ≤ (c p).1 ∧ 0 ≤ (c p).2.1 ∧ 0 ≤ (c p).2.2
  z : (0, 0) ∈ qs
theorem s_op (E : EV m (plantD m both w1 g t) ps ev) (h1 : 1 ≤ m) (h8 : m ≤ 8) (hd : side < 2) (hr : ∀ s, s < m → rnk ev ps s < 6) {qs : List (Nat × Nat)} (P : PS m c qs) :
    ∃ X, (clN Γ 60 (n + 11)).fn "is_op_paper" [plantD m both w1 g t, promD ps, .lst (qs.map (entD side c))] sto = .ok (.dat (.bl (decide (side = 0) && qs.all (okB ev ps m side c)))) (sto ++ X) := by
  rw [q_is_op_paper (n + 10)]
  by_cases e : side = 0
  · subst e
    obtain ⟨X, i1⟩ := s_ranked n (sto := sto) E h1 h8 hd hr P.n P.q P.c
    simp at i1
    cases ho : qs.all (okB ev ps m 0 c) with
    | false =>
      rw [ho] at i1
      refine ⟨X, ?_⟩
      simp [c_is_op_paper, s_goal_word, wd1, wd2, i1]
    | true =>
      rw [ho] at i1
      obtain ⟨X', i2⟩ := s_has_first (n + 1) (sto := sto ++ X) (side := 0) (c := c) E h1 h8 P.q P.z
      refine ⟨X ++ X', ?_⟩
      simp [c_is_op_paper, s_goal_word, wd1, wd2, i1]
      simp at i2
      simp [i2]
  · refine ⟨[], ?_⟩
    cases qs with
    | nil => exact absurd P.z (by simp)
    | cons p qs =>
      have i1 := s_ranked_no n (both := both) (w1 := w1) (g := g) (t := t) (ps := ps) (c := c) (sto := sto) (qs := qs) h1 h8 hd (ask := 0) (by omega) (fun z => e z.symm) (P.q.lt p (.head _))
      simp at i1
      simp [c_is_op_paper, s_goal_word, wd1, wd2, i1, e]
theorem s_world (E : EV m (plantD m both w1 g t) ps ev) (h1 : 1 ≤ m) (h8 : m ≤ 8) (hd : side < 2) (hr : ∀ s, s < m → rnk ev ps s < 6) {qs : List (Nat × Nat)} (P : PS m c qs) :
    ∃ X, (clN Γ 60 (n + 11)).fn "is_world_paper" [plantD m both w1 g t, promD ps, .lst (qs.map (entD side c))] sto = .ok (.dat (.bl (decide (side = 1) && qs.all (okB ev ps m side c)))) (sto ++ X) := by
  rw [q_is_world_paper (n + 10)]
  obtain ⟨X0, i0⟩ := s_first_place (n + 2) (sto := sto) E h1 h8
  by_cases e : side = 1
  · subst e
    obtain ⟨X, i1⟩ := s_ranked n (sto := sto ++ X0) E h1 h8 hd hr P.n P.q P.c
    simp at i1
    cases ho : qs.all (okB ev ps m 1 c) with
    | false =>
      rw [ho] at i1
      refine ⟨X0 ++ X, ?_⟩
      simp [c_is_world_paper, s_goal_word, wd1, wd2, i0, i1]
    | true =>
      rw [ho] at i1
      obtain ⟨X', i2⟩ := s_has_first (n + 1) (sto := sto ++ (X0 ++ X)) (side := 1) (c := c) E h1 h8 P.q P.z
      refine ⟨X0 ++ X ++ X', ?_⟩
      simp [c_is_world_paper, s_goal_word, wd1, wd2, i0, i1]
      simp at i2
      simp [i2]
  · refine ⟨X0, ?_⟩
    cases qs with
    | nil => exact absurd P.z (by simp)
    | cons p qs =>
      have i1 := s_ranked_no n (both := both) (w1 := w1) (g := g) (t := t) (ps := ps) (c := c) (sto := sto ++ X0) (qs := qs) h1 h8 hd (ask := 1) (by omega) (fun z => e z.symm) (P.q.lt p (.head _))
      simp at i1
      simp [c_is_world_paper, s_goal_word, wd1, wd2, i0, i1, e]
end
end Vl.T
set_option Elab.async false
set_option linter.all false
set_option maxRecDepth 100000
set_option maxHeartbeats 4000000
/-! the stream -/
namespace Vl.T
open PySem
variable (n : Nat)
def strB (ns : List Int) (cell : Int) (k : Nat) : Box := .lst [.lst (ns.map .int), .int cell, .int k]
theorem pow18 : dPow (.int 10) (.int 18) = some (.dat (.int 1000000000000000000)) := by kernel_rfl
theorem put_1 (a b c d : D) : putAt (.lst [a, b, c]) (.int 1) d = some (.lst [a, d, c]) := by kernel_rfl
theorem put_2 (a b c d : D) : putAt (.lst [a, b, c]) (.int 2) d = some (.lst [a, b, d]) := by kernel_rfl
theorem gAbs_i (i : Int) : gAbs [.int i] = some (.dat (.int (i.natAbs : Nat))) := by
  show some (Rz.dat (.int (if i < 0 then -i else i))) = _
  congr 3
  split <;> omega
def nxV (A B C E F G Q : Int) : M Fl := (mSeq (mSet (mBin (rD (dR (mCallB [(rD (dR (mBin (rD (dR (mBin (rD (dR (mBin (rfSlot 4) (rD (dR (Pure.pure (.dat (.int A))))) dMul))) (rD (dR (mBin (rfSlot 3) (rD (dR (Pure.pure (.dat (.int B))))) dMul))) dAdd))) (rD (dR (Pure.pure (.dat (.int C))))) dAdd)))] gInt))) (rD (dR (Pure.pure (.dat (.int Q))))) dMod) 4)
    (mSet (mBin (rD (dR (mBin (rD (dR (mBin (rD (dR (mCallB [(rD (dR (mBin (rD (dR (mBin (rfSlot 4) (rD (dR (Pure.pure (.dat (.int E))))) dMul))) (rD (dR (Pure.pure (.dat (.int F))))) dAdd)))] gInt))) (rD (dR (Pure.pure (.dat (.int Q))))) dMod))) (rD (dR (Pure.pure (.dat (.int G))))) dMul))) (rfSlot 4) dAdd) 4))
theorem nxV_ok {A B C E F G Q : Int} (dA : ∀ i, dMul (.int i) (.int A) = some (.dat (.int (i * A)))) (dB : ∀ i, dMul (.int i) (.int B) = some (.dat (.int (i * B)))) (dE : ∀ i, dMul (.int i) (.int E) = some (.dat (.int (i * E)))) (dG : ∀ i, dMul (.int i) (.int G) = some (.dat (.int (i * G)))) (dQ : ∀ i, dMod (.int i) (.int Q) = some (.dat (.int (i % Q)))) (a b z : Option Rz) (k : Nat) (c : Int) (sto : List Box) : ∃ F', nxV A B C E F G Q ⟨[a, b, z, some (.dat (.int k)), some (.dat (.int c))], sto⟩ = .ok .nx ⟨[a, b, z, some (.dat (.int k)), some (.dat (.int F'))], sto⟩ := by
  have s3 : ∀ c, (⟨[a, b, z, some (.dat (.int k)), some (.dat (.int c))], sto⟩ : S).env[3]? = some (some (.dat (.int k))) := fun c => rfl
  have s4 : ∀ c, (⟨[a, b, z, some (.dat (.int k)), some (.dat (.int c))], sto⟩ : S).env[4]? = some (some (.dat (.int c))) := fun c => rfl
  generalize e1 : (c * A + k * B + C) % Q = c1
  generalize e2 : (c1 * E + F) % Q * G = c2
  refine ⟨c2 + c1, ?_⟩
  refine seq_nx (EvI.set (.gint (.bin (.bin (.bin (.slot (s4 _)) (.lit _ _) (dA _)) (.bin (.slot (s3 _)) (.lit _ _) (dB _)) rfl) (.lit _ _) rfl)) (.lit _ _) ((dQ _).trans (by rw [e1])) 4) ?_
  exact EvI.set (.bin (.bin (.gint (.bin (.bin (.slot (s4 _)) (.lit _ _) (dE _)) (.lit _ _) rfl)) (.lit _ _) (dQ _)) (.lit _ _) ((dG _).trans (by rw [e2]))) (.slot (s4 _)) rfl 4
theorem nx_s1 (cl : Cl) (a b z : Option Rz) (k : Nat) (c : Int) (sto : List Box) : ∃ F', c__law_next_s1 cl ⟨[a, b, z, some (.dat (.int k)), some (.dat (.int c))], sto⟩ = .ok .nx ⟨[a, b, z, some (.dat (.int k)), some (.dat (.int F'))], sto⟩ :=
  nxV_ok (A := 48271) (B := 69621) (C := 11) (E := 16807) (F := 13) (G := 65537) (Q := 2147483647) (fun i => dMul_1 (by omega)) (fun i => dMul_1 (by omega)) (fun i => dMul_1 (by omega)) (fun i => dMul_1 (by omega)) (fun i => dMod_i (by omega)) a b z k c sto
theorem nx_s2 (cl : Cl) (ns : List Int) (cell : Int) (k : Nat) (b z y : Option Rz) {sto : List Box} (h : sto[0]? = some (strB ns cell k)) (hk : k < ns.length) : ∃ c : Int, c__law_next_s2 cl ⟨[some (.dat (.box 0)), b, z, some (.dat (.int k)), y], sto⟩ = .ok .nx ⟨[some (.dat (.box 0)), b, z, some (.dat (.int k)), some (.dat (.int c))], sto⟩ := by
  refine ⟨((ns[k]?).getD 0).natAbs, ?_⟩
  unfold strB at h
  simp [c__law_next_s2, h, atI_nn, hk, gAbs_i]
theorem nx_if1 (cl : Cl) {c P : Int} (hP : dPow (.int 10) (.int 18) = some (.dat (.int P))) (x b : Option Rz) (k : Nat) (sto : List Box) (m : M Fl) : mIfS ((mBin (rfSlot 4) (rD (dR (mBin (rD (dR (Pure.pure (.dat (.int 10))))) (rD (dR (Pure.pure (.dat (.int 18))))) dPow))) dLt) >>= asB) m (Pure.pure .nx) ⟨[x, b, none, some (.dat (.int k)), some (.dat (.int c))], sto⟩ = (if c < P then m else Pure.pure .nx) ⟨[x, b, none, some (.dat (.int k)), some (.dat (.int c))], sto⟩ := by
  have e1 : EvI (rD (dR (mBin (rD (dR (Pure.pure (.dat (.int 10))))) (rD (dR (Pure.pure (.dat (.int 18))))) dPow))) ⟨[x, b, none, some (.dat (.int k)), some (.dat (.int c))], sto⟩ P := .bin (.lit _ _) (.lit _ _) hP
  obtain ⟨r, e2, e3⟩ := e1
  generalize (rD (dR (mBin (rD (dR (Pure.pure (.dat (.int 10))))) (rD (dR (Pure.pure (.dat (.int 18))))) dPow))) = q at e2
  clear hP
  by_cases h : c < P <;> simp [e2, e3, h]
theorem nx_if2 (cl : Cl) (ns : List Int) (cell : Int) (k : Nat) (b y : Option Rz) {sto : List Box} (h : sto[0]? = some (strB ns cell k)) (m : M Fl) : mIfS ((mBin (rfSlot 3) (rD (dR (mCallB [(rD (dR (vD (mGet (rfSlot 0) (rD (dR (Pure.pure (.dat (.int 0)))))))))] gLen))) dLt) >>= asB) m (Pure.pure .nx) ⟨[some (.dat (.box 0)), b, none, some (.dat (.int k)), y], sto⟩ = (if k < ns.length then m else Pure.pure .nx) ⟨[some (.dat (.box 0)), b, none, some (.dat (.int k)), y], sto⟩ := by
  unfold strB at h
  by_cases hk : k < ns.length <;> simp [h, hk]
theorem nx_s3 (cl : Cl) {P : Int} (hP : dPow (.int 10) (.int 18) = some (.dat (.int P))) (ns : List Int) (cell : Int) (k : Nat) (b : Option Rz) {sto : List Box} (h : sto[0]? = some (strB ns cell k)) : ∃ F : Int, c__law_next_s3 cl ⟨[some (.dat (.box 0)), b, none, none, none], sto⟩ = .ok .nx ⟨[some (.dat (.box 0)), b, none, some (.dat (.int k)), some (.dat (.int F))], sto.set 0 (strB ns F (k + 1))⟩ := by
  have hl : 0 < sto.length := by
    cases sto with
    | nil => cases h
    | cons _ _ => simp
  have hs0 : ∀ b, (sto.set 0 b)[0]? = some b := fun b => List.getElem?_set_self hl
  clear hl
  have a1 : mSet (vD (mGet (rfSlot 0) (rD (dR (Pure.pure (.dat (.int 2))))))) 3 ⟨[some (.dat (.box 0)), b, none, none, none], sto⟩ = .ok .nx ⟨[some (.dat (.box 0)), b, none, some (.dat (.int k)), none], sto⟩ := by
    unfold strB at h
    simp [h]
  have a2 : mSet (mBin (rD (dR (Pure.pure (.dat (.int 7))))) (rfSlot 3) dAdd) 4 ⟨[some (.dat (.box 0)), b, none, some (.dat (.int k)), none], sto⟩ = .ok .nx ⟨[some (.dat (.box 0)), b, none, some (.dat (.int k)), some (.dat (.int (7 + k)))], sto⟩ := EvI.set (.lit _ _) (.slot rfl) rfl 4
  have a5 : ∀ F, mAsg (rdSlot 4) (mStore (rfSlot 0) (rD (dR (Pure.pure (.dat (.int 1)))))) ⟨[some (.dat (.box 0)), b, none, some (.dat (.int k)), some (.dat (.int F))], sto⟩ = .ok .nx ⟨[some (.dat (.box 0)), b, none, some (.dat (.int k)), some (.dat (.int F))], sto.set 0 (strB ns F k)⟩ := by
    intro F
    unfold strB at h
    simp [h, put_1, strB]
  have a6 : ∀ F, mAsg (dR (mBin (rfSlot 3) (rD (dR (Pure.pure (.dat (.int 1))))) dAdd)) (mStore (rfSlot 0) (rD (dR (Pure.pure (.dat (.int 2)))))) ⟨[some (.dat (.box 0)), b, none, some (.dat (.int k)), some (.dat (.int F))], sto.set 0 (strB ns F k)⟩ = .ok .nx ⟨[some (.dat (.box 0)), b, none, some (.dat (.int k)), some (.dat (.int F))], sto.set 0 (strB ns F (k + 1))⟩ := by
    intro F
    have := hs0 (strB ns F k)
    generalize hS : sto.set 0 (strB ns F k) = st at this
    have e2 : sto.set 0 (strB ns F (k + 1)) = st.set 0 (strB ns F (k + 1)) := by rw [← hS, List.set_set]
    rw [e2]
    clear e2 hS a5 a2 a1 hs0 h
    unfold strB at this ⊢
    simp [this, put_2]
  have a4 : ∀ c : Int, ∃ F : Int, mIfS ((mBin (rfSlot 4) (rD (dR (mBin (rD (dR (Pure.pure (.dat (.int 10))))) (rD (dR (Pure.pure (.dat (.int 18))))) dPow))) dLt) >>= asB) (c__law_next_s1 cl) (Pure.pure .nx) ⟨[some (.dat (.box 0)), b, none, some (.dat (.int k)), some (.dat (.int c))], sto⟩ = .ok .nx ⟨[some (.dat (.box 0)), b, none, some (.dat (.int k)), some (.dat (.int F))], sto⟩ := fun c => by
    obtain ⟨F, e2⟩ := nx_s1 cl (some (.dat (.box 0))) b none k c sto
    by_cases hc : c < P
    · exact ⟨F, by rw [nx_if1 cl hP, if_pos hc, e2]⟩
    · exact ⟨c, by rw [nx_if1 cl hP, if_neg hc]; rfl⟩
  by_cases hk : k < ns.length
  · obtain ⟨c, e1⟩ := nx_s2 cl ns cell k b none (some (.dat (.int (7 + k)))) h hk
    obtain ⟨F, e2⟩ := a4 c
    exact ⟨F, seq_nx a1 (seq_nx a2 (seq_nx ((nx_if2 cl ns cell k b _ h _).trans (by rw [if_pos hk]; exact e1)) (seq_nx e2 (seq_nx (a5 F) (a6 F)))))⟩
  · obtain ⟨F, e2⟩ := a4 (7 + k)
    exact ⟨F, seq_nx a1 (seq_nx a2 (seq_nx ((nx_if2 cl ns cell k b _ h _).trans (by rw [if_neg hk]; rfl)) (seq_nx e2 (seq_nx (a5 F) (a6 F)))))⟩
theorem s_next {sto : List Box} {ns : List Int} {cell : Int} {k : Nat} {many : Int} (h : sto[0]? = some (strB ns cell k)) (h1 : 0 < many) (h2 : many < 1073741824) :
    ∃ d cell' k', 0 ≤ d ∧ d < many ∧ (clN Γ 60 (n + 1)).fn "_law_next" [.box 0, .int many] sto = .ok (.dat (.int d)) (sto.set 0 (strB ns cell' k')) := by
  have hl : 0 < sto.length := by
    cases sto with
    | nil => cases h
    | cons _ _ => simp
  have hs0 : ∀ b, (sto.set 0 b)[0]? = some b := fun b => List.getElem?_set_self hl
  clear hl
  rw [q__law_next n]
  obtain ⟨F, e3⟩ := nx_s3 (clN Γ 60 n) pow18 ns cell k (some (.dat (.int many))) h
  unfold strB at h
  by_cases hc : cell = 0
  · subst hc
    refine ⟨F % many, F / many, k + 1, Int.emod_nonneg _ (by omega), Int.emod_lt_of_pos _ h1, ?_⟩
    unfold strB at e3
    simp [c__law_next, h, e3, hs0, dMod_i h1, dDiv_i h1 h2, put_1, put_2, strB]
  · refine ⟨cell % many, cell / many, k, Int.emod_nonneg _ (by omega), Int.emod_lt_of_pos _ h1, ?_⟩
    simp [c__law_next, h, hc, dMod_i h1, dDiv_i h1 h2, put_1, put_2, strB]
end Vl.T
set_option Elab.async false
set_option linter.all false
set_option maxRecDepth 100000
set_option maxHeartbeats 4000000
/-! the stream's users -/
namespace Vl.T
open PySem
variable (n : Nat)
/-- the stream stands in the store -/
def SB (sto : List Box) : Prop := ∃ ns cell k, sto[0]? = some (strB ns cell k)
theorem SB.set {sto : List Box} (h : SB sto) (ns : List Int) (cell : Int) (k : Nat) : SB (sto.set 0 (strB ns cell k)) := by
  obtain ⟨a, b, c, h⟩ := h
  refine ⟨ns, cell, k, List.getElem?_set_self ?_⟩
  cases sto with
  | nil => cases h
  | cons _ _ => simp
theorem SB.app {sto : List Box} (h : SB sto) (X : List Box) : SB (sto ++ X) := by
  obtain ⟨a, b, c, h⟩ := h
  refine ⟨a, b, c, ?_⟩
  cases sto with
  | nil => cases h
  | cons _ _ => simpa using h
theorem s_nx {sto : List Box} (h : SB sto) {many : Int} (h1 : 0 < many) (h2 : many < 1073741824) :
    ∃ d sto', (clN Γ 60 (n + 1)).fn "_law_next" [.box 0, .int many] sto = .ok (.dat (.int d)) sto' ∧ SB sto' ∧ 0 ≤ d ∧ d < many := by
  obtain ⟨ns, cell, k, h'⟩ := h
  obtain ⟨d, c, k', a, b, e⟩ := s_next n h' h1 h2
  exact ⟨d, _, e, SB.set ⟨_, _, _, h'⟩ _ _ _, a, b⟩
theorem s_nxN {sto : List Box} (h : SB sto) {many : Nat} (h1 : 0 < many) (h2 : many < 1073741824) :
    ∃ (d : Nat) (sto' : List Box), (clN Γ 60 (n + 1)).fn "_law_next" [.box 0, .int many] sto = .ok (.dat (.int d)) sto' ∧ SB sto' ∧ d < many := by
  obtain ⟨d, sto', e, i, a, b⟩ := s_nx n h (many := many) (by omega) (by omega)
  obtain ⟨d, rfl⟩ := Int.eq_ofNat_of_zero_le a
  exact ⟨d, sto', e, i, by omega⟩
theorem s_pick {sto : List Box} (h : SB sto) {xs : List D} (h1 : xs ≠ []) (h2 : xs.length < 1000) :
    ∃ x sto', (clN Γ 60 (n + 2)).fn "_law_pick" [.box 0, .lst xs] sto = .ok (.dat x) sto' ∧ SB sto' ∧ x ∈ xs := by
  obtain ⟨d, sto', e, i, a⟩ := s_nxN n h (many := xs.length) (List.length_pos_iff.mpr h1) (by omega)
  refine ⟨xs[d], sto', ?_, i, List.getElem_mem a⟩
  rw [q__law_pick (n + 1)]
  simp [c__law_pick, e, atI_nn, List.getElem?_eq_getElem a]
theorem s_from {sto : List Box} (h : SB sto) {lo hi : Int} (h1 : lo ≤ hi) (h2 : hi - lo < 1000) :
    ∃ x sto', (clN Γ 60 (n + 2)).fn "_law_from" [.box 0, .int lo, .int hi] sto = .ok (.dat (.int x)) sto' ∧ SB sto' ∧ lo ≤ x ∧ x ≤ hi := by
  obtain ⟨d, sto', e, i, a, b⟩ := s_nx n h (many := hi - lo + 1) (by omega) (by omega)
  refine ⟨lo + d, sto', ?_, i, by omega, by omega⟩
  rw [q__law_from (n + 1)]
  simp [c__law_from, e]
end Vl.T
set_option Elab.async false
set_option linter.all false
set_option maxRecDepth 100000
set_option maxHeartbeats 4000000
/-! scaled, shuffle, some -/
namespace Vl.T
open PySem
variable (n : Nat)
abbrev T3 := Int × Int × Int
def nn3 (t : T3) : Prop := 0 ≤ t.1 ∧ 0 ≤ t.2.1 ∧ 0 ≤ t.2.2
/-- an entry of counters -/
def e3D (e : D × D × T3) : D := .tup [e.1, e.2.1, msD e.2.2]
theorem len3 {α : Type} {l : List α} (h : l.length = 3) : ∃ a b c, l = [a, b, c] := by
  match l, h with
  | [a, b, c], _ => exact ⟨a, b, c, rfl⟩
theorem pow12 : dPow (.int 10) (.int 12) = some (.dat (.int 1000000000000)) := by kernel_rfl
theorem pow30 : dPow (.int 10) (.int 30) = some (.dat (.int 1000000000000000000000000000000)) := by kernel_rfl
theorem pow9 : dPow (.int 10) (.int 9) = some (.dat (.int 1000000000)) := by kernel_rfl
def rg3 : List D := [.int 0, .int 1, .int 2]
theorem rng3 : (Src.rng 0 1 3).items = some rg3 := by kernel_rfl
theorem rngOf3 : rngOf [.int 3] = some (.rng 0 1 3) := by kernel_rfl
/-- the list of a drawn triple -/
theorem t3 {mi : M Src} {elt : M D} {sto : List Box} (h : SB sto) (env : List (Option Rz)) (hE : wipeE [11] env = env) (hb : backE [11] env env = env) (hn : noOwn [11] ⟨env, sto⟩ = true) (hw : ∀ d, wipeE [11] (env.set 11 (some (.dat d))) = env) (lo hi : Int) (hm : mi ⟨env, sto⟩ = .ok (.rng 0 1 3) ⟨env, sto⟩)
    (hx : ∀ d sto, SB sto → ∃ b sto', elt ⟨env.set 11 (some (.dat d)), sto⟩ = .ok (.int b) ⟨env.set 11 (some (.dat d)), sto'⟩ ∧ SB sto' ∧ lo ≤ b ∧ b ≤ hi) :
    ∃ a b c sto', mLc Γ.L [11] mi (turn1 [11] (fun d => setSlot 11 (.dat d)) (Pure.pure true) elt) ⟨env, sto⟩ = .ok (.own (.lst [.int a, .int b, .int c])) ⟨env, sto'⟩ ∧ SB sto' ∧ (lo ≤ a ∧ a ≤ hi) ∧ (lo ≤ b ∧ b ≤ hi) ∧ (lo ≤ c ∧ c ≤ hi) := by
  obtain ⟨bs, sto2, e, i, l, p⟩ := mLc_dr (L := Γ.L) (vs := [11]) (mi := mi) (xs := rg3) (src := .rng 0 1 3) (g := fun d => setSlot 11 (.dat d)) (elt := elt) env env env SB D.int (fun _ b => lo ≤ b ∧ b ≤ hi) hE hb hm rng3 (by decide) hn h (fun d hd sto hs => by
    obtain ⟨b, sto', e, i, m⟩ := hx d sto hs
    exact ⟨b, _, sto', by simpa using e, hw d, i, m⟩)
  obtain ⟨a, b, c, rfl⟩ := len3 l
  obtain ⟨_, _, pa⟩ := p 0 a rfl
  obtain ⟨_, _, pb⟩ := p 1 b rfl
  obtain ⟨_, _, pc⟩ := p 2 c rfl
  exact ⟨a, b, c, sto2, e, i, pa, pb, pc⟩
/-- the counters, scaled -/
def sclT (t m w j c : T3) : T3 := (c.1 * t.1 + m.1 + 0 % w.1, c.2.1 * t.2.1 + m.2.1 + (c.1 * j.1) % w.2.1, c.2.2 * t.2.2 + m.2.2 + (c.1 * j.2.1 + c.2.1 * j.2.2) % w.2.2)
def scF (t m w j c : T3) (k : Nat) : Int := if k = 0 then (sclT t m w j c).1 else if k = 1 then (sclT t m w j c).2.1 else (sclT t m w j c).2.2
structure Sc (t m w j : T3) : Prop where
  t : (0 ≤ t.1 ∧ t.1 ≤ 1000000000000) ∧ (0 ≤ t.2.1 ∧ t.2.1 ≤ 1000000000000) ∧ (0 ≤ t.2.2 ∧ t.2.2 ≤ 1000000000000)
  m : nn3 m
  w : (1 ≤ w.1 ∧ w.1 ≤ 40) ∧ (1 ≤ w.2.1 ∧ w.2.1 ≤ 40) ∧ (1 ≤ w.2.2 ∧ w.2.2 ≤ 40)
  j : (1 ≤ j.1 ∧ j.1 ≤ 30) ∧ (1 ≤ j.2.1 ∧ j.2.1 ≤ 30) ∧ (1 ≤ j.2.2 ∧ j.2.2 ≤ 30)
theorem sc_nn {t m w j c : T3} (h : Sc t m w j) (hc : nn3 c) : nn3 (sclT t m w j c) := by
  have a1 := Int.mul_nonneg hc.1 h.t.1.1
  have a2 := Int.mul_nonneg hc.2.1 h.t.2.1.1
  have a3 := Int.mul_nonneg hc.2.2 h.t.2.2.1
  have b1 := Int.emod_nonneg 0 (show w.1 ≠ 0 from fun z => by have := h.w.1; omega)
  have b2 := Int.emod_nonneg (c.1 * j.1) (show w.2.1 ≠ 0 from fun z => by have := h.w.2.1; omega)
  have b3 := Int.emod_nonneg (c.1 * j.2.1 + c.2.1 * j.2.2) (show w.2.2 ≠ 0 from fun z => by have := h.w.2.2; omega)
  have m1 := h.m.1
  have m2 := h.m.2.1
  have m3 := h.m.2.2
  refine ⟨?_, ?_, ?_⟩
  · show 0 ≤ c.1 * t.1 + m.1 + 0 % w.1
    omega
  · show 0 ≤ c.2.1 * t.2.1 + m.2.1 + (c.1 * j.1) % w.2.1
    omega
  · show 0 ≤ c.2.2 * t.2.2 + m.2.2 + (c.1 * j.2.1 + c.2.1 * j.2.2) % w.2.2
    omega
def ms3 (t : T3) : Box := .lst [.int t.1, .int t.2.1, .int t.2.2]
def scE (pa : D) (t m w j : T3) (found : List D) (a b c : Option Rz) (x y : Option Rz) : List (Option Rz) := [some (.dat (.box 0)), some (.dat pa), some (.own (ms3 t)), some (.own (ms3 m)), some (.own (ms3 w)), some (.own (ms3 j)), some (.own (.lst found)), a, b, c, x, y]
def keyB (j c : T3) : Box := .lst [.int 0, .int (c.1 * j.1), .int (c.1 * j.2.1 + c.2.1 * j.2.2)]
theorem sc_t3 (cl : Cl) (pa : D) {t m w j : T3} (h : Sc t m w j) (c : T3) (found : List D) (a b : Option Rz) (sto : List Box) : mLc Γ.L [11] (c__law_scaled_i2 cl) (c__law_scaled_t3 cl) ⟨scE pa t m w j found a b (some (.dat (msD c))) (some (.own (keyB j c))) none, sto⟩ = .ok (.own (.lst ([0, 1, 2].map fun k => .int (scF t m w j c k)))) ⟨scE pa t m w j found a b (some (.dat (msD c))) (some (.own (keyB j c))) none, sto⟩ := by
  have hw1 : 0 < w.1 := by have := h.w.1; omega
  have hw2 : 0 < w.2.1 := by have := h.w.2.1; omega
  have hw3 : 0 < w.2.2 := by have := h.w.2.2; omega
  have e1 : ∀ i, dMul (.int i) (.int t.1) = some (.dat (.int (i * t.1))) := fun i => dMul_1 (by have := h.t.1; omega)
  have e2 : ∀ i, dMul (.int i) (.int t.2.1) = some (.dat (.int (i * t.2.1))) := fun i => dMul_1 (by have := h.t.2.1; omega)
  have e3 : ∀ i, dMul (.int i) (.int t.2.2) = some (.dat (.int (i * t.2.2))) := fun i => dMul_1 (by have := h.t.2.2; omega)
  refine mLc_mapE (scE pa t m w j found a b (some (.dat (msD c))) (some (.own (keyB j c))) none) _ _ [0, 1, 2] (fun k : Nat => .int k) (fun k => .int (scF t m w j c k)) (src := .rng 0 1 3) rfl rfl (by simp [c__law_scaled_i2, rngOf3]) rng3 (by simp) rfl fun k hk => ⟨scE pa t m w j found a b (some (.dat (msD c))) (some (.own (keyB j c))) (some (.dat (.int k))), ?_, rfl⟩
  simp only [List.mem_cons, List.not_mem_nil, or_false] at hk
  rcases hk with rfl | rfl | rfl
  · simp [wipeE, scE, ms3, keyB, e1, dMod_i hw1, scF, sclT, msD]
  · simp [wipeE, scE, ms3, keyB, e2, dMod_i hw2, scF, sclT, msD]
  · simp [wipeE, scE, ms3, keyB, e3, dMod_i hw3, scF, sclT, msD]
theorem sc_b4 (cl : Cl) (pa : D) {t m w j : T3} (h : Sc t m w j) (c : T3) (found : List D) (hf : found.length < 10000) (p q : D) (x : Option Rz) (sto : List Box) : c__law_scaled_b4 cl ⟨scE pa t m w j found (some (.dat p)) (some (.dat q)) (some (.dat (msD c))) x none, sto⟩ = .ok .nx ⟨scE pa t m w j (found ++ [e3D (p, q, sclT t m w j c)]) (some (.dat p)) (some (.dat q)) (some (.dat (msD c))) (some (.own (keyB j c))) none, sto⟩ := by
  have e1 : ∀ i, dMul (.int i) (.int j.1) = some (.dat (.int (i * j.1))) := fun i => dMul_1 (by have := h.j.1; omega)
  have e2 : ∀ i, dMul (.int i) (.int j.2.1) = some (.dat (.int (i * j.2.1))) := fun i => dMul_1 (by have := h.j.2.1; omega)
  have e3 : ∀ i, dMul (.int i) (.int j.2.2) = some (.dat (.int (i * j.2.2))) := fun i => dMul_1 (by have := h.j.2.2; omega)
  have hl := sc_t3 cl pa h c found (some (.dat p)) (some (.dat q)) sto
  have ha : ∀ y, gAppend found [y] = some (found ++ [y], .non) := fun y => gAppend_ok (by rw [sizeLine_eq]; omega)
  unfold scE ms3 keyB at hl
  simp [scF] at hl
  unfold msD at hl
  unfold scE ms3 keyB msD
  simp [c__law_scaled_b4, e1, e2, e3, hl, ha, e3D, msD]
theorem s_pickI {sto : List Box} (h : SB sto) (xs : List Int) (lo hi : Int) (h1 : xs ≠ []) (h2 : xs.length < 1000) (h3 : ∀ x ∈ xs, lo ≤ x ∧ x ≤ hi) : ∃ b sto', (clN Γ 60 (n + 2)).fn "_law_pick" [.box 0, .lst (xs.map .int)] sto = .ok (.dat (.int b)) sto' ∧ SB sto' ∧ lo ≤ b ∧ b ≤ hi := by
  obtain ⟨x, sto', e, i, m⟩ := s_pick n h (xs := xs.map .int) (by simpa using h1) (by simpa using h2)
  obtain ⟨b, hb, rfl⟩ := List.mem_map.mp m
  exact ⟨b, sto', e, i, h3 b hb⟩
theorem sc_12 {sto : List Box} (h : SB sto) (pa : D) : ∃ (a b c : Int) (sto' : List Box), mLc Γ.L [11] (c__law_scaled_i11 (clN Γ 60 (n + 2))) (c__law_scaled_t12 (clN Γ 60 (n + 2))) ⟨[some (.dat (.box 0)), some (.dat pa), none, none, none, none, none, none, none, none, none, none], sto⟩ = .ok (.own (.lst [.int a, .int b, .int c])) ⟨[some (.dat (.box 0)), some (.dat pa), none, none, none, none, none, none, none, none, none, none], sto'⟩ ∧ SB sto' ∧ (0 ≤ a ∧ a ≤ 1000000000000) ∧ (0 ≤ b ∧ b ≤ 1000000000000) ∧ (0 ≤ c ∧ c ≤ 1000000000000) := by
  refine t3 (mi := c__law_scaled_i11 (clN Γ 60 (n + 2))) h [some (.dat (.box 0)), some (.dat pa), none, none, none, none, none, none, none, none, none, none] rfl rfl rfl (fun _ => rfl) 0 1000000000000 (by simp [c__law_scaled_i11, rngOf3]) fun d sto hs => ?_
  · obtain ⟨b, sto', e, i, m⟩ := s_pickI n hs [1, 1, 2, 5, 1000000000000] 0 1000000000000 (by simp) (by simp) (by decide)
    exact ⟨b, sto', by simp at e; simp [pow12, e], i, m⟩
theorem sc_10 {sto : List Box} (h : SB sto) (pa : D) (t : T3) : ∃ (a b c : Int) (sto' : List Box), mLc Γ.L [11] (c__law_scaled_i9 (clN Γ 60 (n + 2))) (c__law_scaled_t10 (clN Γ 60 (n + 2))) ⟨[some (.dat (.box 0)), some (.dat pa), some (.own (ms3 t)), none, none, none, none, none, none, none, none, none], sto⟩ = .ok (.own (.lst [.int a, .int b, .int c])) ⟨[some (.dat (.box 0)), some (.dat pa), some (.own (ms3 t)), none, none, none, none, none, none, none, none, none], sto'⟩ ∧ SB sto' ∧ (0 ≤ a ∧ a ≤ 1000000000000000000000000000000) ∧ (0 ≤ b ∧ b ≤ 1000000000000000000000000000000) ∧ (0 ≤ c ∧ c ≤ 1000000000000000000000000000000) := by
  refine t3 (mi := c__law_scaled_i9 (clN Γ 60 (n + 2))) h [some (.dat (.box 0)), some (.dat pa), some (.own (ms3 t)), none, none, none, none, none, none, none, none, none] rfl rfl rfl (fun _ => rfl) 0 1000000000000000000000000000000 (by simp [c__law_scaled_i9, rngOf3]) fun d sto hs => ?_
  · obtain ⟨b, sto', e, i, m⟩ := s_pickI n hs [0, 0, 1, 7, 1000000000000000000000000000000] 0 1000000000000000000000000000000 (by simp) (by simp) (by decide)
    exact ⟨b, sto', by simp at e; simp [pow30, e], i, m⟩
theorem sc_8 {sto : List Box} (h : SB sto) (pa : D) (t m : T3) : ∃ (a b c : Int) (sto' : List Box), mLc Γ.L [11] (c__law_scaled_i7 (clN Γ 60 (n + 2))) (c__law_scaled_t8 (clN Γ 60 (n + 2))) ⟨[some (.dat (.box 0)), some (.dat pa), some (.own (ms3 t)), some (.own (ms3 m)), none, none, none, none, none, none, none, none], sto⟩ = .ok (.own (.lst [.int a, .int b, .int c])) ⟨[some (.dat (.box 0)), some (.dat pa), some (.own (ms3 t)), some (.own (ms3 m)), none, none, none, none, none, none, none, none], sto'⟩ ∧ SB sto' ∧ (1 ≤ a ∧ a ≤ 40) ∧ (1 ≤ b ∧ b ≤ 40) ∧ (1 ≤ c ∧ c ≤ 40) := by
  refine t3 (mi := c__law_scaled_i7 (clN Γ 60 (n + 2))) h [some (.dat (.box 0)), some (.dat pa), some (.own (ms3 t)), some (.own (ms3 m)), none, none, none, none, none, none, none, none] rfl rfl rfl (fun _ => rfl) 1 40 (by simp [c__law_scaled_i7, rngOf3]) fun d sto hs => ?_
  · obtain ⟨b, sto', e, i, m⟩ := s_pickI n hs [1, 1, 5, 9, 40] 1 40 (by simp) (by simp) (by decide)
    exact ⟨b, sto', by simp at e; simp [e], i, m⟩
theorem sc_6 {sto : List Box} (h : SB sto) (pa : D) (t m w : T3) : ∃ (a b c : Int) (sto' : List Box), mLc Γ.L [11] (c__law_scaled_i5 (clN Γ 60 (n + 2))) (c__law_scaled_t6 (clN Γ 60 (n + 2))) ⟨[some (.dat (.box 0)), some (.dat pa), some (.own (ms3 t)), some (.own (ms3 m)), some (.own (ms3 w)), none, none, none, none, none, none, none], sto⟩ = .ok (.own (.lst [.int a, .int b, .int c])) ⟨[some (.dat (.box 0)), some (.dat pa), some (.own (ms3 t)), some (.own (ms3 m)), some (.own (ms3 w)), none, none, none, none, none, none, none], sto'⟩ ∧ SB sto' ∧ (1 ≤ a ∧ a ≤ 30) ∧ (1 ≤ b ∧ b ≤ 30) ∧ (1 ≤ c ∧ c ≤ 30) := by
  refine t3 (mi := c__law_scaled_i5 (clN Γ 60 (n + 2))) h [some (.dat (.box 0)), some (.dat pa), some (.own (ms3 t)), some (.own (ms3 m)), some (.own (ms3 w)), none, none, none, none, none, none, none] rfl rfl rfl (fun _ => rfl) 1 30 (by simp [c__law_scaled_i5, rngOf3]) fun d sto hs => ?_
  · obtain ⟨b, sto', e, i, m⟩ := s_from n hs (lo := 1) (hi := 30) (by omega) (by omega)
    exact ⟨b, sto', by simp [e], i, m⟩
theorem s_scaled {sto : List Box} (h : SB sto) (es : List (D × D × T3)) (hl : es.length < 1000) (hn : ∀ e ∈ es, nn3 e.2.2) :
    ∃ (es' : List (D × D × T3)) (sto' : List Box), (clN Γ 60 (n + 3)).fn "_law_scaled" [.box 0, .lst (es.map e3D)] sto = .ok (.own (.lst (es'.map e3D))) sto' ∧ SB sto' ∧ es'.length = es.length ∧ ∀ e ∈ es', nn3 e.2.2 := by
  rw [q__law_scaled (n + 2)]
  obtain ⟨a1, b1, c1, s1, l1, h1, p1⟩ := sc_12 n h (.lst (es.map e3D))
  obtain ⟨a2, b2, c2, s2, l2, h2, p2⟩ := sc_10 n h1 (.lst (es.map e3D)) (a1, b1, c1)
  obtain ⟨a3, b3, c3, s3, l3, h3, p3⟩ := sc_8 n h2 (.lst (es.map e3D)) (a1, b1, c1) (a2, b2, c2)
  obtain ⟨a4, b4, c4, s4, l4, h4, p4⟩ := sc_6 n h3 (.lst (es.map e3D)) (a1, b1, c1) (a2, b2, c2) (a3, b3, c3)
  have hS : Sc (a1, b1, c1) (a2, b2, c2) (a3, b3, c3) (a4, b4, c4) := ⟨p1, ⟨p2.1.1, p2.2.1.1, p2.2.2.1⟩, p3, p4⟩
  have hf : ∃ (es' : List (D × D × T3)) (a b c x : Option Rz), mFor Γ.L (c__law_scaled_i1 (clN Γ 60 (n + 2))) (gTupD 3 (gsCons (fun d => setSlot 7 (.dat d)) (gsCons (fun d => setSlot 8 (.dat d)) (gsCons (fun d => setSlot 9 (.dat d)) gsNil)))) (c__law_scaled_b4 (clN Γ 60 (n + 2))) ⟨scE (.lst (es.map e3D)) (a1, b1, c1) (a2, b2, c2) (a3, b3, c3) (a4, b4, c4) [] none none none none none, s4⟩ = .ok .nx ⟨scE (.lst (es.map e3D)) (a1, b1, c1) (a2, b2, c2) (a3, b3, c3) (a4, b4, c4) (es'.map e3D) a b c x none, s4⟩ ∧ es'.length = es.length ∧ ∀ e ∈ es', nn3 e.2.2 := by
    obtain ⟨s', e, es', a, b, c, x, rfl, q1, q2⟩ := mFor_inv (L := Γ.L) (mi := c__law_scaled_i1 (clN Γ 60 (n + 2))) (g := (gTupD 3 (gsCons (fun d => setSlot 7 (.dat d)) (gsCons (fun d => setSlot 8 (.dat d)) (gsCons (fun d => setSlot 9 (.dat d)) gsNil))))) (body := c__law_scaled_b4 (clN Γ 60 (n + 2))) (s := ⟨scE (.lst (es.map e3D)) (a1, b1, c1) (a2, b2, c2) (a3, b3, c3) (a4, b4, c4) [] none none none none none, s4⟩) (s1 := ⟨scE (.lst (es.map e3D)) (a1, b1, c1) (a2, b2, c2) (a3, b3, c3) (a4, b4, c4) [] none none none none none, s4⟩) (src := .seq (es.map e3D)) (xs := es.map e3D)
      (fun i s => ∃ (es' : List (D × D × T3)) (a b c x : Option Rz), s = ⟨scE (.lst (es.map e3D)) (a1, b1, c1) (a2, b2, c2) (a3, b3, c3) (a4, b4, c4) (es'.map e3D) a b c x none, s4⟩ ∧ es'.length = i ∧ ∀ e ∈ es', nn3 e.2.2) (by simp [c__law_scaled_i1, scE]) rfl ⟨[], none, none, none, none, rfl, rfl, by simp⟩ (fun i d s hd ⟨es', a, b, c, x, hs, hi, hn'⟩ => by
        subst hs
        rw [List.getElem?_map] at hd
        cases he : es[i]? with
        | none => rw [he] at hd; cases hd
        | some e =>
          rw [he] at hd
          cases hd
          have hm := List.mem_of_getElem? he
          have hlt := (List.getElem?_eq_some_iff.mp he).1
          obtain ⟨p, q, c'⟩ := e
          have hb := sc_b4 (clN Γ 60 (n + 2)) (.lst (es.map e3D)) hS c' (es'.map e3D) (by rw [List.length_map]; omega) p q x s4
          refine ⟨_, ?_, es' ++ [(p, q, sclT (a1, b1, c1) (a2, b2, c2) (a3, b3, c3) (a4, b4, c4) c')], some (.dat p), some (.dat q), some (.dat (msD c')), some (.own (keyB (a4, b4, c4) c')), rfl, by simp [hi], fun e he => ?_⟩
          · have hg : gTupD 3 (gsCons (fun d => setSlot 7 (.dat d)) (gsCons (fun d => setSlot 8 (.dat d)) (gsCons (fun d => setSlot 9 (.dat d)) gsNil))) (e3D (p, q, c')) ⟨scE (.lst (es.map e3D)) (a1, b1, c1) (a2, b2, c2) (a3, b3, c3) (a4, b4, c4) (es'.map e3D) a b c x none, s4⟩ = .ok () ⟨scE (.lst (es.map e3D)) (a1, b1, c1) (a2, b2, c2) (a3, b3, c3) (a4, b4, c4) (es'.map e3D) (some (.dat p)) (some (.dat q)) (some (.dat (msD c'))) x none, s4⟩ := rfl
            rw [hg, bd_ok, hb, List.map_append]
            rfl
          · rcases List.mem_append.mp he with he | he
            · exact hn' e he
            · have : e = _ := List.mem_singleton.mp he
              subst this
              exact sc_nn hS (hn _ hm))
    exact ⟨es', a, b, c, x, e, by rw [q1, List.length_map], q2⟩
  obtain ⟨es', a, b, c, x, e5, q1, q2⟩ := hf
  refine ⟨es', s4, ?_, h4, q1, q2⟩
  unfold scE ms3 at e5
  unfold ms3 at l2 l3 l4
  simp [c__law_scaled, l1, l2, l3, l4, e5]
end Vl.T
set_option Elab.async false
set_option linter.all false
set_option maxRecDepth 100000
set_option maxHeartbeats 4000000
/-! shuffle, some -/
namespace Vl.T
open PySem
variable (n : Nat)
theorem s_shuffle {sto : List Box} (h : SB sto) {N : Nat} (hN : N < 1000) :
    ∃ (p : List Nat) (sto' : List Box), (clN Γ 60 (n + 2)).fn "_law_shuffle" [.box 0, .int N] sto = .ok (.own (.lst (natsD p))) sto' ∧ SB sto' ∧ p.Perm (List.range N) := by
  rw [q__law_shuffle (n + 1)]
  have hc : ∃ (p : List Nat) (env' : List (Option Rz)) (sto' : List Box), mLc Γ.L [3] (c__law_shuffle_i1 (clN Γ 60 (n + 1))) (c__law_shuffle_t2 (clN Γ 60 (n + 1))) ⟨[some (.dat (.box 0)), some (.dat (.int N)), some (.own (.lst (natsD (List.range N)))), none], sto⟩ = .ok (.own (.lst (natsD p))) ⟨env', sto'⟩ ∧ SB sto' ∧ p.Perm (List.range N) := by
    obtain ⟨acc, s2, e, p, lf, x, rfl, hs, hS, hp, hl⟩ := mLc_inv (L := Γ.L) (vs := [3]) (mi := c__law_shuffle_i1 (clN Γ 60 (n + 1))) (g := fun d => setSlot 3 (.dat d)) (ifs := Pure.pure true) (elt := dR (vD (mMut (rfSlot 2) (aC (dR (mCall ((clN Γ 60 (n + 1)).fn "_law_next") (aC (rdSlot 0) (aC (dR (mCallB [(rfSlot 2)] gLen)) aN)) [])) aN) gPop))) (src := .rng 0 1 N) (xs := natsD (List.range N))
      (s := ⟨[some (.dat (.box 0)), some (.dat (.int N)), some (.own (.lst (natsD (List.range N)))), none], sto⟩) (s1 := ⟨[some (.dat (.box 0)), some (.dat (.int N)), some (.own (.lst (natsD (List.range N)))), none], sto⟩)
      (fun i acc s => ∃ (p lf : List Nat) (x : Option Rz), acc = natsD p ∧ s.env = [some (.dat (.box 0)), some (.dat (.int N)), some (.own (.lst (natsD lf))), x] ∧ SB s.sto ∧ (p ++ lf).Perm (List.range N) ∧ p.length = i)
      (by simp [c__law_shuffle_i1, rng1 (show N < 2 ^ 62 by omega)]) (items_rng N) (by simp [natsD, sizeLine_eq]; omega) rfl ⟨[], List.range N, none, rfl, rfl, h, .refl _, rfl⟩ (fun i d acc s hd ⟨p, lf, x, ha, hs, hS, hp, hl⟩ => by
        obtain ⟨env, sto⟩ := s
        subst ha
        have hs : env = _ := hs
        subst hs
        have hlen := hp.length_eq
        rw [List.length_append, List.length_range] at hlen
        have hi := (List.getElem?_eq_some_iff.mp hd).1
        rw [natsD, List.length_map, List.length_range] at hi
        obtain ⟨k, sto', e1, hS', hk⟩ := s_nxN n hS (many := lf.length) (by omega) (by omega)
        have hp1 := gPop_i (xs := natsD lf) (d := k) (by simpa [natsD] using hk) (by simp [natsD]; omega)
        have e2 : (natsD lf)[k]'(by simpa [natsD] using hk) = .int (lf[k] : Nat) := by simp [natsD]
        rw [e2] at hp1
        have e3 : (natsD lf).take k ++ (natsD lf).drop (k + 1) = natsD (lf.take k ++ lf.drop (k + 1)) := by simp [natsD]
        rw [e3] at hp1
        have e4 : (natsD lf).length = lf.length := by simp [natsD]
        refine ⟨some (.int (lf[k] : Nat)), ⟨[some (.dat (.box 0)), some (.dat (.int N)), some (.own (.lst (natsD (lf.take k ++ lf.drop (k + 1))))), some (.dat d)], sto'⟩, ?_, p ++ [lf[k]], lf.take k ++ lf.drop (k + 1), some (.dat d), by simp [optL, natsD], rfl, hS', ?_, by simp [hl]⟩
        · simp [elt1, wipeE, e1, hp1, e4]
        · refine List.Perm.trans ?_ hp
          rw [List.append_assoc]
          exact List.Perm.append_left p (take_perm hk))
    refine ⟨p, _, s2.sto, e, hS, ?_⟩
    have hlen := hp.length_eq
    rw [List.length_append, List.length_range] at hlen
    have : lf = [] := by
      rw [natsD, List.length_map, List.length_range] at hl
      exact List.eq_nil_of_length_eq_zero (by omega)
    subst this
    simpa using hp
  obtain ⟨p, env', sto', e, hS, hp⟩ := hc
  exact ⟨p, sto', by simp [c__law_shuffle, mRgL_n (show N < 1000000 by omega), e], hS, hp⟩
end Vl.T
set_option Elab.async false
set_option linter.all false
set_option maxRecDepth 100000
set_option maxHeartbeats 4000000
/-! some, count, counters -/
namespace Vl.T
open PySem
variable (n : Nat)
def inL (l : List Nat) : List Int := l.map fun (i : Nat) => (i : Int)
def restN (S : List Nat) (m : Nat) : List Nat := (List.range m).filter fun s => decide (s ∉ S)
def exprD (S : List Nat) (m : Nat) : D := if 6 < S.length then notE (someE (inL (restN S m))) else someE (inL S)
theorem s_law_some (sto : List Box) (S : List Nat) (m : Nat) (hS : S.length < 1000) (hm : m < 1000) : (clN Γ 60 (n + 1)).fn "_law_some" [.lst (natsD S), .int m] sto = .ok (.dat (exprD S m)) sto := by
  rw [q__law_some n]
  have h1 : mLc Γ.L [2] (c__law_some_i1 (clN Γ 60 n)) (c__law_some_t2 (clN Γ 60 n)) ⟨[some (.dat (.lst (natsD S))), some (.dat (.int m)), none], sto⟩ = .ok (.own (.lst (S.map fun i : Nat => atE i))) ⟨[some (.dat (.lst (natsD S))), some (.dat (.int m)), none], sto⟩ := by
    refine mLc_mapE [some (.dat (.lst (natsD S))), some (.dat (.int m)), none] _ _ S (fun i : Nat => .int i) (fun i : Nat => atE i) (src := .seq (natsD S)) rfl rfl (by simp [c__law_some_i1]) rfl (by omega) rfl fun y hy => ⟨[some (.dat (.lst (natsD S))), some (.dat (.int m)), some (.dat (.int y))], by simp [wipeE, atE], rfl⟩
  have h2 : mLc Γ.L [2] (c__law_some_i3 (clN Γ 60 n)) (c__law_some_t4 (clN Γ 60 n)) ⟨[some (.dat (.lst (natsD S))), some (.dat (.int m)), none], sto⟩ = .ok (.own (.lst ((List.range m).filterMap fun i : Nat => if i ∈ S then none else some (atE i)))) ⟨[some (.dat (.lst (natsD S))), some (.dat (.int m)), none], sto⟩ := by
    refine mLc_mE [some (.dat (.lst (natsD S))), some (.dat (.int m)), none] _ _ (List.range m) (fun i : Nat => .int i) (fun i : Nat => if i ∈ S then none else some (atE i)) (src := .rng 0 1 m) rfl rfl (by simp [c__law_some_i3, rng1 (show m < 4611686018427387904 by omega)]) (items_rng m) (by simp; omega) rfl fun y hy => ⟨[some (.dat (.lst (natsD S))), some (.dat (.int m)), some (.dat (.int y))], ?_, rfl⟩
    by_cases h : y ∈ S <;> simp [wipeE, atE, nin_nats, h]
  have e2 : (List.range m).filterMap (fun i : Nat => if i ∈ S then none else some (atE i)) = (inL (restN S m)).map atE := by
    unfold inL restN
    rw [List.map_map]
    generalize List.range m = l
    induction l with
    | nil => rfl
    | cons a l ih =>
      rw [List.filterMap_cons, List.filter_cons]
      by_cases h : a ∈ S
      · simp only [h, if_pos, not_true_eq_false, decide_false, Bool.false_eq_true, if_false]; exact ih
      · simp only [h, if_false, not_false_eq_true, decide_true, if_true, List.map_cons]; rw [ih]; rfl
  have e1 : (S.map fun i : Nat => atE i) = (inL S).map atE := by unfold inL; rw [List.map_map]; rfl
  rw [e1] at h1
  rw [e2] at h2
  unfold exprD
  by_cases h : 6 < S.length
  · have h' : (6 : Int) < S.length := by omega
    simp [c__law_some, h, h', h2, notE, someE]
  · have h' : ¬ (6 : Int) < S.length := by omega
    simp [c__law_some, h, h', h1, someE]
theorem s_count (sto : List Box) (lv : List Nat) (at_ p : Nat) (h0 : 0 < lv.length) (h1 : lv.length < 1000) : ∃ c : Nat, (clN Γ 60 (n + 1)).fn "_law_count" [.lst (natsD lv), .int at_, .int p] sto = .ok (.dat (.int c)) sto := by
  rw [q__law_count n]
  obtain ⟨s', e, hi⟩ := mFor_invB (L := Γ.L) (mi := c__law_count_i1 (clN Γ 60 n)) (g := fun d => setSlot 4 (.dat d)) (body := c__law_count_b2 (clN Γ 60 n)) (src := .rng 0 1 lv.length) (xs := natsD (List.range lv.length))
    (s := ⟨[some (.dat (.lst (natsD lv))), some (.dat (.int at_)), some (.dat (.int p)), some (.dat (.int 0)), none, none], sto⟩) (s1 := ⟨[some (.dat (.lst (natsD lv))), some (.dat (.int at_)), some (.dat (.int p)), some (.dat (.int 0)), none, none], sto⟩)
    (fun _ s => ∃ (c : Nat) (x4 x5 : Option Rz), s = ⟨[some (.dat (.lst (natsD lv))), some (.dat (.int at_)), some (.dat (.int p)), some (.dat (.int c)), x4, x5], sto⟩) (fun s => ∃ (c : Nat) (x4 x5 : Option Rz), s = ⟨[some (.dat (.lst (natsD lv))), some (.dat (.int at_)), some (.dat (.int p)), some (.dat (.int c)), x4, x5], sto⟩)
    (by simp [c__law_count_i1, rng1 (show lv.length < 4611686018427387904 by omega)]) (items_rng _) ⟨0, none, none, rfl⟩ (fun i d s hd ⟨c, x4, x5, hs⟩ => by
      subst hs
      have hi : i < lv.length := by simpa using (List.getElem?_eq_some_iff.mp hd).1
      rw [natsD_get, List.getElem?_range hi] at hd
      cases hd
      have hm : (at_ + i) % lv.length < lv.length := Nat.mod_lt _ h0
      have ha : L2.atI (natsD lv) ((at_ + i : Int) % lv.length) = some (.int (lv[(at_ + i) % lv.length] : Nat)) := by
        rw [atN (j := (at_ + i) % lv.length) (by rw [Int.natCast_emod]; rfl), natsD_get, List.getElem?_eq_getElem hm]; rfl
      have hz : ∀ i : Int, dMod (.int i) (.int lv.length) = some (.dat (.int (i % lv.length))) := fun i => dMod_i (by omega)
      generalize lv[(at_ + i) % lv.length] = r at ha
      by_cases hp : p < r
      · refine ⟨.bk, _, ?_, .inr ⟨rfl, c, some (.dat (.int i)), some (.dat (.int r)), rfl⟩⟩
        simp [c__law_count_b2, hz, ha, hp]
      · by_cases hq : r = p
        · refine ⟨.nx, _, ?_, .inl ⟨.inl rfl, c + 1, some (.dat (.int i)), some (.dat (.int r)), rfl⟩⟩
          subst hq
          simp [c__law_count_b2, hz, ha]
        · refine ⟨.nx, _, ?_, .inl ⟨.inl rfl, c, some (.dat (.int i)), some (.dat (.int r)), rfl⟩⟩
          have hq' : ¬ (r : Int) = p := by omega
          simp [c__law_count_b2, hz, ha, hp, hq, hq'])
  have : ∃ (c : Nat) (x4 x5 : Option Rz), s' = ⟨[some (.dat (.lst (natsD lv))), some (.dat (.int at_)), some (.dat (.int p)), some (.dat (.int c)), x4, x5], sto⟩ := by
    rcases hi with h | h <;> exact h
  obtain ⟨c, x4, x5, rfl⟩ := this
  refine ⟨c, ?_⟩
  simp [c__law_count, e]
end Vl.T
set_option Elab.async false
set_option linter.all false
set_option maxRecDepth 100000
set_option maxHeartbeats 4000000
/-! counters, changed -/
namespace Vl.T
open PySem
variable (n : Nat)
theorem s_counters {sto : List Box} (h : SB sto) (lv : List Nat) (a b c : Nat) (h0 : 0 < lv.length) (h1 : lv.length < 1000) :
    ∃ (fs : List T3) (sto' : List Box), (clN Γ 60 (n + 4)).fn "_law_counters" [.box 0, .lst (natsD lv), .lst [.int a, .int b, .int c]] sto = .ok (.own (.lst (fs.map msD))) sto' ∧ SB sto' ∧ fs.length = lv.length ∧ ∀ f ∈ fs, nn3 f := by
  rw [q__law_counters (n + 3)]
  obtain ⟨d, st1, e1, i1, d0, d6⟩ := s_nx (n + 2) h (many := 6) (by omega) (by omega)
  have hc : ∃ (es : List (D × D × T3)) (st2 : List Box), mLc Γ.L [5] (c__law_counters_i3 (clN Γ 60 (n + 3))) (c__law_counters_t6 (clN Γ 60 (n + 3))) ⟨[some (.dat (.box 0)), some (.dat (.lst (natsD lv))), some (.dat (.lst [.int a, .int b, .int c])), some (.dat (.bl (decide (d = 0)))), none, none, none, none], st1⟩ = .ok (.own (.lst (es.map e3D))) ⟨[some (.dat (.box 0)), some (.dat (.lst (natsD lv))), some (.dat (.lst [.int a, .int b, .int c])), some (.dat (.bl (decide (d = 0)))), none, none, none, none], st2⟩ ∧ SB st2 ∧ es.length = (natsD (List.range lv.length)).length ∧ ∀ (j : Nat) e, es[j]? = some e → ∃ d, (natsD (List.range lv.length))[j]? = some d ∧ nn3 e.2.2 := by
    refine mLc_dr (L := Γ.L) (vs := [5]) (src := .rng 0 1 lv.length) [some (.dat (.box 0)), some (.dat (.lst (natsD lv))), some (.dat (.lst [.int a, .int b, .int c])), some (.dat (.bl (decide (d = 0)))), none, none, none, none] [some (.dat (.box 0)), some (.dat (.lst (natsD lv))), some (.dat (.lst [.int a, .int b, .int c])), some (.dat (.bl (decide (d = 0)))), none, none, none, none] _ SB e3D (fun _ e => nn3 e.2.2) rfl rfl (by simp [c__law_counters_i3, rng1 (show lv.length < 4611686018427387904 by omega)]) (items_rng _) (by simp; omega) rfl i1 (fun y hy sto hs => ?_)
    obtain ⟨i, hi, rfl⟩ := List.mem_map.mp hy
    have hi := List.mem_range.mp hi
    have hin : ∃ (bs : List Int) (st2 : List Box), mLc Γ.L [7] (c__law_counters_i4 (clN Γ 60 (n + 3))) (c__law_counters_t5 (clN Γ 60 (n + 3))) ⟨[some (.dat (.box 0)), some (.dat (.lst (natsD lv))), some (.dat (.lst [.int a, .int b, .int c])), some (.dat (.bl (decide (d = 0)))), none, some (.dat (.int i)), none, none], sto⟩ = .ok (.own (.lst (bs.map .int))) ⟨[some (.dat (.box 0)), some (.dat (.lst (natsD lv))), some (.dat (.lst [.int a, .int b, .int c])), some (.dat (.bl (decide (d = 0)))), none, some (.dat (.int i)), none, none], st2⟩ ∧ SB st2 ∧ bs.length = (natsD [a, b, c]).length ∧ ∀ (j : Nat) e, bs[j]? = some e → ∃ d, (natsD [a, b, c])[j]? = some d ∧ 0 ≤ e := by
      refine mLc_dr (L := Γ.L) (vs := [7]) (src := .seq (natsD [a, b, c])) [some (.dat (.box 0)), some (.dat (.lst (natsD lv))), some (.dat (.lst [.int a, .int b, .int c])), some (.dat (.bl (decide (d = 0)))), none, some (.dat (.int i)), none, none] [some (.dat (.box 0)), some (.dat (.lst (natsD lv))), some (.dat (.lst [.int a, .int b, .int c])), some (.dat (.bl (decide (d = 0)))), none, some (.dat (.int i)), none, none] _ SB D.int (fun _ e => 0 ≤ e) rfl rfl (by simp [c__law_counters_i4, natsD]) rfl (by simp) rfl hs (fun y hy sto hs => ?_)
      obtain ⟨p, hp, rfl⟩ := List.mem_map.mp hy
      by_cases hd : d = 0
      · obtain ⟨v, st2, e2, i2, v0, v3⟩ := s_nx (n + 2) hs (many := 3) (by omega) (by omega)
        exact ⟨v, [some (.dat (.box 0)), some (.dat (.lst (natsD lv))), some (.dat (.lst [.int a, .int b, .int c])), some (.dat (.bl (decide (d = 0)))), none, some (.dat (.int i)), none, some (.dat (.int p))], st2, by simp [hd, e2], rfl, i2, v0⟩
      · obtain ⟨v, e2⟩ := s_count (n + 2) sto lv i p h0 h1
        exact ⟨v, [some (.dat (.box 0)), some (.dat (.lst (natsD lv))), some (.dat (.lst [.int a, .int b, .int c])), some (.dat (.bl (decide (d = 0)))), none, some (.dat (.int i)), none, some (.dat (.int p))], sto, by simp [hd, e2], rfl, hs, by omega⟩
    obtain ⟨bs, st2, e2, i2, l2, p2⟩ := hin
    obtain ⟨x, y, z, rfl⟩ := len3 (l := bs) l2
    obtain ⟨_, _, p0⟩ := p2 0 x rfl
    obtain ⟨_, _, p1⟩ := p2 1 y rfl
    obtain ⟨_, _, p3⟩ := p2 2 z rfl
    simp at e2
    exact ⟨(.int i, .non, (x, y, z)), [some (.dat (.box 0)), some (.dat (.lst (natsD lv))), some (.dat (.lst [.int a, .int b, .int c])), some (.dat (.bl (decide (d = 0)))), none, some (.dat (.int i)), none, none], st2, by simp [e2, e3D, msD], rfl, i2, p0, p1, p3⟩
  obtain ⟨es, st2, e2, i2, l2, p2⟩ := hc
  rw [natsD_len, List.length_range] at l2
  obtain ⟨es', st3, e3, i3, l3, p3⟩ := s_scaled n i2 es (by omega) (fun e he => by
    obtain ⟨j, hj⟩ := List.getElem?_of_mem he
    obtain ⟨_, _, h⟩ := p2 j e hj
    exact h)
  have hc2 : ∃ (fs : List T3) (st4 : List Box), mLc Γ.L [6] (c__law_counters_i1 (clN Γ 60 (n + 3))) (c__law_counters_t2 (clN Γ 60 (n + 3))) ⟨[some (.dat (.box 0)), some (.dat (.lst (natsD lv))), some (.dat (.lst [.int a, .int b, .int c])), some (.dat (.bl (decide (d = 0)))), some (.own (.lst (es.map e3D))), none, none, none], st2⟩ = .ok (.own (.lst (fs.map msD))) ⟨[some (.dat (.box 0)), some (.dat (.lst (natsD lv))), some (.dat (.lst [.int a, .int b, .int c])), some (.dat (.bl (decide (d = 0)))), some (.dat (.lst (es.map e3D))), none, none, none], st4⟩ ∧ SB st4 ∧ fs.length = (es'.map e3D).length ∧ ∀ (j : Nat) e, fs[j]? = some e → ∃ d, (es'.map e3D)[j]? = some d ∧ nn3 e := by
    refine mLc_dr (L := Γ.L) (vs := [6]) (src := .seq (es'.map e3D)) [some (.dat (.box 0)), some (.dat (.lst (natsD lv))), some (.dat (.lst [.int a, .int b, .int c])), some (.dat (.bl (decide (d = 0)))), some (.dat (.lst (es.map e3D))), none, none, none] [some (.dat (.box 0)), some (.dat (.lst (natsD lv))), some (.dat (.lst [.int a, .int b, .int c])), some (.dat (.bl (decide (d = 0)))), some (.dat (.lst (es.map e3D))), none, none, none] _ SB msD (fun _ e => nn3 e) rfl rfl (by simp [c__law_counters_i1, e3]) rfl (by rw [List.length_map]; omega) rfl i3 (fun y hy sto hs => ?_)
    obtain ⟨e, he, rfl⟩ := List.mem_map.mp hy
    exact ⟨e.2.2, [some (.dat (.box 0)), some (.dat (.lst (natsD lv))), some (.dat (.lst [.int a, .int b, .int c])), some (.dat (.bl (decide (d = 0)))), some (.dat (.lst (es.map e3D))), none, some (.dat (e3D e)), none], sto, by simp [wipeE, e3D], rfl, hs, p3 e he⟩
  obtain ⟨fs, st4, e4, i4, l4, p4⟩ := hc2
  refine ⟨fs, st4, ?_, i4, by rw [l4, List.length_map, l3, l2], fun f hf => ?_⟩
  · simp [c__law_counters, e1, e2, e4]
  · obtain ⟨j, hj⟩ := List.getElem?_of_mem hf
    obtain ⟨_, _, h⟩ := p4 j f hj
    exact h
/-! ### changed -/
def get3 (t : T3) (k : Nat) : Int := if k = 0 then t.1 else if k = 1 then t.2.1 else t.2.2
def set3 (t : T3) (k : Nat) (v : Int) : T3 := if k = 0 then (v, t.2.1, t.2.2) else if k = 1 then (t.1, v, t.2.2) else (t.1, t.2.1, v)
theorem sl0 (a b c : D) : dSlice (.tup [a, b, c]) none (some 0) = some (.dat (.tup [])) := by kernel_rfl
theorem sl1 (a b c : D) : dSlice (.tup [a, b, c]) none (some 1) = some (.dat (.tup [a])) := by kernel_rfl
theorem sl2 (a b c : D) : dSlice (.tup [a, b, c]) none (some 2) = some (.dat (.tup [a, b])) := by kernel_rfl
theorem sr1 (a b c : D) : dSlice (.tup [a, b, c]) (some 1) none = some (.dat (.tup [b, c])) := by kernel_rfl
theorem sr2 (a b c : D) : dSlice (.tup [a, b, c]) (some 2) none = some (.dat (.tup [c])) := by kernel_rfl
theorem sr3 (a b c : D) : dSlice (.tup [a, b, c]) (some 3) none = some (.dat (.tup [])) := by kernel_rfl
theorem ad1 (x : D) : dAdd (.tup []) (.tup [x]) = some (.dat (.tup [x])) := by kernel_rfl
theorem ad2 (x y : D) : dAdd (.tup [x]) (.tup [y]) = some (.dat (.tup [x, y])) := by kernel_rfl
theorem ad3 (x y z : D) : dAdd (.tup [x, y]) (.tup [z]) = some (.dat (.tup [x, y, z])) := by kernel_rfl
theorem ad4 (x y z : D) : dAdd (.tup [x]) (.tup [y, z]) = some (.dat (.tup [x, y, z])) := by kernel_rfl
theorem ad5 (x y : D) : dAdd (.tup [x, y]) (.tup []) = some (.dat (.tup [x, y])) := by kernel_rfl
theorem ad6 (x y z : D) : dAdd (.tup [x, y, z]) (.tup []) = some (.dat (.tup [x, y, z])) := by kernel_rfl
theorem set3_nn {t : T3} (h : nn3 t) {k : Nat} {v : Int} (hv : 0 ≤ v) : nn3 (set3 t k v) := by
  unfold set3
  split
  · exact ⟨hv, h.2⟩
  · split
    · exact ⟨h.1, hv, h.2.2⟩
    · exact ⟨h.1, h.2.1, hv⟩
theorem get3_nn {t : T3} (h : nn3 t) (k : Nat) : 0 ≤ get3 t k := by
  unfold get3
  split
  · exact h.1
  · split
    · exact h.2.1
    · exact h.2.2
theorem kk3 {k : Nat} (h : k < 3) : k = 0 ∨ k = 1 ∨ k = 2 := by omega
theorem ms_get (t : T3) {k : Nat} (h : k < 3) : dGet (msD t) (.int k) = some (.int (get3 t k)) := by
  rcases kk3 h with rfl | rfl | rfl <;> rfl
theorem s_changed {sto : List Box} (h : SB sto) (fs : List T3) (h0 : 0 < fs.length) (h1 : fs.length < 1000) (hn : ∀ f ∈ fs, nn3 f) :
    ∃ (fs' : List T3) (sto' : List Box), (clN Γ 60 (n + 3)).fn "_law_changed" [.box 0, .lst (fs.map msD)] sto = .ok (.own (.lst (fs'.map msD))) sto' ∧ SB sto' ∧ fs'.length = fs.length ∧ ∀ f ∈ fs', nn3 f := by
  rw [q__law_changed (n + 2)]
  obtain ⟨at_, st1, e1, i1, l1⟩ := s_nxN (n + 1) h (many := fs.length) h0 (by omega)
  obtain ⟨k, st2, e2, i2, k0, l2⟩ := s_nx (n + 1) i1 (many := 3) (by omega) (by omega)
  obtain ⟨k, rfl⟩ := Int.eq_ofNat_of_zero_le k0
  have l2 : k < 3 := by omega
  have g1 : L2.atI (fs.map msD) (at_ : Int) = some (msD fs[at_]) := by rw [atI_nn, List.getElem?_map, List.getElem?_eq_getElem l1]; rfl
  have hu : ∃ u, nn3 u ∧ L2.atI (fs.map msD) ((at_ : Int) - 1) = some (msD u) := by
    by_cases h : at_ = 0
    · subst h
      have : fs.length - 1 < fs.length := by omega
      refine ⟨fs[fs.length - 1], hn _ (List.getElem_mem _), ?_⟩
      show L2.atI (fs.map msD) (-1) = _
      rw [atI_m1 _ (by rw [List.length_map]; omega), List.length_map, List.getElem?_map, List.getElem?_eq_getElem this]; rfl
    · have : at_ - 1 < fs.length := by omega
      refine ⟨fs[at_ - 1], hn _ (List.getElem_mem _), ?_⟩
      rw [atN (j := at_ - 1) (by omega), List.getElem?_map, List.getElem?_eq_getElem this]; rfl
  obtain ⟨u, hu, g2⟩ := hu
  have hf := hn _ (List.getElem_mem l1)
  have v0 := get3_nn hf k
  have w0 := get3_nn hu k
  obtain ⟨mx, gm, m0⟩ : ∃ mx : Int, gMax [.int 0, .int (get3 fs[at_] k - 1)] = some (.dat (.int mx)) ∧ 0 ≤ mx := ⟨_, gMax_2 _ _, by split <;> omega⟩
  obtain ⟨o, st3, e3, i3, m3⟩ := s_pick n i2 (xs := [.int (get3 fs[at_] k + 1), .int (get3 fs[at_] k + 1), .int mx, .int mx, .int 0, .int (get3 fs[at_] k + 1000000000), .int (get3 u k)]) (by simp) (by simp)
  have ho : ∃ v : Int, o = .int v ∧ 0 ≤ v := by
    simp only [List.mem_cons, List.not_mem_nil, or_false] at m3
    rcases m3 with rfl | rfl | rfl | rfl | rfl | rfl | rfl
    · exact ⟨_, rfl, by omega⟩
    · exact ⟨_, rfl, by omega⟩
    · exact ⟨_, rfl, m0⟩
    · exact ⟨_, rfl, m0⟩
    · exact ⟨_, rfl, by omega⟩
    · exact ⟨_, rfl, by omega⟩
    · exact ⟨_, rfl, w0⟩
  obtain ⟨v, rfl, hv⟩ := ho
  refine ⟨fs.take at_ ++ set3 fs[at_] k v :: fs.drop (at_ + 1), st3, ?_, i3, by simp; omega, fun f hf' => ?_⟩
  · have dd : ∀ x t, derefD x (msD t) = some (msD t) := fun _ _ => rfl
    have a1 : dAdd (.lst ((fs.map msD).take at_)) (.lst [msD (set3 fs[at_] k v)]) = some (.own (.lst ((fs.map msD).take at_ ++ [msD (set3 fs[at_] k v)]))) := dAdd_l _ _ (by simp; omega)
    have a2 : dAdd (.lst ((fs.map msD).take at_ ++ [msD (set3 fs[at_] k v)])) (.lst ((fs.map msD).drop (at_ + 1))) = some (.own (.lst ((fs.map msD).take at_ ++ [msD (set3 fs[at_] k v)] ++ (fs.map msD).drop (at_ + 1)))) := dAdd_l _ _ (by simp; omega)
    have s1 := dSlice_from (fs.map msD) (at_ + 1)
    have s1 : dSlice (.lst (fs.map msD)) (some ((at_ : Int) + 1)) none = some (.own (.lst ((fs.map msD).drop (at_ + 1)))) := s1
    have gk := ms_get fs[at_] l2
    have gu := ms_get u l2
    have t1 : ∃ x y, dSlice (msD fs[at_]) none (some (k : Int)) = some (.dat x) ∧ dSlice (msD fs[at_]) (some ((k : Int) + 1)) none = some (.dat y) ∧ (∃ z, dAdd x (.tup [.int v]) = some (.dat z) ∧ dAdd z y = some (.dat (msD (set3 fs[at_] k v))) ∧ (∀ q, derefD q z = some z)) ∧ (∀ q, derefD q x = some x) ∧ (∀ q, derefD q y = some y) := by
      unfold msD
      rcases kk3 l2 with rfl | rfl | rfl
      · exact ⟨_, _, sl0 _ _ _, sr1 _ _ _, ⟨_, ad1 _, ad4 _ _ _, fun _ => rfl⟩, fun _ => rfl, fun _ => rfl⟩
      · exact ⟨_, _, sl1 _ _ _, sr2 _ _ _, ⟨_, ad2 _ _, ad3 _ _ _, fun _ => rfl⟩, fun _ => rfl, fun _ => rfl⟩
      · exact ⟨_, _, sl2 _ _ _, sr3 _ _ _, ⟨_, ad3 _ _ _, ad6 _ _ _, fun _ => rfl⟩, fun _ => rfl, fun _ => rfl⟩
    obtain ⟨x, y, t1, t2, ⟨z, t3, t4, t7⟩, t5, t6⟩ := t1
    generalize fs[at_] = f at *
    generalize get3 f k = fk at *
    generalize get3 u k = uk at *
    generalize set3 f k v = f' at *
    simp [-gMax_2, gm, c__law_changed, e1, e2, g1, g2, dd, gk, gu, pow9, e3, t1, t2, t3, t4, t5, t6, t7, a1, a2, s1]
  · rcases List.mem_append.mp hf' with h | h
    · exact hn f (List.mem_of_mem_take h)
    · rcases List.mem_cons.mp h with rfl | h
      · exact set3_nn hf hv
      · exact hn f (List.mem_of_mem_drop h)
end Vl.T
set_option Elab.async false
set_option linter.all false
set_option maxRecDepth 100000
set_option maxHeartbeats 4000000
/-! copy, same -/
namespace Vl.T
open PySem
variable (n : Nat)
theorem s_copy {k : Nat} {d : D} (h : Pn k d) : ∀ (n : Nat) (sto : List Box), (clN Γ 60 (n + k + 1)).fn "_law_copy" [d] sto = .ok (cpR d) sto := by
  induction h with
  | non k => intro n sto; rw [q__law_copy]; simp [c__law_copy, cpR]
  | bl k b => intro n sto; rw [q__law_copy]; simp [c__law_copy, cpR]
  | int k i => intro n sto; rw [q__law_copy]; simp [c__law_copy, cpR]
  | str k x => intro n sto; rw [q__law_copy]; simp [c__law_copy, cpR]
  | @lst k xs hl h ih =>
    intro n sto
    rw [q__law_copy]
    have hc : mLc Γ.L [3] (c__law_copy_i3 (clN Γ 60 (n + (k + 1)))) (c__law_copy_t4 (clN Γ 60 (n + (k + 1)))) ⟨[some (.dat (.lst xs)), none, none, none], sto⟩ = .ok (.own (.lst (xs.map id))) ⟨[some (.dat (.lst xs)), none, none, none], sto⟩ :=
      mLc_mapE [some (.dat (.lst xs)), none, none, none] _ _ xs id id (src := .seq xs) rfl rfl (by simp [c__law_copy_i3]) (by simp [Src.items]) (by omega) rfl fun y hy => ⟨[some (.dat (.lst xs)), none, none, some (.dat y)], by
        have := ih y hy n sto
        rw [show n + k + 1 = n + (k + 1) from rfl] at this
        simp [wipeE, this, toD_cpR (h y hy)], rfl⟩
    rw [List.map_id] at hc
    simp [c__law_copy, hc]
  | @tup k xs hl h ih =>
    intro n sto
    rw [q__law_copy]
    have hc : mLc Γ.L [3] (c__law_copy_i1 (clN Γ 60 (n + (k + 1)))) (c__law_copy_t2 (clN Γ 60 (n + (k + 1)))) ⟨[some (.dat (.tup xs)), none, none, none], sto⟩ = .ok (.own (.lst (xs.map id))) ⟨[some (.dat (.tup xs)), none, none, none], sto⟩ :=
      mLc_mapE [some (.dat (.tup xs)), none, none, none] _ _ xs id id (src := .seq xs) rfl rfl (by simp [c__law_copy_i1]) (by simp [Src.items]) (by omega) rfl fun y hy => ⟨[some (.dat (.tup xs)), none, none, some (.dat y)], by
        have := ih y hy n sto
        rw [show n + k + 1 = n + (k + 1) from rfl] at this
        simp [wipeE, this, toD_cpR (h y hy)], rfl⟩
    rw [List.map_id] at hc
    simp [c__law_copy, hc, cpR]
  | @dct k V f hl hn h ih =>
    intro n sto
    rw [q__law_copy]
    obtain ⟨s', e, x2, hs⟩ := mFor_inv (L := Γ.L) (mi := c__law_copy_i5 (clN Γ 60 (n + (k + 1)))) (g := fun d => setSlot 2 (.dat d)) (body := c__law_copy_b6 (clN Γ 60 (n + (k + 1)))) (src := .keys (mp D.str f V)) (xs := V.map D.str) (s := ⟨[some (.dat (.dct (mp D.str f V))), some (.own (.dct [])), none, none], sto⟩) (s1 := ⟨[some (.dat (.dct (mp D.str f V))), some (.own (.dct [])), none, none], sto⟩)
      (fun i s => ∃ x2 : Option Rz, s = ⟨[some (.dat (.dct (mp D.str f V))), some (.own (.dct (mp D.str f (V.take i)))), x2, none], sto⟩) (by simp [c__law_copy_i5]) (mp_keys V) ⟨none, rfl⟩ (fun i d s hd ⟨x2, hs⟩ => by
        subst hs
        rw [List.getElem?_map] at hd
        cases ha : V[i]? with
        | none => rw [ha] at hd; cases hd
        | some a =>
          rw [ha] at hd
          cases hd
          obtain ⟨hi, hg⟩ := List.getElem?_eq_some_iff.mp ha
          have hm : a ∈ V := List.mem_of_getElem? ha
          have hni : a ∉ V.take i := fun hmem => by
            obtain ⟨j, hj⟩ := List.getElem?_of_mem hmem
            obtain ⟨hj1, hj2⟩ := List.getElem?_eq_some_iff.mp hj
            rw [List.length_take] at hj1
            rw [List.getElem_take] at hj2
            exact List.pairwise_iff_getElem.mp hn j i (by omega) hi (by omega) (hj2.trans hg.symm)
          have e1 := mp_get kf_str (f := f) a V hm
          have e2 := mp_put kf_str (f := f) a (V.take i) hni (by rw [List.length_take]; omega)
          have e3 : V.take i ++ [a] = V.take (i + 1) := by rw [List.take_succ, ha]; rfl
          rw [e3] at e2
          have e4 := ih a hm n sto
          rw [show n + k + 1 = n + (k + 1) from rfl] at e4
          refine ⟨_, ?_, some (.dat (.str a)), rfl⟩
          simp [c__law_copy_b6, e1, e4, toD_cpR (h a hm), e2])
    subst hs
    rw [List.length_map, List.take_length] at e
    simp [c__law_copy, e]
theorem gExtend_ok {xs ys : List D} (h : xs.length + ys.length < 10000) : gExtend xs [.lst ys] = some (xs ++ ys, .non) := if_pos (by rw [sizeLine_eq]; omega)
@[simp] theorem gTup_pr2 (gs : List D → M Unit) (d : D) (s : S) : gTupD 2 gs (pr2 d) s = gs [d, d] s := gTup_ap 2 gs [d, d] s rfl
/-- the frame behind the taking -/
def smE (a b x3 : Option Rz) (ws : List D) (d : D) : List (Option Rz) := [a, b, some (.own (.lst (ws.map pr2))), x3, some (.dat d), some (.dat d), none, none]
def smB (cl : Cl) : M Fl := (mIfS (tOr ((mBin (rD (dR (mIsi .bool (rfSlot 4)))) (rD (dR (mIsi .bool (rfSlot 5)))) dNe) >>= asB) (tOr ((mBin (rD (dR (mIsi .str (rfSlot 4)))) (rD (dR (mIsi .str (rfSlot 5)))) dNe) >>= asB) ((mBin (rfSlot 4) (rfSlot 5) dNe) >>= asB)))
    (mRet (Pure.pure (.dat (.bl false))))
    (Pure.pure .nx))
def smN (cl : Cl) : M Fl := (mIfS (tTru (rD (dR (mIsi .int (rfSlot 5)))))
    (mIfS (tOr (tNot (tTru (rD (dR (mIsi .int (rfSlot 4)))))) (tOr (tTru (rD (dR (mIsi .bool (rfSlot 4))))) ((mBin (rfSlot 4) (rfSlot 5) dNe) >>= asB)))
    (mRet (Pure.pure (.dat (.bl false))))
    (Pure.pure .nx))
    (mIfS ((mBin (rfSlot 4) (rD (dR (Pure.pure (.dat (.non))))) dIsNot) >>= asB)
    (mRet (Pure.pure (.dat (.bl false))))
    (Pure.pure .nx)))
def smL (cl : Cl) : M Fl := (mSeq (mIfS (tOr ((mBin (rD (dR (mIsi .tuple (rfSlot 5)))) (rD (dR (mIsi .tuple (rfSlot 4)))) dNe) >>= asB) (tOr ((mBin (rD (dR (mIsi .list (rfSlot 5)))) (rD (dR (mIsi .list (rfSlot 4)))) dNe) >>= asB) ((mBin (rD (dR (mCallB [(rfSlot 4)] gLen))) (rD (dR (mCallB [(rfSlot 5)] gLen))) dNe) >>= asB)))
    (mRet (Pure.pure (.dat (.bl false))))
    (Pure.pure .nx))
    (mExp (vD (mMut (rfSlot 2) (aC (dR (mLc Γ.L [6] (c__law_same_i2 cl) (c__law_same_t3 cl))) aN) gExtend))))
def smD (cl : Cl) : M Fl := (mSeq (mIfS (tOr (tNot (tTru (rD (dR (mIsi .dict (rfSlot 4)))))) (tOr ((mBin (rD (dR (mCallB [(rfSlot 4)] gLen))) (rD (dR (mCallB [(rfSlot 5)] gLen))) dNe) >>= asB) ((mBin (rD (dR (mCallB [(rD (dR (mLc Γ.L [7] (c__law_same_i6 cl) (c__law_same_t7 cl))))] gLen))) (rD (dR (Pure.pure (.dat (.int 0))))) dGt) >>= asB)))
    (mRet (Pure.pure (.dat (.bl false))))
    (Pure.pure .nx))
    (mExp (vD (mMut (rfSlot 2) (aC (dR (mLc Γ.L [7] (c__law_same_i4 cl) (c__law_same_t5 cl))) aN) gExtend))))
def smR (cl : Cl) : M Fl := mIfS (tOr (tTru (rD (dR (mIsi .tuple (rfSlot 5))))) (tTru (rD (dR (mIsi .list (rfSlot 5)))))) (smL cl) (mIfS (tTru (rD (dR (mIsi .dict (rfSlot 5))))) (smD cl) (mIfS (tOr (tTru (rD (dR (mIsi .bool (rfSlot 5))))) (tTru (rD (dR (mIsi .str (rfSlot 5)))))) (smB cl) (smN cl)))
theorem sm_pop (cl : Cl) (ws : List D) (d : D) (a b x3 x4 x5 : Option Rz) (sto : List Box) : c__law_same_b8 cl ⟨[a, b, some (.own (.lst ((ws ++ [d]).map pr2))), x3, x4, x5, none, none], sto⟩ = smR cl ⟨smE a b x3 ws d, sto⟩ := by
  have hpop : gPop ((ws ++ [d]).map pr2) [] = some (ws.map pr2, pr2 d) := by rw [List.map_append]; exact gPop_0 _ _
  have hlen : (ws ++ [d]).map pr2 ≠ [] := by simp
  generalize (ws ++ [d]).map pr2 = W at hpop hlen
  exact seq_nx (s1 := ⟨[a, b, some (.own (.lst W)), x3, x4, x5, none, none], sto⟩) (by simp [hlen]) (seq_nx (s1 := ⟨smE a b x3 ws d, sto⟩) (by simp [hpop, smE]) rfl)
theorem sm_lst (cl : Cl) (ws xs : List D) (hw : ws.length + xs.length < 9000) (a b x3 : Option Rz) (sto : List Box) : smL cl ⟨smE a b x3 ws (.lst xs), sto⟩ = .ok .nx ⟨smE a b x3 (ws ++ xs) (.lst xs), sto⟩ := by
  have hc : mLc Γ.L [6] (c__law_same_i2 cl) (c__law_same_t3 cl) ⟨[a, b, some (.own (.lst (ws.map pr2))), x3, some (.dat (.lst xs)), some (.dat (.lst xs)), none, none], sto⟩ = .ok (.own (.lst ((List.range xs.length).map fun i => ((xs[i]?).map pr2).getD .non))) ⟨[a, b, some (.own (.lst (ws.map pr2))), x3, some (.dat (.lst xs)), some (.dat (.lst xs)), none, none], sto⟩ :=
    mLc_mapE [a, b, some (.own (.lst (ws.map pr2))), x3, some (.dat (.lst xs)), some (.dat (.lst xs)), none, none] _ _ (List.range xs.length) (fun i : Nat => .int i) _ (src := .rng 0 1 xs.length) rfl rfl (by simp [c__law_same_i2, rng1 (show xs.length < 4611686018427387904 by omega)]) (items_rng _) (by simp; omega) rfl fun i hi => ⟨[a, b, some (.own (.lst (ws.map pr2))), x3, some (.dat (.lst xs)), some (.dat (.lst xs)), some (.dat (.int i)), none], by
      have hi := List.mem_range.mp hi
      simp [wipeE, atI_nn, List.getElem?_eq_getElem hi, pr2], rfl⟩
  have e1 : ((List.range xs.length).map fun i => ((xs[i]?).map pr2).getD .non) = xs.map pr2 := by
    apply List.ext_getElem
    · simp
    · intro i h1 h2
      simp at h1
      simp [h1]
  rw [e1] at hc
  have hx := gExtend_ok (xs := ws.map pr2) (ys := xs.map pr2) (by simp; omega)
  simp [smL, smE, hc, hx]
theorem sm_tup (cl : Cl) (ws xs : List D) (hw : ws.length + xs.length < 9000) (a b x3 : Option Rz) (sto : List Box) : smL cl ⟨smE a b x3 ws (.tup xs), sto⟩ = .ok .nx ⟨smE a b x3 (ws ++ xs) (.tup xs), sto⟩ := by
  have hc : mLc Γ.L [6] (c__law_same_i2 cl) (c__law_same_t3 cl) ⟨[a, b, some (.own (.lst (ws.map pr2))), x3, some (.dat (.tup xs)), some (.dat (.tup xs)), none, none], sto⟩ = .ok (.own (.lst ((List.range xs.length).map fun i => ((xs[i]?).map pr2).getD .non))) ⟨[a, b, some (.own (.lst (ws.map pr2))), x3, some (.dat (.tup xs)), some (.dat (.tup xs)), none, none], sto⟩ :=
    mLc_mapE [a, b, some (.own (.lst (ws.map pr2))), x3, some (.dat (.tup xs)), some (.dat (.tup xs)), none, none] _ _ (List.range xs.length) (fun i : Nat => .int i) _ (src := .rng 0 1 xs.length) rfl rfl (by simp [c__law_same_i2, rng1 (show xs.length < 4611686018427387904 by omega)]) (items_rng _) (by simp; omega) rfl fun i hi => ⟨[a, b, some (.own (.lst (ws.map pr2))), x3, some (.dat (.tup xs)), some (.dat (.tup xs)), some (.dat (.int i)), none], by
      have hi := List.mem_range.mp hi
      simp [wipeE, atI_nn, List.getElem?_eq_getElem hi, pr2], rfl⟩
  have e1 : ((List.range xs.length).map fun i => ((xs[i]?).map pr2).getD .non) = xs.map pr2 := by
    apply List.ext_getElem
    · simp
    · intro i h1 h2
      simp at h1
      simp [h1]
  rw [e1] at hc
  have hx := gExtend_ok (xs := ws.map pr2) (ys := xs.map pr2) (by simp; omega)
  simp [smL, smE, hc, hx]
theorem sm_dct (cl : Cl) (ws : List D) (V : List Str) (f : Str → D) (hw : ws.length + V.length < 9000) (a b x3 : Option Rz) (sto : List Box) : smD cl ⟨smE a b x3 ws (.dct (mp D.str f V)), sto⟩ = .ok .nx ⟨smE a b x3 (ws ++ V.map f) (.dct (mp D.str f V)), sto⟩ := by
  have h7 : mLc Γ.L [7] (c__law_same_i6 cl) (c__law_same_t7 cl) ⟨[a, b, some (.own (.lst (ws.map pr2))), x3, some (.dat (.dct (mp D.str f V))), some (.dat (.dct (mp D.str f V))), none, none], sto⟩ = .ok (.own (.lst (V.filterMap fun a => none))) ⟨[a, b, some (.own (.lst (ws.map pr2))), x3, some (.dat (.dct (mp D.str f V))), some (.dat (.dct (mp D.str f V))), none, none], sto⟩ :=
    mLc_mE [a, b, some (.own (.lst (ws.map pr2))), x3, some (.dat (.dct (mp D.str f V))), some (.dat (.dct (mp D.str f V))), none, none] _ _ V D.str (fun _ => none) (src := .keys (mp D.str f V)) rfl rfl (by simp [c__law_same_i6]) (mp_keys V) (by omega) rfl fun y hy => ⟨[a, b, some (.own (.lst (ws.map pr2))), x3, some (.dat (.dct (mp D.str f V))), some (.dat (.dct (mp D.str f V))), none, some (.dat (.str y))], by
      have e1 := mp_nin kf_str (f := f) y V
      simp [wipeE, e1, hy], rfl⟩
  have h5 : mLc Γ.L [7] (c__law_same_i4 cl) (c__law_same_t5 cl) ⟨[a, b, some (.own (.lst (ws.map pr2))), x3, some (.dat (.dct (mp D.str f V))), some (.dat (.dct (mp D.str f V))), none, none], sto⟩ = .ok (.own (.lst (V.map fun a => pr2 (f a)))) ⟨[a, b, some (.own (.lst (ws.map pr2))), x3, some (.dat (.dct (mp D.str f V))), some (.dat (.dct (mp D.str f V))), none, none], sto⟩ :=
    mLc_mapE [a, b, some (.own (.lst (ws.map pr2))), x3, some (.dat (.dct (mp D.str f V))), some (.dat (.dct (mp D.str f V))), none, none] _ _ V D.str (fun a => pr2 (f a)) (src := .keys (mp D.str f V)) rfl rfl (by simp [c__law_same_i4]) (mp_keys V) (by omega) rfl fun y hy => ⟨[a, b, some (.own (.lst (ws.map pr2))), x3, some (.dat (.dct (mp D.str f V))), some (.dat (.dct (mp D.str f V))), none, some (.dat (.str y))], by
      have e1 := mp_get kf_str (f := f) y V hy
      simp [wipeE, e1, pr2], rfl⟩
  have e0 : (V.filterMap fun a => (none : Option D)) = [] := by simp
  rw [e0] at h7
  have hx := gExtend_ok (xs := ws.map pr2) (ys := V.map fun a => pr2 (f a)) (by simp; omega)
  have hm : V.map (fun a => pr2 (f a)) = (V.map f).map pr2 := by rw [List.map_map]; rfl
  rw [hm] at hx h5
  have hm2 : ∀ x y : List D, x.map pr2 ++ y.map pr2 = (x ++ y).map pr2 := fun x y => by rw [List.map_append]
  rw [hm2] at hx
  generalize V.map f = W at hx h5 ⊢
  simp [smD, smE, h7, h5, hx]
/-- one turn over a thing and itself -/
theorem s_same_turn (cl : Cl) {k : Nat} {d : D} (h : Pn k d) (ws : List D) (hw : ndL ws + nd d < 9000) (a b x3 x4 x5 : Option Rz) (sto : List Box) : ∃ ws', c__law_same_b8 cl ⟨[a, b, some (.own (.lst ((ws ++ [d]).map pr2))), x3, x4, x5, none, none], sto⟩ = .ok .nx ⟨smE a b x3 (ws ++ ws') d, sto⟩ ∧ ndL ws' + 1 = nd d ∧ ∀ w ∈ ws', ∃ j, Pn j w := by
  have wl := ndL_len ws
  rw [sm_pop]
  unfold smR
  cases h with
  | non =>
    refine ⟨[], (ifs_f (s1 := ⟨smE a b x3 ws .non, sto⟩) (by simp [smE])).trans ((ifs_f (s1 := ⟨smE a b x3 ws .non, sto⟩) (by simp [smE])).trans ((ifs_f (s1 := ⟨smE a b x3 ws .non, sto⟩) (by simp [smE])).trans ?_)), by simp [ndL, nd], fun w hw => nomatch hw⟩
    rw [List.append_nil]
    simp [smN, smE]
  | bl _ q =>
    refine ⟨[], (ifs_f (s1 := ⟨smE a b x3 ws (.bl q), sto⟩) (by simp [smE])).trans ((ifs_f (s1 := ⟨smE a b x3 ws (.bl q), sto⟩) (by simp [smE])).trans ((ifs_t (s1 := ⟨smE a b x3 ws (.bl q), sto⟩) (by simp [smE])).trans ?_)), by simp [ndL, nd], fun w hw => nomatch hw⟩
    rw [List.append_nil]
    simp [smB, smE]
  | int _ q =>
    refine ⟨[], (ifs_f (s1 := ⟨smE a b x3 ws (.int q), sto⟩) (by simp [smE])).trans ((ifs_f (s1 := ⟨smE a b x3 ws (.int q), sto⟩) (by simp [smE])).trans ((ifs_f (s1 := ⟨smE a b x3 ws (.int q), sto⟩) (by simp [smE])).trans ?_)), by simp [ndL, nd], fun w hw => nomatch hw⟩
    rw [List.append_nil]
    simp [smN, smE]
  | str _ q =>
    refine ⟨[], (ifs_f (s1 := ⟨smE a b x3 ws (.str q), sto⟩) (by simp [smE])).trans ((ifs_f (s1 := ⟨smE a b x3 ws (.str q), sto⟩) (by simp [smE])).trans ((ifs_t (s1 := ⟨smE a b x3 ws (.str q), sto⟩) (by simp [smE])).trans ?_)), by simp [ndL, nd], fun w hw => nomatch hw⟩
    rw [List.append_nil]
    simp [smB, smE, dNe_s]
  | @lst k xs hl h =>
    have xl := ndL_len xs
    rw [nd] at hw
    exact ⟨xs, (ifs_t (s1 := ⟨smE a b x3 ws (.lst xs), sto⟩) (by simp [smE])).trans (sm_lst cl ws xs (by omega) a b x3 sto), by rw [nd], fun w hw => ⟨k, h w hw⟩⟩
  | @tup k xs hl h =>
    have xl := ndL_len xs
    rw [nd] at hw
    exact ⟨xs, (ifs_t (s1 := ⟨smE a b x3 ws (.tup xs), sto⟩) (by simp [smE])).trans (sm_tup cl ws xs (by omega) a b x3 sto), by rw [nd], fun w hw => ⟨k, h w hw⟩⟩
  | @dct k V f hl hn h =>
    rw [nd, ndK_mp] at hw
    have xl := ndL_len (V.map f)
    rw [List.length_map] at xl
    refine ⟨V.map f, (ifs_f (s1 := ⟨smE a b x3 ws (.dct (mp D.str f V)), sto⟩) (by simp [smE])).trans ((ifs_t (s1 := ⟨smE a b x3 ws (.dct (mp D.str f V)), sto⟩) (by simp [smE])).trans (sm_dct cl ws V f (by omega) a b x3 sto)), by rw [nd, ndK_mp], fun w hw => ?_⟩
    obtain ⟨x, hx, rfl⟩ := List.mem_map.mp hw
    exact ⟨k, h x hx⟩
theorem same_loop (cl : Cl) (a b : Option Rz) (sto : List Box) : ∀ (N : Nat) (ws : List D) (ds : List D) (x3 x4 x5 : Option Rz), ndL ws = N → N < 9000 → N < ds.length → (∀ w ∈ ws, ∃ j, Pn j w) → ∃ s', eachF (fun d => setSlot 3 (.dat d)) (c__law_same_b8 cl) ds ⟨[a, b, some (.own (.lst (ws.map pr2))), x3, x4, x5, none, none], sto⟩ = .ok (.rt (.dat (.bl true))) s' ∧ s'.sto = sto
  | N, ws, [], x3, x4, x5, e, hN, hl, hw => absurd hl (Nat.not_lt_zero _)
  | N, ws, d :: ds, x3, x4, x5, e, hN, hl, hw => by
    rcases List.eq_nil_or_concat ws with rfl | ⟨ws0, w, rfl⟩
    · exact ⟨_, eachF_rt (s1 := ⟨[a, b, some (.own (.lst [])), some (.dat d), x4, x5, none, none], sto⟩) rfl (by unfold c__law_same_b8; simp; rfl), rfl⟩
    · obtain ⟨j, hp⟩ := hw w (by simp)
      rw [List.concat_eq_append] at *
      have e' : ndL ws0 + nd w = N := by rw [← e, ndL_app]; simp [ndL]
      obtain ⟨ws', e1, e2, h3⟩ := s_same_turn cl hp ws0 (by omega) a b (some (.dat d)) x4 x5 sto
      have hp := nd_pos w
      obtain ⟨s', i1, i2⟩ := same_loop cl a b sto (N - 1) (ws0 ++ ws') ds (some (.dat d)) (some (.dat w)) (some (.dat w)) (by rw [ndL_app]; omega) (by omega) (by rw [List.length_cons] at hl; omega) (fun x hx => by
        rcases List.mem_append.mp hx with h | h
        · exact hw x (by simp [h])
        · exact h3 x h)
      exact ⟨s', eachF_nx (s1 := ⟨[a, b, some (.own (.lst ((ws0 ++ [w]).map pr2))), some (.dat d), x4, x5, none, none], sto⟩) rfl i1 e1, i2⟩
theorem s_same {k : Nat} {d : D} (h : Pn k d) (hd : nd d < 8000) (sto : List Box) : (clN Γ 60 (n + 1)).fn "_law_same" [d, d] sto = .ok (.dat (.bl true)) sto := by
  rw [q__law_same n]
  obtain ⟨M, hM, hr⟩ : ∃ M : Nat, 8000 < M ∧ rngOf [.int 2000000] = some (.rng 0 1 M) := ⟨2000000, by omega, rng1 (j := 2000000) (by omega)⟩
  obtain ⟨s', e, i⟩ := same_loop (clN Γ 60 n) (some (.dat d)) (some (.dat d)) sto (nd d) [d] ((List.range M).map fun (i : Nat) => D.int i) none none none (by simp [ndL]) (by omega) (by rw [List.length_map, List.length_range]; omega) (fun w hw => ⟨k, by rw [List.mem_singleton.mp hw]; exact h⟩)
  have hf : mFor Γ.L (c__law_same_i1 (clN Γ 60 n)) (fun d => setSlot 3 (.dat d)) (c__law_same_b8 (clN Γ 60 n)) ⟨[some (.dat d), some (.dat d), some (.own (.lst [pr2 d])), none, none, none, none, none], sto⟩ = .ok (.rt (.dat (.bl true))) s' := by
    rw [mFor_ap (xs := (List.range M).map fun (i : Nat) => D.int i) (src := .rng 0 1 M) (s1 := ⟨[some (.dat d), some (.dat d), some (.own (.lst [pr2 d])), none, none, none, none, none], sto⟩) (by simp [c__law_same_i1, hr]) (items_rng _)]
    exact e
  have h2 : c__law_same (clN Γ 60 n) ⟨[some (.dat d), some (.dat d), none, none, none, none, none, none], sto⟩ = .ok (.rt (.dat (.bl true))) s' :=
    seq_nx (s1 := ⟨[some (.dat d), some (.dat d), some (.own (.lst [pr2 d])), none, none, none, none, none], sto⟩) (by simp [pr2]) (seq_rt hf)
  rw [runC_ap 2 8 _ _ _ rfl]
  show rtE (c__law_same (clN Γ 60 n) ⟨[some (.dat d), some (.dat d), none, none, none, none, none, none], sto⟩) = _
  rw [h2, rtE_rt, i]
end Vl.T
set_option Elab.async false
set_option linter.all false
set_option maxRecDepth 100000
set_option maxHeartbeats 4000000
/-! entries; places in a ring -/
namespace Vl.T
open PySem
variable (n : Nat)
def place (m i : Nat) : Nat × Nat := ((i + 1) / 2 % m, i % 2)
def idx (m : Nat) (q : Nat × Nat) : Nat := if q.2 = 0 then 2 * q.1 else 2 * ((q.1 + m - 1) % m) + 1
def at3 (fs : List T3) (i : Nat) : T3 := (fs[i]?).getD (0, 0, 0)
theorem idx_place {m i : Nat} (h1 : 1 ≤ m) (hi : i < 2 * m) : idx m (place m i) = i := by
  unfold idx place
  rcases Nat.mod_two_eq_zero_or_one i with e | e
  · have : (i + 1) / 2 < m := by omega
    simp only [e, if_pos, Nat.mod_eq_of_lt this]
    omega
  · simp only [e, Nat.one_ne_zero, if_false]
    by_cases h : (i + 1) / 2 < m
    · rw [Nat.mod_eq_of_lt h]
      have : (i + 1) / 2 + m - 1 = ((i + 1) / 2 - 1) + m := by omega
      rw [this, Nat.add_mod_right, Nat.mod_eq_of_lt (by omega)]
      omega
    · have : (i + 1) / 2 = m := by omega
      rw [this, Nat.mod_self, Nat.zero_add, Nat.mod_eq_of_lt (by omega)]
      omega
theorem nxt_place {m i : Nat} (h1 : 1 ≤ m) (hi : i < 2 * m) : nxt m (place m i) = place m ((i + 1) % (2 * m)) := by
  unfold nxt place
  rcases Nat.mod_two_eq_zero_or_one i with e | e
  · have h2 : (i + 1) % (2 * m) = i + 1 := Nat.mod_eq_of_lt (by omega)
    rw [h2]
    simp only [e, if_pos]
    have h3 : (i + 1) / 2 = i / 2 := by omega
    have h4 : (i + 1 + 1) / 2 = i / 2 + 1 := by omega
    rw [h3, h4, Nat.mod_eq_of_lt (show i / 2 < m by omega)]
    congr 1
    omega
  · simp only [e, Nat.one_ne_zero, if_false]
    by_cases h : i + 1 < 2 * m
    · rw [Nat.mod_eq_of_lt h]
      congr 1
      · congr 1; omega
      · omega
    · have : i + 1 = 2 * m := by omega
      rw [this, Nat.mod_self]
      have : 2 * m / 2 = m := by omega
      rw [this, Nat.mod_self]
      congr 1
theorem place_lt {m : Nat} (i : Nat) (h1 : 1 ≤ m) : (place m i).1 < m ∧ (place m i).2 < 2 := ⟨Nat.mod_lt _ (by omega), Nat.mod_lt _ (by omega)⟩
def cOf (fs : List T3) (m : Nat) (q : Nat × Nat) : T3 := at3 fs (idx m q)
theorem s_entries {sto : List Box} (h : SB sto) (lv : List Nat) (fs : List T3) {m side : Nat} (h1 : 1 ≤ m) (h8 : m ≤ 8) (hl : lv.length = 2 * m) (hf : fs.length = 2 * m) (hs : side < 2) :
    ∃ (p : List Nat) (sto' : List Box), (clN Γ 60 (n + 3)).fn "_law_entries" [.box 0, .lst (natsD lv), .lst (fs.map msD), .int side] sto = .ok (.own (.lst ((p.map (place m)).map (entD side (cOf fs m))))) sto' ∧ SB sto' ∧ p.Perm (List.range (2 * m)) := by
  rw [q__law_entries (n + 2)]
  obtain ⟨p, st1, e1, i1, hp⟩ := s_shuffle n h (N := 2 * m) (by omega)
  have hpl : p.length = 2 * m := by rw [hp.length_eq, List.length_range]
  have hlt : ∀ i ∈ p, i < 2 * m := fun i hi => List.mem_range.mp (hp.mem_iff.mp hi)
  have hd : dDiv (.int lv.length) (.int 2) = some (.dat (.int m)) := by rw [dDiv_i (by omega) (by omega), hl]; congr 3; omega
  have e1' : (clN Γ 60 (n + 2)).fn "_law_shuffle" [.box 0, .int lv.length] sto = .ok (.own (.lst (natsD p))) st1 := by rw [hl]; exact e1
  obtain ⟨s', e, x6, x7, x8, hs'⟩ := mFor_inv (L := Γ.L) (mi := c__law_entries_i1 (clN Γ 60 (n + 2))) (g := fun d => setSlot 6 (.dat d)) (body := c__law_entries_b2 (clN Γ 60 (n + 2))) (src := .seq (natsD p)) (xs := natsD p)
    (s := ⟨[some (.dat (.box 0)), some (.dat (.lst (natsD lv))), some (.dat (.lst (fs.map msD))), some (.dat (.int side)), some (.dat (.int m)), some (.own (.lst [])), none, none, none], sto⟩)
    (s1 := ⟨[some (.dat (.box 0)), some (.dat (.lst (natsD lv))), some (.dat (.lst (fs.map msD))), some (.dat (.int side)), some (.dat (.int m)), some (.own (.lst [])), none, none, none], st1⟩)
    (fun i s => ∃ (x6 x7 x8 : Option Rz), s = ⟨[some (.dat (.box 0)), some (.dat (.lst (natsD lv))), some (.dat (.lst (fs.map msD))), some (.dat (.int side)), some (.dat (.int m)), some (.own (.lst (((p.take i).map (place m)).map (entD side (cOf fs m))))), x6, x7, x8], st1⟩)
    (by simp [c__law_entries_i1, e1']) rfl ⟨none, none, none, rfl⟩ (fun i d s hd ⟨x6, x7, x8, hs⟩ => by
      subst hs
      rw [natsD_get] at hd
      cases hi : p[i]? with
      | none => rw [hi] at hd; cases hd
      | some j =>
        rw [hi] at hd
        cases hd
        have hj := hlt j (List.mem_of_getElem? hi)
        have hil := (List.getElem?_eq_some_iff.mp hi).1
        have ht : p.take (i + 1) = p.take i ++ [j] := by rw [List.take_succ, hi]; rfl
        have a1 : dMod (.int j) (.int 2) = some (.dat (.int ((place m j).2 : Nat))) := by rw [dMod_i (by omega)]; rfl
        have a2 : dDiv (.int (j + 1)) (.int 2) = some (.dat (.int ((j + 1) / 2 : Nat))) := by rw [dDiv_i (by omega) (by omega)]; rfl
        have a3 : dMod (.int ((j + 1) / 2 : Nat)) (.int m) = some (.dat (.int ((place m j).1 : Nat))) := by rw [dMod_i (by omega)]; rfl
        have a4 : L2.atI (fs.map msD) j = some (msD (cOf fs m (place m j))) := by
          unfold cOf
          rw [idx_place h1 hj, atI_nn, List.getElem?_map]
          unfold at3
          rw [List.getElem?_eq_getElem (by omega)]
          rfl
        have hpl := (place_lt (m := m) j h1).2
        generalize hW : place m j = W at a1 a3 a4 hpl
        generalize (j + 1) / 2 = q at a2 a3
        have ha : ∀ y, gAppend (((p.take i).map (place m)).map (entD side (cOf fs m))) [y] = some (((p.take i).map (place m)).map (entD side (cOf fs m)) ++ [y], .non) := fun y => gAppend_ok (by rw [sizeLine_eq]; simp; omega)
        have dd : ∀ x t, derefD x (msD t) = some (msD t) := fun _ _ => rfl
        refine ⟨⟨[some (.dat (.box 0)), some (.dat (.lst (natsD lv))), some (.dat (.lst (fs.map msD))), some (.dat (.int side)), some (.dat (.int m)), some (.own (.lst (((p.take (i + 1)).map (place m)).map (entD side (cOf fs m))))), some (.dat (.int j)), some (.dat (.int W.2)), some (.dat (mvD side W.2))], st1⟩, ?_, some (.dat (.int j)), some (.dat (.int W.2)), some (.dat (mvD side W.2)), rfl⟩
        rw [ht, List.map_append, List.map_append]
        have : [j].map (place m) = [W] := by rw [← hW]; rfl
        rw [this]
        generalize ((p.take i).map (place m)).map (entD side (cOf fs m)) = acc at ha
        generalize hC : cOf fs m W = C at a4
        have hE : [W].map (entD side (cOf fs m)) = [.tup [pl0 W, mvD side W.2, msD C]] := by rw [← hC]; rfl
        rw [hE]
        have hW2 : W.2 = 0 ∨ W.2 = 1 := by omega
        have hs2 : side = 0 ∨ side = 1 := by omega
        obtain ⟨W1, W2⟩ := W
        simp only at hW2 a1 a3 ⊢
        rcases hW2 with rfl | rfl <;> rcases hs2 with rfl | rfl <;> simp at a1 <;> simp [c__law_entries_b2, a1, a2, a3, a4, ha, mvD, pl0, jt])
  subst hs'
  rw [natsD_len, hpl, List.take_of_length_le (by omega)] at e
  refine ⟨p, st1, ?_, i1, hp⟩
  simp [c__law_entries, hd, e]
end Vl.T
set_option Elab.async false
set_option linter.all false
set_option maxRecDepth 100000
set_option maxHeartbeats 4000000
/-! plain data of the law; told -/
namespace Vl.T
open PySem
variable (n : Nat)
theorem keys4 : ((["letters", "machines", "waits", "flags"] : List Str)).Nodup := by decide +kernel
theorem keys3 : ((["never", "answers", "goal"] : List Str)).Nodup := by decide +kernel
theorem pn_plant (m : Nat) (h8 : m ≤ 8) (both w1 : Bool) (g t : Int) : Pn 5 (plantD m both w1 g t) := by
  have h1 : Pn 4 (lettersD both g t) := by
    unfold lettersD
    have a : Pn 3 (letO g t) := .tup (by simp) (all_cons (.str _ _) (all_cons (.str _ _) (all_cons (.int _ _) (all_cons (.int _ _) all_nil))))
    have b : Pn 3 letW := .tup (by simp) (all_cons (.str _ _) (all_cons (.str _ _) (all_cons (.int _ _) (all_cons (.int _ _) all_nil))))
    cases both
    · exact .lst (by simp) (all_cons a all_nil)
    · exact .lst (by simp) (all_cons a (all_cons b all_nil))
  have h2 : Pn 4 (.lst [machD m both]) := by
    refine .lst (by simp) (all_cons ?_ all_nil)
    unfold machD
    refine .tup (by simp) (all_cons (.int _ _) (all_cons ?_ (all_cons ?_ all_nil)))
    · unfold knows
      cases both
      · exact .lst (by simp) (all_cons (.int _ _) all_nil)
      · exact .lst (by simp) (all_cons (.int _ _) (all_cons (.int _ _) all_nil))
    · unfold arcsD
      refine .lst (by simp; omega) fun x hx => ?_
      obtain ⟨s, _, rfl⟩ := List.mem_map.mp hx
      exact .tup (by simp) (all_cons (.int _ _) (all_cons (.int _ _) (all_cons (.int _ _) all_nil)))
  have h3 : Pn 4 (.tup [.bl false, .bl w1]) := .tup (by simp) (all_cons (.bl _ _) (all_cons (.bl _ _) all_nil))
  have e : plantD m both w1 g t = .dct ([(("letters" : Str), lettersD both g t), ("machines", .lst [machD m both]), ("waits", .tup [.bl false, .bl w1]), ("flags", .lst [])].map fun p => (D.str p.1, p.2)) := rfl
  rw [e]
  refine .kv (by simp) keys4 fun p hp => ?_
  simp only [List.mem_cons, List.not_mem_nil, or_false] at hp
  rcases hp with rfl | rfl | rfl | rfl
  · exact h1
  · exact h2
  · exact h3
  · exact .lst0
theorem pn_some (S : List Int) (hS : S.length < 1000) (k : Nat) : Pn (k + 3) (someE S) := by
  refine .tup (by simp) (all_cons (.str _ _) (all_cons ?_ all_nil))
  refine .lst (by simpa using hS) fun x hx => ?_
  obtain ⟨s, _, rfl⟩ := List.mem_map.mp hx
  exact .tup (by simp) (all_cons (.str _ _) (all_cons (.int _ _) (all_cons (.int _ _) all_nil)))
theorem rest_len (S : List Nat) (m : Nat) : (restN S m).length ≤ m := by
  unfold restN
  have := List.length_filter_le (fun s => decide (s ∉ S)) (List.range m)
  simpa using this
theorem pn_expr (S : List Nat) (m : Nat) (hS : S.length < 1000) (hm : m < 1000) : Pn 4 (exprD S m) := by
  unfold exprD
  split
  · refine .tup (by simp) (all_cons (.str _ _) (all_cons (pn_some _ ?_ 0) all_nil))
    have := rest_len S m
    simp [inL]; omega
  · exact (pn_some _ (by simpa [inL] using hS) 0).up
theorem pn_prom (ps : List D) (hl : ps.length < 1000) (h : ∀ p ∈ ps, Pn 4 p) : Pn 7 (promD ps) := by
  have e : promD ps = .dct ([(("never" : Str), .non), ("answers", .lst []), ("goal", .tup [.str "ranked", .lst ps])].map fun p => (D.str p.1, p.2)) := rfl
  rw [e]
  refine .kv (by simp) keys3 fun p hp => ?_
  simp only [List.mem_cons, List.not_mem_nil, or_false] at hp
  rcases hp with rfl | rfl | rfl
  · exact .non _
  · exact .lst0
  · exact .tup (by simp) (all_cons (.str _ _) (all_cons (.lst hl h) all_nil))
theorem pn_pl0 (p : Nat × Nat) (k : Nat) : Pn (k + 2) (pl0 p) := by
  refine .tup (by simp) (all_cons ?_ (all_cons (.int _ _) (all_cons .tup0 (all_cons (.int _ _) all_nil))))
  exact .tup (by simp) (all_cons (.int _ _) all_nil)
theorem pn_mv (side who k : Nat) : Pn k (mvD side who) := by
  unfold mvD
  split
  · split
    · exact .int _ _
    · exact .int _ _
  · exact .non _
theorem pn_ent (side : Nat) (c : Nat × Nat → Int × Int × Int) (p : Nat × Nat) : Pn 3 (entD side c p) := by
  refine .tup (by simp) (all_cons (pn_pl0 p 0) (all_cons (pn_mv _ _ _) (all_cons ?_ all_nil)))
  exact .tup (by simp) (all_cons (.int _ _) (all_cons (.int _ _) (all_cons (.int _ _) all_nil)))
theorem pn_paper (side : Nat) (c : Nat × Nat → Int × Int × Int) (qs : List (Nat × Nat)) (hl : qs.length < 1000) : Pn 4 (.lst (qs.map (entD side c))) := by
  refine .lst (by simpa using hl) fun x hx => ?_
  obtain ⟨p, _, rfl⟩ := List.mem_map.mp hx
  exact pn_ent _ _ _
theorem pn_all {m : Nat} (h8 : m ≤ 8) (both w1 : Bool) (g t : Int) (ps : List D) (hl : ps.length < 1000) (h : ∀ p ∈ ps, Pn 4 p) (side : Nat) (c : Nat × Nat → Int × Int × Int) (qs : List (Nat × Nat)) (hq : qs.length < 1000) : Pn 8 (.lst [plantD m both w1 g t, promD ps, .lst (qs.map (entD side c))]) :=
  .lst (by simp) (all_cons ((pn_plant m h8 both w1 g t).mono (by omega)) (all_cons (pn_prom ps hl h) (all_cons ((pn_paper side c qs hq).mono (by omega)) all_nil)))
/-! sizes -/
theorem nd_int (i : Int) : nd (.int i) = 1 := by simp [nd]
theorem nd_plant (m : Nat) (h8 : m ≤ 8) (both w1 : Bool) (g t : Int) : nd (plantD m both w1 g t) ≤ 100 := by
  have h1 : nd (lettersD both g t) ≤ 20 := by
    cases both <;> simp [lettersD, letO, letW, nd, ndL]
  have h2 : nd (arcsD m) ≤ 40 := by
    unfold arcsD
    rw [nd]
    have := ndL_le (xs := (List.range m).map fun (s : Nat) => D.tup [.int s, .int 0, .int (((s + 1) % m : Nat) : Int)]) (b := 4) fun x hx => by
      obtain ⟨s, _, rfl⟩ := List.mem_map.mp hx
      simp [nd, ndL]
    rw [List.length_map, List.length_range] at this
    omega
  have h3 : nd (knows both) ≤ 3 := by
    cases both <;> simp [knows, nd, ndL]
  unfold plantD machD
  simp [nd, ndK, ndL]
  omega
theorem nd_some (S : List Int) : nd (someE S) ≤ 3 + 4 * S.length := by
  unfold someE
  have := ndL_le (xs := S.map atE) (b := 4) fun x hx => by
    obtain ⟨s, _, rfl⟩ := List.mem_map.mp hx
    simp [atE, nd, ndL]
  rw [List.length_map] at this
  simp [nd, ndL]
  omega
theorem nd_expr (S : List Nat) (m : Nat) (hS : S.length ≤ 8) (hm : m ≤ 8) : nd (exprD S m) ≤ 40 := by
  unfold exprD
  split
  · have := nd_some (inL (restN S m))
    have h2 := rest_len S m
    simp [notE, nd, ndL, inL] at *
    omega
  · have := nd_some (inL S)
    simp [inL] at *
    omega
theorem nd_prom (ps : List D) (h : ∀ p ∈ ps, nd p ≤ 40) (hl : ps.length ≤ 8) : nd (promD ps) ≤ 400 := by
  have := ndL_le h
  unfold promD
  simp [nd, ndK, ndL]
  omega
theorem nd_paper (side : Nat) (c : Nat × Nat → Int × Int × Int) (qs : List (Nat × Nat)) (hl : qs.length ≤ 16) : nd (.lst (qs.map (entD side c))) ≤ 500 := by
  rw [nd]
  have := ndL_le (xs := qs.map (entD side c)) (b := 20) fun x hx => by
    obtain ⟨p, _, rfl⟩ := List.mem_map.mp hx
    have hm : nd (mvD side p.2) ≤ 1 := by
      unfold mvD
      split
      · split <;> simp [nd]
      · simp [nd]
    unfold entD pl0 jt msD
    simp [nd, ndL]
    omega
  rw [List.length_map] at this
  omega
section
variable {m : Nat} {both w1 : Bool} {g t : Int} {ps : List D} {ev : Nat → D → Bool} {side : Nat} {c : Nat × Nat → Int × Int × Int} {sto : List Box}
theorem s_told (E : EV m (plantD m both w1 g t) ps ev) (h1 : 1 ≤ m) (h8 : m ≤ 8) (hd : side < 2) (hr : ∀ s, s < m → rnk ev ps s < 6) {qs : List (Nat × Nat)} (P : PS m c qs) (hq : qs.length ≤ 16) (hp : ∀ p ∈ ps, Pn 4 p) (hn : ∀ p ∈ ps, nd p ≤ 40) (hl : ps.length ≤ 8) (b : Bool) (hb : b = qs.all (okB ev ps m side c)) :
    ∃ X, (clN Γ 60 (n + 13)).fn "_law_told" [plantD m both w1 g t, promD ps, .lst (qs.map (entD side c)), .lst [.bl (b && decide (side = 0)), .bl (b && decide (side = 1))]] sto = .ok (.dat (.bl true)) (sto ++ X) := by
  rw [q__law_told (n + 12)]
  have pn := pn_all h8 both w1 g t ps (by omega) hp side c qs (by omega)
  have z1 := nd_plant m h8 both w1 g t
  have z2 := nd_prom ps hn hl
  have z3 := nd_paper side c qs hq
  have hz : nd (.lst [plantD m both w1 g t, promD ps, .lst (qs.map (entD side c))]) < 8000 := by
    rw [nd]
    simp only [ndL]
    omega
  have i0 := s_copy pn (n + 3) sto
  obtain ⟨X1, i1⟩ := s_op (n + 1) (sto := sto) E h1 h8 hd hr P
  obtain ⟨X2, i2⟩ := s_world (n + 1) (sto := sto ++ X1) E h1 h8 hd hr P
  have hb1 : (decide (side = 0) && qs.all (okB ev ps m side c)) = (b && decide (side = 0)) := by rw [hb, Bool.and_comm]
  have hb2 : (decide (side = 1) && qs.all (okB ev ps m side c)) = (b && decide (side = 1)) := by rw [hb, Bool.and_comm]
  rw [hb1] at i1
  rw [hb2] at i2
  generalize (b && decide (side = 0)) = b1 at i1 ⊢
  generalize (b && decide (side = 1)) = b2 at i2 ⊢
  have i3 := s_same (n + 11) (d := .lst [.bl b1, .bl b2]) (k := 2) (.lst (by simp) (all_cons (.bl _ _) (all_cons (.bl _ _) all_nil))) (by simp [nd, ndL]) (sto ++ X1 ++ X2)
  have i4 := s_same (n + 11) pn hz (sto ++ X1 ++ X2)
  refine ⟨X1 ++ X2, ?_⟩
  generalize plantD m both w1 g t = pl at *
  generalize promD ps = pr at *
  generalize D.lst (qs.map (entD side c)) = pa at *
  simp at i0 i1 i2 i3 i4
  simp [c__law_told, i0, i1, i2, i3, i4]
end
end Vl.T
set_option Elab.async false
set_option linter.all false
set_option maxRecDepth 100000
set_option maxHeartbeats 4000000
/-! going: the drawn ring -/
namespace Vl.T
open PySem
variable (n : Nat)
theorem putAt_n {xs : List D} {i : Nat} (h : i < xs.length) (d : D) : putAt (.lst xs) (.int i) d = some (.lst (xs.set i d)) := by
  unfold putAt
  simp only []
  unfold L2.ixN
  rw [if_pos (by omega), if_pos (by omega), Option.map_some]
  simp
theorem rng2 {a b : Nat} (h1 : a < 1000000) (h2 : b < 1000000) : rngOf [.int a, .int b] = some (.rng a 1 (b - a)) := by
  unfold rngOf
  simp only []
  rw [if_pos (by omega)]
  congr 2
  omega
/-- the states that a part names -/
def stA (st : List Nat) (s : Nat) : Nat := (st[s]?).getD 0
structure PartP (st : List Nat) (m r : Nat) (S : List Nat) : Prop where
  l : S.length ≤ m
  lo : ∀ s, s < m → stA st s = r → s ∈ S
  hi : ∀ s ∈ S, s < m ∧ r ≤ stA st s
def goE (m top : Nat) (x3 x4 x5 : Option Rz) : List (Option Rz) := [some (.dat (.box 0)), some (.dat (.int m)), some (.dat (.int top)), x3, x4, x5, none, none, none, none, none]
theorem go_states {sto : List Box} (h : SB sto) (m top : Nat) (h8 : m ≤ 8) (ht : top < 6) : ∃ (st : List Nat) (sto' : List Box), mLc Γ.L [10] (c__law_going_i9 (clN Γ 60 (n + 3))) (c__law_going_t10 (clN Γ 60 (n + 3))) ⟨goE m top none none none, sto⟩ = .ok (.own (.lst (natsD st))) ⟨goE m top none none none, sto'⟩ ∧ SB sto' ∧ st.length = m ∧ ∀ x ∈ st, x ≤ top := by
  have hx : ∃ (bs : List Nat) (sto2 : List Box), mLc Γ.L [10] (c__law_going_i9 (clN Γ 60 (n + 3))) (c__law_going_t10 (clN Γ 60 (n + 3))) ⟨goE m top none none none, sto⟩ = .ok (.own (.lst (bs.map fun (i : Nat) => D.int i))) ⟨goE m top none none none, sto2⟩ ∧ SB sto2 ∧ bs.length = (natsD (List.range m)).length ∧ ∀ (j : Nat) b, bs[j]? = some b → ∃ d, (natsD (List.range m))[j]? = some d ∧ b ≤ top := by
    refine mLc_dr (L := Γ.L) (vs := [10]) (src := .rng 0 1 m) (goE m top none none none) (goE m top none none none) _ SB (fun (i : Nat) => D.int i) (fun _ b => b ≤ top) rfl rfl (by simp [c__law_going_i9, goE, rng1 (show m < 4611686018427387904 by omega)]) (items_rng _) (by simp; omega) rfl h (fun d hd sto hs => ?_)
    obtain ⟨v, st1, e, i, l⟩ := s_nxN (n + 2) hs (many := top + 1) (by omega) (by omega)
    simp at e
    exact ⟨v, (goE m top none none none).set 10 (some (.dat d)), st1, by simp [goE, e], rfl, i, by omega⟩
  obtain ⟨bs, st1, e, i, l, p⟩ := hx
  rw [natsD_len, List.length_range] at l
  exact ⟨bs, st1, e, i, l, fun x hx => by
    obtain ⟨j, hj⟩ := List.getElem?_of_mem hx
    obtain ⟨_, _, h⟩ := p j x hj
    exact h⟩
theorem go_part {sto : List Box} (h : SB sto) (m top r : Nat) (st : List Nat) (ps : List D) (h8 : m ≤ 8) (hl : st.length = m) : ∃ (S : List Nat) (sto' : List Box), mLc Γ.L [10] (c__law_going_i6 (clN Γ 60 (n + 3))) (c__law_going_t7 (clN Γ 60 (n + 3))) ⟨goE m top (some (.own (.lst (natsD st)))) (some (.own (.lst ps))) (some (.dat (.int r))), sto⟩ = .ok (.own (.lst (natsD S))) ⟨goE m top (some (.own (.lst (natsD st)))) (some (.own (.lst ps))) (some (.dat (.int r))), sto'⟩ ∧ SB sto' ∧ PartP st m r S := by
  obtain ⟨acc, s2, e, S, rfl, hE, hS, hl', hlo, hhi⟩ := mLc_inv (L := Γ.L) (vs := [10]) (mi := c__law_going_i6 (clN Γ 60 (n + 3))) (g := fun d => setSlot 10 (.dat d)) (ifs := tOr ((mBin (rD (dR (vD (mGet (rfSlot 3) (rfSlot 10))))) (rfSlot 5) dEq) >>= asB) (tAnd ((mBin (rD (dR (vD (mGet (rfSlot 3) (rfSlot 10))))) (rfSlot 5) dGt) >>= asB) ((mBin (rD (dR (mCall ((clN Γ 60 (n + 3)).fn "_law_next") (aC (rdSlot 0) (aC (dR (Pure.pure (.dat (.int 3)))) aN)) []))) (rD (dR (Pure.pure (.dat (.int 0))))) dEq) >>= asB))) (elt := rdSlot 10) (src := .rng 0 1 m) (xs := natsD (List.range m))
    (s := ⟨goE m top (some (.own (.lst (natsD st)))) (some (.own (.lst ps))) (some (.dat (.int r))), sto⟩) (s1 := ⟨goE m top (some (.own (.lst (natsD st)))) (some (.own (.lst ps))) (some (.dat (.int r))), sto⟩)
    (fun i acc s => ∃ S : List Nat, acc = natsD S ∧ wipeE [10] s.env = goE m top (some (.own (.lst (natsD st)))) (some (.own (.lst ps))) (some (.dat (.int r))) ∧ SB s.sto ∧ S.length ≤ i ∧ (∀ s, s < i → stA st s = r → s ∈ S) ∧ ∀ s ∈ S, s < i ∧ r ≤ stA st s)
    (by simp [c__law_going_i6, goE, rng1 (show m < 4611686018427387904 by omega)]) (items_rng _) (by rw [natsD_len, List.length_range, sizeLine_eq]; omega) rfl ⟨[], rfl, rfl, h, by simp, fun s hs => absurd hs (by omega), fun s hs => nomatch hs⟩ (fun i d acc s hd ⟨S, ha, hE, hS, hl', hlo, hhi⟩ => by
      obtain ⟨env, sto⟩ := s
      subst ha
      have hi : i < m := by simpa using (List.getElem?_eq_some_iff.mp hd).1
      rw [natsD_get, List.getElem?_range hi] at hd
      cases hd
      have hg : L2.atI (natsD st) (i : Int) = some (.int (stA st i : Nat)) := by
        rw [atI_nn, natsD_get]
        unfold stA
        rw [List.getElem?_eq_getElem (by omega)]
        rfl
      have hE' : wipeE [10] env = _ := hE
      have hw : ∀ q, wipeE [10] ((goE m top (some (.own (.lst (natsD st)))) (some (.own (.lst ps))) (some (.dat (.int r)))).set 10 q) = goE m top (some (.own (.lst (natsD st)))) (some (.own (.lst ps))) (some (.dat (.int r))) := fun q => rfl
      by_cases h1 : stA st i = r
      · refine ⟨some (.int i), ⟨(goE m top (some (.own (.lst (natsD st)))) (some (.own (.lst ps))) (some (.dat (.int r)))).set 10 (some (.dat (.int i))), sto⟩, ?_, S ++ [i], by simp [optL, natsD], hw _, hS, by simp; omega, fun s hs e => ?_, fun s hs => ?_⟩
        · unfold elt1
          show Res.bd (setSlot 10 (.dat (.int i)) ⟨wipeE [10] env, sto⟩) _ = _
          rw [hE']
          have h1' : (stA st i : Int) = r := by omega
          simp [goE, hg, h1']
        · by_cases hsi : s = i
          · subst hsi; simp
          · exact List.mem_append_left _ (hlo s (by omega) e)
        · rcases List.mem_append.mp hs with hs | hs
          · exact ⟨by have := (hhi s hs).1; omega, (hhi s hs).2⟩
          · have : s = i := List.mem_singleton.mp hs
            subst this
            exact ⟨by omega, by omega⟩
      · by_cases h2 : r < stA st i
        · obtain ⟨v, st1, e1, i1, v0, v3⟩ := s_nx (n + 2) hS (many := 3) (by omega) (by omega)
          by_cases hv : v = 0
          · refine ⟨some (.int i), ⟨(goE m top (some (.own (.lst (natsD st)))) (some (.own (.lst ps))) (some (.dat (.int r)))).set 10 (some (.dat (.int i))), st1⟩, ?_, S ++ [i], by simp [optL, natsD], hw _, i1, by simp; omega, fun s hs e => ?_, fun s hs => ?_⟩
            · unfold elt1
              show Res.bd (setSlot 10 (.dat (.int i)) ⟨wipeE [10] env, sto⟩) _ = _
              rw [hE']
              have h1' : ¬ (stA st i : Int) = r := by omega
              have h2' : (r : Int) < stA st i := by omega
              subst hv
              simp [goE, hg, h1, h1', h2, h2', e1]
            · by_cases hsi : s = i
              · subst hsi; simp
              · exact List.mem_append_left _ (hlo s (by omega) e)
            · rcases List.mem_append.mp hs with hs | hs
              · exact ⟨by have := (hhi s hs).1; omega, (hhi s hs).2⟩
              · have : s = i := List.mem_singleton.mp hs
                subst this
                exact ⟨by omega, by omega⟩
          · refine ⟨none, ⟨(goE m top (some (.own (.lst (natsD st)))) (some (.own (.lst ps))) (some (.dat (.int r)))).set 10 (some (.dat (.int i))), st1⟩, ?_, S, by simp [optL], hw _, i1, by omega, fun s hs e => ?_, fun s hs => ?_⟩
            · unfold elt1
              show Res.bd (setSlot 10 (.dat (.int i)) ⟨wipeE [10] env, sto⟩) _ = _
              rw [hE']
              have h1' : ¬ (stA st i : Int) = r := by omega
              have h2' : (r : Int) < stA st i := by omega
              simp [goE, hg, h1, h1', h2, h2', e1, hv]
            · by_cases hsi : s = i
              · subst hsi; exact absurd e h1
              · exact hlo s (by omega) e
            · exact ⟨by have := (hhi s hs).1; omega, (hhi s hs).2⟩
        · refine ⟨none, ⟨(goE m top (some (.own (.lst (natsD st)))) (some (.own (.lst ps))) (some (.dat (.int r)))).set 10 (some (.dat (.int i))), sto⟩, ?_, S, by simp [optL], hw _, hS, by omega, fun s hs e => ?_, fun s hs => ?_⟩
          · unfold elt1
            show Res.bd (setSlot 10 (.dat (.int i)) ⟨wipeE [10] env, sto⟩) _ = _
            rw [hE']
            have h1' : ¬ (stA st i : Int) = r := by omega
            have h2' : ¬ (r : Int) < stA st i := by omega
            simp [goE, hg, h1, h1', h2, h2']
          · by_cases hsi : s = i
            · subst hsi; exact absurd e h1
            · exact hlo s (by omega) e
          · exact ⟨by have := (hhi s hs).1; omega, (hhi s hs).2⟩)
  rw [natsD_len, List.length_range] at hl' hlo hhi
  refine ⟨S, s2.sto, ?_, hS, ⟨hl', hlo, hhi⟩⟩
  rw [hE] at e
  exact e
end Vl.T
set_option Elab.async false
set_option linter.all false
set_option maxRecDepth 100000
set_option maxHeartbeats 4000000
/-! going, whole -/
namespace Vl.T
open PySem
variable (n : Nat)
def psOf (Ss : List (List Nat)) (m : Nat) : List D := Ss.map fun S => exprD S m
theorem go_parts {sto : List Box} (h : SB sto) (m top : Nat) (st : List Nat) (h8 : m ≤ 8) (hl : st.length = m) (ht : top < 6) : ∃ (Ss : List (List Nat)) (x5 : Option Rz) (sto' : List Box), mFor Γ.L (c__law_going_i5 (clN Γ 60 (n + 3))) (fun d => setSlot 5 (.dat d)) (c__law_going_b8 (clN Γ 60 (n + 3))) ⟨goE m top (some (.own (.lst (natsD st)))) (some (.own (.lst []))) none, sto⟩ = .ok .nx ⟨goE m top (some (.own (.lst (natsD st)))) (some (.own (.lst (psOf Ss m)))) x5, sto'⟩ ∧ SB sto' ∧ (top ≤ Ss.length ∧ Ss.length ≤ 5) ∧ ∀ (j : Nat) S, Ss[j]? = some S → PartP st m (j + 1) S := by
  obtain ⟨v, st1, e1, i1, v0, v5⟩ := s_from (n + 1) h (lo := top) (hi := 5) (by omega) (by omega)
  obtain ⟨R, hR, hv⟩ : ∃ R : Nat, gMax [.int 1, .int v] = some (.dat (.int R)) ∧ top ≤ R ∧ R ≤ 5 := by
    rw [gMax_2]
    split
    · exact ⟨v.toNat, by rw [show v = (v.toNat : Int) by omega]; rfl, by omega, by omega⟩
    · exact ⟨1, rfl, by omega, by omega⟩
  have hr := rng2 (a := 1) (b := R + 1) (by omega) (by omega)
  rw [Nat.add_sub_cancel] at hr
  have hr : rngOf [.int 1, .int ((R : Int) + 1)] = some (.rng 1 1 R) := hr
  obtain ⟨s', e, Ss, x5, hs, hS, hn, hp⟩ := mFor_inv (L := Γ.L) (mi := c__law_going_i5 (clN Γ 60 (n + 3))) (g := fun d => setSlot 5 (.dat d)) (body := c__law_going_b8 (clN Γ 60 (n + 3))) (src := .rng 1 1 R) (xs := (List.range R).map fun (i : Nat) => D.int ((i + 1 : Nat) : Int))
    (s := ⟨goE m top (some (.own (.lst (natsD st)))) (some (.own (.lst []))) none, sto⟩) (s1 := ⟨goE m top (some (.own (.lst (natsD st)))) (some (.own (.lst []))) none, st1⟩)
    (fun i s => ∃ (Ss : List (List Nat)) (x5 : Option Rz), s.env = goE m top (some (.own (.lst (natsD st)))) (some (.own (.lst (psOf Ss m)))) x5 ∧ SB s.sto ∧ Ss.length = i ∧ ∀ (j : Nat) S, Ss[j]? = some S → PartP st m (j + 1) S)
    (by simp [c__law_going_i5, goE, e1, hR, hr, -gMax_2]) (by show some ((List.range R).map fun (i : Nat) => D.int (1 + (i : Nat) * 1)) = _; congr 2; funext i; congr 1; omega) ⟨[], none, rfl, i1, rfl, by simp⟩ (fun i d s hd ⟨Ss, x5, hE, hS, hi, hp⟩ => by
      obtain ⟨env, sto⟩ := s
      have hE : env = _ := hE
      subst hE
      have hS : SB sto := hS
      have hiR : i < R := by simpa using (List.getElem?_eq_some_iff.mp hd).1
      rw [List.getElem?_map, List.getElem?_range hiR] at hd
      cases hd
      obtain ⟨S, st2, e2, i2, p2⟩ := go_part n hS m top (i + 1) st (psOf Ss m) h8 hl
      have e3 := s_law_some (n + 2) st2 S m (by have := p2.l; omega) (by omega)
      have ha : ∀ y, gAppend (psOf Ss m) [y] = some (psOf Ss m ++ [y], .non) := fun y => gAppend_ok (by rw [sizeLine_eq]; simp [psOf]; omega)
      refine ⟨⟨goE m top (some (.own (.lst (natsD st)))) (some (.own (.lst (psOf Ss m ++ [exprD S m])))) (some (.dat (.int ((i + 1 : Nat) : Int)))), st2⟩, ?_, Ss ++ [S], some (.dat (.int ((i + 1 : Nat) : Int))), by simp [psOf], i2, by simp [hi], fun j S' hj => ?_⟩
      · have e3' : (clN Γ 60 (n + 3)).fn "_law_some" [.lst (natsD S), .int m] st2 = .ok (.dat (exprD S m)) st2 := e3
        show c__law_going_b8 (clN Γ 60 (n + 3)) ⟨goE m top (some (.own (.lst (natsD st)))) (some (.own (.lst (psOf Ss m)))) (some (.dat (.int ((i + 1 : Nat) : Int)))), sto⟩ = _
        generalize psOf Ss m = ps at e2 ha ⊢
        generalize ((i + 1 : Nat) : Int) = r at e2 ⊢
        unfold goE at e2 ⊢
        simp [c__law_going_b8, e2, e3', ha]
      · by_cases hj' : j < Ss.length
        · rw [List.getElem?_append_left hj'] at hj
          exact hp j S' hj
        · rw [List.getElem?_append_right (by omega)] at hj
          have : j - Ss.length = 0 := by
            rcases Nat.eq_zero_or_pos (j - Ss.length) with q | q
            · exact q
            · rw [List.getElem?_eq_none (by simp; omega)] at hj; cases hj
          rw [this] at hj
          cases hj
          have : j = i := by omega
          subst this
          exact p2)
  rw [List.length_map, List.length_range] at hn
  refine ⟨Ss, x5, s'.sto, ?_, hS, by omega, hp⟩
  rw [e]
  obtain ⟨env, sto⟩ := s'
  have hs : env = _ := hs
  subst hs
  rfl
def lvL (st : List Nat) (m : Nat) : Nat → List Nat
  | 0 => []
  | i + 1 => lvL st m i ++ [stA st i, stA st ((i + 1) % m)]
theorem lvL_len (st : List Nat) (m : Nat) : ∀ i, (lvL st m i).length = 2 * i
  | 0 => rfl
  | i + 1 => by rw [lvL, List.length_append, lvL_len st m i]; simp; omega
theorem natsD_app (a b : List Nat) : natsD (a ++ b) = natsD a ++ natsD b := by simp [natsD]
theorem st_get {st : List Nat} {i : Nat} (h : i < st.length) : L2.atI (natsD st) (i : Int) = some (.int (stA st i : Nat)) := by
  rw [atI_nn, natsD_get]
  unfold stA
  rw [List.getElem?_eq_getElem h]
  rfl
theorem go_levels (cl : Cl) (sto : List Box) (m top : Nat) (st : List Nat) (h1 : 1 ≤ m) (h8 : m ≤ 8) (hl : st.length = m) (x4 x5 x6 x7 x8 : Option Rz) : ∃ x10, mFor Γ.L (c__law_going_i1 cl) (fun d => setSlot 10 (.dat d)) (c__law_going_b2 cl) ⟨[some (.dat (.box 0)), some (.dat (.int m)), some (.dat (.int top)), some (.own (.lst (natsD st))), x4, x5, x6, x7, x8, some (.own (.lst [])), none], sto⟩ = .ok .nx ⟨[some (.dat (.box 0)), some (.dat (.int m)), some (.dat (.int top)), some (.own (.lst (natsD st))), x4, x5, x6, x7, x8, some (.own (.lst (natsD (lvL st m m)))), x10], sto⟩ := by
  obtain ⟨s', e, x10, rfl⟩ := mFor_inv (L := Γ.L) (mi := c__law_going_i1 cl) (g := fun d => setSlot 10 (.dat d)) (body := c__law_going_b2 cl) (src := .rng 0 1 m) (xs := natsD (List.range m))
    (s := ⟨[some (.dat (.box 0)), some (.dat (.int m)), some (.dat (.int top)), some (.own (.lst (natsD st))), x4, x5, x6, x7, x8, some (.own (.lst [])), none], sto⟩) (s1 := ⟨[some (.dat (.box 0)), some (.dat (.int m)), some (.dat (.int top)), some (.own (.lst (natsD st))), x4, x5, x6, x7, x8, some (.own (.lst [])), none], sto⟩)
    (fun i s => ∃ (x10 : Option Rz), s = ⟨[some (.dat (.box 0)), some (.dat (.int m)), some (.dat (.int top)), some (.own (.lst (natsD st))), x4, x5, x6, x7, x8, some (.own (.lst (natsD (lvL st m i)))), x10], sto⟩)
    (by simp [c__law_going_i1, rng1 (show m < 4611686018427387904 by omega)]) (items_rng _) ⟨none, rfl⟩ (fun i d s hd ⟨x10, hs⟩ => by
      subst hs
      have hi : i < m := by simpa using (List.getElem?_eq_some_iff.mp hd).1
      rw [natsD_get, List.getElem?_range hi] at hd
      cases hd
      have g1 := st_get (st := st) (i := i) (by omega)
      have hm : (i + 1) % m < m := Nat.mod_lt _ (by omega)
      have g2 := st_get (st := st) (i := (i + 1) % m) (by omega)
      have g3 : dMod (.int ((i : Int) + 1)) (.int m) = some (.dat (.int (((i + 1) % m : Nat) : Int))) := by rw [dMod_i (by omega)]; rfl
      have ll := lvL_len st m i
      have ha : dAdd (.lst (natsD (lvL st m i))) (.lst [.int (stA st i : Nat), .int (stA st ((i + 1) % m) : Nat)]) = some (.own (.lst (natsD (lvL st m i) ++ [.int (stA st i : Nat), .int (stA st ((i + 1) % m) : Nat)]))) := dAdd_l _ _ (by rw [natsD_len]; simp; omega)
      refine ⟨_, ?_, some (.dat (.int i)), rfl⟩
      rw [lvL, natsD_app]
      generalize (i + 1) % m = q at g2 g3 ha ⊢
      generalize natsD (lvL st m i) = lv at ha ⊢
      simp [c__law_going_b2, g1, g2, g3, ha]
      rfl)
  rw [natsD_len, List.length_range] at e
  exact ⟨x10, e⟩
theorem go_arcs (cl : Cl) (sto : List Box) (m top : Nat) (h1 : 1 ≤ m) (h8 : m ≤ 8) (x3 x4 x5 x6 : Option Rz) : mLc Γ.L [10] (c__law_going_i3 cl) (c__law_going_t4 cl) ⟨[some (.dat (.box 0)), some (.dat (.int m)), some (.dat (.int top)), x3, x4, x5, x6, none, none, none, none], sto⟩ = .ok (.own (.lst ((List.range m).map fun (s : Nat) => .tup [.int s, .int 0, .int (((s + 1) % m : Nat) : Int)]))) ⟨[some (.dat (.box 0)), some (.dat (.int m)), some (.dat (.int top)), x3, x4, x5, x6, none, none, none, none], sto⟩ := by
  refine mLc_mapE [some (.dat (.box 0)), some (.dat (.int m)), some (.dat (.int top)), x3, x4, x5, x6, none, none, none, none] _ _ (List.range m) (fun i : Nat => .int i) (fun (s : Nat) => .tup [.int s, .int 0, .int (((s + 1) % m : Nat) : Int)]) (src := .rng 0 1 m) rfl rfl (by simp [c__law_going_i3, rng1 (show m < 4611686018427387904 by omega)]) (items_rng m) (by simp; omega) rfl fun i hi => ⟨[some (.dat (.box 0)), some (.dat (.int m)), some (.dat (.int top)), x3, x4, x5, x6, none, none, none, some (.dat (.int i))], ?_, rfl⟩
  have g3 : dMod (.int ((i : Int) + 1)) (.int m) = some (.dat (.int (((i + 1) % m : Nat) : Int))) := by rw [dMod_i (by omega)]; rfl
  generalize (i + 1) % m = q at g3 ⊢
  simp [wipeE, g3]
end Vl.T
set_option Elab.async false
set_option linter.all false
set_option maxRecDepth 100000
set_option maxHeartbeats 4000000
/-! going, joined -/
namespace Vl.T
open PySem
variable (n : Nat)
theorem sl_let (a b : D) : dSlice (.lst [a, b]) none (some 1) = some (.own (.lst [a])) := by kernel_rfl
theorem nin_knows (both : Bool) : dNotIn (.int 1) (knows both) = some (.dat (.bl (!both))) := by cases both <;> kernel_rfl
theorem dd_knows (x : S) (both : Bool) : derefD x (knows both) = some (knows both) := rfl
/-- what a drawn ring is -/
structure Ring (m : Nat) (st : List Nat) (Ss : List (List Nat)) : Prop where
  h1 : 1 ≤ m
  h8 : m ≤ 8
  hl : st.length = m
  hr : ∀ s, stA st s ≤ Ss.length
  h5 : Ss.length ≤ 5
  hp : ∀ (j : Nat) S, Ss[j]? = some S → PartP st m (j + 1) S
theorem s_going {sto : List Box} (h : SB sto) : ∃ (m : Nat) (both w1 : Bool) (g t : Int) (st : List Nat) (Ss : List (List Nat)) (sto' : List Box), (clN Γ 60 (n + 4)).fn "_law_going" [.box 0] sto = .ok (.own (.lst [plantD m both w1 g t, promD (psOf Ss m), .lst (natsD (lvL st m m))])) sto' ∧ SB sto' ∧ Ring m st Ss := by
  rw [q__law_going (n + 3)]
  obtain ⟨m, st1, e1, i1, m1, m8⟩ := s_from (n + 1) h (lo := 1) (hi := 8) (by omega) (by omega)
  obtain ⟨m, rfl⟩ := Int.eq_ofNat_of_zero_le (show 0 ≤ m by omega)
  have h1 : 1 ≤ m := by omega
  have h8 : m ≤ 8 := by omega
  obtain ⟨top, st2, e2, i2, t0, t6⟩ := s_nx (n + 2) i1 (many := 6) (by omega) (by omega)
  obtain ⟨top, rfl⟩ := Int.eq_ofNat_of_zero_le t0
  have ht : top < 6 := by omega
  obtain ⟨st, st3, e3, i3, l3, p3⟩ := go_states n i2 m top h8 ht
  obtain ⟨x, st4, e4, i4, x4⟩ := s_nxN (n + 2) i3 (many := m) (by omega) (by omega)
  have e4' : putAt (.lst (natsD st)) (.int x) (.int top) = some (.lst (natsD (st.set x top))) := by
    rw [putAt_n (by rw [natsD_len]; omega)]
    simp [natsD, List.map_set]
  have l5 : (st.set x top).length = m := by rw [List.length_set, l3]
  have p5 : ∀ s, stA (st.set x top) s ≤ top := fun s => by
    unfold stA
    cases hs : (st.set x top)[s]? with
    | none => exact Nat.zero_le _
    | some y =>
      have := List.mem_of_getElem? hs
      rcases List.mem_or_eq_of_mem_set this with hm | rfl
      · exact p3 y hm
      · exact Nat.le_refl _
  generalize st.set x top = su at e4' l5 p5
  obtain ⟨Ss, x5, st6, e6, i6, r6, p6⟩ := go_parts n i4 m top su h8 l5 ht
  obtain ⟨g, st7, e7, i7, _⟩ := s_from (n + 1) i6 (lo := -20) (hi := 20) (by omega) (by omega)
  obtain ⟨t, st8, e8, i8, _⟩ := s_nx (n + 2) i7 (many := 10) (by omega) (by omega)
  obtain ⟨kn, st9, e9, i9, k9⟩ := s_pick (n + 1) i8 (xs := [.lst [.int 0], .lst [.int 0, .int 1]]) (by simp) (by simp)
  obtain ⟨both, rfl⟩ : ∃ both, kn = knows both := by
    simp only [List.mem_cons, List.not_mem_nil, or_false] at k9
    rcases k9 with rfl | rfl
    · exact ⟨false, rfl⟩
    · exact ⟨true, rfl⟩
  have e10 := go_arcs (clN Γ 60 (n + 3)) st9 m top h1 h8 (some (.own (.lst (natsD su)))) (some (.own (.lst (psOf Ss m)))) x5 (some (.own (.lst [letO g t, letW])))
  obtain ⟨w, st10, e11, i11, _⟩ := s_nx (n + 2) i9 (many := 2) (by omega) (by omega)
  obtain ⟨x10, e12⟩ := go_levels (clN Γ 60 (n + 3)) st10 m top su h1 h8 l5 (some (.own (.lst (psOf Ss m)))) x5 (some (.dat (lettersD both g t))) (some (.dat (machD m both))) (some (.own (.dct [(.str "letters", lettersD both g t), (.str "machines", .lst [machD m both]), (.str "waits", .tup [.bl false, .bl (decide (w = 0))]), (.str "flags", .lst [])])))
  refine ⟨m, both, decide (w = 0), g, t, su, Ss, st10, ?_, i11, ⟨h1, h8, l5, fun s => Nat.le_trans (p5 s) r6.1, r6.2, p6⟩⟩
  rw [runC_ap 1 11 _ _ _ rfl]
  have dl : ∀ x, derefD x letW = some letW := fun _ => rfl
  have dm : ∀ x, derefD x (machD m both) = some (machD m both) := fun _ => rfl
  have gm : dGet (machD m both) (.int 1) = some (knows both) := rfl
  have q1 : c__law_going (clN Γ 60 (n + 3)) ⟨[some (.dat (.box 0)), none, none, none, none, none, none, none, none, none, none], sto⟩ = .ok (.rt (.own (.lst [plantD m both (decide (w = 0)) g t, promD (psOf Ss m), .lst (natsD (lvL su m m))]))) ⟨[some (.dat (.box 0)), some (.dat (.int m)), some (.dat (.int top)), some (.own (.lst (natsD su))), some (.dat (.lst (psOf Ss m))), x5, some (.dat (lettersD both g t)), some (.dat (machD m both)), some (.dat (plantD m both (decide (w = 0)) g t)), some (.dat (.lst (natsD (lvL su m m)))), x10], st10⟩ := by
    unfold goE at e3 e6
    refine seq_nx (s1 := ⟨[some (.dat (.box 0)), some (.dat (.int m)), none, none, none, none, none, none, none, none, none], st1⟩) (by simp [e1]) ?_
    refine seq_nx (s1 := ⟨[some (.dat (.box 0)), some (.dat (.int m)), some (.dat (.int top)), none, none, none, none, none, none, none, none], st2⟩) (by simp [e2]) ?_
    refine seq_nx (s1 := ⟨[some (.dat (.box 0)), some (.dat (.int m)), some (.dat (.int top)), some (.own (.lst (natsD st))), none, none, none, none, none, none, none], st3⟩) (by simp [e3]) ?_
    refine seq_nx (s1 := ⟨[some (.dat (.box 0)), some (.dat (.int m)), some (.dat (.int top)), some (.own (.lst (natsD su))), none, none, none, none, none, none, none], st4⟩) (by simp [e4, e4']) ?_
    refine seq_nx (s1 := ⟨[some (.dat (.box 0)), some (.dat (.int m)), some (.dat (.int top)), some (.own (.lst (natsD su))), some (.own (.lst [])), none, none, none, none, none, none], st4⟩) (by simp) ?_
    refine seq_nx e6 ?_
    refine seq_nx (s1 := ⟨[some (.dat (.box 0)), some (.dat (.int m)), some (.dat (.int top)), some (.own (.lst (natsD su))), some (.own (.lst (psOf Ss m))), x5, some (.own (.lst [letO g t, letW])), none, none, none, none], st8⟩) (by simp [e7, e8, letO, letW]) ?_
    refine seq_nx (s1 := ⟨[some (.dat (.box 0)), some (.dat (.int m)), some (.dat (.int top)), some (.own (.lst (natsD su))), some (.own (.lst (psOf Ss m))), x5, some (.own (.lst [letO g t, letW])), some (.dat (machD m both)), none, none, none], st9⟩) (by simp [e9, e10, machD, arcsD]) ?_
    refine seq_nx (s1 := ⟨[some (.dat (.box 0)), some (.dat (.int m)), some (.dat (.int top)), some (.own (.lst (natsD su))), some (.own (.lst (psOf Ss m))), x5, some (.own (.lst (if both = true then [letO g t, letW] else [letO g t]))), some (.dat (machD m both)), none, none, none], st9⟩) (by cases both <;> simp [dm, gm, dd_knows, nin_knows, sl_let]) ?_
    refine seq_nx (s1 := ⟨[some (.dat (.box 0)), some (.dat (.int m)), some (.dat (.int top)), some (.own (.lst (natsD su))), some (.own (.lst (psOf Ss m))), x5, some (.dat (lettersD both g t)), some (.dat (machD m both)), some (.own (.dct [(.str "letters", lettersD both g t), (.str "machines", .lst [machD m both]), (.str "waits", .tup [.bl false, .bl (decide (w = 0))]), (.str "flags", .lst [])])), none, none], st10⟩) (by simp [e11, lettersD]) ?_
    refine seq_nx (s1 := ⟨[some (.dat (.box 0)), some (.dat (.int m)), some (.dat (.int top)), some (.own (.lst (natsD su))), some (.own (.lst (psOf Ss m))), x5, some (.dat (lettersD both g t)), some (.dat (machD m both)), some (.own (.dct [(.str "letters", lettersD both g t), (.str "machines", .lst [machD m both]), (.str "waits", .tup [.bl false, .bl (decide (w = 0))]), (.str "flags", .lst [])])), some (.own (.lst [])), none], st10⟩) (by simp) ?_
    refine seq_nx e12 ?_
    simp [plantD, promD]
  show rtE (c__law_going (clN Γ 60 (n + 3)) ⟨[some (.dat (.box 0)), none, none, none, none, none, none, none, none, none, none], sto⟩) = _
  rw [q1]
  rfl
end Vl.T
set_option Elab.async false
set_option linter.all false
set_option maxRecDepth 100000
set_option maxHeartbeats 4000000
/-! the plain law: ranks -/
namespace Vl.T
open PySem
variable (n : Nat)
def hasS (s : Nat) : D → Bool
  | .tup [_, _, .int i] => decide ((s : Int) = i)
  | _ => false
def evE (s : Nat) : D → Bool
  | .tup [_, .lst xs] => xs.any (hasS s)
  | .tup [_, .tup [_, .lst xs]] => !(xs.any (hasS s))
  | _ => false
theorem ev_some (s : Nat) (S : List Int) : evE s (someE S) = S.any fun i => decide ((s : Int) = i) := by
  show (S.map atE).any (hasS s) = _
  rw [List.any_map]
  rfl
theorem any_in (s : Nat) (S : List Nat) : ((inL S).any fun i => decide ((s : Int) = i)) = decide (s ∈ S) := by
  unfold inL
  rw [List.any_map]
  by_cases h : s ∈ S
  · rw [decide_eq_true h, List.any_eq_true]
    exact ⟨s, h, by simp⟩
  · rw [decide_eq_false h, List.any_eq_false]
    intro x hx e
    have : s = x := by
      have e : decide ((s : Int) = x) = true := e
      have := of_decide_eq_true e
      omega
    exact h (this ▸ hx)
theorem ev_expr {s m : Nat} (hs : s < m) (S : List Nat) : evE s (exprD S m) = decide (s ∈ S) := by
  unfold exprD
  split
  · show (!((inL (restN S m)).map atE).any (hasS s)) = _
    have := ev_some s (inL (restN S m))
    have h2 : (((inL (restN S m)).map atE).any (hasS s)) = (inL (restN S m)).any fun i => decide ((s : Int) = i) := this
    rw [h2, any_in]
    unfold restN
    by_cases h : s ∈ S <;> simp [h, hs]
  · rw [ev_some, any_in]
theorem t_expr (pl : D) {s m : Nat} (hs : s < m) (h8 : m ≤ 8) (S : List Nat) (hS : S.length ≤ m) (sto : List Box) : (clN Γ 60 (n + 3)).fn "is_true" [pl, .tup [.int (s : Nat)], exprD S m] sto = .ok (.dat (.bl (evE s (exprD S m)))) sto := by
  rw [ev_expr hs]
  unfold exprD
  split
  · have hl := rest_len S m
    have e := s_some n sto pl s (inL (restN S m)) (by simp [inL]; omega)
    have e2 := s_not (n + 1) sto pl (someE (inL (restN S m))) s _ e
    rw [e2, any_in]
    unfold restN
    congr 3
    by_cases h : s ∈ S <;> simp [h, hs]
  · have e := s_some (n + 1) sto pl s (inL S) (by simp [inL]; omega)
    rw [e, any_in]
theorem sp_some (S : List Int) : Sp (someE S) 4 := by
  refine .tup (k := 3) fun x hx => ?_
  simp only [List.mem_cons, List.not_mem_nil, or_false] at hx
  rcases hx with rfl | rfl
  · exact .str (by decide +kernel) _
  · refine .lst (k := 2) fun x hx => ?_
    obtain ⟨s, _, rfl⟩ := List.mem_map.mp hx
    refine .tup (k := 1) fun x hx => ?_
    simp only [List.mem_cons, List.not_mem_nil, or_false] at hx
    rcases hx with rfl | rfl | rfl
    · exact .str (by decide +kernel) _
    · exact .int _ _
    · exact .int _ _
theorem sp_expr (S : List Nat) (m : Nat) : Sp (exprD S m) 5 := by
  unfold exprD
  split
  · refine .tup (k := 4) fun x hx => ?_
    simp only [List.mem_cons, List.not_mem_nil, or_false] at hx
    rcases hx with rfl | rfl
    · exact .str (by decide +kernel) _
    · exact sp_some _
  · exact (sp_some _).mono (by omega)
section
variable {m : Nat} {st : List Nat} {Ss : List (List Nat)}
theorem ps_mem (R : Ring m st Ss) {p : D} (hp : p ∈ psOf Ss m) : ∃ S, p = exprD S m ∧ S.length ≤ m := by
  obtain ⟨S, hS, rfl⟩ := List.mem_map.mp hp
  obtain ⟨j, hj⟩ := List.getElem?_of_mem hS
  exact ⟨S, rfl, (R.hp j S hj).l⟩
theorem ring_ev (R : Ring m st Ss) (pl : D) : EV m pl (psOf Ss m) evE where
  t n s e sto hs he := by
    obtain ⟨S, rfl, hS⟩ := ps_mem R he
    exact t_expr n pl hs R.h8 S hS sto
  l := by unfold psOf; rw [List.length_map]; have := R.h5; omega
  sh := by
    refine (Sp.lst (k := 6) fun x hx => ?_).shaped (by omega)
    have : x = _ := List.mem_singleton.mp hx
    subst this
    refine .lst (k := 5) fun x hx => ?_
    obtain ⟨S, rfl, _⟩ := ps_mem R hx
    exact sp_expr _ _
theorem topB_eq {f : Nat → Bool} {v : Nat} : ∀ j, v ≤ j → (0 < v → f (v - 1) = true) → (∀ i, v ≤ i → i < j → f i = false) → topB f j = v
  | 0, h, _, _ => by unfold topB; omega
  | j + 1, h, h1, h2 => by
    unfold topB
    by_cases e : v = j + 1
    · have := h1 (by omega)
      have e2 : v - 1 = j := by omega
      rw [e2] at this
      rw [if_pos this, e]
    · rw [if_neg (by rw [h2 j (by omega) (by omega)]; simp)]
      exact topB_eq j (by omega) h1 fun i a b => h2 i a (by omega)
theorem ring_rnk (R : Ring m st Ss) {s : Nat} (hs : s < m) : rnk evE (psOf Ss m) s = stA st s := by
  unfold rnk
  have hl : (psOf Ss m).length = Ss.length := by unfold psOf; rw [List.length_map]
  have hg : ∀ i, ((psOf Ss m)[i]?.map (evE s)).getD false = (Ss[i]?.map fun S => decide (s ∈ S)).getD false := fun i => by
    unfold psOf
    rw [List.getElem?_map]
    cases Ss[i]? with
    | none => rfl
    | some S =>
      show evE s (exprD S m) = decide (s ∈ S)
      exact ev_expr hs S
  rw [hl]
  refine topB_eq _ (R.hr s) (fun h0 => ?_) fun i h1 h2 => ?_
  · rw [hg]
    have hlt : stA st s - 1 < Ss.length := by have := R.hr s; omega
    rw [List.getElem?_eq_getElem hlt]
    show decide _ = true
    refine decide_eq_true ((R.hp _ _ (List.getElem?_eq_getElem hlt)).lo s hs (by omega))
  · rw [hg, List.getElem?_eq_getElem h2]
    show decide _ = false
    refine decide_eq_false fun hm => ?_
    have := ((R.hp _ _ (List.getElem?_eq_getElem h2)).hi s hm).2
    omega
/-! the levels -/
theorem lvL_get (st : List Nat) {m : Nat} : ∀ k, k ≤ m → ∀ i, i < 2 * k → (lvL st m k)[i]? = some (stA st (place m i).1)
  | 0, _, i, hi => absurd hi (by omega)
  | k + 1, hk, i, hi => by
    have hl := lvL_len st m k
    rw [lvL]
    by_cases h : i < 2 * k
    · rw [List.getElem?_append_left (by omega)]
      exact lvL_get st k (by omega) i h
    · rw [List.getElem?_append_right (by omega), hl]
      unfold place
      by_cases h2 : i = 2 * k
      · subst h2
        have e : (2 * k + 1) / 2 % m = k := by rw [Nat.mod_eq_of_lt] <;> omega
        simp only [e, Nat.sub_self]
        rfl
      · have h3 : i = 2 * k + 1 := by omega
        subst h3
        have e : (2 * k + 1 + 1) / 2 = k + 1 := by omega
        simp only [e, Nat.add_sub_cancel_left]
        rfl
/-! a shuffled paper is in order -/
theorem ring_ps (R : Ring m st Ss) {p : List Nat} (hp : p.Perm (List.range (2 * m))) {fs : List T3} (hf : fs.length = 2 * m) (hn : ∀ f ∈ fs, nn3 f) : PS m (cOf fs m) (p.map (place m)) where
  q := {
    nd := by
      rw [List.nodup_iff_pairwise_ne, List.pairwise_map]
      have hnd : p.Nodup := hp.nodup_iff.mpr List.nodup_range
      refine List.Pairwise.imp_of_mem ?_ hnd
      intro a b ha hb hab e
      have ha := List.mem_range.mp (hp.mem_iff.mp ha)
      have hb := List.mem_range.mp (hp.mem_iff.mp hb)
      have := congrArg (idx m) e
      rw [idx_place R.h1 ha, idx_place R.h1 hb] at this
      exact hab this
    lt := fun q hq => by
      obtain ⟨i, _, rfl⟩ := List.mem_map.mp hq
      exact place_lt i R.h1
    ln := by rw [List.length_map, hp.length_eq, List.length_range]; have := R.h8; omega }
  n := fun q hq => by
    obtain ⟨i, hi, rfl⟩ := List.mem_map.mp hq
    have hi := List.mem_range.mp (hp.mem_iff.mp hi)
    rw [nxt_place R.h1 hi]
    exact List.mem_map.mpr ⟨_, hp.mem_iff.mpr (List.mem_range.mpr (Nat.mod_lt _ (by omega))), rfl⟩
  c := fun q hq => by
    obtain ⟨i, hi, rfl⟩ := List.mem_map.mp hq
    have hi := List.mem_range.mp (hp.mem_iff.mp hi)
    unfold cOf at3
    rw [idx_place R.h1 hi, List.getElem?_eq_getElem (by omega)]
    exact hn _ (List.getElem_mem _)
  z := by
    have h1 := R.h1
    refine List.mem_map.mpr ⟨0, hp.mem_iff.mpr (List.mem_range.mpr (by omega)), ?_⟩
    unfold place
    show ((0 + 1) / 2 % m, 0 % 2) = (0, 0)
    rw [show (0 + 1) / 2 = 0 from rfl, Nat.zero_mod]
/-- whether the counters fit on every arc -/
def rightB (st : List Nat) (m side : Nat) (fs : List T3) : Bool := (List.range (2 * m)).all fun i => aheadB side (stA st (place m i).1) (at3 fs i) (at3 fs ((i + 1) % (2 * m)))
theorem ring_ok (R : Ring m st Ss) {p : List Nat} (hp : p.Perm (List.range (2 * m))) (fs : List T3) (side : Nat) : rightB st m side fs = (p.map (place m)).all (okB evE (psOf Ss m) m side (cOf fs m)) := by
  have key : ∀ i, i < 2 * m → okB evE (psOf Ss m) m side (cOf fs m) (place m i) = aheadB side (stA st (place m i).1) (at3 fs i) (at3 fs ((i + 1) % (2 * m))) := fun i hi => by
    unfold okB
    rw [ring_rnk R (place_lt i R.h1).1, nxt_place R.h1 hi]
    unfold cOf
    rw [idx_place R.h1 hi, idx_place R.h1 (Nat.mod_lt _ (by omega))]
  unfold rightB
  rw [List.all_map, Bool.eq_iff_iff, List.all_eq_true, List.all_eq_true]
  constructor
  · intro h i hi
    have hi := hp.mem_iff.mp hi
    exact (key i (List.mem_range.mp hi)).trans (h i hi)
  · intro h i hi
    exact (key i (List.mem_range.mp hi)).symm.trans (h i (hp.mem_iff.mpr hi))
end
end Vl.T
set_option Elab.async false
set_option linter.all false
set_option maxRecDepth 100000
set_option maxHeartbeats 4000000
/-! the law -/
namespace Vl.T
open PySem
variable (n : Nat)
theorem s_stream (ns : List Int) : (clN Γ 60 (n + 1)).fn "_law_stream" [.scr ns] [] = .ok (.dat (.box 0)) [strB ns 0 0] := by
  rw [q__law_stream n]
  have h : gList [.scr ns] = some (.own (.lst (ns.map .int))) := rfl
  simp [c__law_stream, h, strB]
def lawE (ns : List Int) (side : Option Rz) (pl pr lv : D) (x6 x7 x8 x9 x10 : Option Rz) : List (Option Rz) := [some (.dat (.scr ns)), some (.dat (.box 0)), side, some (.dat pl), some (.dat pr), some (.dat lv), x6, x7, x8, x9, x10]
section
variable {m : Nat} {st : List Nat} {Ss : List (List Nat)} {both w1 : Bool} {g t : Int}
theorem st_le (R : Ring m st Ss) (s : Nat) : stA st s < 6 := by have := R.hr s; have := R.h5; omega
theorem law_right (R : Ring m st Ss) {side : Nat} (hs : side < 2) (fs : List T3) (hf : fs.length = 2 * m) (sto : List Box) (ns : List Int) (pl pr : D) (x6 x8 x9 : Option Rz) :
    mLc Γ.L [10] (c_law_i3 (clN Γ 60 (n + 1))) (c_law_t4 (clN Γ 60 (n + 1))) ⟨lawE ns (some (.dat (.int side))) pl pr (.lst (natsD (lvL st m m))) x6 (some (.own (.lst (fs.map msD)))) x8 x9 none, sto⟩ = .ok (.own (.lst ((List.range (2 * m)).map fun i => .bl (aheadB side (stA st (place m i).1) (at3 fs i) (at3 fs ((i + 1) % (2 * m))))))) ⟨lawE ns (some (.dat (.int side))) pl pr (.lst (natsD (lvL st m m))) x6 (some (.own (.lst (fs.map msD)))) x8 x9 none, sto⟩ := by
  have h1 := R.h1
  have h8 := R.h8
  have hr : rngOf [.int fs.length] = some (.rng 0 1 (2 * m)) := by rw [hf]; exact rng1 (by omega)
  refine mLc_mapE (lawE ns (some (.dat (.int side))) pl pr (.lst (natsD (lvL st m m))) x6 (some (.own (.lst (fs.map msD)))) x8 x9 none) _ _ (List.range (2 * m)) (fun i : Nat => .int i) _ (src := .rng 0 1 (2 * m)) rfl rfl (by simp [c_law_i3, lawE, hr]) (items_rng _) (by simp; omega) rfl fun i hi => ⟨lawE ns (some (.dat (.int side))) pl pr (.lst (natsD (lvL st m m))) x6 (some (.own (.lst (fs.map msD)))) x8 x9 (some (.dat (.int i))), ?_, rfl⟩
  have hi := List.mem_range.mp hi
  have hm : (i + 1) % (2 * m) < 2 * m := Nat.mod_lt _ (by omega)
  have g1 : L2.atI (natsD (lvL st m m)) (i : Int) = some (.int (stA st (place m i).1 : Nat)) := by
    rw [atI_nn, natsD_get, lvL_get st m (Nat.le_refl _) i hi]; rfl
  have g2 : ∀ j, j < 2 * m → L2.atI (fs.map msD) (j : Int) = some (msD (at3 fs j)) := fun j hj => by
    rw [atI_nn, List.getElem?_map]
    unfold at3
    rw [List.getElem?_eq_getElem (by omega)]; rfl
  have g3 := g2 i hi
  have g4 := g2 _ hm
  have g5 : dMod (.int ((i : Int) + 1)) (.int fs.length) = some (.dat (.int (((i + 1) % (2 * m) : Nat) : Int))) := by rw [dMod_i (by omega), hf]; rfl
  have g6 := s_law_ahead n sto hs (st_le R (place m i).1) (at3 fs i) (at3 fs ((i + 1) % (2 * m)))
  generalize (i + 1) % (2 * m) = q at g4 g5 g6 ⊢
  generalize stA st (place m i).1 = r at g1 g6 ⊢
  simp [wipeE, lawE, g1, g3, g4, g5, g6]
theorem law_b5 (R : Ring m st Ss) {side : Nat} (hs : side < 2) (fs : List T3) (hf : fs.length = 2 * m) (hn : ∀ f ∈ fs, nn3 f) {sto : List Box} (h : SB sto) (ns : List Int) (x6 x8 x9 : Option Rz) :
    ∃ (fs' : List T3) (x9' : Option Rz) (sto' : List Box), c_law_b5 (clN Γ 60 (n + 13)) ⟨lawE ns (some (.dat (.int side))) (plantD m both w1 g t) (promD (psOf Ss m)) (.lst (natsD (lvL st m m))) x6 (some (.own (.lst (fs.map msD)))) x8 x9 none, sto⟩ = .ok .nx ⟨lawE ns (some (.dat (.int side))) (plantD m both w1 g t) (promD (psOf Ss m)) (.lst (natsD (lvL st m m))) x6 (some (.own (.lst (fs'.map msD)))) x8 x9' none, sto'⟩ ∧ SB sto' ∧ fs'.length = 2 * m ∧ ∀ f ∈ fs', nn3 f := by
  have h1 := R.h1
  have h8 := R.h8
  have e1 := law_right (n + 12) R hs fs hf sto ns (plantD m both w1 g t) (promD (psOf Ss m)) x6 x8 x9
  have e2 : dNotIn (.bl false) (.lst ((List.range (2 * m)).map fun i => .bl (aheadB side (stA st (place m i).1) (at3 fs i) (at3 fs ((i + 1) % (2 * m)))))) = some (.dat (.bl (rightB st m side fs))) := by
    have := nin_ff ((List.range (2 * m)).map fun i => aheadB side (stA st (place m i).1) (at3 fs i) (at3 fs ((i + 1) % (2 * m))))
    rw [List.map_map, List.all_map] at this
    exact this
  obtain ⟨p, st1, e3, i3, hp⟩ := s_entries (n + 10) h (lvL st m m) fs h1 h8 (lvL_len st m m) hf hs
  have P := ring_ps R hp hf hn
  have hpl : (p.map (place m)).length ≤ 16 := by rw [List.length_map, hp.length_eq, List.length_range]; omega
  obtain ⟨X, e4⟩ := s_told n (sto := st1) (ring_ev R (plantD m both w1 g t)) h1 h8 hs (fun s hs => by rw [ring_rnk R hs]; exact st_le R s) P hpl (fun p hp => by
      obtain ⟨S, rfl, hS⟩ := ps_mem R hp
      exact pn_expr S m (by omega) (by omega)) (fun p hp => by
      obtain ⟨S, rfl, hS⟩ := ps_mem R hp
      exact nd_expr S m (by omega) (by omega)) (by unfold psOf; rw [List.length_map]; have := R.h5; omega) (rightB st m side fs) (ring_ok R hp fs side)
  obtain ⟨fs', st2, e5, i5, l5, p5⟩ := s_changed (n + 10) (i3.app X) fs (by omega) (by omega) hn
  have e3' : (clN Γ 60 (n + 13)).fn "_law_entries" [.box 0, .lst (natsD (lvL st m m)), .lst (fs.map msD), .int side] sto = .ok (.own (.lst ((p.map (place m)).map (entD side (cOf fs m))))) st1 := e3
  have e5' : (clN Γ 60 (n + 13)).fn "_law_changed" [.box 0, .lst (fs.map msD)] (st1 ++ X) = .ok (.own (.lst (fs'.map msD))) st2 := e5
  have e1' : mLc Γ.L [10] (c_law_i3 (clN Γ 60 (n + 13))) (c_law_t4 (clN Γ 60 (n + 13))) ⟨lawE ns (some (.dat (.int side))) (plantD m both w1 g t) (promD (psOf Ss m)) (.lst (natsD (lvL st m m))) x6 (some (.own (.lst (fs.map msD)))) x8 x9 none, sto⟩ = _ := e1
  refine ⟨fs', some (.dat (.bl (rightB st m side fs))), st2, ?_, i5, by omega, p5⟩
  generalize D.lst (natsD (lvL st m m)) = lv at *
  generalize hpl : plantD m both w1 g t = pl at *
  generalize hpr : promD (psOf Ss m) = pr at *
  generalize ((List.range (2 * m)).map fun i => D.bl (aheadB side (stA st (place m i).1) (at3 fs i) (at3 fs ((i + 1) % (2 * m))))) = bl at *
  generalize rightB st m side fs = rb at *
  generalize (p.map (place m)).map (entD side (cOf fs m)) = pa at *
  unfold lawE at e1' ⊢
  have hs2 : side = 0 ∨ side = 1 := by omega
  rcases hs2 with rfl | rfl
  · simp at e4 e3' e1'
    cases rb <;> simp [c_law_b5, e1', e2, e3', e4, e5']
  · simp at e4 e3' e1'
    cases rb <;> simp [c_law_b5, e1', e2, e3', e4, e5']
end
end Vl.T
set_option Elab.async false
set_option linter.all false
set_option maxRecDepth 100000
set_option maxHeartbeats 4000000
/-! the law, joined -/
namespace Vl.T
open PySem
variable (n : Nat)
section
variable {m : Nat} {st : List Nat} {Ss : List (List Nat)} {both w1 : Bool} {g t : Int}
def rowsB (side : Nat) : Box := if side = 1 then .lst [.int 4, .int 2, .int 0] else .lst [.int 5, .int 3, .int 1]
def rowsD (side : Nat) : D := if side = 1 then .lst [.int 4, .int 2, .int 0] else .lst [.int 5, .int 3, .int 1]
theorem law_b6 (R : Ring m st Ss) {side : Nat} (hs : side < 2) {sto : List Box} (h : SB sto) (ns : List Int) (x6 x7 x8 x9 : Option Rz) :
    ∃ (y6 y7 y8 y9 : Option Rz) (sto' : List Box), c_law_b6 (clN Γ 60 (n + 13)) ⟨lawE ns (some (.dat (.int side))) (plantD m both w1 g t) (promD (psOf Ss m)) (.lst (natsD (lvL st m m))) x6 x7 x8 x9 none, sto⟩ = .ok .nx ⟨lawE ns (some (.dat (.int side))) (plantD m both w1 g t) (promD (psOf Ss m)) (.lst (natsD (lvL st m m))) y6 y7 y8 y9 none, sto'⟩ ∧ SB sto' := by
  have h1 := R.h1
  have h8 := R.h8
  have hlv := lvL_len st m m
  obtain ⟨fs, st1, e1, i1, l1, p1⟩ : ∃ (fs : List T3) (sto' : List Box), (clN Γ 60 (n + 13)).fn "_law_counters" [.box 0, .lst (natsD (lvL st m m)), rowsD side] sto = .ok (.own (.lst (fs.map msD))) sto' ∧ SB sto' ∧ fs.length = (lvL st m m).length ∧ ∀ f ∈ fs, nn3 f := by
    unfold rowsD
    split
    · exact s_counters (n + 9) h (lvL st m m) 4 2 0 (by omega) (by omega)
    · exact s_counters (n + 9) h (lvL st m m) 5 3 1 (by omega) (by omega)
  obtain ⟨s', e2, fs', x8', x9', hE, hS, hl, hn⟩ := mFor_inv (L := Γ.L) (mi := c_law_i2 (clN Γ 60 (n + 13))) (g := fun d => setSlot 8 (.dat d)) (body := c_law_b5 (clN Γ 60 (n + 13))) (src := .rng 0 1 2) (xs := natsD (List.range 2))
    (s := ⟨lawE ns (some (.dat (.int side))) (plantD m both w1 g t) (promD (psOf Ss m)) (.lst (natsD (lvL st m m))) (some (.dat (rowsD side))) (some (.own (.lst (fs.map msD)))) x8 x9 none, st1⟩) (s1 := ⟨lawE ns (some (.dat (.int side))) (plantD m both w1 g t) (promD (psOf Ss m)) (.lst (natsD (lvL st m m))) (some (.dat (rowsD side))) (some (.own (.lst (fs.map msD)))) x8 x9 none, st1⟩)
    (fun _ s => ∃ (fs : List T3) (x8 x9 : Option Rz), s.env = lawE ns (some (.dat (.int side))) (plantD m both w1 g t) (promD (psOf Ss m)) (.lst (natsD (lvL st m m))) (some (.dat (rowsD side))) (some (.own (.lst (fs.map msD)))) x8 x9 none ∧ SB s.sto ∧ fs.length = 2 * m ∧ ∀ f ∈ fs, nn3 f)
    (by simp [c_law_i2, show rngOf [.int 2] = some (.rng 0 1 2) from rng1 (j := 2) (by omega)]) (items_rng 2) ⟨fs, x8, x9, rfl, i1, by omega, p1⟩ (fun i d s hd ⟨fs, x8, x9, hE, hS, hl, hn⟩ => by
      obtain ⟨env, sto⟩ := s
      have hE : env = _ := hE
      subst hE
      obtain ⟨fs', x9', st2, e, i2, l2, p2⟩ := law_b5 n R hs fs hl hn (both := both) (w1 := w1) (g := g) (t := t) hS ns (some (.dat (rowsD side))) (some (.dat d)) x9
      exact ⟨_, e, fs', some (.dat d), x9', rfl, i2, l2, p2⟩)
  obtain ⟨env, sto2⟩ := s'
  have hE : env = _ := hE
  subst hE
  refine ⟨some (.dat (rowsD side)), some (.own (.lst (fs'.map msD))), x8', x9', sto2, ?_, hS⟩
  refine seq_nx (s1 := ⟨lawE ns (some (.dat (.int side))) (plantD m both w1 g t) (promD (psOf Ss m)) (.lst (natsD (lvL st m m))) (some (.own (rowsB side))) x7 x8 x9 none, sto⟩) ?_ (seq_nx (s1 := ⟨lawE ns (some (.dat (.int side))) (plantD m both w1 g t) (promD (psOf Ss m)) (.lst (natsD (lvL st m m))) (some (.dat (rowsD side))) (some (.own (.lst (fs.map msD)))) x8 x9 none, st1⟩) ?_ e2)
  · rcases (show side = 0 ∨ side = 1 by omega) with rfl | rfl <;> simp [lawE, rowsB]
  · have hz : frz (rowsB side) = some (rowsD side) := by unfold rowsB rowsD; split <;> rfl
    generalize rowsB side = rb at hz ⊢
    generalize rowsD side = rd at hz e1 ⊢
    generalize D.lst (natsD (lvL st m m)) = lv at e1 ⊢
    simp [lawE, hz, e1]
theorem law_ok (ns : List Int) : ∃ sto, (clN Γ 60 (n + 14)).fn "law" [.scr ns] [] = .ok (.dat (.bl true)) sto := by
  rw [q_law (n + 13)]
  have e0 := s_stream (n + 12) ns
  have h0 : SB [strB ns 0 0] := ⟨ns, 0, 0, rfl⟩
  obtain ⟨m, both, w1, g, t, st, Ss, st1, e1, i1, R⟩ := s_going (n + 9) h0
  obtain ⟨d, st2, e2, i2, m2⟩ := s_pick (n + 11) i1 (xs := [.lst [.int 0, .int 1], .lst [.int 1, .int 0]]) (by simp) (by simp)
  obtain ⟨xs, rfl, hx⟩ : ∃ xs, d = .lst xs ∧ ∀ x ∈ xs, ∃ side : Nat, x = .int side ∧ side < 2 := by
    simp only [List.mem_cons, List.not_mem_nil, or_false] at m2
    rcases m2 with rfl | rfl
    · exact ⟨_, rfl, fun x hx => by
        simp only [List.mem_cons, List.not_mem_nil, or_false] at hx
        rcases hx with rfl | rfl
        · exact ⟨0, rfl, by omega⟩
        · exact ⟨1, rfl, by omega⟩⟩
    · exact ⟨_, rfl, fun x hx => by
        simp only [List.mem_cons, List.not_mem_nil, or_false] at hx
        rcases hx with rfl | rfl
        · exact ⟨1, rfl, by omega⟩
        · exact ⟨0, rfl, by omega⟩⟩
  have e1' : (clN Γ 60 (n + 13)).fn "_law_going" [.box 0] [strB ns 0 0] = _ := e1
  have e2' : (clN Γ 60 (n + 13)).fn "_law_pick" [.box 0, .lst [.lst [.int 0, .int 1], .lst [.int 1, .int 0]]] st1 = _ := e2
  obtain ⟨s', e3, side, x6, x7, x8, x9, hE, hS⟩ := mFor_inv (L := Γ.L) (mi := c_law_i1 (clN Γ 60 (n + 13))) (g := fun d => setSlot 2 (.dat d)) (body := c_law_b6 (clN Γ 60 (n + 13))) (src := .seq xs) (xs := xs)
    (s := ⟨lawE ns none (plantD m both w1 g t) (promD (psOf Ss m)) (.lst (natsD (lvL st m m))) none none none none none, st1⟩) (s1 := ⟨lawE ns none (plantD m both w1 g t) (promD (psOf Ss m)) (.lst (natsD (lvL st m m))) none none none none none, st2⟩)
    (fun _ s => ∃ (side x6 x7 x8 x9 : Option Rz), s.env = lawE ns side (plantD m both w1 g t) (promD (psOf Ss m)) (.lst (natsD (lvL st m m))) x6 x7 x8 x9 none ∧ SB s.sto)
    (by simp [c_law_i1, lawE, e2']) rfl ⟨none, none, none, none, none, rfl, i2⟩ (fun i d s hd ⟨side, x6, x7, x8, x9, hE, hS⟩ => by
      obtain ⟨env, sto⟩ := s
      have hE : env = _ := hE
      subst hE
      obtain ⟨sd, rfl, hsd⟩ := hx d (List.mem_of_getElem? hd)
      obtain ⟨y6, y7, y8, y9, st3, e, i3⟩ := law_b6 n R hsd (both := both) (w1 := w1) (g := g) (t := t) hS ns x6 x7 x8 x9
      exact ⟨_, e, _, y6, y7, y8, y9, rfl, i3⟩)
  refine ⟨s'.sto, ?_⟩
  rw [runC_ap 1 11 _ _ _ rfl]
  have q1 : c_law (clN Γ 60 (n + 13)) ⟨[some (.dat (.scr ns)), none, none, none, none, none, none, none, none, none, none], []⟩ = .ok (.rt (.dat (.bl true))) s' := by
    refine seq_nx (s1 := ⟨[some (.dat (.scr ns)), some (.dat (.box 0)), none, none, none, none, none, none, none, none, none], [strB ns 0 0]⟩) (by simp [e0]) ?_
    refine seq_nx (s1 := ⟨lawE ns none (plantD m both w1 g t) (promD (psOf Ss m)) (.lst (natsD (lvL st m m))) none none none none none, st1⟩) (by simp [e1', lawE]) ?_
    refine seq_nx e3 ?_
    rfl
  show rtE (c_law (clN Γ 60 (n + 13)) ⟨[some (.dat (.scr ns)), none, none, none, none, none, none, none, none, none, none], []⟩) = _
  rw [q1]
  rfl
end
theorem law_run (ns : List Int) : ∃ sto, (clN Γ 60 60).fn "law" [.scr ns] [] = .ok (.dat (.bl true)) sto := law_ok 46 ns
end Vl.T
theorem PySem.Challenge.cw_holdagainst_k23_whole_counters_on_rings_holds : PySem.Challenge.rw_holdagainst_k23_whole_counters_on_rings.Holds :=
  Vl.T.law_of fun ns _ => by
    have h := Vl.T.law_ok 47 ns
    rw [Vl.T.q_law 60] at h
    show ∃ sto, Vl.runFi Vl.T.Γ (Vl.clN Vl.T.Γ 60 60) 60 Vl.T.f_law [.scr ns] [] = _
    rw [Vl.T.r_law]
    exact h
