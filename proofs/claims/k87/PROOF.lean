import PyProof.Rows.All
import Wide.All
import OpenK.AllK
import Wide.FinOn
import HandS.ForMost
import HandS.ForExc
import HandS.Wide
import HandS.TupAny
import HandS.TupMul
import HandS.IsInst
import HandS.Rev
import HandS.RaiseMore
import HandS.Zip
import HandS.RevRange
import KE.GoesMore
import KE.GoesEnum
import HandS.Style
import HandS.WideMore
import HandS.CallSlots
import HandS.SortInts
import KE.DataMinMax
import HandS.EndBits
import HandS.Conv
import HandS.Defaults
import HandS.TupLe
import HandS.Deep
import HandS.Steps
import HandS.SetFor
import HandS.Strs
import HandS.Star
import HandS.FStr
import HandS.Text
import HandS.ExcIs
import HandS.StrMore
import HandS.SortRule
import KE.KSortTupG
import KE.KDictZip
import PySem.Challenge.RW_spanrounds_k87_whole_long_rows_and_rows
section
set_option Elab.async false
set_option linter.all false
set_option maxRecDepth 100000
set_option maxHeartbeats 2000000
namespace DL
open PySem PySem.Spec PyProof.Rows L2

/-! ### data over the abstract heap -/
def keyD : Key → PyData
  | .inl i => .int i
  | .inr x => .str x
/-- the program's exceptions, by number -/
def EXN : List Str := ["SpanError", "InvalidRow", "InvalidPlace", "InvalidRounds", "InvalidSize", "NotAlike", "NotSpans", "InvalidBrackets", "InvalidNumber", "NotStill", "InvalidOrder", "InvalidBelow", "InvalidSign", "InvalidWeights", "InvalidBlocks", "InvalidEntry", "Full", "Nothing", "InvalidOperation", "InvalidText", "InvalidCommand"]
def excV (K : PySem.W.Frag) (k : Nat) : Value := match PySem.W.nsIn K mainGlobals (EXN.getD k "") with
  | some (some v) => v
  | _ => .none
/-- an exception, caught and kept -/
def ExH (cls : Value) (a : Addr) : HO := .ext fun h => ∃ (oe : Obj) (vs : Array Value), h.get? a = some oe ∧ oe.cls = cls ∧ oe.dict = none ∧ oe.data = .fields vs
def exD (k : Nat) : PyData := .dict [(.none, .int k)]
/-- an object of a class of one's own, by its address -/
def obD (a : Addr) : PyData := .dict [(.none, .int (a : Nat)), (.none, .none)]
/-- the classes whose objects are held by slots: the name, the attributes in the order in which they are set -/
def CLN : Nat → Str
  | 0 => "LiveRow"
  | _ => ""
def FLD : Nat → List Str
  | 0 => ["present", "present_spans", "history"]
  | _ => []
/-- the class itself -/
def clD : PyData := .dict [(.none, .none), (.none, .none), (.none, .none)]
/-- a tuple that has no dict of its own -/
def SqN (H : Hp) (a : Addr) (xs : List V) : Prop := ∃ o : Obj, H a = some (.frz o (.tup xs)) ∧ o.dict = none
theorem SqN.sqt {K : PySem.W.Frag} {H : Hp} {a : Addr} {xs : List V} (h : SqN H a xs) : SqT K H a xs := let ⟨o, h, _⟩ := h; .inl (.inr ⟨o, h⟩)
theorem SqN.of {H : Hp} {a : Addr} {xs : List V} {o : Obj} (h : H a = some (.frz o (.tup xs))) (d : o.dict = none) : SqN H a xs := ⟨o, h, d⟩
mutual
inductive Rp (K : PySem.W.Frag) (H : Hp) : V → PyData → Prop
  | non : Rp K H .non .none
  | bl (b : Bool) : Rp K H (.bl b) (.bool b)
  | int (i : Int) : Rp K H (.int i) (.int i)
  | str (x : Str) : Rp K H (.str x) (.str x)
  | lst {a : Addr} {xs : List V} {ds : List PyData} : SqL K H a xs → RpA K H xs ds → Rp K H (.ref a) (.list ds)
  | tup {a : Addr} {xs : List V} {ds : List PyData} : SqN H a xs → RpA K H xs ds → Rp K H (.ref a) (.tuple ds)
  | dct {a : Addr} {kvs : List (Key × V)} {ds : List PyData} : Rd H a (.dK kvs) → RpA K H (kvs.map (·.2)) ds → Rp K H (.ref a) (.dict ((kvs.map (keyD ·.1)).zip ds))
  | exn {a : Addr} {k : Nat} : H a = some (ExH (excV K k) a) → Rp K H (.ref a) (exD k)
  | obj (a : Addr) : Rp K H (.ref a) (obD a)
  | cls {a : Addr} : PySem.W.nsIn K mainGlobals (CLN 0) = some (some (.ref a)) → Rp K H (.ref a) clD
inductive RpA (K : PySem.W.Frag) (H : Hp) : List V → List PyData → Prop
  | nil : RpA K H [] []
  | cons {v : V} {vs : List V} {d : PyData} {ds : List PyData} : Rp K H v d → RpA K H vs ds → RpA K H (v :: vs) (d :: ds)
end
theorem same_rd {H H' : Hp} {a : Addr} {u : HO} (e : Same H H') (h : Rd H a u) : Rd H' a u := by
  rcases h with h | ⟨o, h⟩
  · exact .inl (e _ _ h)
  · exact .inr ⟨o, e _ _ h⟩
theorem same_seqT {K : PySem.W.Frag} {H H' : Hp} {a : Addr} {xs : List V} (e : Same H H') (h : SqT K H a xs) : SqT K H' a xs := by
  rcases h with h | h
  · exact .inl (same_rd e h)
  · exact .inr h
theorem same_sqn {H H' : Hp} {a : Addr} {xs : List V} (e : Same H H') (h : SqN H a xs) : SqN H' a xs := let ⟨o, h, d⟩ := h; ⟨o, e _ _ h, d⟩
mutual
theorem Rp.mono {K : PySem.W.Frag} {H H' : Hp} (e : Same H H') : ∀ {v : V} {d : PyData}, Rp K H v d → Rp K H' v d
  | _, _, .non => .non
  | _, _, .bl b => .bl b
  | _, _, .int i => .int i
  | _, _, .str x => .str x
  | _, _, .lst h r => .lst (e.seq h) (RpA.mono e r)
  | _, _, .tup h r => .tup (same_sqn e h) (RpA.mono e r)
  | _, _, .dct h r => .dct (same_rd e h) (RpA.mono e r)
  | _, _, .exn h => .exn (e _ _ h)
  | _, _, .obj a => .obj a
  | _, _, .cls h => .cls h
theorem RpA.mono {K : PySem.W.Frag} {H H' : Hp} (e : Same H H') : ∀ {v : List V} {d : List PyData}, RpA K H v d → RpA K H' v d
  | _, _, .nil => .nil
  | _, _, .cons h r => .cons (Rp.mono e h) (RpA.mono e r)
end
theorem RpA.length {K : PySem.W.Frag} {H : Hp} : ∀ {vs : List V} {ds : List PyData}, RpA K H vs ds → vs.length = ds.length
  | _, _, .nil => rfl
  | _, _, .cons _ r => congrArg (· + 1) (RpA.length r)
theorem RpA.get {K : PySem.W.Frag} {H : Hp} : ∀ {vs : List V} {ds : List PyData} {i : Nat} {d : PyData}, RpA K H vs ds → ds[i]? = some d → ∃ v, vs[i]? = some v ∧ Rp K H v d
  | _, _, _, _, .nil, e => by simp at e
  | _, _, 0, _, .cons h _, e => by simp at e; subst e; exact ⟨_, rfl, h⟩
  | _, _, i + 1, _, .cons _ r, e => RpA.get (i := i) r (by simpa using e)
theorem RpA.getV {K : PySem.W.Frag} {H : Hp} : ∀ {vs : List V} {ds : List PyData} {i : Nat} {v : V}, RpA K H vs ds → vs[i]? = some v → ∃ d, ds[i]? = some d ∧ Rp K H v d
  | _, _, _, _, .nil, e => by simp at e
  | _, _, 0, _, .cons h _, e => by simp at e; subst e; exact ⟨_, rfl, h⟩
  | _, _, i + 1, _, .cons _ r, e => RpA.getV (i := i) r (by simpa using e)
theorem RpA.append {K : PySem.W.Frag} {H : Hp} : ∀ {vs ws : List V} {ds es : List PyData}, RpA K H vs ds → RpA K H ws es → RpA K H (vs ++ ws) (ds ++ es)
  | _, _, _, _, .nil, s => s
  | _, _, _, _, .cons h r, s => .cons h (RpA.append r s)
theorem RpA.take {K : PySem.W.Frag} {H : Hp} : ∀ {vs : List V} {ds : List PyData} (n : Nat), RpA K H vs ds → RpA K H (vs.take n) (ds.take n)
  | _, _, 0, _ => by rw [List.take_zero, List.take_zero]; exact .nil
  | _, _, _ + 1, .nil => .nil
  | _, _, n + 1, .cons h r => .cons h (RpA.take n r)
theorem RpA.drop {K : PySem.W.Frag} {H : Hp} : ∀ {vs : List V} {ds : List PyData} (n : Nat), RpA K H vs ds → RpA K H (vs.drop n) (ds.drop n)
  | _, _, 0, r => r
  | _, _, _ + 1, .nil => .nil
  | _, _, n + 1, .cons _ r => RpA.drop n r
theorem RpA.set {K : PySem.W.Frag} {H : Hp} {v : V} {d : PyData} (h : Rp K H v d) : ∀ {vs : List V} {ds : List PyData} (i : Nat), RpA K H vs ds → RpA K H (vs.set i v) (ds.set i d)
  | _, _, _, .nil => .nil
  | _, _, 0, .cons _ t => .cons h t
  | _, _, i + 1, .cons q t => .cons q (RpA.set h i t)
theorem RpA.dropLast {K : PySem.W.Frag} {H : Hp} {vs : List V} {ds : List PyData} (h : RpA K H vs ds) : RpA K H vs.dropLast ds.dropLast := by
  rw [List.dropLast_eq_take, List.dropLast_eq_take, h.length]
  exact h.take _
theorem RpA.eraseIdx {K : PySem.W.Frag} {H : Hp} : ∀ {vs : List V} {ds : List PyData} (i : Nat), RpA K H vs ds → RpA K H (vs.eraseIdx i) (ds.eraseIdx i)
  | _, _, _, .nil => .nil
  | _, _, 0, .cons _ t => t
  | _, _, i + 1, .cons q t => .cons q (RpA.eraseIdx i t)
theorem RpA.reverse {K : PySem.W.Frag} {H : Hp} : ∀ {vs : List V} {ds : List PyData}, RpA K H vs ds → RpA K H vs.reverse ds.reverse
  | _, _, .nil => .nil
  | _, _, .cons h r => by
    rw [List.reverse_cons, List.reverse_cons]
    exact (RpA.reverse r).append (.cons h .nil)
theorem RpA.ints {K : PySem.W.Frag} {H : Hp} : ∀ ns : List Int, RpA K H (ns.map V.int) (ns.map PyData.int)
  | [] => .nil
  | n :: r => .cons (.int n) (RpA.ints r)
theorem RpA.rep {K : PySem.W.Frag} {H : Hp} {vs : List V} {ds : List PyData} (h : RpA K H vs ds) : ∀ k : Nat, RpA K H (List.replicate k vs).flatten (List.replicate k ds).flatten
  | 0 => .nil
  | k + 1 => by
    rw [List.replicate_succ, List.replicate_succ, List.flatten_cons, List.flatten_cons]
    exact h.append (RpA.rep h k)
mutual
theorem Rp.dp {K : PySem.W.Frag} {H : Hp} : ∀ {v : V} {d : PyData}, Rp K H v d → d.hasDict = false → Dp K H v d
  | _, _, .non, _ => .non
  | _, _, .bl b, _ => .bl b
  | _, _, .int i, _ => .int i
  | _, _, .str x, _ => .str x
  | _, _, .lst h r, e => .lst h (RpA.dp r (by simpa [PyData.hasDict] using e))
  | _, _, .tup h r, e => .tup h.sqt (RpA.dp r (by simpa [PyData.hasDict] using e))
  | _, _, .dct h r, e => by simp [PyData.hasDict] at e
  | _, _, .exn h, e => by simp [exD, PyData.hasDict] at e
  | _, _, .obj a, e => by simp [obD, PyData.hasDict] at e
  | _, _, .cls h, e => by simp [clD, PyData.hasDict] at e
theorem RpA.dp {K : PySem.W.Frag} {H : Hp} : ∀ {v : List V} {d : List PyData}, RpA K H v d → PyData.hasDictAll d = false → DpAll K H v d
  | _, _, .nil, _ => .nil
  | _, _, .cons h r, e => by
    simp only [PyData.hasDictAll, Bool.or_eq_false_iff] at e
    exact .cons (Rp.dp h e.1) (RpA.dp r e.2)
end

/-! ### a frame's slots, as data -/
inductive Sl where
  | no | sh (d : PyData) | ow (xs : List PyData) | bo (xs : List PyData) | oo (c : Nat) (xs : List PyData) | ob (c : Nat) (xs : List PyData)
abbrev Rho := List Sl
/-- a value on the way: data that stays; a list that nothing else knows; the list of a slot; an object that nothing else knows; one of which nothing is said -/
inductive Val where
  | sh (d : PyData) | fr (xs : List PyData) | sl (i : Nat) | fo (c : Nat) (xs : List PyData) | gone
inductive Out (α : Type) where
  | stuck | ok (a : α) (ρ : Rho) | exc (c : Nat) (ρ : Rho)
abbrev M (α : Type) := Rho → Out α
def mpure {α : Type} (a : α) : M α := fun ρ => .ok a ρ
def mbind {α β : Type} (m : M α) (k : α → M β) : M β := fun ρ => match m ρ with
  | .stuck => .stuck
  | .ok a ρ' => k a ρ'
  | .exc c ρ' => .exc c ρ'
def mopt {α : Type} (o : Option α) : M α := fun ρ => match o with
  | some a => .ok a ρ
  | none => .stuck
/-- a slot's cell on the heap: a list (none) or an object of a class -/
def Sl.cel : Sl → Option (Option Nat × List PyData)
  | .ow xs => some (none, xs)
  | .bo xs => some (none, xs)
  | .oo c xs => some (some c, xs)
  | .ob c xs => some (some c, xs)
  | _ => none
/-- a cell that is the caller's -/
def bK : Option Sl → Option (Option Nat)
  | some (.bo _) => some none
  | some (.ob c _) => some (some c)
  | _ => none
def ObH (K : PySem.W.Frag) (H : Hp) (a : Addr) (c : Nat) (vs : List V) : Prop := ∃ cl dx, PySem.W.nsIn K mainGlobals (CLN c) = some (some (.ref cl)) ∧ vs.length ≤ (FLD c).length ∧ H a = some (.ins cl dx ((FLD c).zip vs))
def CelH (K : PySem.W.Frag) (H : Hp) (a : Addr) : Option Nat → List V → Prop
  | none, vs => H a = some (.lst vs)
  | some c, vs => ObH K H a c vs
def Own (ρ : Rho) (i : Nat) : Prop := ∃ s, ρ[i]? = some s ∧ s.cel.isSome = true
def OwnAt (ρ : Rho) (σ : L2.St) (a : Addr) : Prop := ∃ i, Own ρ i ∧ σ[i]? = some (some (.ref a))
structure Ctx where
  K : PySem.W.Frag
  Hb : Hp
  Hb0 : Hp
  bos : List (Nat × Addr)
  wish : Nat → Rho → Prop
  ks : Nat → Option Nat := fun _ => none
def LsR (K : PySem.W.Frag) (B H0 H : Hp) (σ : L2.St) (i : Nat) (xs : List PyData) : Prop :=
  ∃ a vs, σ[i]? = some (some (.ref a)) ∧ H a = some (.lst vs) ∧ H0 a = none ∧ B a = none ∧ RpA K H0 vs xs
def ObR (K : PySem.W.Frag) (B H0 H : Hp) (σ : L2.St) (i : Nat) (c : Nat) (xs : List PyData) : Prop :=
  ∃ a vs, σ[i]? = some (some (.ref a)) ∧ ObH K H a c vs ∧ H0 a = none ∧ B a = none ∧ RpA K H0 vs xs
def CelR (K : PySem.W.Frag) (B H0 H : Hp) (σ : L2.St) (i : Nat) (k : Option Nat) (xs : List PyData) : Prop :=
  ∃ a vs, σ[i]? = some (some (.ref a)) ∧ CelH K H a k vs ∧ H0 a = none ∧ B a = none ∧ RpA K H0 vs xs
def SlR (K : PySem.W.Frag) (B H0 H : Hp) (σ : L2.St) (i : Nat) : Sl → Prop
  | .no => True
  | .sh d => ∃ v, σ[i]? = some (some v) ∧ Rp K H0 v d
  | .ow xs => LsR K B H0 H σ i xs
  | .bo xs => LsR K B H0 H σ i xs
  | .oo c xs => ObR K B H0 H σ i c xs
  | .ob c xs => ObR K B H0 H σ i c xs
/-- the world: B what the frame must keep, Hb0 the part of it that stays data for ever; H0 what stays as it is, H the heap; bos: the slots that hold a caller's cell, ks: what kind of cell -/
structure Wd (C : Ctx) (B H0 H : Hp) (σ : L2.St) (ρ : Rho) : Prop where
  s0 : Same H0 H
  sb : Same B H
  s00 : Same C.Hb0 H0
  nf : ∀ a, C.Hb0 a = none → B a ≠ none → H0 a = none
  slot : ∀ i s, ρ[i]? = some s → SlR C.K B H0 H σ i s
  inj : ∀ i j a, Own ρ i → Own ρ j → σ[i]? = some (some (.ref a)) → σ[j]? = some (some (.ref a)) → i = j
  len : σ.length = ρ.length
  bo : ∀ p ∈ C.bos, σ[p.1]? = some (some (.ref p.2)) ∧ bK ρ[p.1]? = some (C.ks p.1)
def FrR (K : PySem.W.Frag) (B H0 H : Hp) (σ : L2.St) (ρ : Rho) (v : V) (k : Option Nat) (xs : List PyData) : Prop :=
  ∃ a vs, v = .ref a ∧ CelH K H a k vs ∧ H0 a = none ∧ B a = none ∧ ¬ OwnAt ρ σ a ∧ RpA K H0 vs xs
def VlR (K : PySem.W.Frag) (B H0 H : Hp) (σ : L2.St) (ρ : Rho) (v : V) : Val → Prop
  | .sh d => Rp K H0 v d
  | .fr xs => ∃ a vs, v = .ref a ∧ H a = some (.lst vs) ∧ H0 a = none ∧ B a = none ∧ ¬ OwnAt ρ σ a ∧ RpA K H0 vs xs
  | .sl i => σ[i]? = some (some v)
  | .fo c xs => FrR K B H0 H σ ρ v (some c) xs
  | .gone => True

section
variable {K : PySem.W.Frag} {C : Ctx} {B H0 H H0' H' : Hp} {σ : L2.St} {ρ ρ' : Rho} {v : V} {d : PyData} {a : Addr}

theorem CelH.of {H H' : Hp} {k : Option Nat} {vs : List V} (h : CelH K H a k vs) (e : H' a = H a) : CelH K H' a k vs := by
  cases k with
  | none => exact e.trans h
  | some c => obtain ⟨cl, dx, h1, h2, h3⟩ := h; exact ⟨cl, dx, h1, h2, e.trans h3⟩
theorem CelH.ho {k : Option Nat} {vs : List V} (h : CelH K H a k vs) : ∃ o, H a = some o := by
  cases k with
  | none => exact ⟨_, h⟩
  | some c => obtain ⟨cl, dx, _, _, h⟩ := h; exact ⟨_, h⟩
theorem SlR.cel {i : Nat} {s : Sl} {k : Option Nat} {xs : List PyData} (h : SlR K B H0 H σ i s) (e : s.cel = some (k, xs)) : CelR K B H0 H σ i k xs := by
  cases s <;> cases e <;> exact h
theorem CelR.sl {i : Nat} {s : Sl} {k : Option Nat} {xs : List PyData} (h : CelR K B H0 H σ i k xs) (e : s.cel = some (k, xs)) : SlR K B H0 H σ i s := by
  cases s <;> cases e <;> exact h
/-- a slot's relation in another world -/
theorem SlR.move {B' : Hp} {σ' : L2.St} {i : Nat} {s : Sl} (h : SlR K B H0 H σ i s) (e : Same H0 H0') (es : σ'[i]? = σ[i]?)
    (k : ∀ a, s.cel.isSome = true → σ[i]? = some (some (.ref a)) → H0 a = none → B a = none → H' a = H a ∧ H0' a = none ∧ B' a = none) : SlR K B' H0' H' σ' i s := by
  cases q : s.cel with
  | none =>
    cases s with
    | no => trivial
    | sh d => obtain ⟨v, h1, h2⟩ := h; exact ⟨v, es.trans h1, h2.mono e⟩
    | ow xs => cases q
    | bo xs => cases q
    | oo c xs => cases q
    | ob c xs => cases q
  | some p =>
    obtain ⟨kk, xs⟩ := p
    obtain ⟨a, vs, h1, h2, h3, h4, h5⟩ := h.cel q
    obtain ⟨k1, k2, k3⟩ := k a (by rw [q]; rfl) h1 h3 h4
    exact CelR.sl ⟨a, vs, es.trans h1, h2.of k1, k2, k3, h5.mono e⟩ q
theorem Rho.get_set {ρ : Rho} {i j : Nat} {s t : Sl} (h : (ρ.set i s)[j]? = some t) : (j = i ∧ t = s) ∨ (j ≠ i ∧ ρ[j]? = some t) := by
  by_cases e : i = j
  · subst e
    rw [List.getElem?_set] at h
    simp only [if_pos] at h
    split at h
    · exact .inl ⟨rfl, (Option.some.inj h).symm⟩
    · cases h
  · rw [List.getElem?_set_ne e] at h
    exact .inr ⟨fun z => e z.symm, h⟩
theorem Own.set {ρ : Rho} {i j : Nat} {s : Sl} (h : Own (ρ.set i s) j) : (j = i ∧ s.cel.isSome = true) ∨ (j ≠ i ∧ Own ρ j) := by
  obtain ⟨t, h, q⟩ := h
  rcases Rho.get_set h with ⟨e, z⟩ | ⟨e, z⟩
  · exact .inl ⟨e, z ▸ q⟩
  · exact .inr ⟨e, t, z, q⟩
theorem Own.set_no {ρ : Rho} {i j : Nat} {s : Sl} (hs : s.cel = none) (h : Own (ρ.set i s) j) : j ≠ i ∧ Own ρ j := by
  rcases h.set with ⟨_, e⟩ | h
  · rw [hs] at e; cases e
  · exact h
theorem Own.ow {ρ : Rho} {i : Nat} {xs : List PyData} (h : ρ[i]? = some (.ow xs)) : Own ρ i := ⟨_, h, rfl⟩
theorem Own.bo {ρ : Rho} {i : Nat} {xs : List PyData} (h : ρ[i]? = some (.bo xs)) : Own ρ i := ⟨_, h, rfl⟩
theorem bK_cel {s : Sl} {k : Option Nat} (h : bK (some s) = some k) : ∃ xs, s.cel = some (k, xs) := by
  cases s <;> cases h <;> exact ⟨_, rfl⟩
theorem SlR.mono {i : Nat} {s : Sl} (h : SlR K B H0 H σ i s) (e : Same H0 H0') (k : ∀ a, s.cel.isSome = true → σ[i]? = some (some (.ref a)) → H' a = H a ∧ (H0 a = none → H0' a = none)) : SlR K B H0' H' σ i s :=
  h.move e rfl fun a q h1 h3 h4 => ⟨(k a q h1).1, (k a q h1).2 h3, h4⟩
theorem own_of {ρ : Rho} {i : Nat} {s : Sl} (h : ρ[i]? = some s) (e : s.cel.isSome = true) : Own ρ i := ⟨s, h, e⟩
/-- an owned cell's place in the world -/
theorem Wd.own (W : Wd C B H0 H σ ρ) {i : Nat} (h : Own ρ i) : ∃ a k xs vs s, ρ[i]? = some s ∧ s.cel = some (k, xs) ∧ σ[i]? = some (some (.ref a)) ∧ CelH C.K H a k vs ∧ H0 a = none ∧ B a = none ∧ RpA C.K H0 vs xs := by
  obtain ⟨s, h, q⟩ := h
  cases e : s.cel with
  | none => rw [e] at q; cases q
  | some p =>
    obtain ⟨k, xs⟩ := p
    obtain ⟨a, vs, z⟩ := (W.slot i _ h).cel e
    exact ⟨a, k, xs, vs, s, h, e, z⟩
theorem Wd.ownAt (W : Wd C B H0 H σ ρ) (h : OwnAt ρ σ a) : H0 a = none ∧ B a = none ∧ ∃ o, H a = some o := by
  obtain ⟨i, ho, e⟩ := h
  obtain ⟨a', k, xs, vs, s, _, _, e', h1, h2, h3, _⟩ := W.own ho
  rw [e] at e'
  cases e'
  exact ⟨h2, h3, h1.ho⟩
/-- a lent slot's cell -/
theorem Wd.boc (W : Wd C B H0 H σ ρ) {p : Nat × Addr} (hp : p ∈ C.bos) : Own ρ p.1 ∧ σ[p.1]? = some (some (.ref p.2)) := by
  obtain ⟨h1, h2⟩ := W.bo p hp
  cases e : ρ[p.1]? with
  | none => rw [e] at h2; cases h2
  | some s =>
    rw [e] at h2
    obtain ⟨xs, q⟩ := bK_cel h2
    exact ⟨⟨s, e, by rw [q]; rfl⟩, h1⟩
/-- a new object is laid: as data -/
theorem Wd.lay (W : Wd C B H0 H σ ρ) {p : Addr} {o : HO} (hp : H p = none) : Wd C B (upd H0 p o) (upd H p o) σ ρ where
  s0 := fun b u e => by
    by_cases hb : b = p
    · subst hb; rw [upd_same] at e ⊢; exact e
    · rw [upd_ne hb] at e ⊢; exact W.s0 b u e
  sb := fun b u e => by rw [upd_ne (ne_of_none (W.sb b u e) hp)]; exact W.sb b u e
  s00 := fun b u e => by rw [upd_ne (ne_of_none (W.s0 b u (W.s00 b u e)) hp)]; exact W.s00 b u e
  nf := fun b h1 h2 => by
    have hb : b ≠ p := fun z => by
      subst z
      cases q : B b with
      | none => exact h2 q
      | some u => rw [W.sb b u q] at hp; cases hp
    rw [upd_ne hb]
    exact W.nf b h1 h2
  slot := fun i s e => (W.slot i s e).mono (same_upd' (W.s0.free hp)) fun a ho h1 => by
    obtain ⟨_, _, _, hv⟩ := W.ownAt ⟨i, own_of e ho, h1⟩
    have hne : a ≠ p := ne_of_none hv hp
    exact ⟨upd_ne hne, fun z => by rw [upd_ne hne]; exact z⟩
  inj := W.inj
  len := W.len
  bo := W.bo
where
  same_upd' {H : Hp} {p : Addr} {o : HO} (h : H p = none) : Same H (upd H p o) := fun b x e => by
    rw [upd_ne (ne_of_none e h)]
    exact e
theorem same_upd {H : Hp} {p : Addr} {o : HO} (h : H p = none) : Same H (upd H p o) := fun b x e => by
  rw [upd_ne (ne_of_none e h)]
  exact e
/-- a new object is laid: not yet data -/
theorem Wd.layF (W : Wd C B H0 H σ ρ) {p : Addr} {o : HO} (hp : H p = none) : Wd C B H0 (upd H p o) σ ρ where
  s0 := fun b u e => by rw [upd_ne (ne_of_none (W.s0 b u e) hp)]; exact W.s0 b u e
  sb := fun b u e => by rw [upd_ne (ne_of_none (W.sb b u e) hp)]; exact W.sb b u e
  s00 := W.s00
  nf := W.nf
  slot := fun i s e => (W.slot i s e).mono (Same.refl _) fun a ho h1 => by
    obtain ⟨_, _, _, hv⟩ := W.ownAt ⟨i, own_of e ho, h1⟩
    have hne : a ≠ p := ne_of_none hv hp
    exact ⟨upd_ne hne, fun z => z⟩
  inj := W.inj
  len := W.len
  bo := W.bo
theorem Wd.notOwn (W : Wd C B H0 H σ ρ) {p : Addr} (hp : H p = none) : ¬ OwnAt ρ σ p := fun h => by
  obtain ⟨_, _, _, hv⟩ := W.ownAt h
  rw [hv] at hp; cases hp
/-- a list that nothing else knows becomes data -/
theorem Wd.freeze (W : Wd C B H0 H σ ρ) {p : Addr} {o : HO} (h1 : H p = some o) (h2 : H0 p = none) (h3 : B p = none) (h4 : ¬ OwnAt ρ σ p) : Wd C B (upd H0 p o) H σ ρ where
  s0 := fun b u e => by
    by_cases hb : b = p
    · subst hb; rw [upd_same] at e; cases e; exact h1
    · rw [upd_ne hb] at e; exact W.s0 b u e
  sb := W.sb
  s00 := fun b u e => by rw [upd_ne (ne_of_none (W.s00 b u e) h2)]; exact W.s00 b u e
  nf := fun b q1 q2 => by
    have hb : b ≠ p := fun z => by subst z; exact q2 h3
    rw [upd_ne hb]
    exact W.nf b q1 q2
  slot := fun i s e => (W.slot i s e).mono (same_upd h2) fun a ho q => by
    have hne : a ≠ p := fun z => h4 ⟨i, own_of e ho, z ▸ q⟩
    exact ⟨rfl, fun z => by rw [upd_ne hne]; exact z⟩
  inj := W.inj
  len := W.len
  bo := W.bo
/-- a slot forgets that it owns its list -/
theorem bK_set {ρ : Rho} {i j : Nat} {s : Sl} {k : Option Nat} (hnb : bK ρ[i]? = none) (h : bK ρ[j]? = some k) : bK (ρ.set i s)[j]? = some k := by
  by_cases e : i = j
  · subst e; rw [hnb] at h; cases h
  · rw [List.getElem?_set_ne e]; exact h
theorem Wd.disown (W : Wd C B H0 H σ ρ) {i : Nat} {s : Sl} (hnb : bK ρ[i]? = none) (hs : s.cel = none) (h : SlR C.K B H0 H σ i s) : Wd C B H0 H σ (ρ.set i s) where
  s0 := W.s0
  sb := W.sb
  s00 := W.s00
  nf := W.nf
  slot := fun j t e => by
    rcases Rho.get_set e with ⟨rfl, rfl⟩ | ⟨_, z⟩
    · exact h
    · exact W.slot j t z
  inj := fun j k a h1 h2 => W.inj j k a (Own.set_no hs h1).2 (Own.set_no hs h2).2
  len := by rw [List.length_set]; exact W.len
  bo := fun p hp => ⟨(W.bo p hp).1, bK_set hnb (W.bo p hp).2⟩
theorem no_own : Sl.no.cel = none := rfl
theorem sh_own : (Sl.sh d).cel = none := rfl
theorem Wd.disown_no (W : Wd C B H0 H σ ρ) {i : Nat} {a : Addr} (ho : Own ρ i) (e : σ[i]? = some (some (.ref a))) {s : Sl} (hs : s.cel = none) : ¬ OwnAt (ρ.set i s) σ a := fun ⟨j, hj, ej⟩ => by
  obtain ⟨n, oj⟩ := Own.set_no hs hj
  exact n (W.inj j i a oj ho ej e)
end
end DL
end

section
set_option Elab.async false
set_option linter.all false
set_option maxRecDepth 100000
set_option maxHeartbeats 2000000
namespace DL
open PySem PySem.Spec PyProof.Rows L2

/-! ### reading a value -/
def look (ρ : Rho) : Val → Option PyData
  | .sh d => some d
  | .fr xs => some (.list xs)
  | .sl i => match ρ[i]? with
    | some (.ow xs) => some (.list xs)
    | some (.bo xs) => some (.list xs)
    | some (.sh d) => some d
    | _ => none
  | .fo _ _ => none
  | .gone => none
def kp : Val → Val
  | .fr xs => .sh (.list xs)
  | .fo _ _ => .gone
  | x => x
theorem look_kp (ρ : Rho) (x : Val) : look ρ (kp x) = look ρ x := by cases x <;> rfl
/-- the top may be an owned list; what it holds is data -/
inductive RdT (K : PySem.W.Frag) (H0 H : Hp) : V → PyData → Prop
  | sh {v : V} {d : PyData} : Rp K H0 v d → RdT K H0 H v d
  | ow {a : Addr} {vs : List V} {xs : List PyData} : H a = some (.lst vs) → RpA K H0 vs xs → RdT K H0 H (.ref a) (.list xs)
section
variable {K : PySem.W.Frag} {C : Ctx} {B H0 H H0' H' : Hp} {σ : L2.St} {ρ ρ' : Rho} {v : V} {d : PyData} {a : Addr}
theorem RdT.rp (s : Same H0 H) (h : RdT K H0 H v d) : Rp K H v d := by
  cases h with
  | sh r => exact r.mono s
  | ow h r => exact .lst (.of h) (r.mono s)
theorem RdT.lst {xs : List PyData} (s : Same H0 H) (h : RdT K H0 H v (.list xs)) : ∃ a vs, v = .ref a ∧ SqL K H a vs ∧ RpA K H0 vs xs := by
  cases h with
  | sh r => cases r with
    | lst h r => exact ⟨_, _, rfl, s.seq h, r⟩
  | ow h r => exact ⟨_, _, rfl, .of h, r⟩
theorem RdT.tup {xs : List PyData} (h : RdT K H0 H v (.tuple xs)) : ∃ a vs, v = .ref a ∧ SqT K H0 a vs ∧ RpA K H0 vs xs := by
  cases h with
  | sh r => cases r with
    | tup h r => exact ⟨_, _, rfl, h.sqt, r⟩
theorem RdT.tupN {xs : List PyData} (h : RdT K H0 H v (.tuple xs)) : ∃ a vs, v = .ref a ∧ SqN H0 a vs ∧ RpA K H0 vs xs := by
  cases h with
  | sh r => cases r with
    | tup h r => exact ⟨_, _, rfl, h, r⟩
theorem RdT.int {i : Int} (h : RdT K H0 H v (.int i)) : v = .int i := by
  cases h with
  | sh r => cases r with
    | int => rfl
theorem RdT.bl {b : Bool} (h : RdT K H0 H v (.bool b)) : v = .bl b := by
  cases h with
  | sh r => cases r with
    | bl => rfl
theorem RdT.str {x : Str} (h : RdT K H0 H v (.str x)) : v = .str x := by
  cases h with
  | sh r => cases r with
    | str => rfl
theorem RdT.non (h : RdT K H0 H v .none) : v = .non := by
  cases h with
  | sh r => cases r with
    | non => rfl
theorem look_rd {x : Val} (W : Wd C B H0 H σ ρ) (h : VlR C.K B H0 H σ ρ v x) (e : look ρ x = some d) : RdT C.K H0 H v d := by
  cases x with
  | sh d' => cases e; exact .sh h
  | fr xs =>
    cases e
    obtain ⟨a, vs, rfl, h1, _, _, _, h2⟩ := h
    exact .ow h1 h2
  | sl i =>
    have hv : σ[i]? = some (some v) := h
    unfold look at e
    simp only at e
    split at e
    · rename_i xs q
      cases e
      obtain ⟨a, vs, h1, h2, h3, h4, h5⟩ := W.slot i _ q
      rw [hv] at h1
      cases h1
      exact .ow h2 h5
    · rename_i xs q
      cases e
      obtain ⟨a, vs, h1, h2, h3, h4, h5⟩ := W.slot i _ q
      rw [hv] at h1
      cases h1
      exact .ow h2 h5
    · rename_i d' q
      cases e
      obtain ⟨v', h1, h2⟩ := W.slot i _ q
      rw [hv] at h1
      cases h1
      exact .sh h2
    · cases e
  | fo c xs => cases e
  | gone => cases e
/-- a value is kept (a list that nothing else knows becomes data, unseen) -/
theorem keep {x : Val} (W : Wd C B H0 H σ ρ) (h : VlR C.K B H0 H σ ρ v x) : ∃ H0', Same H0 H0' ∧ Wd C B H0' H σ ρ ∧ VlR C.K B H0' H σ ρ v (kp x) := by
  cases x with
  | sh d => exact ⟨H0, Same.refl _, W, h⟩
  | sl i => exact ⟨H0, Same.refl _, W, h⟩
  | fo c xs => exact ⟨H0, Same.refl _, W, trivial⟩
  | gone => exact ⟨H0, Same.refl _, W, trivial⟩
  | fr xs =>
    obtain ⟨a, vs, rfl, h1, h2, h3, h4, h5⟩ := h
    have S := same_upd (o := .lst vs) h2
    exact ⟨upd H0 a (.lst vs), S, W.freeze h1 h2 h3 h4, .lst (.of upd_same) (h5.mono S)⟩
theorem kept {x : Val} (h : VlR C.K B H0 H σ ρ v (kp x)) (s : Same H0 H0') : VlR C.K B H0' H' σ ρ' v (kp x) := by
  cases x with
  | sh d => exact Rp.mono s h
  | sl i => exact h
  | fr xs => exact Rp.mono s h
  | fo c xs => trivial
  | gone => trivial
end

/-! ### the readings -/
def stG {α : Type} (C : Ctx) (B H0 : Hp) (σ : L2.St) (P : Hp → Hp → Rho → α → Prop) : Out α → Prop
  | .stuck => False
  | .ok a ρ' => ∀ H0' H', Wd C B H0' H' σ ρ' → Same H0 H0' → P H0' H' ρ' a
  | .exc c ρ' => C.wish c ρ'
def PV (C : Ctx) (B : Hp) (σ : L2.St) (Q : VK) : Hp → Hp → Rho → Val → Prop := fun H0' H' ρ' x => ∀ v, VlR C.K B H0' H' σ ρ' v x → Q v H'
def tD (C : Ctx) (d : M Val) : TE := fun σ H Q => ∃ B H0 ρ, Same C.Hb B ∧ Wd C B H0 H σ ρ ∧ stG C B H0 σ (PV C B σ Q) (d ρ)
def tDT (C : Ctx) (d : M Bool) : TT := fun σ H Q => ∃ B H0 ρ, Same C.Hb B ∧ Wd C B H0 H σ ρ ∧ stG C B H0 σ (fun _ H' _ b => Q b H') (d ρ)
section
variable {C : Ctx} {B H0 H H0' H' : Hp} {σ : L2.St} {ρ ρ' : Rho}
theorem stG_mono {α : Type} {P P' : Hp → Hp → Rho → α → Prop} {o : Out α} (h : stG C B H0 σ P o) (k : ∀ H0' H' ρ' a, Wd C B H0' H' σ ρ' → Same H0 H0' → P H0' H' ρ' a → P' H0' H' ρ' a) : stG C B H0 σ P' o := by
  cases o with
  | stuck => exact h
  | ok a ρ' => exact fun H0' H' W S => k H0' H' ρ' a W S (h H0' H' W S)
  | exc c ρ' => exact h
theorem stG_base {α : Type} {P : Hp → Hp → Rho → α → Prop} {o : Out α} (h : stG C B H0 σ P o) (s : Same H0 H0') : stG C B H0' σ P o := by
  cases o with
  | stuck => exact h
  | ok a ρ' => exact fun H1 H' W S => h H1 H' W (s.trans S)
  | exc c ρ' => exact h
theorem stG_bind {α β : Type} {P : Hp → Hp → Rho → β → Prop} {m : M α} {k : α → M β} (h : stG C B H0 σ P (mbind m k ρ)) : stG C B H0 σ (fun H0' _ ρ' a => stG C B H0' σ P (k a ρ')) (m ρ) := by
  unfold mbind at h
  cases e : m ρ with
  | stuck => rw [e] at h; exact h
  | ok a ρ' => rw [e] at h; exact fun H0' H' W S => stG_base h S
  | exc c ρ' => rw [e] at h; exact h
/-- run the first part -/
theorem tD_run {α : Type} {P : Hp → Hp → Rho → α → Prop} {da : M Val} {k : Val → M α} {Q : VK} (hB : Same C.Hb B) (W : Wd C B H0 H σ ρ) (h : stG C B H0 σ P (mbind da k ρ))
    (hk : ∀ H0' H' ρ' x v, Wd C B H0' H' σ ρ' → Same H0 H0' → VlR C.K B H0' H' σ ρ' v x → stG C B H0' σ P (k x ρ') → Q v H') : tD C da σ H Q :=
  ⟨B, H0, ρ, hB, W, stG_mono (stG_bind h) fun H0' H' ρ' x W' S' q v r => hk H0' H' ρ' x v W' S' r q⟩
theorem tDT_run {α : Type} {P : Hp → Hp → Rho → α → Prop} {da : M Bool} {k : Bool → M α} {Q : Bool → Hp → Prop} (hB : Same C.Hb B) (W : Wd C B H0 H σ ρ) (h : stG C B H0 σ P (mbind da k ρ))
    (hk : ∀ H0' H' ρ' b, Wd C B H0' H' σ ρ' → Same H0 H0' → stG C B H0' σ P (k b ρ') → Q b H') : tDT C da σ H Q :=
  ⟨B, H0, ρ, hB, W, stG_mono (stG_bind h) fun H0' H' ρ' x W' S' q => hk H0' H' ρ' x W' S' q⟩
end

theorem PE.imp {X : Cx} {e : Expr} {t t' : TE} (h : PE X e t) (k : ∀ σ H Q, t' σ H Q → t σ H Q) : PE X e t' := ⟨fun pins s σ H Q I q => h.run pins s σ H Q I (k σ H Q q)⟩
theorem PT.imp {X : Cx} {e : Expr} {t t' : TT} (h : PT X e t) (k : ∀ σ H Q, t' σ H Q → t σ H Q) : PT X e t' := ⟨fun pins s σ H Q I q => h.run pins s σ H Q I (k σ H Q q)⟩
theorem PW.imp {X : Cx} {e : Expr} {t t' : TT} (h : PW X e t) (k : ∀ σ H Q, t' σ H Q → t σ H Q) : PW X e t' := ⟨fun w pins s σ H Q I q => h.run w pins s σ H Q I (k σ H Q q)⟩
theorem PA.imp {X : Cx} {e : List Expr} {t t' : TA} (h : PA X e t) (k : ∀ σ H Q, t' σ H Q → t σ H Q) : PA X e t' := ⟨fun p pins s σ H Q I q => h.run p pins s σ H Q I (k σ H Q q)⟩
theorem PS.imp {X : Cx} {e : Stmt} {t t' : TS} (h : PS X e t) (k : ∀ D σ H, t' D σ H → t D σ H) : PS X e t' := ⟨fun pins s σ H D I q => h.run pins s σ H D I (k D σ H q)⟩
theorem PSs.imp {X : Cx} {e : List Stmt} {t t' : TS} (h : PSs X e t) (k : ∀ D σ H, t' D σ H → t D σ H) : PSs X e t' := ⟨fun pins s σ H D I q => h.run pins s σ H D I (k D σ H q)⟩

/-! ### truth -/
def tst (d : M Val) : M Bool := mbind d fun x ρ => match look ρ x with
  | some (.bool b) => .ok b ρ
  | _ => .stuck
theorem tst_tD {C : Ctx} {d : M Val} {σ : L2.St} {H : Hp} {Q : Bool → Hp → Prop} (h : tDT C (tst d) σ H Q) : tD C d σ H fun x H' => ∃ k, x = .bl k ∧ Q k H' := by
  obtain ⟨B, H0, ρ, hB, W, h⟩ := h
  refine tD_run hB W h fun H0' H' ρ' x v W' S' r q => ?_
  cases e : look ρ' x with
  | none => rw [e] at q; exact q.elim
  | some d =>
    rw [e] at q
    cases d with
    | bool b => exact ⟨b, (look_rd W' r e).bl, q H0' H' W' (Same.refl _)⟩
    | _ => exact q.elim
/-- an expression's denotation, as a value and as a test -/
structure DE (X : Cx) (C : Ctx) (e : Expr) (d : M Val) : Prop where
  pe : PE X e (tD C d)
  pt : PT X e (tDT C (tst d))
theorem DE.of {X : Cx} {C : Ctx} {e : Expr} {d : M Val} (h : PE X e (tD C d)) (he : ∀ whole, isTrue e X.env whole = (do let v ← whole; standAt e.pos; holding [v] (truthy v))) : DE X C e d :=
  ⟨h, PT.imp (pt_val h he) fun _ _ _ q => tst_tD q⟩

/-! ### operations on data -/
inductive Res where
  | val (d : PyData) | nl (xs : List PyData) | nt (xs : List PyData)
def resV : Res → Val
  | .val d => .sh d
  | .nl xs => .fr xs
  | .nt xs => .sh (.tuple xs)
def ResOk (K : PySem.W.Frag) (H0 H : Hp) (Q : VK) : Res → Prop
  | .val d => ∀ v, Rp K H0 v d → Q v H
  | .nl xs => ∀ p vs, H p = none → RpA K H0 vs xs → Q (.ref p) (upd H p (.lst vs))
  | .nt xs => (∀ v, Rp K H0 v (.tuple xs) → Q v H) ∧ ∀ (p : Addr) (vs : List V) (o : Obj), o.dict = none → H p = none → RpA K H0 vs xs → Q (.ref p) (upd H p (.frz o (.tup vs)))
theorem res_ok {C : Ctx} {B H0 H : Hp} {σ : L2.St} {ρ : Rho} {Q : VK} {r : Res} (W : Wd C B H0 H σ ρ) (h : stG C B H0 σ (PV C B σ Q) (.ok (resV r) ρ)) : ResOk C.K H0 H Q r := by
  cases r with
  | val d => exact fun v hv => h H0 H W (Same.refl _) v hv
  | nl xs => exact fun p vs hp r => h H0 _ (W.layF hp) (Same.refl _) (.ref p) ⟨p, vs, rfl, upd_same, W.s0.free hp, W.sb.free hp, W.notOwn hp, r⟩
  | nt xs => exact ⟨fun v hv => h H0 H W (Same.refl _) v hv, fun p vs o ho hp r => h _ _ (W.lay hp) (same_upd (W.s0.free hp)) (.ref p) (.tup (.of upd_same ho) (r.mono (same_upd (W.s0.free hp))))⟩
def optOk (o : Option Res) : M Val := fun ρ => match o with
  | some r => .ok (resV r) ρ
  | none => .stuck
def dOp1 (f : PyData → Option Res) (da : M Val) : M Val := mbind da fun x ρ => match look ρ x with
  | some a => optOk (f a) ρ
  | none => .stuck
def dOp2 (f : PyData → PyData → Option Res) (da db : M Val) : M Val := mbind da fun x => mbind db fun y ρ => match look ρ x, look ρ y with
  | some a, some b => optOk (f a b) ρ
  | _, _ => .stuck
def OkR1 (K : PySem.W.Frag) (r : V → Hp → VK → Prop) (f : PyData → Option Res) : Prop := ∀ (H0 H : Hp) (x : V) (dx : PyData) (res : Res) (Q : VK), Same H0 H → RdT K H0 H x dx → f dx = some res → ResOk K H0 H Q res → r x H Q
def OkR2 (K : PySem.W.Frag) (r : R2) (f : PyData → PyData → Option Res) : Prop := ∀ (H0 H : Hp) (x y : V) (dx dy : PyData) (res : Res) (Q : VK), Same H0 H → RdT K H0 H x dx → RdT K H0 H y dy → f dx dy = some res → ResOk K H0 H Q res → r x y H Q
theorem optOk_some {C : Ctx} {B H0 : Hp} {σ : L2.St} {ρ : Rho} {P : Hp → Hp → Rho → Val → Prop} {o : Option Res} (h : stG C B H0 σ P (optOk o ρ)) : ∃ r, o = some r ∧ stG C B H0 σ P (.ok (resV r) ρ) := by
  cases o with
  | none => exact h.elim
  | some r => exact ⟨r, rfl, h⟩
theorem dOp1_ok {C : Ctx} {r : V → Hp → VK → Prop} {f : PyData → Option Res} {da : M Val} (hr : OkR1 C.K r f) (σ : L2.St) (H : Hp) (Q : VK) (h : tD C (dOp1 f da) σ H Q) : tUn r (tD C da) σ H Q := by
  obtain ⟨B, H0, ρ, hB, W, h⟩ := h
  refine tD_run hB W h fun H1 H' ρ1 x v W1 S1 r1 q => ?_
  cases e : look ρ1 x with
  | none => rw [e] at q; exact q.elim
  | some a =>
    rw [e] at q
    obtain ⟨res, e2, q2⟩ := optOk_some q
    exact hr H1 H' v a res Q W1.s0 (look_rd W1 r1 e) e2 (res_ok W1 q2)
theorem dOp2_ok {C : Ctx} {r : R2} {f : PyData → PyData → Option Res} {da db : M Val} (hr : OkR2 C.K r f) (σ : L2.St) (H : Hp) (Q : VK) (h : tD C (dOp2 f da db) σ H Q) : tOp r (tD C da) (tD C db) σ H Q := by
  obtain ⟨B, H0, ρ, hB, W, h⟩ := h
  refine tD_run hB W h fun H1 H' ρ1 x v W1 S1 r1 q => ?_
  obtain ⟨H1', S1', W1', r1'⟩ := keep W1 r1
  refine tD_run hB W1' (stG_base q S1') fun H2 H'' ρ2 y u W2 S2 r2 q => ?_
  have r1'' := kept (H' := H'') (ρ' := ρ2) r1' S2
  cases e : look ρ2 x with
  | none => rw [e] at q; exact q.elim
  | some a =>
    rw [e] at q
    cases e2 : look ρ2 y with
    | none => rw [e2] at q; exact q.elim
    | some b =>
      rw [e2] at q
      obtain ⟨res, e3, q3⟩ := optOk_some q
      exact hr H2 H'' v u a b res Q W2.s0 (look_rd W2 r1'' ((look_kp ρ2 x).trans e)) (look_rd W2 r2 e2) e3 (res_ok W2 q3)
theorem OkR2.or1 {K : PySem.W.Frag} {r r' : R2} {f : PyData → PyData → Option Res} (h : OkR2 K r f) : OkR2 K (fun x y H Q => r x y H Q ∨ r' x y H Q) f := fun H0 H x y dx dy res Q s rx ry e q => .inl (h H0 H x y dx dy res Q s rx ry e q)
theorem OkR2.or2 {K : PySem.W.Frag} {r r' : R2} {f : PyData → PyData → Option Res} (h : OkR2 K r' f) : OkR2 K (fun x y H Q => r x y H Q ∨ r' x y H Q) f := fun H0 H x y dx dy res Q s rx ry e q => .inr (h H0 H x y dx dy res Q s rx ry e q)
end DL
end

section
set_option Elab.async false
set_option linter.all false
set_option maxRecDepth 100000
set_option maxHeartbeats 2000000
namespace DL
open PySem PySem.Spec PyProof.Rows L2
/-! ### tuples that are made: without a dict -/
/-- what a new tuple's place tells -/
def NewT (H : Hp) (Q : VK) (xs : List V) : Prop := ∀ (p : Addr) (o : Obj), o.dict = none → H p = none → Q (.ref p) (upd H p (.frz o (.tup xs)))
def tupO (us : List Value) : Obj := { cls := .type "tuple", data := .seq us.toArray }
section
variable {X : Cx} {pins : List (Addr × Obj)} {σ : L2.St} {H : Hp} {s : Shared} {Q : VK}
theorem new_tup {us : List Value} {xs : List V} (I : Inv X pins σ H s) (r : Vals xs us) (hz : xs.length ≤ sizeLine) (q : NewT H Q xs) (tk : Nat) :
    EP X pins σ Q (.ref s.heap.objs.size) { s with heap := s.heap.push (tupO us), toks := tk } := by
  have old : ∀ b u, s.heap.get? b = some u → (s.heap.push (tupO us)).get? b = some u := fun b u e => Heap.get?_push_of_some _ e
  have is : ObjOk X.prog X.w (upd H s.heap.objs.size (.frz (tupO us) (.tup xs))) (s.heap.push (tupO us)) s.heap.objs.size (.frz (tupO us) (.tup xs)) := ⟨Heap.get?_push_size _ rfl, hz, us, r, IsTup.new _ _⟩
  have free : H s.heap.objs.size = none := I.hok.fresh (Nat.le_refl _)
  exact ⟨.ref _, _, I.laid (t' := tk) old (Nat.le_refl _) is, rfl, q _ (tupO us) rfl free⟩
end
section
variable {X : Cx}
/-- t + u -/
def rCatN (K : PySem.W.Frag) : R2 := fun x y H Q => ∃ a b xs ys, x = .ref a ∧ y = .ref b ∧ SqT K H a xs ∧ SqT K H b ys ∧ xs.length + ys.length ≤ sizeLine ∧
  (xs = [] → Q (.ref b) H) ∧ (xs ≠ [] → ys = [] → Q (.ref a) H) ∧ (xs ≠ [] → ys ≠ [] → NewT H Q (xs ++ ys))
theorem op_catN : OpR X (binaryOp .Add) (rCatN X.K) := fun pins s σ H x y v u Q I rx ry ⟨a, b, xs, ys, ex, ey, ta, tb, lz, q0, q1, q2⟩ => by
  by_cases cx : xs = []
  · exact op_catA pins s σ H x y v u Q I rx ry ⟨a, b, xs, ys, ex, ey, ta, tb, lz, q0, q1, fun z => absurd cx z⟩
  by_cases cy : ys = []
  · exact op_catA pins s σ H x y v u Q I rx ry ⟨a, b, xs, ys, ex, ey, ta, tb, lz, q0, q1, fun _ z => absurd cy z⟩
  subst ex ey
  obtain rfl : v = Value.ref a := rx
  obtain rfl : u = Value.ref b := ry
  obtain ⟨ia, va, pa, _⟩ := I.tuple ta
  obtain ⟨ib, vb, pb, _⟩ := I.tuple tb
  have na : ia ≠ [] := fun z => cx (va.nil_iff.mp z)
  have lz' : ia.length + ib.length ≤ sizeLine := by rw [← va.length, ← vb.length]; exact lz
  exact HT.cat_tup pa pb na (fun z => absurd (vb.nil_iff.mp z) cy) (fun _ => new_tup I (va.append vb) (by rw [List.length_append]; exact lz) (q2 cx cy) s.toks) lz'
/-- t * k -/
def rRepN (K : PySem.W.Frag) : R2 := fun x y H Q => ∃ l k xs, x = .ref l ∧ y = .int k ∧ SqT K H l xs ∧ xs ≠ [] ∧ 2 ≤ k ∧ k ≤ 1000 ∧ xs.length ≤ 1000 ∧ NewT H Q (List.replicate k.toNat xs).flatten
theorem op_repN : OpR X (binaryOp .Mult) (rRepN X.K) := fun pins s σ H x y v u Q I rx ry ⟨l, k, xs, ex, ey, tl, ne, k1, k2, lx, q⟩ => by
  subst ex ey
  obtain rfl : v = Value.ref l := rx
  obtain ⟨t, rfl⟩ := ry
  obtain ⟨us, vu, ⟨⟨oc, od, odt, osl⟩, ho, hc, n, hd⟩, _⟩ := I.tuple tl
  have hc : oc = .type "tuple" := hc
  have hd : odt = .seq us.toArray n := hd
  subst hc hd
  have el : us.length = xs.length := vu.length.symm
  have hi : us.toArray.isEmpty = false := by
    cases us with
    | nil => exact absurd (List.eq_nil_of_length_eq_zero el.symm) ne
    | cons _ _ => rfl
  have big : ((us.toArray.size : Nat) : Int) * k ≤ 1000000 := by
    rw [List.size_toArray, el]
    have := Int.mul_le_mul_of_nonneg_right (show ((xs.length : Nat) : Int) ≤ 1000 by omega) (show (0 : Int) ≤ k by omega)
    omega
  have flat : k.toNat * xs.length ≤ sizeLine := by
    have := Nat.mul_le_mul (show k.toNat ≤ 1000 by omega) lx
    rw [sizeLine_eq]
    omega
  have c0 : (decide (k < -(2 ^ 63)) || decide (k ≥ 2 ^ 63)) = false := by rw [decide_eq_false (by omega), decide_eq_false (by omega)]; rfl
  have c1 : (us.toArray.isEmpty || k == 1) = false := by rw [hi, Bool.false_or, beq_eq_false_iff_ne]; omega
  have c2 : (decide (k ≤ 0) || us.toArray.isEmpty) = false := by rw [hi, Bool.or_false, decide_eq_false (by omega)]
  have c4 : Builtin.Tuple.tupleTooMany (((us.toArray.size : Nat) : Int) * k) = false := by
    unfold Builtin.Tuple.tupleTooMany
    rw [sizeLine_eq, decide_eq_false (by omega)]
  have mul := tuple_mulW l us.toArray n od osl k t c0 c1 c2 (by omega) c4 (by rw [size_rep, List.size_toArray, PyProof.Rows.lm_len_rep_flat, el]; exact flat)
  have rmul := int_rmul_tuple k t l us.toArray n od osl
  have fin := new_tup I (vu.rep k.toNat) (by rw [PyProof.Rows.lm_len_rep_flat]; exact flat) q s.toks
  have tyT : s.TypeIs (.ref l) "tuple" := ⟨_, ho, rfl⟩
  rw [show (tupO (List.replicate k.toNat us).flatten) = { cls := .type "tuple", data := .seq (List.foldl (fun x1 x2 => x1 ++ x2) #[] (List.replicate k.toNat us.toArray)) } from by rw [size_rep]; rfl] at fin
  refine wpAny_binaryOp_repeat_ref (T := "tuple") (U := "int") (by decide) tyT (fun s' => typeIs_int s' k t) noFill_tuple_mul PySem.F.fills_int_mul PySem.F.slot_int_rmul repeat_tuple PySem.F.slot_int_index.lookup ?_
  refine call_meets PySem.F.slot_int_rmul (typeIs_int s k t) PySem.F.entry_int_rmul (PySem.F.args_int_rmul_2 _ _) rmul ⟨ho, rfl, tyT, ?_⟩
  exact call_meets PySem.F.slot_tuple_mul tyT PySem.F.entry_tuple_mul (PySem.F.args_tuple_mul_2 _ _) mul ⟨ho, fin⟩
/-- t[lo:hi] -/
def rSlN (K : PySem.W.Frag) : V → Option Int → Option Int → Hp → VK → Prop := fun x lo hi H Q => ∃ a xs, x = .ref a ∧ SqT K H a xs ∧
  (HT.sIx xs.length 0 lo = 0 ∧ HT.sIx xs.length xs.length hi = xs.length → Q (.ref a) H) ∧ (¬ (HT.sIx xs.length 0 lo = 0 ∧ HT.sIx xs.length xs.length hi = xs.length) → NewT H Q (cutV xs lo hi))
theorem sl_tupN : L2.SlR X (rSlN X.K) := fun pins s σ H x v vl vu lo hi sl Q I rx hs pl pu ⟨a, xs, ex, tx, q1, q2⟩ => by
  by_cases cw : HT.sIx xs.length 0 lo = 0 ∧ HT.sIx xs.length xs.length hi = xs.length
  · exact sl_tupA pins s σ H x v vl vu lo hi sl Q I rx hs pl pu ⟨a, xs, ex, tx, q1, fun z => absurd cw z⟩
  subst ex
  obtain rfl : v = Value.ref a := rx
  obtain ⟨us, vs, pt, lz⟩ := I.tuple tx
  have el : us.toArray.size = xs.length := by rw [List.size_toArray]; exact vs.length.symm
  have part : Vals (cutV xs lo hi) _ := (vs.drop (HT.sIx xs.length 0 lo)).take (HT.sIx xs.length xs.length hi - HT.sIx xs.length 0 lo)
  have fin := new_tup I part (Nat.le_trans (cutV_length xs lo hi) lz) (q2 cw) s.toks
  refine ⟨"tuple", _, PyProof.Rows.slot_tuple_getitem.lookup, pt.typeIs, HT.getItem_tuple_cut pt hs pl pu (by rw [el]; exact cw) ?_ (by rw [el]; exact lz)⟩
  rw [el]
  exact fin
/-- (a, b, ..) -/
def tTupN (t : TA) : TE := fun σ H Q => t σ H fun xs H1 => xs.length ≤ sizeLine ∧ NewT H1 Q xs
theorem pe_tupN {es : List Expr} {t : TA} {x1 : Nat} {pos : Pos} (h : PA X es t) : PE X (.Tuple es x1 pos) (tTupN t) := ⟨fun pins s σ H Q I hq => by
  refine wpAny_Tuple_spliced (thn (h.run pos pins s σ H _ I hq) fun us s1 ⟨xs, H1, I1, r, lz, q⟩ => ⟨by rw [← r.length]; exact lz, ?_⟩)
  exact new_tup I1 r lz q s1.toks⟩
/-- tuple(x) -/
theorem call_tupleN : CallR X (.type "tuple") (fun xs H Q => ∃ p ys, xs = [.ref p] ∧ ((SqL X.K H p ys ∧ NewT H Q ys) ∨ (SqT X.K H p ys ∧ Q (.ref p) H))) := fun pins s σ H xs us Q I r ⟨p, ys, ex, h⟩ => by
  rcases h with ⟨hq, q⟩ | h
  · subst ex
    obtain ⟨u, rfl, rx⟩ := vals1 r
    obtain rfl : u = Value.ref p := rx
    obtain ⟨its, r', pl, lz⟩ := I.list hq
    have el := r'.length
    refine call_tuple_list pl.isList (fun h' kp => ?_) (by simp only [List.size_toArray] <;> omega)
    have I1 : Inv X pins σ H { s with heap := h' } := I.kept (t' := s.toks) kp
    exact new_tup I1 r' lz q s.toks
  · exact call_tuple_of pins s σ H xs us Q I r ⟨p, ys, ex, .inr h⟩
end
end DL
end

section
set_option Elab.async false
set_option linter.all false
set_option maxRecDepth 100000
set_option maxHeartbeats 2000000
namespace DL
open PySem PySem.Spec PyProof.Rows L2

/-! ### list + list, list * int for any list that is read -/
def rCatS (K : PySem.W.Frag) : R2 := fun x y H Q => ∃ l b xs zs, x = .ref l ∧ y = .ref b ∧ SqL K H l xs ∧ SqL K H b zs ∧ xs.length + zs.length ≤ sizeLine ∧ ∀ p, H p = none → Q (.ref p) (upd H p (.lst (xs ++ zs)))
theorem op_catS {X : Cx} : OpR X (binaryOp .Add) (rCatS X.K) := by
  intro pins s σ H x y v u Q I rx ry h
  obtain ⟨l, b, xs, zs, rfl, rfl, hH, hB, hz, q⟩ := h
  cases rx
  cases ry
  obtain ⟨its, r, ⟨⟨cls, dd, data, sl⟩, n, ho, hc, hdd, hd⟩, hl⟩ := I.list hH
  obtain ⟨its2, r2, ⟨⟨cls2, dd2, data2, sl2⟩, n2, ho2, hc2, hdd2, hd2⟩, hl2⟩ := I.list hB
  simp only at hc hd hc2 hd2
  subst hc hd hc2 hd2
  have ea : its.toArray ++ its2.toArray = (its ++ its2).toArray := by simp
  refine concat_meets ⟨_, ho, rfl⟩ ⟨_, ho2, rfl⟩ noFill_list_add seq_list_add PySem.F.slot_list_add PySem.F.entry_list_add (PySem.F.args_list_add_2 _ _) (list_addW l b its.toArray its2.toArray n n2 dd dd2 sl sl2 (by rw [List.size_toArray, List.size_toArray, ← r.length, ← r2.length]; exact hz)) ⟨ho, ho2, ?_⟩
  rw [ea]
  exact ⟨.ref _, _, I.lnew (t' := s.toks) (r.append r2) (by rw [List.length_append]; exact hz), rfl, q _ I.fresh⟩
def rRepS (K : PySem.W.Frag) : R2 := fun x y H Q => ∃ l k xs, x = .ref l ∧ y = .int k ∧ SqL K H l xs ∧ -(2 ^ 63) ≤ k ∧ k < 2 ^ 63 ∧ xs.length * k.toNat ≤ sizeLine ∧
  ∀ p, H p = none → Q (.ref p) (upd H p (.lst (List.replicate k.toNat xs).flatten))
theorem op_repS {X : Cx} : OpR X (binaryOp .Mult) (rRepS X.K) := by
  intro pins s σ H x y v u Q I rx ry h
  obtain ⟨l, k, xs, rfl, rfl, hH, h1, h2, hz, q⟩ := h
  cases rx
  obtain ⟨t, rfl⟩ := ry
  obtain ⟨its, r, ⟨⟨cls, dd, data, sl⟩, n, ho, hc, hdd, hd⟩, hl⟩ := I.list hH
  simp only at hc hd
  subst hc hd
  have hsz' : its.toArray.size * k.toNat ≤ 2 ^ 24 := by
    rw [List.size_toArray, ← r.length]
    have := sizeLine_eq
    omega
  refine wpAny_binaryOp_repeat_ref (T := "list") (U := "int") (by decide) ⟨_, ho, rfl⟩ (fun s' => typeIs_int s' k t) noFill_list_mul F.fills_int_mul F.slot_int_rmul repeat_list F.slot_int_index.lookup
    (call_meets F.slot_int_rmul (typeIs_int s k t) F.entry_int_rmul (F.args_int_rmul_2 _ _) (lm_int_rmul_list_any k t l its.toArray n dd sl)
      ⟨ho, rfl, ⟨_, ho, rfl⟩, call_meets F.slot_list_mul ⟨_, ho, rfl⟩ F.entry_list_mul (F.args_list_mul_2 _ _)
        (lm_list_mul_any l its.toArray n dd sl k t (by simp [Builtin.List.listFitsIndex]; omega) (by omega) (by simp [Builtin.List.listTooLong, sizeLine]; omega))
        ⟨ho, ?_⟩⟩)
  rw [listMul_foldl_if]
  exact ⟨.ref _, _, I.lnew (t' := s.toks) (r.rep k.toNat) (by rw [PyProof.Rows.lm_len_rep_flat, Nat.mul_comm]; exact hz), rfl, q _ I.fresh⟩

/-! ### tuple * 1: the tuple itself -/
theorem tuple_mul1 (l : Addr) (items : Array Value) (n : Nat) (dd : Option Addr) (sl : Array (Option Value)) (u : Tok) :
    Meets (Builtin.«tuple.__mul__» ⟨[.ref l, .int 1 u], []⟩) (fun _ R s => s.heap.get? l = some { cls := .type "tuple", dict := dd, data := .seq items n, slots := sl } ∧ R (.ok (.ret (Value.ref l))) s) :=
  .of_wp fun prog w A R s h => by
    obtain ⟨hp, g, d, tk, os⟩ := s
    obtain ⟨hl, h⟩ := h
    have f1 := AutoSeq1.idx_int
    wp_walk using wpAny_loadPart' hl
    exact ⟨_, rfl, h⟩
def rRep1 (K : PySem.W.Frag) : R2 := fun x y H Q => ∃ l xs, x = .ref l ∧ y = .int 1 ∧ SqT K H l xs ∧ Q (.ref l) H
theorem op_rep1 {X : Cx} : OpR X (binaryOp .Mult) (rRep1 X.K) := by
  intro pins s σ H x y v u Q I rx ry h
  obtain ⟨l, xs, rfl, rfl, hT, q⟩ := h
  cases rx
  obtain ⟨t, rfl⟩ := ry
  obtain ⟨its, r, ⟨⟨cls, dd, data, sl⟩, ho, hc, n, hd⟩, hs⟩ := I.tuple hT
  simp only at hc hd
  subst hc hd
  exact wpAny_binaryOp_repeat_ref (T := "tuple") (U := "int") (by decide) ⟨_, ho, rfl⟩ (fun s' => typeIs_int s' 1 t) noFill_tuple_mul F.fills_int_mul F.slot_int_rmul repeat_tuple F.slot_int_index.lookup
    (call_meets F.slot_int_rmul (typeIs_int s 1 t) F.entry_int_rmul (F.args_int_rmul_2 _ _) (int_rmul_tuple 1 t l its.toArray n dd sl)
      ⟨ho, rfl, ⟨_, ho, rfl⟩, call_meets F.slot_tuple_mul ⟨_, ho, rfl⟩ F.entry_tuple_mul (F.args_tuple_mul_2 _ _) (tuple_mul1 l its.toArray n dd sl t) ⟨ho, .ref l, H, I, rfl, q⟩⟩)

/-! ### the functions on data -/
def ok (d : PyData) : Option Res := some (.val d)
def grd (c : Bool) (r : Res) : Option Res := if c = true then some r else none
theorem grd_some {c : Bool} {r r' : Res} (h : grd c r = some r') : c = true ∧ r = r' := by
  unfold grd at h
  split at h
  · exact ⟨by assumption, Option.some.inj h⟩
  · cases h
def f_add : PyData → PyData → Option Res
  | .int i, .int j => ok (.int (i + j))
  | .str x, .str y => grd (decide (x.length + y.length ≤ sizeLine)) (.val (.str (x ++ y)))
  | .list xs, .list ys => grd (decide (xs.length + ys.length ≤ sizeLine)) (.nl (xs ++ ys))
  | .tuple xs, .tuple ys => grd (decide (xs.length + ys.length ≤ sizeLine)) (.nt (xs ++ ys))
  | _, _ => none
def f_sub : PyData → PyData → Option Res
  | .int i, .int j => ok (.int (i - j))
  | _, _ => none
/-- a text, so many times -/
def repS (z : Str) (n : Int) : Str := if n < 1 then Str.empty else if (n == 1 || z.length == 0) = true then z else ⟨(List.replicate n.toNat z.cps).foldl (· ++ ·) #[]⟩
def f_mul : PyData → PyData → Option Res
  | .str z, .int k => grd (decide (-1000000 ≤ k) && decide (k ≤ 1000000) && decide (z.length ≤ 10) && decide ((repS z k).length ≤ sizeLine)) (.val (.str (repS z k)))
  | .int i, .int j => grd (decide (i.natAbs.log2 + j.natAbs.log2 < 1000000)) (.val (.int (i * j)))
  | .list xs, .int k => grd (decide (xs.length * k.toNat ≤ sizeLine) && decide (-(2 ^ 63) ≤ k) && decide (k < 2 ^ 63)) (.nl (List.replicate k.toNat xs).flatten)
  | .tuple xs, .int k => grd (decide (0 < xs.length) && decide (xs.length ≤ 1000) && decide (1 ≤ k) && decide (k ≤ 1000)) (.nt (List.replicate k.toNat xs).flatten)
  | _, _ => none
def f_div : PyData → PyData → Option Res
  | .int i, .int j => grd (decide (0 < j) && decide (j.natAbs.log2 < 9000)) (.val (.int (i / j)))
  | _, _ => none
def f_mod : PyData → PyData → Option Res
  | .int i, .int j => grd (decide (0 < j)) (.val (.int (i % j)))
  | _, _ => none
def f_pow : PyData → PyData → Option Res
  | .int i, .int j => grd (decide (0 ≤ j) && decide ((Builtin.Int.intBits i : Int) * j ≤ 2 ^ 27)) (.val (.int (i ^ j.toNat)))
  | _, _ => none
def f_neg : PyData → Option Res
  | .int i => ok (.int (-i))
  | _ => none
def f_cmp (p : Int → Int → Bool) : PyData → PyData → Option Res
  | .int i, .int j => ok (.bool (p i j))
  | _, _ => none
abbrev f_lt := f_cmp fun i j => decide (i < j)
abbrev f_le := f_cmp fun i j => decide (i ≤ j)
abbrev f_gt := f_cmp fun i j => decide (j < i)
abbrev f_ge := f_cmp fun i j => decide (j ≤ i)
def shp (d : PyData) : Bool := !d.hasDict && SeqAt.shaped d
def strEq : PyData → PyData → Option Bool
  | .str a, .str b => some (decide (a = b))
  | _, _ => none
def f_eq (d e : PyData) : Option Res := match strEq d e with
  | some b => ok (.bool b)
  | none => grd (shp d && shp e) (.val (.bool (PyData.eqv d e)))
def f_ne (d e : PyData) : Option Res := match strEq d e with
  | some b => ok (.bool (!b))
  | none => grd (shp d && shp e) (.val (.bool (!PyData.eqv d e)))
def isN : PyData → Bool
  | .none => true
  | _ => false
def f_isN : PyData → PyData → Option Res
  | d, .none => ok (.bool (isN d))
  | _, _ => none
def f_notN : PyData → PyData → Option Res
  | d, .none => ok (.bool (!isN d))
  | _, _ => none
def f_ix : PyData → PyData → Option Res
  | .list xs, .int i => (atI xs i).map .val
  | .tuple xs, .int i => (atI xs i).map .val
  | .str z, .int i => (atI z.cps.toList i).bind fun c => grd (decide (z.length ≤ sizeLine)) (.val (.str ⟨#[c]⟩))
  | _, _ => none

section
variable {K : PySem.W.Frag} {H0 H : Hp}
theorem rp_isN {v : V} {d : PyData} (h : RdT K H0 H v d) : decide (v = .non) = isN d := by
  cases h with
  | sh r => cases r <;> first | rfl | exact decide_eq_false (fun z => by cases z)
  | ow _ _ => exact decide_eq_false (fun z => by cases z)
def rAdd (K : PySem.W.Frag) : R2 := fun x y H Q => (rI0 fun i j => .int (i + j)) x y H Q ∨ ((∃ i j, x = .str i ∧ y = .str j ∧ i.length + j.length ≤ sizeLine ∧ Q (.str (i ++ j)) H) ∨ (rCatS K x y H Q ∨ rCatN K x y H Q))
theorem op_Add {X : Cx} : OpR X (binaryOp .Add) (rAdd X.K) := OpR.or op_add (OpR.or op_add_str (OpR.or op_catS op_catN))
theorem ok_add : OkR2 K (rAdd K) f_add := by
  intro H0 H x y dx dy res Q s rx ry e q
  cases dx <;> cases dy <;> try (cases e; done)
  · cases e
    exact .inl ⟨_, _, rx.int, ry.int, q _ (.int _)⟩
  · obtain ⟨c, rfl⟩ := grd_some e
    exact .inr (.inl ⟨_, _, rx.str, ry.str, of_decide_eq_true c, q _ (.str _)⟩)
  · obtain ⟨c, rfl⟩ := grd_some e
    obtain ⟨a, vs, rfl, h1, h2⟩ := rx.lst s
    obtain ⟨b, ws, rfl, h3, h4⟩ := ry.lst s
    exact .inr (.inr (.inl ⟨a, b, vs, ws, rfl, rfl, h1, h3, by rw [h2.length, h4.length]; exact of_decide_eq_true c, fun p hp => q p _ hp (h2.append h4)⟩))
  · obtain ⟨c, rfl⟩ := grd_some e
    obtain ⟨a, vs, rfl, h1, h2⟩ := rx.tupN
    obtain ⟨b, ws, rfl, h3, h4⟩ := ry.tupN
    refine .inr (.inr (.inr ⟨a, b, vs, ws, rfl, rfl, (same_sqn s h1).sqt, (same_sqn s h3).sqt, by rw [h2.length, h4.length]; exact of_decide_eq_true c, fun z => q.1 _ ?_, fun _ z => q.1 _ ?_, fun _ _ p o ho hp => q.2 p _ o ho hp (h2.append h4)⟩))
    · subst z
      cases h2
      exact .tup h3 h4
    · subst z
      cases h4
      rw [List.append_nil]
      exact .tup h1 h2
theorem ok_sub : OkR2 K (rI0 fun i j => .int (i - j)) f_sub := by
  intro H0 H x y dx dy res Q s rx ry e q
  cases dx <;> cases dy <;> try (cases e; done)
  cases e
  exact ⟨_, _, rx.int, ry.int, q _ (.int _)⟩
def rRepStr : R2 := fun x y H Q => ∃ z k, x = .str z ∧ y = .int k ∧ -1000000 ≤ k ∧ k ≤ 1000000 ∧ z.length ≤ 10 ∧ (repS z k).length ≤ sizeLine ∧ Q (.str (repS z k)) H
theorem op_repStr {X : Cx} : OpR X (binaryOp .Mult) rRepStr := by
  intro pins s σ H x y v u Q I rx ry h
  obtain ⟨z, k, rfl, rfl, h1, h2, h3, h4, q⟩ := h
  obtain ⟨t, rfl⟩ := rx
  obtain ⟨t', rfl⟩ := ry
  refine PySem.P.mul_str (by rw [decide_eq_false (by omega), decide_eq_false (by omega)]; rfl) (fun a b => ?_) (fun a b => ?_) ?_
  · have : (10 : Int) ≤ (2 ^ 63 - 1) / k := (Int.le_ediv_iff_mul_le (by omega)).mpr (by omega)
    omega
  · have : z.length * k.toNat ≤ 10 * 1000000 := Nat.mul_le_mul h3 (by omega)
    show decide (z.length * k.toNat > sizeLine) = false
    rw [decide_eq_false]
    rw [sizeLine_eq]; omega
  · unfold repS at h4 q
    split
    · rename_i c
      rw [if_pos c] at q
      exact ⟨by decide, ⟨.str Str.empty, H, I.tok _, ⟨_, rfl⟩, q⟩⟩
    · rename_i c
      rw [if_neg c] at q h4
      split
      · rename_i c2
        rw [if_pos c2] at q
        exact ⟨.str z, H, I, ⟨t, rfl⟩, q⟩
      · rename_i c2
        rw [if_neg c2] at q h4
        exact ⟨h4, ⟨.str _, H, I.tok _, ⟨_, rfl⟩, q⟩⟩
def rMul (K : PySem.W.Frag) : R2 := fun x y H Q => (rI CMulW fun i j => .int (i * j)) x y H Q ∨ (rRepS K x y H Q ∨ (rRepN K x y H Q ∨ (rRep1 K x y H Q ∨ rRepStr x y H Q)))
theorem op_Mul {X : Cx} : OpR X (binaryOp .Mult) (rMul X.K) := OpR.or op_mulW (OpR.or op_repS (OpR.or op_repN (OpR.or op_rep1 op_repStr)))
theorem ok_mul : OkR2 K (rMul K) f_mul := by
  intro H0 H x y dx dy res Q s rx ry e q
  cases dx <;> cases dy <;> try (cases e; done)
  · obtain ⟨c, rfl⟩ := grd_some e
    have c' := of_decide_eq_true c
    exact .inl ⟨_, _, rx.int, ry.int, c', q _ (.int _)⟩
  · obtain ⟨c, rfl⟩ := grd_some e
    simp only [Bool.and_eq_true, decide_eq_true_eq] at c
    exact .inr (.inr (.inr (.inr ⟨_, _, rx.str, ry.int, c.1.1.1, c.1.1.2, c.1.2, c.2, q _ (.str _)⟩)))
  · obtain ⟨c, rfl⟩ := grd_some e
    simp only [Bool.and_eq_true, decide_eq_true_eq] at c
    obtain ⟨a, vs, rfl, h1, h2⟩ := rx.lst s
    exact .inr (.inl ⟨a, _, vs, rfl, ry.int, h1, c.1.2, c.2, by rw [h2.length]; exact c.1.1, fun p hp => q p _ hp (h2.rep _)⟩)
  · rename_i xs j
    obtain ⟨c, rfl⟩ := grd_some e
    simp only [Bool.and_eq_true, decide_eq_true_eq] at c
    obtain ⟨a, vs, rfl, h1, h2⟩ := rx.tupN
    by_cases k1 : j = 1
    · subst k1
      refine .inr (.inr (.inr (.inl ⟨a, vs, rfl, ry.int, (same_sqn s h1).sqt, q.1 _ ?_⟩)))
      have e : (List.replicate (1 : Int).toNat xs).flatten = xs := by show (List.replicate 1 xs).flatten = xs; simp
      rw [e]
      exact .tup h1 h2
    · exact .inr (.inr (.inl ⟨a, _, vs, rfl, ry.int, (same_sqn s h1).sqt, fun z => by rw [← h2.length, z] at c; exact absurd c.1.1.1 (Nat.lt_irrefl _), by omega, c.2, by rw [h2.length]; exact c.1.1.2, fun p o ho hp => q.2 p _ o ho hp (h2.rep _)⟩))
theorem ok_div : OkR2 K (rI CDivW fun i j => .int (i / j)) f_div := by
  intro H0 H x y dx dy res Q s rx ry e q
  cases dx <;> cases dy <;> try (cases e; done)
  obtain ⟨c, rfl⟩ := grd_some e
  simp only [Bool.and_eq_true, decide_eq_true_eq] at c
  exact ⟨_, _, rx.int, ry.int, c, q _ (.int _)⟩
theorem ok_mod : OkR2 K (rI (fun _ j => 0 < j) fun i j => .int (i % j)) f_mod := by
  intro H0 H x y dx dy res Q s rx ry e q
  cases dx <;> cases dy <;> try (cases e; done)
  obtain ⟨c, rfl⟩ := grd_some e
  exact ⟨_, _, rx.int, ry.int, of_decide_eq_true c, q _ (.int _)⟩
def CPowW (i j : Int) : Prop := 0 ≤ j ∧ (Builtin.Int.intBits i : Int) * j ≤ 2 ^ 27
theorem op_powW {X : Cx} : OpR X (binaryOp .Pow) (rI CPowW fun i j => .int (i ^ j.toNat)) := opI fun _ _ _ _ _ _ _ hc q => pow_int hc.1 hc.2 q
theorem ok_pow : OkR2 K (rI CPowW fun i j => .int (i ^ j.toNat)) f_pow := by
  intro H0 H x y dx dy res Q s rx ry e q
  cases dx <;> cases dy <;> try (cases e; done)
  obtain ⟨c, rfl⟩ := grd_some e
  simp only [Bool.and_eq_true, decide_eq_true_eq] at c
  exact ⟨_, _, rx.int, ry.int, c, q _ (.int _)⟩
theorem ok_neg : OkR1 K (rU fun i => .int (-i)) f_neg := by
  intro H0 H x dx res Q s rx e q
  cases dx <;> try (cases e; done)
  cases e
  exact ⟨_, rx.int, q _ (.int _)⟩
theorem ok_cmp (p : Int → Int → Bool) : OkR2 K (rI0 fun i j => .bl (p i j)) (f_cmp p) := by
  intro H0 H x y dx dy res Q s rx ry e q
  cases dx <;> cases dy <;> try (cases e; done)
  cases e
  exact ⟨_, _, rx.int, ry.int, q _ (.bl _)⟩
theorem shp_of {d : PyData} (h : shp d = true) : d.hasDict = false ∧ SeqAt.shaped d = true := by
  unfold shp at h
  simp only [Bool.and_eq_true, Bool.not_eq_true'] at h
  exact h
theorem strEq_some {d e : PyData} {b : Bool} (h : strEq d e = some b) : ∃ x y, d = .str x ∧ e = .str y ∧ b = decide (x = y) := by
  unfold strEq at h
  split at h
  · exact ⟨_, _, rfl, rfl, (Option.some.inj h).symm⟩
  · cases h
theorem dec_strV (x y : Str) : decide (V.str x = V.str y) = decide (x = y) := by
  by_cases h : x = y
  · rw [decide_eq_true h, decide_eq_true (congrArg V.str h)]
  · rw [decide_eq_false h, decide_eq_false fun z => h (V.str.inj z)]
def rEqX (K : PySem.W.Frag) : R2 := fun x y H Q => rEq x y H Q ∨ rEqD K x y H Q
def rNeX (K : PySem.W.Frag) : R2 := fun x y H Q => rNe x y H Q ∨ rNeD K x y H Q
theorem ok_eq : OkR2 K (rEqX K) f_eq := by
  intro H0 H x y dx dy res Q s rx ry e q
  unfold f_eq at e
  split at e
  · rename_i b hb
    obtain ⟨u, v, rfl, rfl, rfl⟩ := strEq_some hb
    cases e
    refine .inl ?_
    rw [rx.str, ry.str]
    exact ⟨rfl, by rw [dec_strV]; exact q _ (.bl _)⟩
  · obtain ⟨c, rfl⟩ := grd_some e
    simp only [Bool.and_eq_true] at c
    exact .inr ⟨dx, dy, (rx.rp s).dp (shp_of c.1).1, (ry.rp s).dp (shp_of c.2).1, (shp_of c.1).2, (shp_of c.2).2, q _ (.bl _)⟩
theorem ok_ne : OkR2 K (rNeX K) f_ne := by
  intro H0 H x y dx dy res Q s rx ry e q
  unfold f_ne at e
  split at e
  · rename_i b hb
    obtain ⟨u, v, rfl, rfl, rfl⟩ := strEq_some hb
    cases e
    refine .inl ?_
    rw [rx.str, ry.str]
    exact ⟨rfl, by rw [dec_strV]; exact q _ (.bl _)⟩
  · obtain ⟨c, rfl⟩ := grd_some e
    simp only [Bool.and_eq_true] at c
    exact .inr ⟨dx, dy, (rx.rp s).dp (shp_of c.1).1, (ry.rp s).dp (shp_of c.2).1, (shp_of c.1).2, (shp_of c.2).2, q _ (.bl _)⟩
theorem ok_isN : OkR2 K (fun x y H Q => y = .non ∧ Q (.bl (decide (x = .non))) H) f_isN := by
  intro H0 H x y dx dy res Q s rx ry e q
  cases dy <;> try (cases e; done)
  cases e
  refine ⟨ry.non, ?_⟩
  rw [rp_isN rx]
  exact q _ (.bl _)
theorem ok_notN : OkR2 K (fun x y H Q => y = .non ∧ Q (.bl (!decide (x = .non))) H) f_notN := by
  intro H0 H x y dx dy res Q s rx ry e q
  cases dy <;> try (cases e; done)
  cases e
  refine ⟨ry.non, ?_⟩
  rw [rp_isN rx]
  exact q _ (.bl _)
theorem atI_rp {vs : List V} {xs : List PyData} {i : Int} {d : PyData} (r : RpA K H0 vs xs) (h : atI xs i = some d) : ∃ v, atI vs i = some v ∧ Rp K H0 v d := by
  unfold atI at h ⊢
  rw [r.length]
  cases e : ixN xs.length i with
  | none => rw [e] at h; cases h
  | some j =>
    rw [e] at h
    obtain ⟨v, h1, h2⟩ := r.get (i := j) h
    exact ⟨v, h1, h2⟩
theorem ok_ix : OkR2 K (rIx K) f_ix := by
  intro H0 H x y dx dy res Q s rx ry e q
  cases dx <;> cases dy <;> try (cases e; done)
  · obtain ⟨c, h1, h2⟩ := Option.bind_eq_some_iff.mp e
    obtain ⟨g, rfl⟩ := grd_some h2
    exact .inr (.inr ⟨_, _, c, rx.str, ry.int, of_decide_eq_true g, h1, q _ (.str _)⟩)
  · obtain ⟨d, h1, rfl⟩ := Option.map_eq_some_iff.mp e
    obtain ⟨a, vs, rfl, h2, h3⟩ := rx.lst s
    obtain ⟨v, h4, h5⟩ := atI_rp h3 h1
    exact .inl ⟨a, vs, _, v, rfl, ry.int, h2, h4, q v h5⟩
  · obtain ⟨d, h1, rfl⟩ := Option.map_eq_some_iff.mp e
    obtain ⟨a, vs, rfl, h2, h3⟩ := rx.tup
    obtain ⟨v, h4, h5⟩ := atI_rp h3 h1
    exact .inr (.inl ⟨a, vs, _, v, rfl, ry.int, same_seqT s h2, h4, q v h5⟩)
end
end DL
end

section
set_option Elab.async false
set_option linter.all false
set_option maxRecDepth 100000
set_option maxHeartbeats 2000000
namespace DL
open PySem PySem.Spec PyProof.Rows L2

/-! ### a value becomes data -/
def shr (x : Val) : M PyData := fun ρ => match x with
  | .sh d => .ok d ρ
  | .fr xs => .ok (.list xs) ρ
  | .sl i => match ρ[i]? with
    | some (.ow xs) => .ok (.list xs) (ρ.set i (.sh (.list xs)))
    | some (.sh d) => .ok d ρ
    | _ => .stuck
  | .fo _ _ => .stuck
  | .gone => .stuck
section
variable {C : Ctx} {B H0 H H0' H' : Hp} {σ : L2.St} {ρ ρ' : Rho} {v : V} {d : PyData} {a : Addr}
theorem lt_of_get {α : Type} {l : List α} {i : Nat} {x : α} (h : l[i]? = some x) : i < l.length := (List.getElem?_eq_some_iff.mp h).1
theorem Wd.shareSlot (W : Wd C B H0 H σ ρ) {i : Nat} {xs : List PyData} (hi : ρ[i]? = some (.ow xs)) (hv : σ[i]? = some (some v)) : ∃ H0', Same H0 H0' ∧ Wd C B H0' H σ (ρ.set i (.sh (.list xs))) ∧ Rp C.K H0' v (.list xs) := by
  obtain ⟨a, vs, h1, h2, h3, h4, h5⟩ := W.slot i _ hi
  rw [hv] at h1
  cases h1
  have nb : bK ρ[i]? = none := by rw [hi]; rfl
  have W1 : Wd C B H0 H σ (ρ.set i .no) := W.disown nb no_own trivial
  have n1 := W.disown_no (Own.ow hi) hv (s := .no) no_own
  have S := same_upd (o := .lst vs) h3
  have W2 := W1.freeze h2 h3 h4 n1
  have R : Rp C.K (upd H0 a (.lst vs)) (.ref a) (.list xs) := .lst (.of upd_same) (h5.mono S)
  have W3 := W2.disown (i := i) (s := .sh (.list xs)) (by rw [List.getElem?_set_self (lt_of_get hi)]; rfl) sh_own ⟨_, hv, R⟩
  rw [List.set_set] at W3
  exact ⟨_, S, W3, R⟩
theorem shr_ok {x : Val} (W : Wd C B H0 H σ ρ) (h : VlR C.K B H0 H σ ρ v x) (e : shr x ρ = .ok d ρ') : ∃ H0', Same H0 H0' ∧ Wd C B H0' H σ ρ' ∧ Rp C.K H0' v d := by
  cases x with
  | sh d' => cases e; exact ⟨H0, Same.refl _, W, h⟩
  | fr xs =>
    cases e
    obtain ⟨H0', S, W', r⟩ := keep W h
    exact ⟨H0', S, W', r⟩
  | sl i =>
    have hv : σ[i]? = some (some v) := h
    unfold shr at e
    simp only at e
    split at e
    · rename_i xs q
      cases e
      exact W.shareSlot q hv
    · rename_i d' q
      cases e
      obtain ⟨v', h1, h2⟩ := W.slot i _ q
      rw [hv] at h1
      cases h1
      exact ⟨H0, Same.refl _, W, h2⟩
    · cases e
  | fo c xs => cases e
  | gone => cases e
theorem shr_exc {x : Val} {c : Nat} : shr x ρ ≠ .exc c ρ' := fun e => by
  cases x with
  | sh d => cases e
  | fr xs => cases e
  | sl i =>
    unfold shr at e
    simp only at e
    split at e <;> cases e
  | fo c xs => cases e
  | gone => cases e
/-- what stays of a value that is data -/
theorem Wd.storeSh (W : Wd C B H0 H σ ρ) {i : Nat} (hnb : bK ρ[i]? = none) (hi : i < ρ.length) (r : Rp C.K H0 v d) : Wd C B H0 H (σ.set i (some v)) (ρ.set i (.sh d)) := by
  have hiσ : i < σ.length := by rw [W.len]; exact hi
  refine ⟨W.s0, W.sb, W.s00, W.nf, fun j s e => ?_, fun j k a o1 o2 e1 e2 => ?_, by rw [List.length_set, List.length_set]; exact W.len, fun p hp => ?_⟩
  · rcases Rho.get_set e with ⟨rfl, rfl⟩ | ⟨n, z⟩
    · exact ⟨v, List.getElem?_set_self hiσ, r⟩
    · exact (W.slot j s z).move (Same.refl _) (List.getElem?_set_ne (Ne.symm n)) fun a _ _ h3 h4 => ⟨rfl, h3, h4⟩
  · obtain ⟨n1, o1⟩ := Own.set_no sh_own o1
    obtain ⟨n2, o2⟩ := Own.set_no sh_own o2
    rw [List.getElem?_set_ne (Ne.symm n1)] at e1
    rw [List.getElem?_set_ne (Ne.symm n2)] at e2
    exact W.inj j k a o1 o2 e1 e2
  · obtain ⟨h1, h2⟩ := W.bo p hp
    have ne : i ≠ p.1 := fun z => by rw [← z, hnb] at h2; cases h2
    exact ⟨by rw [List.getElem?_set_ne ne]; exact h1, bK_set hnb h2⟩
theorem Wd.storeC (W : Wd C B H0 H σ ρ) {i : Nat} (hnb : bK ρ[i]? = none) (hi : i < ρ.length) {s : Sl} {k : Option Nat} {vs : List V} {xs : List PyData} (hs : s.cel = some (k, xs)) (h1 : CelH C.K H a k vs) (h2 : H0 a = none) (h3 : B a = none) (h4 : ¬ OwnAt ρ σ a) (h5 : RpA C.K H0 vs xs) :
    Wd C B H0 H (σ.set i (some (.ref a))) (ρ.set i s) := by
  have hiσ : i < σ.length := by rw [W.len]; exact hi
  have other : ∀ j b, Own (ρ.set i s) j → (σ.set i (some (.ref a)))[j]? = some (some (.ref b)) → (j = i ∧ b = a) ∨ (j ≠ i ∧ Own ρ j ∧ σ[j]? = some (some (.ref b)) ∧ b ≠ a) := fun j b o e => by
    rcases o.set with ⟨rfl, _⟩ | ⟨n, o⟩
    · rw [List.getElem?_set_self hiσ] at e
      cases e
      exact .inl ⟨rfl, rfl⟩
    · rw [List.getElem?_set_ne (Ne.symm n)] at e
      exact .inr ⟨n, o, e, fun z => h4 ⟨j, o, z ▸ e⟩⟩
  refine ⟨W.s0, W.sb, W.s00, W.nf, fun j s' e => ?_, fun j k b o1 o2 e1 e2 => ?_, by rw [List.length_set, List.length_set]; exact W.len, fun p hp => ?_⟩
  · rcases Rho.get_set e with ⟨rfl, rfl⟩ | ⟨n, z⟩
    · exact CelR.sl ⟨a, vs, List.getElem?_set_self hiσ, h1, h2, h3, h5⟩ hs
    · exact (W.slot j s' z).move (Same.refl _) (List.getElem?_set_ne (Ne.symm n)) fun a _ _ h3 h4 => ⟨rfl, h3, h4⟩
  · rcases other j b o1 e1 with ⟨rfl, rfl⟩ | ⟨n1, p1, q1, r1⟩
    · rcases other k _ o2 e2 with ⟨rfl, _⟩ | ⟨n2, p2, q2, r2⟩
      · rfl
      · exact absurd rfl r2
    · rcases other k b o2 e2 with ⟨rfl, z⟩ | ⟨n2, p2, q2, r2⟩
      · exact absurd z r1
      · exact W.inj j k b p1 p2 q1 q2
  · obtain ⟨h1, h2⟩ := W.bo p hp
    have ne : i ≠ p.1 := fun z => by rw [← z, hnb] at h2; cases h2
    exact ⟨by rw [List.getElem?_set_ne ne]; exact h1, bK_set hnb h2⟩
theorem Wd.storeOw (W : Wd C B H0 H σ ρ) {i : Nat} (hnb : bK ρ[i]? = none) (hi : i < ρ.length) {vs : List V} {xs : List PyData} (h1 : H a = some (.lst vs)) (h2 : H0 a = none) (h3 : B a = none) (h4 : ¬ OwnAt ρ σ a) (h5 : RpA C.K H0 vs xs) :
    Wd C B H0 H (σ.set i (some (.ref a))) (ρ.set i (.ow xs)) := W.storeC (k := none) hnb hi rfl h1 h2 h3 h4 h5
end
/-! ### name = value -/
def notBo : Option Sl → Bool
  | some (.bo _) => false
  | some (.ob _ _) => false
  | none => false
  | _ => true
theorem notBo_of {ρ : Rho} {i : Nat} (h : notBo ρ[i]? = true) : bK ρ[i]? = none ∧ i < ρ.length := by
  cases e : ρ[i]? with
  | none => rw [e] at h; cases h
  | some s =>
    refine ⟨?_, lt_of_get e⟩
    rw [e] at h
    cases s <;> first | rfl | cases h
def stI (i : Nat) (x : Val) : Rho → Option Rho := fun ρ => if notBo ρ[i]? = true then
  match x with
  | .sh d => some (ρ.set i (.sh d))
  | .fr xs => some (ρ.set i (.ow xs))
  | .fo c xs => some (ρ.set i (.oo c xs))
  | .gone => none
  | .sl j => if j = i then none else match ρ[j]? with
    | some (.ow xs) => some ((ρ.set j (.sh (.list xs))).set i (.sh (.list xs)))
    | some (.sh d) => some (ρ.set i (.sh d))
    | _ => none
  else none
section
variable {C : Ctx} {B H0 H H0' H' : Hp} {σ : L2.St} {ρ ρ' : Rho} {v : V} {d : PyData} {a : Addr}
theorem stI_ok {x : Val} {i : Nat} (W : Wd C B H0 H σ ρ) (h : VlR C.K B H0 H σ ρ v x) (e : stI i x ρ = some ρ') : ∃ H0', Same H0 H0' ∧ Wd C B H0' H (σ.set i (some v)) ρ' := by
  unfold stI at e
  split at e
  · rename_i nb
    obtain ⟨nb, hi⟩ := notBo_of nb
    cases x with
    | sh d => cases e; exact ⟨H0, Same.refl _, W.storeSh nb hi h⟩
    | fr xs =>
      cases e
      obtain ⟨a, vs, rfl, h1, h2, h3, h4, h5⟩ := h
      exact ⟨H0, Same.refl _, W.storeOw nb hi h1 h2 h3 h4 h5⟩
    | fo c xs =>
      cases e
      obtain ⟨a, vs, rfl, h1, h2, h3, h4, h5⟩ := h
      exact ⟨H0, Same.refl _, W.storeC (k := some c) nb hi rfl h1 h2 h3 h4 h5⟩
    | gone => cases e
    | sl j =>
      have hv : σ[j]? = some (some v) := h
      simp only at e
      split at e
      · cases e
      · rename_i hne
        split at e
        · rename_i xs q
          cases e
          obtain ⟨H0', S, W', R⟩ := W.shareSlot q hv
          refine ⟨H0', S, W'.storeSh ?_ (by rw [List.length_set]; exact hi) R⟩
          rw [List.getElem?_set_ne hne]
          exact nb
        · rename_i d' q
          cases e
          obtain ⟨v', h1, h2⟩ := W.slot j _ q
          rw [hv] at h1
          cases h1
          exact ⟨H0, Same.refl _, W.storeSh nb hi h2⟩
        · cases e
  · cases e
end
/-! ### targets -/
abbrev Tg := Val → Rho → Option Rho
/-- slots other than vs are as they were -/
def Agr (vs : List Nat) (σ σ' : L2.St) : Prop := σ'.length = σ.length ∧ ∀ j, j ∉ vs → σ'[j]? = σ[j]?
theorem Agr.refl (vs : List Nat) (σ : L2.St) : Agr vs σ σ := ⟨rfl, fun _ _ => rfl⟩
theorem Agr.trans {vs ws : List Nat} {σ σ1 σ2 : L2.St} (a : Agr vs σ σ1) (b : Agr ws σ1 σ2) : Agr (vs ++ ws) σ σ2 := ⟨b.1.trans a.1, fun j h => by
  simp only [List.mem_append, not_or] at h
  exact (b.2 j h.2).trans (a.2 j h.1)⟩
def tG (C : Ctx) (vs : List Nat) (g : Tg) : TG := fun v σ H Q => ∃ B H0 ρ x, Same C.Hb B ∧ Wd C B H0 H σ ρ ∧ VlR C.K B H0 H σ ρ v x ∧ ∃ ρ', g x ρ = some ρ' ∧ ∀ H0' H' σ', Wd C B H0' H' σ' ρ' → Same H0 H0' → Agr vs σ σ' → Q σ' H'
structure DG (X : Cx) (C : Ctx) (e : Expr) (vs : List Nat) (g : Tg) : Prop where
  pg : PG X e (tG C vs g)
theorem PG.imp {X : Cx} {e : Expr} {t t' : TG} (h : PG X e t) (k : ∀ v σ H Q, t' v σ H Q → t v σ H Q) : PG X e t' := ⟨fun pins s σ H x u Q I r q => h.run pins s σ H x u Q I r (k x σ H _ q)⟩
def gtName (i : Nat) : Tg := fun x ρ => stI i x ρ
theorem dg_name {X : Cx} {C : Ctx} {i : Nat} {x : Str} {pos : Pos} (hN : X.N.Nodup) (hi : X.N[i]? = some x) (hx : Loc X.env.scope x) (hf : X.fn x = true ∨ X.env.scope.names.lookup x = some .local) : DG X C (.Name x pos) [i] (gtName i) := by
  refine ⟨PG.imp (pg_name hN hi hx hf) fun v σ H Q h => ?_⟩
  obtain ⟨B, H0, ρ, x, hB, W, r, ρ', e, q⟩ := h
  obtain ⟨H0', S, W'⟩ := stI_ok W r e
  exact q H0' H _ W' S ⟨List.length_set, fun j hj => List.getElem?_set_ne (fun z => hj (by simp [z]))⟩

/-- a tuple's parts -/
abbrev Tgs := List PyData → Rho → Option Rho
def tGs (C : Ctx) (vs : List Nat) (g : Tgs) : TGs := fun us σ H Q => ∃ B H0 ρ xs, Same C.Hb B ∧ Wd C B H0 H σ ρ ∧ RpA C.K H0 us xs ∧ ∃ ρ', g xs ρ = some ρ' ∧ ∀ H0' H' σ', Wd C B H0' H' σ' ρ' → Same H0 H0' → Agr vs σ σ' → Q σ' H'
theorem PGs.imp {X : Cx} {e : List Expr} {t t' : TGs} (h : PGs X e t) (k : ∀ v σ H Q, t' v σ H Q → t v σ H Q) : PGs X e t' := ⟨fun pins s σ H x u Q I r q => h.run pins s σ H x u Q I r (k x σ H _ q)⟩
structure DGs (X : Cx) (C : Ctx) (e : List Expr) (vs : List Nat) (g : Tgs) : Prop where
  pg : PGs X e (tGs C vs g)
def gtNil : Tgs := fun xs ρ => match xs with
  | [] => some ρ
  | _ => none
def gtCons (g : Tg) (gs : Tgs) : Tgs := fun xs ρ => match xs with
  | x :: r => match g (.sh x) ρ with
    | some ρ' => gs r ρ'
    | none => none
  | [] => none
theorem dgs_nil {X : Cx} {C : Ctx} : DGs X C [] [] gtNil := ⟨PGs.imp pgs_nil fun vs σ H Q h => by
  obtain ⟨B, H0, ρ, xs, hB, W, r, ρ', e, q⟩ := h
  cases xs with
  | nil => cases r; cases e; exact ⟨rfl, q H0 H σ W (Same.refl _) (Agr.refl _ _)⟩
  | cons x xs => cases e⟩
theorem dgs_cons {X : Cx} {C : Ctx} {e : Expr} {es : List Expr} {vs ws : List Nat} {g : Tg} {gs : Tgs} (h1 : DG X C e vs g) (h2 : DGs X C es ws gs)
    (hs : (assignEach (e :: es) X.env).map (·.2) = assign e X.env :: (assignEach es X.env).map (·.2)) : DGs X C (e :: es) (vs ++ ws) (gtCons g gs) := ⟨PGs.imp (pgs_cons h1.pg h2.pg hs) fun us σ H Q h => by
  obtain ⟨B, H0, ρ, xs, hB, W, r, ρ', e, q⟩ := h
  cases xs with
  | nil => cases e
  | cons x xs =>
    cases r with
    | cons r1 rr =>
      simp only [gtCons] at e
      cases e1 : g (.sh x) ρ with
      | none => rw [e1] at e; cases e
      | some ρ1 =>
        rw [e1] at e
        exact ⟨_, _, rfl, B, H0, ρ, .sh x, hB, W, r1, ρ1, e1, fun H1 H' σ' W1 S1 A1 => ⟨B, H1, ρ1, xs, hB, W1, rr.mono S1, ρ', e, fun H2 H'' σ'' W2 S2 A2 => q H2 H'' σ'' W2 (S1.trans S2) (A1.trans A2)⟩⟩⟩
/-- (a, b, ..) = a tuple -/
def gtTup (gs : Tgs) (n : Nat) : Tg := fun x ρ => match x with
  | .sh (.tuple xs) => if xs.length = n then gs xs ρ else none
  | _ => none
theorem dg_tup {X : Cx} {C : Ctx} {es : List Expr} {k : Nat} {pos : Pos} {vs : List Nat} {gs : Tgs} {n : Nat} (hK : C.K = X.K) (hc : X.calm = true) (h : DGs X C es vs gs) (hn : (assignEach es X.env).length = n) (hst : (assignEach es X.env).findIdx? (·.1) = none) :
    DG X C (.Tuple es k pos) vs (gtTup gs n) := ⟨PG.imp (pg_tup (n := n) hc h.pg hn hst) fun v σ H Q h => by
  obtain ⟨B, H0, ρ, x, hB, W, r, ρ', e, q⟩ := h
  cases x with
  | sh d =>
    cases d with
    | tuple xs =>
      simp only [gtTup] at e
      split at e
      · rename_i hl
        cases (show Rp C.K H0 v (.tuple xs) from r) with
        | tup h1 h2 => exact ⟨_, _, rfl, hK ▸ same_seqT W.s0 h1.sqt, by rw [h2.length]; exact hl, B, H0, ρ, xs, hB, W, h2, ρ', e, q⟩
      · cases e
    | _ => cases e
  | _ => cases e⟩

/-! ### statements -/
inductive RV where
  | sh (d : PyData) | fr (xs : List PyData) | fo (c : Nat) (xs : List PyData)
inductive SOut where
  | stuck | nx (ρ : Rho) | bk (ρ : Rho) | ct (ρ : Rho) | rt (r : RV) (ρ : Rho) | exc (c : Nat) (ρ : Rho)
abbrev SD := Rho → SOut
def RvR (C : Ctx) (B H0 H : Hp) (σ : L2.St) (ρ : Rho) (v : V) : RV → Prop
  | .sh d => Rp C.K H0 v d
  | .fr xs => VlR C.K B H0 H σ ρ v (.fr xs)
  | .fo c xs => VlR C.K B H0 H σ ρ v (.fo c xs)
def stS (C : Ctx) (H0 : Hp) (D : Ends) : SOut → Prop
  | .stuck => False
  | .nx ρ' => ∀ H0' H' σ', Wd C C.Hb H0' H' σ' ρ' → Same H0 H0' → D.nx σ' H'
  | .bk ρ' => ∀ H0' H' σ', Wd C C.Hb H0' H' σ' ρ' → Same H0 H0' → D.bk σ' H'
  | .ct ρ' => ∀ H0' H' σ', Wd C C.Hb H0' H' σ' ρ' → Same H0 H0' → D.ct σ' H'
  | .rt r ρ' => ∀ H0' H' σ' v, Wd C C.Hb H0' H' σ' ρ' → Same H0 H0' → RvR C C.Hb H0' H' σ' ρ' v r → D.rt v H'
  | .exc c ρ' => C.wish c ρ'
theorem stS_base {C : Ctx} {H0 H0' : Hp} {D : Ends} {o : SOut} (h : stS C H0 D o) (s : Same H0 H0') : stS C H0' D o := by
  cases o with
  | stuck => exact h
  | nx ρ' => exact fun H1 H' σ' W S => h H1 H' σ' W (s.trans S)
  | bk ρ' => exact fun H1 H' σ' W S => h H1 H' σ' W (s.trans S)
  | ct ρ' => exact fun H1 H' σ' W S => h H1 H' σ' W (s.trans S)
  | rt r ρ' => exact fun H1 H' σ' v W S => h H1 H' σ' v W (s.trans S)
  | exc c ρ' => exact h
def tDS (C : Ctx) (d : SD) : TS := fun D σ H => ∃ H0 ρ, Wd C C.Hb H0 H σ ρ ∧ stS C H0 D (d ρ)
structure DS (X : Cx) (C : Ctx) (st : Stmt) (d : SD) : Prop where
  ps : PS X st (tDS C d)
structure DSs (X : Cx) (C : Ctx) (st : List Stmt) (d : SD) : Prop where
  ps : PSs X st (tDS C d)
def sThen (o : SOut) (k : Rho → SOut) : SOut := match o with
  | .nx ρ' => k ρ'
  | o => o
def sSeq (a b : SD) : SD := fun ρ => sThen (a ρ) b
def sNil : SD := fun ρ => .nx ρ
theorem stS_then {C : Ctx} {H0 : Hp} {D : Ends} {o : SOut} {k : SD} (h : stS C H0 D (sThen o k)) : stS C H0 { D with nx := tDS C k D } o := by
  cases o with
  | nx ρ' => exact fun H0' H' σ' W S => ⟨H0', ρ', W, stS_base h S⟩
  | stuck => exact h
  | bk ρ' => exact h
  | ct ρ' => exact h
  | rt r ρ' => exact h
  | exc c ρ' => exact h
section
variable {X : Cx} {C : Ctx}
theorem dss_nil : DSs X C [] sNil := ⟨PSs.imp pss_nil fun D σ H ⟨H0, ρ, W, h⟩ => h H0 H σ W (Same.refl _)⟩
theorem dss_cons {st : Stmt} {sts : List Stmt} {a b : SD} (h1 : DS X C st a) (h2 : DSs X C sts b) : DSs X C (st :: sts) (sSeq a b) :=
  ⟨PSs.imp (pss_cons h1.ps h2.ps) fun D σ H ⟨H0, ρ, W, h⟩ => ⟨H0, ρ, W, stS_then h⟩⟩
theorem dss_one {st : Stmt} {a : SD} (h1 : DS X C st a) : DSs X C [st] a := ⟨pss_one h1.ps⟩
theorem ds_pass {pos : Pos} : DS X C (.Pass pos) sNil := ⟨PS.imp ps_pass fun D σ H ⟨H0, ρ, W, h⟩ => h H0 H σ W (Same.refl _)⟩
def sBk : SD := fun ρ => .bk ρ
def sCt : SD := fun ρ => .ct ρ
theorem ds_break {pos : Pos} : DS X C (.Break pos) sBk := ⟨PS.imp ps_break fun D σ H ⟨H0, ρ, W, h⟩ => h H0 H σ W (Same.refl _)⟩
theorem ds_continue {pos : Pos} : DS X C (.Continue pos) sCt := ⟨PS.imp ps_continue fun D σ H ⟨H0, ρ, W, h⟩ => h H0 H σ W (Same.refl _)⟩
/-- an expression's outcome in a statement -/
def sBind {α : Type} (m : M α) (k : α → SD) : SD := fun ρ => match m ρ with
  | .stuck => .stuck
  | .ok a ρ' => k a ρ'
  | .exc c ρ' => .exc c ρ'
theorem stS_bind {α : Type} {D : Ends} {H0 : Hp} {σ : L2.St} {ρ : Rho} {m : M α} {k : α → SD} (h : stS C H0 D (sBind m k ρ)) : stG C C.Hb H0 σ (fun H0' _ ρ' a => stS C H0' D (k a ρ')) (m ρ) := by
  unfold sBind at h
  cases e : m ρ with
  | stuck => rw [e] at h; exact h
  | ok a ρ' => rw [e] at h; exact fun _ _ _ S => stS_base h S
  | exc c ρ' => rw [e] at h; exact h
theorem tDS_run {D : Ends} {H0 H : Hp} {σ : L2.St} {ρ : Rho} {da : M Val} {k : Val → SD} {Q : VK} (W : Wd C C.Hb H0 H σ ρ) (h : stS C H0 D (sBind da k ρ))
    (hk : ∀ H0' H' ρ' x v, Wd C C.Hb H0' H' σ ρ' → Same H0 H0' → VlR C.K C.Hb H0' H' σ ρ' v x → stS C H0' D (k x ρ') → Q v H') : tD C da σ H Q :=
  ⟨C.Hb, H0, ρ, Same.refl _, W, stG_mono (stS_bind h) fun H0' H' ρ' x W' S' q v r => hk H0' H' ρ' x v W' S' r q⟩
theorem tDS_runT {D : Ends} {H0 H : Hp} {σ : L2.St} {ρ : Rho} {da : M Bool} {k : Bool → SD} {Q : Bool → Hp → Prop} (W : Wd C C.Hb H0 H σ ρ) (h : stS C H0 D (sBind da k ρ))
    (hk : ∀ H0' H' ρ' x, Wd C C.Hb H0' H' σ ρ' → Same H0 H0' → stS C H0' D (k x ρ') → Q x H') : tDT C da σ H Q :=
  ⟨C.Hb, H0, ρ, Same.refl _, W, stG_mono (stS_bind h) fun H0' H' ρ' x W' S' q => hk H0' H' ρ' x W' S' q⟩
/-- e; -/
def sDrop (d : M Val) : SD := sBind d fun _ ρ => .nx ρ
theorem ds_expr {e : Expr} {d : M Val} {pos : Pos} (h : DE X C e d) (hs : swapsWith e none pos.line X.env = pure false) : DS X C (.Expr e pos) (sDrop d) :=
  ⟨PS.imp (ps_expr h.pe hs) fun D σ H ⟨H0, ρ, W, q⟩ => tDS_run W q fun H0' H' ρ' x v W' _ _ q' => q' H0' H' σ W' (Same.refl _)⟩
/-- return e -/
def retV (x : Val) : SD := fun ρ => match x with
  | .sh d => .rt (.sh d) ρ
  | .fr xs => .rt (.fr xs) ρ
  | .fo c xs => .rt (.fo c xs) ρ
  | .gone => .stuck
  | .sl i => match ρ[i]? with
    | some (.ow xs) => .rt (.fr xs) (ρ.set i .no)
    | some (.sh d) => .rt (.sh d) ρ
    | some (.oo c xs) => .rt (.fo c xs) (ρ.set i .no)
    | _ => .stuck
def sRet (d : M Val) : SD := sBind d retV
theorem ds_ret {e : Expr} {d : M Val} {pos : Pos} (h : DE X C e d) : DS X C (.Return (some e) pos) (sRet d) :=
  ⟨PS.imp (ps_ret h.pe) fun D σ H ⟨H0, ρ, W, q⟩ => tDS_run W q fun H0' H' ρ' x v W' _ r q' => by
    cases x with
    | sh d => exact q' H0' H' σ v W' (Same.refl _) r
    | fr xs => exact q' H0' H' σ v W' (Same.refl _) r
    | fo c xs => exact q' H0' H' σ v W' (Same.refl _) r
    | gone => exact q'.elim
    | sl i =>
      have hv : σ[i]? = some (some v) := r
      simp only [retV] at q'
      split at q'
      · rename_i xs e
        obtain ⟨a, vs, h1, h2, h3, h4, h5⟩ := W'.slot i _ e
        rw [hv] at h1
        cases h1
        exact q' H0' H' σ _ (W'.disown (by rw [e]; rfl) no_own trivial) (Same.refl _) ⟨a, vs, rfl, h2, h3, h4, W'.disown_no (Own.ow e) hv no_own, h5⟩
      · rename_i d' e
        obtain ⟨v', h1, h2⟩ := W'.slot i _ e
        rw [hv] at h1
        cases h1
        exact q' H0' H' σ _ W' (Same.refl _) h2
      · rename_i c xs e
        obtain ⟨a, vs, h1, h2, h3, h4, h5⟩ := W'.slot i _ e
        rw [hv] at h1
        cases h1
        exact q' H0' H' σ _ (W'.disown (by rw [e]; rfl) no_own trivial) (Same.refl _) ⟨a, vs, rfl, h2, h3, h4, W'.disown_no ⟨_, e, rfl⟩ hv no_own, h5⟩
      · exact q'.elim⟩
def sRetN : SD := fun ρ => .rt (.sh .none) ρ
theorem ds_retN {pos : Pos} : DS X C (.Return none pos) sRetN := ⟨PS.imp ps_retN fun D σ H ⟨H0, ρ, W, h⟩ => h H0 H σ .non W (Same.refl _) .non⟩
/-- if -/
def sIf (c : M Val) (a b : SD) : SD := sBind (tst c) fun k => match k with
  | true => a
  | false => b
theorem ds_if {c : Expr} {a b : List Stmt} {dc : M Val} {da db : SD} {pos : Pos} (hc : DE X C c dc) (ha : DSs X C a da) (hb : DSs X C b db) : DS X C (.If c a b pos) (sIf dc da db) :=
  ⟨PS.imp (ps_if hc.pt ha.ps hb.ps) fun D σ H ⟨H0, ρ, W, q⟩ => tDS_runT W q fun H0' H' ρ' k W' _ q' => by
    cases k with
    | true => exact iteT ⟨H0', ρ', W', q'⟩
    | false => exact iteF ⟨H0', ρ', W', q'⟩⟩
/-- target = e -/
def gOpt (o : Option Rho) : SOut := match o with
  | some ρ => .nx ρ
  | none => .stuck
def sAsg (d : M Val) (g : Tg) : SD := sBind d fun x ρ => gOpt (g x ρ)
theorem ds_asg {tg e : Expr} {d : M Val} {vs : List Nat} {g : Tg} {pos : Pos} (he : DE X C e d) (hg : DG X C tg vs g) (hs : swapsWithSole [tg] e pos.line X.env = pure false) (hw : swappedStores [tg] e X.env = pure none) (h1 : (assignEach [tg] X.env).map (·.2) = [assign tg X.env]) : DS X C (.Assign [tg] e pos) (sAsg d g) :=
  ⟨PS.imp (ps_asg he.pe hg.pg hs hw h1) fun D σ H ⟨H0, ρ, W, q⟩ => tDS_run W q fun H0' H' ρ' x v W' _ r q' => by
    cases e : g x ρ' with
    | none => rw [e] at q'; exact q'.elim
    | some ρ2 =>
      rw [e] at q'
      exact ⟨C.Hb, H0', ρ', x, Same.refl _, W', r, ρ2, e, fun H1 H'' σ' W2 S2 _ => q' H1 H'' σ' W2 S2⟩⟩
/-- while -/
def whl (c : M Bool) (b : SD) : Nat → SD
  | 0 => fun _ => .stuck
  | n + 1 => sBind c fun k => match k with
    | false => fun ρ => .nx ρ
    | true => fun ρ => match b ρ with
      | .nx ρ' => whl c b n ρ'
      | .ct ρ' => whl c b n ρ'
      | .bk ρ' => .nx ρ'
      | o => o
def sWhile (n : Nat) (c : M Val) (b : SD) : SD := whl (tst c) b n
theorem ds_while {c : Expr} {body : List Stmt} {dc : M Val} {db : SD} {n : Nat} {pos : Pos} (hp : PassesOwn (model X.prog X.w) X.A X.env X.xe) (hc : DE X C c dc) (hb : DSs X C body db) : DS X C (.While c body [] pos) (sWhile n dc db) :=
  ⟨PS.imp (ps_while hp hc.pt hb.ps) fun D σ H ⟨H0, ρ, W, q⟩ => by
    refine ⟨fun m σ H => ∃ H0 ρ, Wd C C.Hb H0 H σ ρ ∧ stS C H0 D (whl (tst dc) db m ρ), ⟨n, H0, ρ, W, q⟩, fun m σ H hW => ?_⟩
    obtain ⟨H0, ρ, W, q⟩ := hW
    cases m with
    | zero => exact q.elim
    | succ m =>
      refine tDS_runT W q fun H0' H' ρ' k W' _ q' => ?_
      cases k with
      | false => exact iteF (q' H0' H' σ W' (Same.refl _))
      | true =>
        refine iteT ⟨fun σ H => ∃ H0 ρ, Wd C C.Hb H0 H σ ρ ∧ stS C H0 D (whl (tst dc) db m ρ), fun σ' H' h => ⟨m, Nat.lt_succ_self m, h⟩, H0', ρ', W', ?_⟩
        have q2 : stS C H0' D (match db ρ' with
          | .nx ρ' => whl (tst dc) db m ρ'
          | .ct ρ' => whl (tst dc) db m ρ'
          | .bk ρ' => .nx ρ'
          | o => o) := q'
        cases e : db ρ' with
        | stuck => rw [e] at q2; exact q2
        | nx ρ2 => rw [e] at q2; exact fun H1 H'' σ' W2 S2 => ⟨H1, ρ2, W2, stS_base q2 S2⟩
        | ct ρ2 => rw [e] at q2; exact fun H1 H'' σ' W2 S2 => ⟨H1, ρ2, W2, stS_base q2 S2⟩
        | bk ρ2 => rw [e] at q2; exact q2
        | rt r ρ2 => rw [e] at q2; exact q2
        | exc c ρ2 => rw [e] at q2; exact q2⟩
end
end DL
end

section
set_option Elab.async false
set_option linter.all false
set_option maxRecDepth 100000
set_option maxHeartbeats 2000000
namespace DL
open PySem PySem.Spec PyProof.Rows L2

/-! ### lists of arguments -/
/-- as data -/
def evS : List (M Val) → M (List PyData)
  | [] => mpure []
  | d :: r => mbind d fun x => mbind (shr x) fun a => mbind (evS r) fun as => mpure (a :: as)
def tDA {α : Type} (C : Ctx) (R : Hp → Hp → L2.St → Rho → List V → α → Prop) (m : M α) : TA := fun σ H Q => ∃ B H0 ρ, Same C.Hb B ∧ Wd C B H0 H σ ρ ∧ stG C B H0 σ (fun H0' H' ρ' a => ∀ vs, R H0' H' σ ρ' vs a → Q vs H') (m ρ)
abbrev tDAs (C : Ctx) : M (List PyData) → TA := tDA C fun H0 _ _ _ vs ds => RpA C.K H0 vs ds
section
variable {X : Cx} {C : Ctx}
/-- run shr in a reading -/
theorem shr_run {α : Type} {B H0 H : Hp} {σ : L2.St} {ρ : Rho} {P : Hp → Hp → Rho → α → Prop} {x : Val} {v : V} {k : PyData → M α} {T : Prop} (W : Wd C B H0 H σ ρ) (r : VlR C.K B H0 H σ ρ v x) (h : stG C B H0 σ P (mbind (shr x) k ρ))
    (hk : ∀ H0' ρ' d, Wd C B H0' H σ ρ' → Same H0 H0' → Rp C.K H0' v d → stG C B H0' σ P (k d ρ') → T) : T := by
  unfold mbind at h
  cases e : shr x ρ with
  | stuck => rw [e] at h; exact h.elim
  | ok d ρ' =>
    rw [e] at h
    obtain ⟨H0', S, W', r'⟩ := shr_ok W r e
    exact hk H0' ρ' d W' S r' (stG_base h S)
  | exc c ρ' => exact (shr_exc e).elim
theorem pas_nil : PA X [] (tDAs C (evS [])) := PA.imp pa_nil fun σ H Q ⟨B, H0, ρ, hB, W, h⟩ => h H0 H W (Same.refl _) [] .nil
theorem pas_cons {e : Expr} {es : List Expr} {d : M Val} {ds : List (M Val)} (h : DE X C e d) (hr : PA X es (tDAs C (evS ds))) (hs : starEach (e :: es) X.env = (false, eval e X.env) :: starEach es X.env) : PA X (e :: es) (tDAs C (evS (d :: ds))) :=
  PA.imp (pa_cons h.pe hr hs) fun σ H Q ⟨B, H0, ρ, hB, W, q⟩ => tD_run hB W q fun H1 H' ρ1 x v W1 S1 r1 q1 =>
    shr_run W1 r1 q1 fun H2 ρ2 a W2 S2 r2 q2 => ⟨B, H2, ρ2, hB, W2, stG_mono (stG_bind q2) fun H3 H'' ρ3 as W3 S3 q3 vs rs => q3 H3 H'' W3 (Same.refl _) (v :: vs) (.cons (r2.mono S3) rs)⟩
end

/-! ### what is walked -/
structure ItD (K : PySem.W.Frag) (H0 : Hp) (J : It) (items : List PyData) : Prop where
  go : ∀ i H0' H', Same H0 H0' → Same H0' H' → i < items.length → J.go i H'
  stop : ∀ H0' H', Same H0 H0' → Same H0' H' → J.stop items.length H'
  yld : ∀ i d H0' H' x H'', Same H0 H0' → Same H0' H' → items[i]? = some d → J.yld i H' x H'' → (H'' = H' ∧ Rp K H0' x d) ∨ (∃ (T : Addr) (vs : List V) (ds : List PyData) (o : Obj), o.dict = none ∧ H' T = none ∧ x = .ref T ∧ H'' = upd H' T (.frz o (.tup vs)) ∧ d = .tuple ds ∧ RpA K H0' vs ds)
def tDI (C : Ctx) (m : M (List PyData)) : TI := fun σ H R => ∃ B H0 ρ, Same C.Hb B ∧ Wd C B H0 H σ ρ ∧ stG C B H0 σ (fun H0' H' ρ' items => ∀ J, ItD C.K H0' J items → R J H') (m ρ)
structure DI (X : Cx) (C : Ctx) (tg e : Expr) (m : M (List PyData)) : Prop where
  pi : PI X tg e (tDI C m)
theorem PI.imp {X : Cx} {tg e : Expr} {t t' : TI} (h : PI X tg e t) (k : ∀ σ H Q, t' σ H Q → t σ H Q) : PI X tg e t' := ⟨fun pins s σ H R I q => h.run pins s σ H R I (k σ H R q)⟩
section
variable {K : PySem.W.Frag} {H0 H : Hp} {a b : Addr} {vs ws : List V} {xs ys : List PyData}
theorem itd_list (h : SqL K H0 a vs) (r : RpA K H0 vs xs) : ItD K H0 (Itl K a) xs where
  go := fun i H0' H' s1 s2 hi => ⟨vs, vs[i]'(by rw [r.length]; exact hi), s2.seq (s1.seq h), by simp [r.length, hi]⟩
  stop := fun H0' H' s1 s2 => ⟨vs, s2.seq (s1.seq h), Nat.le_of_eq r.length⟩
  yld := fun i d H0' H' x H'' s1 s2 e y => by
    obtain ⟨rfl, y⟩ := y
    obtain ⟨v, h1, h2⟩ := r.get e
    have := y vs (s2.seq (s1.seq h))
    rw [h1] at this
    cases this
    exact .inl ⟨rfl, h2.mono s1⟩
theorem itd_tup (h : SqT K H0 a vs) (r : RpA K H0 vs xs) : ItD K H0 (Itt K a) xs where
  go := fun i H0' H' s1 s2 hi => ⟨vs, vs[i]'(by rw [r.length]; exact hi), same_seqT s2 (same_seqT s1 h), by simp [r.length, hi]⟩
  stop := fun H0' H' s1 s2 => ⟨vs, same_seqT s2 (same_seqT s1 h), Nat.le_of_eq r.length⟩
  yld := fun i d H0' H' x H'' s1 s2 e y => by
    obtain ⟨rfl, y⟩ := y
    obtain ⟨v, h1, h2⟩ := r.get e
    have := y vs (same_seqT s2 (same_seqT s1 h))
    rw [h1] at this
    cases this
    exact .inl ⟨rfl, h2.mono s1⟩
def rngL (lo : Int) (c : Int) (n : Nat) : List PyData := (List.range n).map fun (i : Nat) => PyData.int (lo + (i : Int) * c)
theorem itd_rng (lo : Int) (n : Nat) : ItD K H0 (Itr lo n) (rngL lo 1 n) where
  go := fun i H0' H' s1 s2 hi => by rw [rngL, List.length_map, List.length_range] at hi; exact hi
  stop := fun H0' H' s1 s2 => by rw [rngL, List.length_map, List.length_range]; exact Nat.le_refl _
  yld := fun i d H0' H' x H'' s1 s2 e y => by
    obtain ⟨rfl, rfl⟩ := y
    rw [rngL, List.getElem?_map] at e
    obtain ⟨j, h1, rfl⟩ := Option.map_eq_some_iff.mp e
    obtain ⟨h2, rfl⟩ := List.getElem?_eq_some_iff.mp h1
    rw [List.getElem_range, Int.mul_one]
    exact .inl ⟨rfl, .int _⟩
theorem itd_rngC (lo c : Int) (n : Nat) : ItD K H0 (Itc lo c n) (rngL lo c n) where
  go := fun i H0' H' s1 s2 hi => by rw [rngL, List.length_map, List.length_range] at hi; exact hi
  stop := fun H0' H' s1 s2 => by rw [rngL, List.length_map, List.length_range]; exact Nat.le_refl _
  yld := fun i d H0' H' x H'' s1 s2 e y => by
    obtain ⟨rfl, rfl⟩ := y
    rw [rngL, List.getElem?_map] at e
    obtain ⟨j, h1, rfl⟩ := Option.map_eq_some_iff.mp e
    obtain ⟨h2, rfl⟩ := List.getElem?_eq_some_iff.mp h1
    rw [List.getElem_range]
    exact .inl ⟨rfl, .int _⟩
theorem rev_get {α : Type} {l : List α} {i : Nat} {d : α} (e : l.reverse[i]? = some d) : i < l.length ∧ l[l.length - 1 - i]? = some d := by
  have hi : i < l.length := by
    have := (List.getElem?_eq_some_iff.mp e).1
    rwa [List.length_reverse] at this
  rw [List.getElem?_reverse hi] at e
  exact ⟨hi, e⟩
theorem itd_rev (h : SqL K H0 a vs) (r : RpA K H0 vs xs) : ItD K H0 (Itv K a vs.length) xs.reverse where
  go := fun i H0' H' s1 s2 hi => by
    rw [List.length_reverse, ← r.length] at hi
    exact ⟨hi, vs, vs[vs.length - 1 - i]'(by omega), s2.seq (s1.seq h), by rw [List.getElem?_eq_getElem (by omega)]⟩
  stop := fun H0' H' s1 s2 => by rw [List.length_reverse, ← r.length]; exact Nat.le_refl _
  yld := fun i d H0' H' x H'' s1 s2 e y => by
    obtain ⟨rfl, y⟩ := y
    obtain ⟨hi, e⟩ := rev_get e
    rw [← r.length] at e
    obtain ⟨v, h1, h2⟩ := r.get e
    have := y vs (s2.seq (s1.seq h))
    rw [h1] at this
    cases this
    exact .inl ⟨rfl, h2.mono s1⟩
theorem itd_revT (h : SqT K H0 a vs) (r : RpA K H0 vs xs) : ItD K H0 (RT.ItvT K a vs.length) xs.reverse where
  go := fun i H0' H' s1 s2 hi => by
    rw [List.length_reverse, ← r.length] at hi
    exact ⟨hi, vs, vs[vs.length - 1 - i]'(by omega), same_seqT s2 (same_seqT s1 h), by rw [List.getElem?_eq_getElem (by omega)]⟩
  stop := fun H0' H' s1 s2 => by rw [List.length_reverse, ← r.length]; exact Nat.le_refl _
  yld := fun i d H0' H' x H'' s1 s2 e y => by
    obtain ⟨rfl, y⟩ := y
    obtain ⟨hi, e⟩ := rev_get e
    rw [← r.length] at e
    obtain ⟨v, h1, h2⟩ := r.get e
    have := y vs (same_seqT s2 (same_seqT s1 h))
    rw [h1] at this
    cases this
    exact .inl ⟨rfl, h2.mono s1⟩
def enumL (xs : List PyData) : List PyData := (List.range xs.length).zipWith (fun (i : Nat) d => PyData.tuple [.int i, d]) xs
theorem enumL_get {xs : List PyData} {i : Nat} {d : PyData} (e : (enumL xs)[i]? = some d) : ∃ y, xs[i]? = some y ∧ d = .tuple [.int i, y] := by
  unfold enumL at e
  rw [List.getElem?_zipWith] at e
  cases h : xs[i]? with
  | none => rw [h] at e; cases hr : (List.range xs.length)[i]? <;> rw [hr] at e <;> cases e
  | some y =>
    have hi : i < xs.length := lt_of_get h
    rw [List.getElem?_range hi, h] at e
    cases e
    exact ⟨y, rfl, rfl⟩
theorem enumL_length (xs : List PyData) : (enumL xs).length = xs.length := by simp [enumL]
/-- enumerate of a list: each pair without a dict -/
def IteN (K : PySem.W.Frag) (a : Addr) : It :=
  ⟨fun i H => ∃ (xs : List V) (x : V), SqL K H a xs ∧ xs[i]? = some x, fun i H v H' => ∃ T x, v = .ref T ∧ H T = none ∧ (∃ o : Obj, o.dict = none ∧ H' = upd H T (.frz o (.tup [.int (i : Nat), x]))) ∧ ∀ xs, SqL K H a xs → xs[i]? = some x, fun i H => ∃ xs : List V, SqL K H a xs ∧ xs.length ≤ i⟩
theorem itd_enum (h : SqL K H0 a vs) (r : RpA K H0 vs xs) : ItD K H0 (IteN K a) (enumL xs) where
  go := fun i H0' H' s1 s2 hi => by
    rw [enumL_length, ← r.length] at hi
    exact ⟨vs, vs[i], s2.seq (s1.seq h), by simp [hi]⟩
  stop := fun H0' H' s1 s2 => ⟨vs, s2.seq (s1.seq h), by rw [enumL_length, r.length]; exact Nat.le_refl _⟩
  yld := fun i d H0' H' x H'' s1 s2 e y => by
    obtain ⟨y0, e0, rfl⟩ := enumL_get e
    obtain ⟨T, x0, rfl, hT, ⟨o, ho, rfl⟩, hx⟩ := y
    obtain ⟨v, h1, h2⟩ := r.get e0
    have := hx vs (s2.seq (s1.seq h))
    rw [h1] at this
    cases this
    exact .inr ⟨T, _, _, o, ho, hT, rfl, rfl, rfl, .cons (.int _) (.cons (h2.mono s1) .nil)⟩
/-- enumerate of a tuple -/
def IteT (K : PySem.W.Frag) (a : Addr) : It :=
  ⟨fun i H => ∃ (xs : List V) (x : V), SqT K H a xs ∧ xs[i]? = some x, fun i H v H' => ∃ T x, v = .ref T ∧ H T = none ∧ (∃ o : Obj, o.dict = none ∧ H' = upd H T (.frz o (.tup [.int (i : Nat), x]))) ∧ ∀ xs, SqT K H a xs → xs[i]? = some x, fun i H => ∃ xs : List V, SqT K H a xs ∧ xs.length = i⟩
theorem itd_enumT (h : SqT K H0 a vs) (r : RpA K H0 vs xs) : ItD K H0 (IteT K a) (enumL xs) where
  go := fun i H0' H' s1 s2 hi => by
    rw [enumL_length, ← r.length] at hi
    exact ⟨vs, vs[i], same_seqT s2 (same_seqT s1 h), by simp [hi]⟩
  stop := fun H0' H' s1 s2 => ⟨vs, same_seqT s2 (same_seqT s1 h), by rw [enumL_length, r.length]⟩
  yld := fun i d H0' H' x H'' s1 s2 e y => by
    obtain ⟨y0, e0, rfl⟩ := enumL_get e
    obtain ⟨T, x0, rfl, hT, ⟨o, ho, rfl⟩, hx⟩ := y
    obtain ⟨v, h1, h2⟩ := r.get e0
    have := hx vs (same_seqT s2 (same_seqT s1 h))
    rw [h1] at this
    cases this
    exact .inr ⟨T, _, _, o, ho, hT, rfl, rfl, rfl, .cons (.int _) (.cons (h2.mono s1) .nil)⟩
def zipL (xs ys : List PyData) : List PyData := xs.zipWith (fun x y => PyData.tuple [x, y]) ys
theorem zipL_get {xs ys : List PyData} {i : Nat} {d : PyData} (e : (zipL xs ys)[i]? = some d) : ∃ x y, xs[i]? = some x ∧ ys[i]? = some y ∧ d = .tuple [x, y] := by
  unfold zipL at e
  rw [List.getElem?_zipWith] at e
  cases h1 : xs[i]? with
  | none => rw [h1] at e; cases e
  | some x =>
    cases h2 : ys[i]? with
    | none => rw [h1, h2] at e; cases e
    | some y => rw [h1, h2] at e; cases e; exact ⟨x, y, rfl, rfl, rfl⟩
theorem zipL_length (xs ys : List PyData) : (zipL xs ys).length = min xs.length ys.length := by simp [zipL]
def strL (z : Str) : List PyData := z.cps.toList.map fun c => PyData.str ⟨#[c]⟩
theorem itd_str (z : Str) : ItD K H0 (Its z) (strL z) where
  go := fun i H0' H' s1 s2 hi => by
    rw [strL, List.length_map, Array.length_toList] at hi
    exact hi
  stop := fun H0' H' s1 s2 => by
    rw [strL, List.length_map, Array.length_toList]
    exact Nat.le_refl _
  yld := fun i d H0' H' x H'' s1 s2 e y => by
    obtain ⟨rfl, c, hc, rfl⟩ := y
    rw [strL, List.getElem?_map, Array.getElem?_toList, hc] at e
    cases e
    exact .inl ⟨rfl, .str _⟩
end

/-! ### the rules of what is walked -/
theorem turn_enumT {P : Program} {w : World} {K : PySem.W.Frag} {elts : List Expr} {kk : Nat} {tpos : Pos} (a e it : Addr) :
    Turn P w K (.Tuple elts kk tpos) (IteT K a) [e, it] e (fun i h => (∃ old, IsEnum h e it ((i : Nat) : Int) old) ∧ h.IsTupleIter it a i ∧ e ≠ it) where
  mem := by simp
  obj := fun i h st b hb => by
    obtain ⟨⟨old, he⟩, ⟨o, ho, hc, hd⟩, _⟩ := st
    have e' : b = e ∨ b = it := by simpa using hb
    rcases e' with z | z
    · rw [z]; exact ⟨_, he, fun v q => nomatch q⟩
    · rw [z]; exact ⟨o, ho, fun v q => by rw [hd] at q; cases q⟩
  keep := fun i h h' st k => let ⟨⟨old, he⟩, hi, hne⟩ := st; ⟨⟨old, k e (by simp) _ he⟩, hi.at fun o q => k it (by simp) o q, hne⟩
  item := by
    intro X hP hw hK hc i pins s σ H E I hf st hg
    subst hP hw hK
    obtain ⟨⟨old, he⟩, hit, hne⟩ := st
    obtain ⟨xs, x, hq, hx⟩ := hg
    obtain ⟨its, rv, p, hz⟩ := I.tuple hq
    obtain ⟨u, hu, ru⟩ := rv.get hx
    have hel : e < s.heap.objs.size := Heap.lt_size he
    have hil : it < s.heap.objs.size := by obtain ⟨_, q, _⟩ := hit; exact Heap.lt_size q
    have pt : s.heap.IsTuple a its.toArray := p
    have hite : a ≠ it := fun z => by
      obtain ⟨o1, h1, c1, _⟩ := pt
      obtain ⟨o2, h2, c2, _⟩ := hit
      rw [z, h2] at h1
      cases h1
      rw [c1] at c2
      exact absurd c2 (by decide)
    have hae : a ≠ e := fun z => by
      obtain ⟨o1, h1, c1, _⟩ := pt
      rw [z] at h1
      have h2 : s.heap.get? e = some _ := he
      rw [h2] at h1
      cases h1
      have c1' : Value.type "enumerate" = Value.type "tuple" := c1
      exact absurd c1' (by decide)
    have Dr := Draws.tuple (prog := X.prog) (w := X.w) (A := X.A.in1) (I.ok.hd hc) it a hite its.toArray
    have hilt : i < its.toArray.size := by
      have := lt_of_get hu
      simpa using this
    refine wpAny_pyNext_enum_itemC Dr he ⟨hit, pt⟩ hilt hne (by simp; exact ⟨hne, fun z => hae z.symm⟩) fun y h' tk hy ho hst' hT hsz hk => ?_
    have hyu : y = u := by
      have e1 : its.toArray[i]? = some u := by simpa using hu
      rw [e1] at hy
      exact (Option.some.inj hy).symm
    subst hyu
    refine ⟨_, rfl, wpAny_letOwnedTupleGo_enum (s := { s with heap := h', toks := tk + 1 }) ho fun h'' he' sb => ?_⟩
    have hT2 : h''.get? s.heap.objs.size = some { cls := .type "tuple", data := .seq #[.int i tk, y] } := (sb.2 _ (Nat.ne_of_gt hel)).trans hT
    have new : ObjOk X.prog X.w (upd H s.heap.objs.size (.frz (tupO [.int i tk, y]) (.tup [.int (i : Nat), x]))) h'' s.heap.objs.size (.frz (tupO [.int i tk, y]) (.tup [.int (i : Nat), x])) :=
      ⟨hT2, by show 2 ≤ sizeLine; decide, [.int i tk, y], .cons ⟨_, rfl⟩ (.cons ru .nil), ⟨_, hT2, rfl, _, rfl⟩⟩
    have I1 : Inv X pins σ (upd H s.heap.objs.size (.frz (tupO [.int i tk, y]) (.tup [.int (i : Nat), x]))) { s with heap := h'', toks := tk + 1 } :=
      I.turnedNew (ch := [e, it]) (fun b ob hb q => (sb.2 b (fun z => hb (by simp [z]))).trans (hk b ob (fun z => hb (by simp [z])) (fun z => hb (by simp [z])) q)) hf (Nat.le_refl _) new
    refine ⟨.ref s.heap.objs.size, _, I1, rfl, ⟨_, x, rfl, I.hok.fresh (Nat.le_refl _), ⟨tupO [.int i tk, y], rfl, rfl⟩, fun ys hy' => by rw [I.tuple_inj hy' hq]; exact hx⟩, ⟨⟨y, ?_⟩, hst'.1.at fun o q => (sb.2 it (Ne.symm hne)).trans q, hne⟩, fun b hb => ?_⟩
    · have e1 : ((i + 1 : Nat) : Int) = (i : Int) + 1 := by omega
      rw [e1]; exact he'
    · have hb' : b < s.heap.objs.size := by
        have e' : b = e ∨ b = it := by simpa using hb
        rcases e' with z | z
        · rw [z]; exact hel
        · rw [z]; exact hil
      rw [upd_ne (Nat.ne_of_lt hb')]
      exact (hf b hb).1
  done := by
    intro X hP hw hK hc i pins s σ H E I hf st hg
    subst hP hw hK
    obtain ⟨⟨old, he⟩, hit, hne⟩ := st
    obtain ⟨xs, hq, hx⟩ := hg
    obtain ⟨its, rv, p, hz⟩ := I.tuple hq
    obtain ⟨f0, f1, f2, f3, f4, f5⟩ := hf it (by simp)
    have hl := rv.length
    have pt : s.heap.IsTuple a its.toArray := p
    have hite : a ≠ it := fun z => by
      obtain ⟨o1, h1, c1, _⟩ := pt
      obtain ⟨o2, h2, c2, _⟩ := hit
      rw [z, h2] at h1
      cases h1
      rw [c1] at c2
      exact absurd c2 (by decide)
    have Dr := Draws.tuple (prog := X.prog) (w := X.w) (A := X.A.in1) (I.ok.hd hc) it a hite its.toArray
    have ei : its.toArray.size = i := by rw [List.size_toArray]; omega
    exact wpAny_pyNext_enum_endD Dr he (by rw [ei]; exact ⟨hit, pt⟩) fun h' hx' => ⟨rfl, I.turned (t' := s.toks) (fun b o hb q => hx' b o hb q) f0 f1 f3 f4 f5⟩
  self := fun A i s Q E st h => let ⟨⟨_, he⟩, _⟩ := st; wpAny_pyIter_enum he h
theorem turn_enumN {P : Program} {w : World} {K : PySem.W.Frag} {elts : List Expr} {kk : Nat} {tpos : Pos} (a e it : Addr) :
    Turn P w K (.Tuple elts kk tpos) (IteN K a) [e, it] e (fun i h => (∃ old, IsEnum h e it ((i : Nat) : Int) old) ∧ h.IsListIter it a i ∧ e ≠ it) where
  mem := by simp
  obj := (turn_enum (P := P) (w := w) (K := K) (elts := elts) (kk := kk) (tpos := tpos) a e it).obj
  keep := (turn_enum (P := P) (w := w) (K := K) (elts := elts) (kk := kk) (tpos := tpos) a e it).keep
  item := by
    intro X hP hw hK hc i pins s σ H E I hf ⟨⟨old, he⟩, hit, hne⟩ ⟨xs, x, hq, hx⟩
    subst hP hw hK
    obtain ⟨its, rv, pl, _⟩ := I.list hq
    obtain ⟨u, hu, ru⟩ := rv.get hx
    have le : e < s.heap.objs.size := Heap.lt_size he
    have li : it < s.heap.objs.size := let ⟨_, q, _⟩ := hit; Heap.lt_size q
    refine wpAny_pyNext_enum_item he hit pl.isList (x := u) (by simpa using hu) hne fun h' ho hit' hT _ hk => ?_
    refine ⟨_, rfl, wpAny_letOwnedTupleGo_enum (s := { s with heap := h', toks := s.toks + 1 }) ho fun h2 he2 sb => ?_⟩
    have at2 : h2.get? s.heap.objs.size = some (tupO [.int i s.toks, u]) := (sb.2 _ (Nat.ne_of_gt le)).trans hT
    have here : ObjOk X.prog X.w (upd H s.heap.objs.size (.frz (tupO [.int i s.toks, u]) (.tup [.int (i : Nat), x]))) h2 s.heap.objs.size (.frz (tupO [.int i s.toks, u]) (.tup [.int (i : Nat), x])) :=
      ⟨at2, by show 2 ≤ sizeLine; decide, [.int i s.toks, u], .cons ⟨_, rfl⟩ (.cons ru .nil), ⟨_, at2, rfl, _, rfl⟩⟩
    have far : ∀ b ob, b ∉ [e, it] → s.heap.get? b = some ob → h2.get? b = some ob := fun b ob hb q => by
      have n1 : b ≠ e := fun z => hb (by simp [z])
      have n2 : b ≠ it := fun z => hb (by simp [z])
      exact (sb.2 b n1).trans (hk b ob n1 n2 q)
    have J : Inv X pins σ (upd H s.heap.objs.size (.frz (tupO [.int i s.toks, u]) (.tup [.int (i : Nat), x]))) { s with heap := h2, toks := s.toks + 1 } := I.turnedNew (ch := [e, it]) far hf (Nat.le_refl _) here
    refine ⟨.ref s.heap.objs.size, _, J, rfl, ⟨_, x, rfl, I.hok.fresh (Nat.le_refl _), ⟨_, rfl, rfl⟩, fun ys hy => by rw [I.list_inj hy hq]; exact hx⟩, ⟨⟨u, by rw [show ((i + 1 : Nat) : Int) = (i : Int) + 1 by omega]; exact he2⟩, hit'.at fun o q => (sb.2 it (Ne.symm hne)).trans q, hne⟩, fun b hb => ?_⟩
    have lb : b < s.heap.objs.size := by
      rcases (show b = e ∨ b = it by simpa using hb) with z | z
      · rw [z]; exact le
      · rw [z]; exact li
    rw [upd_ne (Nat.ne_of_lt lb)]
    exact (hf b hb).1
  done := (turn_enum (P := P) (w := w) (K := K) (elts := elts) (kk := kk) (tpos := tpos) a e it).done
  self := (turn_enum (P := P) (w := w) (K := K) (elts := elts) (kk := kk) (tpos := tpos) a e it).self

section
variable {prog : Program} {w : World} {A : Around} {E : Value → Shared → Prop} {s : Shared}
theorem meets_enumerate_newT (l : Addr) (items : Array Value) (n : Nat) (dct : Option Addr) (sl : Array (Option Value)) :
    Meets (Builtin.«enumerate.__new__» ⟨[.type "enumerate", .ref l], []⟩) (fun _ R s => s.heap.get? l = some { cls := .type "tuple", dict := dct, data := .seq items n, slots := sl } ∧
      R (.ok (.ret (.ref (s.heap.push { cls := .type "tuple_iterator", data := .fields #[.ref l, .int 0 0] }).objs.size)))
        { s with heap := (s.heap.push { cls := .type "tuple_iterator", data := .fields #[.ref l, .int 0 0] }).push { cls := .type "enumerate", data := .fields #[.none, .bool false, .ref s.heap.objs.size, rawInt 0, .none, .none] } }) :=
  .of_wp fun prog w A R s h => by
    obtain ⟨hp, g, d, tk, os⟩ := s; obtain ⟨hl, h⟩ := h
    have hsub := sub_enumerate
    have hL : Heap.IsTuple (Shared.heap ⟨hp, g, d, tk, os⟩) l items := ⟨_, hl, rfl, n, rfl⟩
    wp_walk using wpAny_loadPart' hl
    refine wpAny_stack_any fun st => wpAny_pure ?_
    split
    · rename_i c _ _ _ _ _
      cases (c == Value.type "enumerate")
      · wp_walk using wpAny_loadPart' hl, wpAny_pyIter_tuple hL
        exact ⟨_, rfl, h⟩
      · wp_walk using wpAny_loadPart' hl, wpAny_pyIter_tuple hL
        exact ⟨_, rfl, h⟩
    · wp_walk using wpAny_loadPart' hl, wpAny_pyIter_tuple hL
      exact ⟨_, rfl, h⟩
theorem call_enumerate_tuple {l : Addr} {items : Array Value} {Q : Value → Shared → Prop} (hL : s.heap.IsTuple l items)
    (h : ∀ h', IsEnum h' (s.heap.objs.size + 1) s.heap.objs.size 0 .none → h'.IsTupleIter s.heap.objs.size l 0 → h'.objs.size = s.heap.objs.size + 2 →
      (∀ b o, s.heap.get? b = some o → h'.get? b = some o) → Q (.ref (s.heap.objs.size + 1)) { s with heap := h' }) :
    wpAny (model prog w) A (call (.type "enumerate") [.ref l]) Q E s := by
  obtain ⟨⟨c, dct, dt, sl⟩, hl, hc, n, hd⟩ := hL
  replace hc : c = .type "tuple" := hc
  replace hd : dt = .seq items n := hd
  subst hc hd
  refine callType_new F.called_enumerate (by decide) (F.typeCall_enumerate_1 _) (F.newCall_enumerate_1 _) (fun obj => F.args_object_init_2 obj _) F.entry_enumerate_new
    (meets_enumerate_newT l items n dct sl) ⟨hl, ?_⟩
  have hz : (s.heap.push { cls := .type "tuple_iterator", data := .fields #[.ref l, .int 0 0] }).objs.size = s.heap.objs.size + 1 := Heap.size_push ..
  show _ ∧ _
  rw [hz]
  have he : IsEnum ((s.heap.push { cls := .type "tuple_iterator", data := .fields #[.ref l, .int 0 0] }).push
      { cls := .type "enumerate", data := .fields #[.none, .bool false, .ref s.heap.objs.size, rawInt 0, .none, .none] }) (s.heap.objs.size + 1) s.heap.objs.size 0 .none := by
    have := Heap.get?_push_size (s.heap.push { cls := .type "tuple_iterator", data := .fields #[.ref l, .int 0 0] })
      (o := { cls := .type "enumerate", data := .fields #[.none, .bool false, .ref s.heap.objs.size, rawInt 0, .none, .none] }) rfl
    rw [hz] at this; exact this
  refine ⟨⟨_, he, rfl⟩, h _ he ⟨_, Heap.get?_push_of_some _ (Heap.get?_push_size _ rfl), rfl, rfl⟩ (by rw [Heap.size_push, hz]) fun b o x => Heap.get?_push_of_some _ (Heap.get?_push_of_some _ x)⟩
end
section
variable {X : Cx} {C : Ctx} {tg : Expr}
/-- any sequence, by its value -/
def iAny (K : PySem.W.Frag) (tl : TE) : TI := fun σ H R => tl σ H fun x H1 => (∃ a, x = .ref a ∧ (∃ xs, SqL K H1 a xs) ∧ R (Itl K a) H1) ∨ (∃ a, x = .ref a ∧ (∃ xs, SqT K H1 a xs) ∧ R (Itt K a) H1) ∨ (∃ z, x = .str z ∧ R (Its z) H1)
theorem pi_any {l : Expr} {tl : TE} (hl : PE X l tl) : PI X tg l (iAny X.K tl) := by
  refine ⟨fun pins s σ H R I h => ?_⟩
  refine thn (hl.run pins s σ H _ I h) fun v s1 ⟨x, H1, I1, r1, q1⟩ => ?_
  rcases q1 with ⟨a, e, ⟨xs, hq⟩, q⟩ | ⟨a, e, ⟨xs, hq⟩, q⟩ | ⟨z, e, q⟩
  · subst e
    cases r1
    obtain ⟨its, rv, p, hz⟩ := I1.list hq
    refine wpAny_pyIter_list p.isList ?_
    refine ⟨s1.heap.objs.size, [s1.heap.objs.size], _, _, H1, rfl, I1.kept (t' := s1.toks) fun b o e => Heap.get?_push_of_some _ e, turn_list a _, ⟨_, Heap.get?_push_size _ rfl, rfl, rfl⟩, fun b hb => ?_, q⟩
    have e : b = s1.heap.objs.size := by simpa using hb
    subst e
    exact I1.fpOk (Nat.le_refl _) (I1.hok.fresh (Nat.le_refl _))
  · subst e
    cases r1
    obtain ⟨its, rv, p, hz⟩ := I1.tuple hq
    refine wpAny_pyIter_tuple (show s1.heap.IsTuple a its.toArray from p) ?_
    refine ⟨s1.heap.objs.size, [s1.heap.objs.size], _, _, H1, rfl, I1.kept (t' := s1.toks) fun b o e => Heap.get?_push_of_some _ e, turn_tuple a _, ⟨_, Heap.get?_push_size _ rfl, rfl, rfl⟩, fun b hb => ?_, q⟩
    have e : b = s1.heap.objs.size := by simpa using hb
    subst e
    exact I1.fpOk (Nat.le_refl _) (I1.hok.fresh (Nat.le_refl _))
  · subst e
    obtain ⟨t, rfl⟩ := r1
    cases ha : z.cps.all (· < 128)
    · exact wpAny_pyIter_wide ha (pi_one (tk := s1.toks) I1 _ (turn_str _ z t "str_iterator" (.inr rfl)) ⟨_, Heap.get?_push_size _ rfl, rfl, rfl⟩ q)
    · exact wpAny_pyIter_ascii ha (pi_one (tk := s1.toks) I1 _ (turn_str _ z t "str_ascii_iterator" (.inl rfl)) ⟨_, Heap.get?_push_size _ rfl, rfl, rfl⟩ q)
def seqOf (d : PyData) : M (List PyData) := fun ρ => match d with
  | .list xs => .ok xs ρ
  | .tuple xs => .ok xs ρ
  | .str z => .ok (strL z) ρ
  | _ => .stuck
def iSeq (d : M Val) : M (List PyData) := mbind d fun x => mbind (shr x) seqOf
theorem di_any {e : Expr} {d : M Val} (hK : C.K = X.K) (h : DE X C e d) : DI X C tg e (iSeq d) := ⟨PI.imp (pi_any h.pe) fun σ H R ⟨B, H0, ρ, hB, W, q⟩ => tD_run hB W q fun H1 H' ρ1 x v W1 S1 r1 q1 => shr_run W1 r1 q1 fun H2 ρ2 a W2 S2 r2 q2 => by
  cases a with
  | list xs =>
    cases r2 with
    | lst h1 h2 => exact .inl ⟨_, rfl, ⟨_, hK ▸ W2.s0.seq h1⟩, hK ▸ q2 H2 H' W2 (Same.refl _) _ (itd_list h1 h2)⟩
  | tuple xs =>
    cases r2 with
    | tup h1 h2 => exact .inr (.inl ⟨_, rfl, ⟨_, (same_sqn W2.s0 h1).sqt⟩, hK ▸ q2 H2 H' W2 (Same.refl _) _ (itd_tup h1.sqt h2)⟩)
  | str z =>
    cases r2
    exact .inr (.inr ⟨z, rfl, q2 H2 H' W2 (Same.refl _) _ (itd_str z)⟩)
  | none => exact q2.elim
  | bool b => exact q2.elim
  | int i => exact q2.elim
  | dict kvs => exact q2.elim⟩
def i62 (i : Int) : Bool := decide (-(2 ^ 62) ≤ i) && decide (i < 2 ^ 62)
theorem i62_of {i : Int} (h : i62 i = true) : -(2 ^ 62) ≤ i ∧ i < 2 ^ 62 := by
  unfold i62 at h
  simpa only [Bool.and_eq_true, decide_eq_true_eq] using h
def rng1Of (as : List PyData) : M (List PyData) := fun ρ => match as with
  | [.int j] => if i62 j = true then .ok (rngL 0 1 j.toNat) ρ else .stuck
  | _ => .stuck
def rng2Of (as : List PyData) : M (List PyData) := fun ρ => match as with
  | [.int i, .int j] => if (i62 i && i62 j) = true then .ok (rngL i 1 (j - i).toNat) ρ else .stuck
  | _ => .stuck
def iRng1 (d : M Val) : M (List PyData) := mbind (evS [d]) rng1Of
def iRng2 (d e : M Val) : M (List PyData) := mbind (evS [d, e]) rng2Of
theorem di_range1 {e : Expr} {d : M Val} {p pos : Pos} (hg : Gl X "range") (hm : X.mg "range" = none) (h : DE X C e d) (hs : starEach [e] X.env = [(false, eval e X.env)]) :
    DI X C tg (.Call (.Name "range" p) [e] [] pos) (DL.iRng1 d) := ⟨PI.imp (pi_range1 hg hm (pas_cons h pas_nil (by rw [hs]; rfl)) hs) fun σ H R ⟨B, H0, ρ, hB, W, q⟩ => ⟨B, H0, ρ, hB, W, stG_mono (stG_bind q) fun H1 H' ρ1 as W1 S1 q1 vs rs => by
    cases rs with
    | nil => exact q1.elim
    | cons r1 rs =>
      cases rs with
      | cons r2 rs => cases r1 <;> exact q1.elim
      | nil =>
        cases r1 <;> try exact q1.elim
        rename_i j
        have q2 : stG C B H1 σ (fun H0' H' ρ' items => ∀ J, ItD C.K H0' J items → R J H') (if i62 j = true then .ok (rngL 0 1 j.toNat) ρ1 else .stuck) := q1
        split at q2
        · rename_i c
          obtain ⟨c1, c2⟩ := i62_of c
          exact ⟨j, rfl, c1, c2, q2 H1 H' W1 (Same.refl _) _ (itd_rng 0 _)⟩
        · exact q2.elim⟩⟩
theorem di_range2 {a e : Expr} {d d2 : M Val} {p pos : Pos} (hg : Gl X "range") (hm : X.mg "range" = none) (h : DE X C a d) (h2 : DE X C e d2) (hs : starEach [a, e] X.env = [(false, eval a X.env), (false, eval e X.env)]) (hs2 : starEach [e] X.env = [(false, eval e X.env)]) :
    DI X C tg (.Call (.Name "range" p) [a, e] [] pos) (DL.iRng2 d d2) := ⟨PI.imp (pi_range2 hg hm (pas_cons h (pas_cons h2 pas_nil (by rw [hs2]; rfl)) (by rw [hs, hs2])) hs hs2) fun σ H R ⟨B, H0, ρ, hB, W, q⟩ => ⟨B, H0, ρ, hB, W, stG_mono (stG_bind q) fun H1 H' ρ1 as W1 S1 q1 vs rs => by
    cases rs with
    | nil => exact q1.elim
    | cons r1 rs =>
      cases rs with
      | nil => cases r1 <;> exact q1.elim
      | cons r2 rs =>
        cases rs with
        | cons r3 rs => cases r1 <;> cases r2 <;> exact q1.elim
        | nil =>
          cases r1 <;> try exact q1.elim
          rename_i i
          cases r2 <;> try exact q1.elim
          rename_i j
          have q2 : stG C B H1 σ (fun H0' H' ρ' items => ∀ J, ItD C.K H0' J items → R J H') (if (i62 i && i62 j) = true then .ok (rngL i 1 (j - i).toNat) ρ1 else .stuck) := q1
          split at q2
          · rename_i c
            simp only [Bool.and_eq_true] at c
            obtain ⟨c1, c2⟩ := i62_of c.1
            obtain ⟨c3, c4⟩ := i62_of c.2
            exact ⟨i, j, rfl, ⟨c1, c2, c3, c4⟩, q2 H1 H' W1 (Same.refl _) _ (itd_rng i _)⟩
          · exact q2.elim⟩⟩
/-- reversed(list | tuple) -/
def revOf (d : PyData) : M (List PyData) := fun ρ => match d with
  | .list xs => .ok xs.reverse ρ
  | .tuple xs => .ok xs.reverse ρ
  | _ => .stuck
def iRevD (d : M Val) : M (List PyData) := mbind d fun x => mbind (shr x) revOf
theorem di_rev {e : Expr} {d : M Val} {p pos : Pos} (hK : C.K = X.K) (hg : Gl X "reversed") (hm : X.mg "reversed" = none) (h : DE X C e d) (hs : starEach [e] X.env = (false, eval e X.env) :: starEach [] X.env) : DI X C tg (.Call (.Name "reversed" p) [e] [] pos) (iRevD d) :=
  ⟨PI.imp (RT.pi_revA hg hm h.pe hs) fun σ H R ⟨B, H0, ρ, hB, W, q⟩ => tD_run hB W q fun H1 H' ρ1 x v W1 S1 r1 q1 => shr_run W1 r1 q1 fun H2 ρ2 a W2 S2 r2 q2 => by
  cases a with
  | list xs =>
    cases r2 with
    | lst h1 h2 => exact ⟨_, _, rfl, .inl ⟨hK ▸ W2.s0.seq h1, hK ▸ q2 H2 H' W2 (Same.refl _) _ (itd_rev h1 h2)⟩⟩
  | tuple xs =>
    cases r2 with
    | tup h1 h2 => exact ⟨_, _, rfl, .inr ⟨hK ▸ same_seqT W2.s0 h1.sqt, hK ▸ q2 H2 H' W2 (Same.refl _) _ (itd_revT h1.sqt h2)⟩⟩
  | str z => exact q2.elim
  | none => exact q2.elim
  | bool b => exact q2.elim
  | int i => exact q2.elim
  | dict kvs => exact q2.elim⟩
/-- enumerate(list | tuple) -/
def iEnumA (K : PySem.W.Frag) (ta : TA) : TI := fun σ H R => ta σ H fun vs H1 => ∃ a xs, vs = [.ref a] ∧ ((SqL K H1 a xs ∧ R (IteN K a) H1) ∨ (SqT K H1 a xs ∧ R (IteT K a) H1))
theorem pi_enumA {e : Expr} {ta : TA} {p pos tpos : Pos} {elts : List Expr} {kk : Nat} (hg : Gl X "enumerate") (hm : X.mg "enumerate" = none) (ha : PA X [e] ta) (hs : starEach [e] X.env = [(false, eval e X.env)]) :
    PI X (.Tuple elts kk tpos) (.Call (.Name "enumerate" p) [e] [] pos) (iEnumA X.K ta) := by
  refine ⟨fun pins s σ H R I h => ?_⟩
  refine Call_ (ld_blt I hg hm boot_enumerate (PyProof.Rows.callWith_type1 (thn (ha.run pos pins s σ H _ I h) fun us s1 ⟨vs, H1, I1, r1, q1⟩ => ?_) hs rfl))
  obtain ⟨a, xs, ex, q⟩ := q1
  subst ex
  cases r1 with
  | cons r rr =>
    cases rr
    cases r
    have fresh : ∀ b, b ∈ [s1.heap.objs.size + 1, s1.heap.objs.size] → FpOk X pins H1 b := fun b hb => by
      have e' : b = s1.heap.objs.size + 1 ∨ b = s1.heap.objs.size := by simpa using hb
      have hle : s1.heap.objs.size ≤ b := by
        rcases e' with z | z
        · rw [z]; exact Nat.le_add_right _ _
        · rw [z]; exact Nat.le_refl _
      exact I1.fpOk hle (I1.hok.fresh hle)
    rcases q with ⟨hq, q⟩ | ⟨hq, q⟩
    · obtain ⟨its, rv, p', hz⟩ := I1.list hq
      refine call_enumerate_list p'.isList fun h' he hit hsz hk => wpAny_pyIter_enum he ?_
      have I2 : Inv X pins σ H1 { s1 with heap := h' } := I1.kept (t' := s1.toks) hk
      exact ⟨s1.heap.objs.size + 1, [s1.heap.objs.size + 1, s1.heap.objs.size], _, _, H1, rfl, I2, turn_enumN a (s1.heap.objs.size + 1) s1.heap.objs.size, ⟨⟨.none, he⟩, hit, Nat.succ_ne_self _⟩, fresh, q⟩
    · obtain ⟨its, rv, p', hz⟩ := I1.tuple hq
      refine call_enumerate_tuple (show s1.heap.IsTuple a its.toArray from p') fun h' he hit hsz hk => wpAny_pyIter_enum he ?_
      have I2 : Inv X pins σ H1 { s1 with heap := h' } := I1.kept (t' := s1.toks) hk
      exact ⟨s1.heap.objs.size + 1, [s1.heap.objs.size + 1, s1.heap.objs.size], _, _, H1, rfl, I2, turn_enumT a (s1.heap.objs.size + 1) s1.heap.objs.size, ⟨⟨.none, he⟩, hit, Nat.succ_ne_self _⟩, fresh, q⟩
def enum1Of (as : List PyData) : M (List PyData) := fun ρ => match as with
  | [.list xs] => .ok (enumL xs) ρ
  | [.tuple xs] => .ok (enumL xs) ρ
  | _ => .stuck
def iEnumD (d : M Val) : M (List PyData) := mbind (evS [d]) enum1Of
theorem di_enum {e : Expr} {d : M Val} {p pos tpos : Pos} {elts : List Expr} {kk : Nat} (hK : C.K = X.K) (hg : Gl X "enumerate") (hm : X.mg "enumerate" = none) (h : DE X C e d) (hs : starEach [e] X.env = [(false, eval e X.env)]) :
    DI X C (.Tuple elts kk tpos) (.Call (.Name "enumerate" p) [e] [] pos) (iEnumD d) := ⟨PI.imp (pi_enumA hg hm (pas_cons h pas_nil (by rw [hs]; rfl)) hs) fun σ H R ⟨B, H0, ρ, hB, W, q⟩ => ⟨B, H0, ρ, hB, W, stG_mono (stG_bind q) fun H1 H' ρ1 as W1 S1 q1 vs rs => by
    cases rs with
    | nil => exact q1.elim
    | cons r1 rs =>
      cases rs with
      | cons r2 rs => cases r1 <;> exact q1.elim
      | nil =>
        cases r1 <;> try exact q1.elim
        · rename_i h1 h2
          exact ⟨_, _, rfl, .inl ⟨hK ▸ W1.s0.seq h1, hK ▸ q1 H1 H' W1 (Same.refl _) _ (itd_enum h1 h2)⟩⟩
        · rename_i h1 h2
          exact ⟨_, _, rfl, .inr ⟨(same_sqn W1.s0 h1).sqt, hK ▸ q1 H1 H' W1 (Same.refl _) _ (itd_enumT h1.sqt h2)⟩⟩⟩⟩
end

/-! ### for -/
def forL (g : Tg) (b : SD) : List PyData → SD
  | [] => fun ρ => .nx ρ
  | d :: r => fun ρ => match g (.sh d) ρ with
    | none => .stuck
    | some ρ1 => match b ρ1 with
      | .nx ρ2 => forL g b r ρ2
      | .ct ρ2 => forL g b r ρ2
      | .bk ρ2 => .nx ρ2
      | o => o
def sFor (m : M (List PyData)) (g : Tg) (b : SD) : SD := sBind m fun items => forL g b items
section
variable {X : Cx} {C : Ctx}
/-- a yielded value's world -/
theorem yld_world {B H0 H : Hp} {σ : L2.St} {ρ : Rho} {HJ : Hp} {J : It} {items : List PyData} {i : Nat} {d : PyData} {x : V} {H'' : Hp} (W : Wd C B H0 H σ ρ) (hj : ItD C.K HJ J items) (s : Same HJ H0) (e : items[i]? = some d) (y : J.yld i H x H'') :
    ∃ H0'', Same H0 H0'' ∧ Wd C B H0'' H'' σ ρ ∧ Rp C.K H0'' x d := by
  rcases hj.yld i d H0 H x H'' s W.s0 e y with ⟨rfl, r⟩ | ⟨T, vs, ds, o, ho, hT, rfl, rfl, rfl, r⟩
  · exact ⟨H0, Same.refl _, W, r⟩
  · have S := same_upd (o := .frz o (.tup vs)) (W.s0.free hT)
    exact ⟨_, S, W.lay hT, .tup (.of upd_same ho) (r.mono S)⟩
theorem drop_cons {α : Type} {l : List α} {i : Nat} (h : i < l.length) : l.drop i = l[i] :: l.drop (i + 1) := List.drop_eq_getElem_cons h
theorem ds_for {tg iter : Expr} {body : List Stmt} {m : M (List PyData)} {vs : List Nat} {g : Tg} {b : SD} {pos : Pos} (hp : PassesOwn (model X.prog X.w) X.A X.env X.xe) (hc : X.calm = true) (hi : DI X C tg iter m) (hg : DG X C tg vs g) (hb : DSs X C body b) (hs : ∀ x, foldedSetIterable iter X.env x = pure x) :
    DS X C (.For tg iter body [] pos) (sFor m g b) := ⟨PS.imp (ps_for hp hc hi.pi hg.pg hb.ps (hs := hs)) fun D σ H ⟨H0, ρ, W, q⟩ => by
  refine ⟨C.Hb, H0, ρ, Same.refl _, W, stG_mono (stS_bind q) fun HJ H' ρ' items W' S' q' J hj => ?_⟩
  refine ⟨fun i mm σ H => mm = items.length - i ∧ i ≤ items.length ∧ ∃ H0 ρ, Wd C C.Hb H0 H σ ρ ∧ Same HJ H0 ∧ stS C H0 D (forL g b (items.drop i) ρ), ⟨items.length, by simp, Nat.zero_le _, HJ, ρ', W', Same.refl _, q'⟩, fun i mm σ H hW => ?_⟩
  obtain ⟨rfl, hi, H0, ρ, W, S, q⟩ := hW
  by_cases hlt : i < items.length
  · rw [drop_cons hlt] at q
    refine .inr ⟨hj.go i H0 H S W.s0 hlt, fun σ H => ∃ H0 ρ, Wd C C.Hb H0 H σ ρ ∧ Same HJ H0 ∧ stS C H0 D (forL g b (items.drop (i + 1)) ρ), fun σ' H' hN => ⟨items.length - (i + 1), by omega, rfl, hlt, hN⟩, fun x H'' y => ?_⟩
    obtain ⟨H1, S1, W1, r1⟩ := yld_world W hj S (List.getElem?_eq_getElem hlt) y
    unfold forL at q
    cases e : g (.sh items[i]) ρ with
    | none => rw [e] at q; exact q.elim
    | some ρ1 =>
      rw [e] at q
      refine ⟨C.Hb, H1, ρ, .sh items[i], Same.refl _, W1, r1, ρ1, e, fun H2 H3 σ' W2 S2 _ => ⟨H2, ρ1, W2, ?_⟩⟩
      have S3 : Same HJ H2 := (S.trans S1).trans S2
      have q2 := stS_base q (S1.trans S2)
      simp only at q2
      cases e2 : b ρ1 with
      | stuck => rw [e2] at q2; exact q2
      | nx ρ2 => rw [e2] at q2; exact fun H4 H5 σ'' W4 S4 => ⟨H4, ρ2, W4, S3.trans S4, stS_base q2 S4⟩
      | ct ρ2 => rw [e2] at q2; exact fun H4 H5 σ'' W4 S4 => ⟨H4, ρ2, W4, S3.trans S4, stS_base q2 S4⟩
      | bk ρ2 => rw [e2] at q2; exact q2
      | rt r ρ2 => rw [e2] at q2; exact q2
      | exc c ρ2 => rw [e2] at q2; exact q2
  · have e : i = items.length := by omega
    subst e
    rw [List.drop_length] at q
    exact .inl ⟨hj.stop H0 H S W.s0, q H0 H σ W (Same.refl _)⟩⟩
end
end DL
end

section
set_option Elab.async false
set_option linter.all false
set_option maxRecDepth 100000
set_option maxHeartbeats 2000000
namespace DL
open PySem PySem.Spec PyProof.Rows L2

/-! ### names, constants -/
def dVar (i : Nat) : M Val := fun ρ => match ρ[i]? with
  | some (.sh d) => .ok (.sh d) ρ
  | some (.ow _) => .ok (.sl i) ρ
  | some (.bo _) => .ok (.sl i) ρ
  | some (.oo _ _) => .ok (.sl i) ρ
  | some (.ob _ _) => .ok (.sl i) ρ
  | _ => .stuck
def dC (d : PyData) : M Val := mpure (.sh d)
section
variable {X : Cx} {C : Ctx}
theorem de_var {i : Nat} {x : Str} {pos : Pos} (hN : X.N[i]? = some x) (hv : Vis X.env.scope x) (hd : (x == ("__debug__" : Str)) = false) (hcd : (x == ("__classdict__" : Str)) = false) : DE X C (.Name x pos) (dVar i) :=
  .of (PE.imp (pe_var hN hv hd hcd) fun σ H Q ⟨B, H0, ρ, hB, W, q⟩ => by
    unfold dVar at q
    split at q
    · rename_i d e
      obtain ⟨v, h1, h2⟩ := W.slot i _ e
      exact ⟨v, h1, q H0 H W (Same.refl _) v h2⟩
    · rename_i xs e
      obtain ⟨a, vs, h1, _⟩ := W.slot i _ e
      exact ⟨_, h1, q H0 H W (Same.refl _) _ h1⟩
    · rename_i xs e
      obtain ⟨a, vs, h1, _⟩ := W.slot i _ e
      exact ⟨_, h1, q H0 H W (Same.refl _) _ h1⟩
    · rename_i e
      obtain ⟨a, vs, h1, _⟩ := W.slot i _ e
      exact ⟨_, h1, q H0 H W (Same.refl _) _ h1⟩
    · rename_i e
      obtain ⟨a, vs, h1, _⟩ := W.slot i _ e
      exact ⟨_, h1, q H0 H W (Same.refl _) _ h1⟩
    · exact q.elim) (fun _ => rfl)
theorem de_c {e : Expr} {v : V} {d : PyData} (h : PE X e (tC v)) (hr : ∀ (K : PySem.W.Frag) H, Rp K H v d) (he : ∀ whole, isTrue e X.env whole = (do let v ← whole; standAt e.pos; holding [v] (truthy v))) : DE X C e (dC d) :=
  .of (PE.imp h fun σ H Q ⟨B, H0, ρ, hB, W, q⟩ => q H0 H W (Same.refl _) v (hr C.K H0)) he
theorem de_int {i : Int} {j pos} : DE X C (.Constant (.int i) j pos) (dC (.int i)) := de_c pe_int (fun _ _ => .int i) fun _ => rfl
theorem de_bl {b : Bool} {j pos} : DE X C (.Constant (.bool b) j pos) (dC (.bool b)) := de_c pe_bl (fun _ _ => .bl b) fun _ => rfl
theorem de_non {j pos} : DE X C (.Constant .none j pos) (dC .none) := de_c pe_non (fun _ _ => .non) fun _ => rfl
theorem de_str {x : Str} {j pos} : DE X C (.Constant (.str x) j pos) (dC (.str x)) := de_c pe_str (fun _ _ => .str x) fun _ => rfl
/-- a constant of the module -/
theorem de_glob {x : Str} {v : V} {u : Value} {d : PyData} {pos : Pos} (hg : Gl X x) (hm : X.mg x = some u) (r : RelV v u) (hr : ∀ H, Rp C.K H v d) (hd : (x == ("__debug__" : Str)) = false) : DE X C (.Name x pos) (dC d) :=
  .of (PE.imp (pe_glob hg hm r hd) fun σ H Q ⟨B, H0, ρ, hB, W, q⟩ => q H0 H W (Same.refl _) v (hr H0)) fun _ => rfl

/-! ### operators -/
theorem de_op2 {a b : Expr} {op : Operator} {r : R2} {f : PyData → PyData → Option Res} {da db : M Val} {pos : Pos} (ho : OpR X (binaryOp op) r) (hr : OkR2 C.K r f) (ha : DE X C a da) (hb : DE X C b db) : DE X C (.BinOp a op b pos) (dOp2 f da db) :=
  .of (PE.imp (pe_op ho ha.pe hb.pe) fun σ H Q q => dOp2_ok hr σ H Q q) fun _ => rfl
theorem de_un {a : Expr} {op : UnaryOp} {r : V → Hp → VK → Prop} {f : PyData → Option Res} {da : M Val} {pos : Pos} (ho : UnR X (unaryOp op) r) (hr : OkR1 C.K r f) (ha : DE X C a da) (he : ∀ whole, isTrue (.UnaryOp op a pos) X.env whole = (do let v ← whole; standAt (Expr.UnaryOp op a pos).pos; holding [v] (truthy v))) : DE X C (.UnaryOp op a pos) (dOp1 f da) :=
  .of (PE.imp (pe_un ho ha.pe) fun σ H Q q => dOp1_ok hr σ H Q q) he
theorem de_cmp {a b : Expr} {op : CmpOp} {r : R2} {f : PyData → PyData → Option Res} {da db : M Val} {pos : Pos} (ho : OpR X (compareOp op) r) (hr : OkR2 C.K r f) (ha : DE X C a da) (hb : DE X C b db) (hm : behindInMarks op b = false) : DE X C (.Compare a [op] [b] pos) (dOp2 f da db) :=
  ⟨PE.imp (pe_cmpR ho ha.pe hb.pe hm) fun σ H Q q => dOp2_ok hr σ H Q q, PT.imp (pt_cmpR ho ha.pe hb.pe hm) fun σ H Q q => dOp2_ok hr σ H _ (tst_tD q)⟩
theorem de_ix {a b : Expr} {da db : M Val} {pos : Pos} (hK : C.K = X.K) (ha : DE X C a da) (hb : DE X C b db) (hs : PlainIx b) : DE X C (.Subscript a b pos) (dOp2 f_ix da db) :=
  .of (PE.imp (pe_ix ix_seq ha.pe hb.pe hs) fun σ H Q q => dOp2_ok (hK ▸ ok_ix) σ H Q q) fun _ => rfl
/-- a op b op' c -/
def dChain (f f' : PyData → PyData → Option Res) (da db dc : M Val) : M Val := mbind da fun x => mbind db fun y ρ => match look ρ x, look ρ y with
  | some a, some b => match f a b with
    | some (.val (.bool true)) => mbind dc (fun z ρ => match look ρ (kp y), look ρ z with
      | some b, some c => optOk (f' b c) ρ
      | _, _ => .stuck) ρ
    | some (.val (.bool false)) => .ok (.sh (.bool false)) ρ
    | _ => .stuck
  | _, _ => .stuck
theorem dChain_ok {r r' : R2} {f f' : PyData → PyData → Option Res} {da db dc : M Val} (hr : OkR2 C.K r f) (hr' : OkR2 C.K r' f') (σ : L2.St) (H : Hp) (Q : VK) (h : tD C (dChain f f' da db dc) σ H Q) : tChain r r' (tD C da) (tD C db) (tD C dc) σ H Q := by
  obtain ⟨B, H0, ρ, hB, W, h⟩ := h
  refine tD_run hB W h fun H1 H' ρ1 x v W1 S1 r1 q => ?_
  obtain ⟨H1', S1', W1', r1'⟩ := keep W1 r1
  refine tD_run hB W1' (stG_base q S1') fun H2 H'' ρ2 y u W2 S2 r2 q => ?_
  have r1'' := kept (H' := H'') (ρ' := ρ2) r1' S2
  obtain ⟨H3, S3, W3, r2'⟩ := keep W2 r2
  cases e : look ρ2 x with
  | none => rw [e] at q; exact q.elim
  | some a =>
    rw [e] at q
    cases e2 : look ρ2 y with
    | none => rw [e2] at q; exact q.elim
    | some b =>
      rw [e2] at q
      simp only at q
      have rx := look_rd W2 r1'' ((look_kp ρ2 x).trans e)
      have ry := look_rd W2 r2 e2
      cases e3 : f a b with
      | none => rw [e3] at q; exact q.elim
      | some res =>
        rw [e3] at q
        cases res with
        | nl xs => exact q.elim
        | nt xs => exact q.elim
        | val d =>
          cases d with
          | bool k =>
            refine hr H2 H'' v u a b _ _ W2.s0 rx ry e3 fun w hw => ?_
            cases hw
            refine ⟨k, rfl, ?_⟩
            cases k with
            | false => exact iteF (q H2 H'' W2 (Same.refl _) _ (.bl false))
            | true =>
              refine iteT (tD_run hB W3 (stG_base q S3) fun H4 H5 ρ3 z w W4 S4 r4 q4 => ?_)
              have r2'' := kept (H' := H5) (ρ' := ρ3) r2' S4
              cases e5 : look ρ3 (kp y) with
              | none => rw [e5] at q4; exact q4.elim
              | some b' =>
                rw [e5] at q4
                cases e6 : look ρ3 z with
                | none => rw [e6] at q4; exact q4.elim
                | some c =>
                  rw [e6] at q4
                  obtain ⟨res, e7, q7⟩ := optOk_some q4
                  exact hr' H4 H5 u w b' c res Q W4.s0 (look_rd W4 r2'' e5) (look_rd W4 r4 e6) e7 (res_ok W4 q7)
          | none => exact q.elim
          | int i => exact q.elim
          | str s => exact q.elim
          | list xs => exact q.elim
          | tuple xs => exact q.elim
          | dict xs => exact q.elim
theorem de_chain {a b c : Expr} {op op' : CmpOp} {r r' : R2} {f f' : PyData → PyData → Option Res} {da db dc : M Val} {pos : Pos} (ho : OpR X (compareOp op) r) (ho' : OpR X (compareOp op') r') (hr : OkR2 C.K r f) (hr' : OkR2 C.K r' f') (ha : DE X C a da) (hb : DE X C b db) (hc : DE X C c dc)
    (hm : lastMarks [op, op'] [b, c] = false) : DE X C (.Compare a [op, op'] [b, c] pos) (dChain f f' da db dc) :=
  ⟨PE.imp (pe_chain ho ho' ha.pe hb.pe hc.pe hm) fun σ H Q q => dChain_ok hr hr' σ H Q q, PT.imp (pt_chain ho ho' ha.pe hb.pe hc.pe hm) fun σ H Q q => dChain_ok hr hr' σ H _ (tst_tD q)⟩

/-! ### and, or, not, if-expressions -/
def dAnd (da db : M Val) : M Val := mbind (tst da) fun b => match b with
  | true => db
  | false => mpure (.sh (.bool false))
def dOr (da db : M Val) : M Val := mbind (tst da) fun b => match b with
  | true => mpure (.sh (.bool true))
  | false => db
def dNot (da : M Val) : M Val := mbind (tst da) fun b => mpure (.sh (.bool !b))
def dIf (dc da db : M Val) : M Val := mbind (tst dc) fun b => match b with
  | true => da
  | false => db
theorem mbind_assoc {α β γ : Type} (m : M α) (k : α → M β) (l : β → M γ) : mbind (mbind m k) l = mbind m fun a => mbind (k a) l := by
  funext ρ
  unfold mbind
  cases m ρ <;> rfl
theorem tst_branch {m : M Bool} {a b : M Val} : tst (mbind m fun k => match k with | true => a | false => b) = mbind m fun k => match k with | true => tst a | false => tst b := by
  unfold tst
  rw [mbind_assoc]
  congr 1
  funext k
  cases k <;> rfl
theorem tst_pure (b : Bool) : tst (mpure (.sh (.bool b))) = mpure b := rfl
theorem tTst_run {B H0 H : Hp} {σ : L2.St} {ρ : Rho} {α : Type} {P : Hp → Hp → Rho → α → Prop} {da : M Val} {k : Bool → M α} {Q : VK} (hB : Same C.Hb B) (W : Wd C B H0 H σ ρ) (h : stG C B H0 σ P (mbind (tst da) k ρ))
    (hk : ∀ H0' H' ρ' b, Wd C B H0' H' σ ρ' → Same H0 H0' → stG C B H0' σ P (k b ρ') → Q (.bl b) H') : tD C da σ H Q := by
  unfold tst at h
  rw [mbind_assoc] at h
  refine tD_run hB W h fun H1 H' ρ1 x v W1 S1 r1 q => ?_
  have q := stG_bind q
  cases e : look ρ1 x with
  | none => rw [e] at q; exact q.elim
  | some d =>
    rw [e] at q
    cases d with
    | bool b =>
      have e2 := (look_rd W1 r1 e).bl
      subst e2
      exact hk H1 H' ρ1 b W1 S1 (q H1 H' W1 (Same.refl _))
    | none => exact q.elim
    | int i => exact q.elim
    | str s => exact q.elim
    | list xs => exact q.elim
    | tuple xs => exact q.elim
    | dict xs => exact q.elim
/-- a part of an and / or chain -/
structure DW (X : Cx) (C : Ctx) (e : Expr) (d : M Val) : Prop where
  pe : PE X e (tD C d)
  pw : PW X e (tDT C (tst d))
theorem DW.de {e : Expr} {d : M Val} (h : DW X C e d) : DE X C e d := ⟨h.pe, h.pw.pt⟩
theorem dw_and1 {a : Expr} {d : M Val} {pos : Pos} (h : DE X C a d) : DW X C (.BoolOp .And [a] pos) d := ⟨pe_one h.pe, pw_and1 h.pt⟩
theorem dw_or1 {a : Expr} {d : M Val} {pos : Pos} (h : DE X C a d) : DW X C (.BoolOp .Or [a] pos) d := ⟨pe_one h.pe, pw_or1 h.pt⟩
theorem dw_and {a b : Expr} {rest : List Expr} {da db : M Val} {pos : Pos} (ha : DE X C a da) (hb : DW X C (.BoolOp .And (b :: rest) pos) db) : DW X C (.BoolOp .And (a :: b :: rest) pos) (dAnd da db) := by
  refine ⟨PE.imp (pe_and ha.pe hb.pe) fun σ H Q ⟨B, H0, ρ, hB, W, q⟩ => ?_, PW.imp (pw_and ha.pt hb.pw) fun σ H Q ⟨B, H0, ρ, hB, W, q⟩ => ?_⟩
  · refine tTst_run hB W q fun H1 H' ρ1 b W1 S1 q1 => ⟨b, rfl, ?_⟩
    cases b with
    | true => exact iteT ⟨B, H1, ρ1, hB, W1, q1⟩
    | false => exact iteF (q1 H1 H' W1 (Same.refl _) _ (.bl false))
  · unfold dAnd at q
    rw [tst_branch] at q
    refine tDT_run hB W q fun H1 H' ρ1 b W1 S1 q1 => ?_
    cases b with
    | true => exact iteT ⟨B, H1, ρ1, hB, W1, q1⟩
    | false => exact iteF (q1 H1 H' W1 (Same.refl _))
theorem dw_or {a b : Expr} {rest : List Expr} {da db : M Val} {pos : Pos} (ha : DE X C a da) (hb : DW X C (.BoolOp .Or (b :: rest) pos) db) : DW X C (.BoolOp .Or (a :: b :: rest) pos) (dOr da db) := by
  refine ⟨PE.imp (pe_or ha.pe hb.pe) fun σ H Q ⟨B, H0, ρ, hB, W, q⟩ => ?_, PW.imp (pw_or ha.pt hb.pw) fun σ H Q ⟨B, H0, ρ, hB, W, q⟩ => ?_⟩
  · refine tTst_run hB W q fun H1 H' ρ1 b W1 S1 q1 => ⟨b, rfl, ?_⟩
    cases b with
    | true => exact iteT (q1 H1 H' W1 (Same.refl _) _ (.bl true))
    | false => exact iteF ⟨B, H1, ρ1, hB, W1, q1⟩
  · unfold dOr at q
    rw [tst_branch] at q
    refine tDT_run hB W q fun H1 H' ρ1 b W1 S1 q1 => ?_
    cases b with
    | true => exact iteT (q1 H1 H' W1 (Same.refl _))
    | false => exact iteF ⟨B, H1, ρ1, hB, W1, q1⟩
theorem de_not {a : Expr} {da : M Val} {pos : Pos} (ha : DE X C a da) : DE X C (.UnaryOp .Not a pos) (dNot da) := by
  refine ⟨PE.imp (pe_not ha.pe) fun σ H Q ⟨B, H0, ρ, hB, W, q⟩ => ?_, PT.imp (pt_not ha.pt) fun σ H Q ⟨B, H0, ρ, hB, W, q⟩ => ?_⟩
  · exact tTst_run hB W q fun H1 H' ρ1 b W1 S1 q1 => ⟨b, rfl, q1 H1 H' W1 (Same.refl _) _ (.bl _)⟩
  · have q' : stG C B H0 σ (fun _ H' _ b => Q b H') (mbind (tst da) (fun b => mpure (!b)) ρ) := by
      have e : tst (dNot da) = mbind (tst da) fun b => mpure (!b) := by
        unfold dNot
        show mbind (mbind (tst da) _) _ = _
        rw [mbind_assoc]
        rfl
      rw [e] at q
      exact q
    exact tDT_run hB W q' fun H1 H' ρ1 b W1 S1 q1 => q1 H1 H' W1 (Same.refl _)
theorem de_ifExp {c a b : Expr} {dc da db : M Val} {pos : Pos} (hc : DE X C c dc) (ha : DE X C a da) (hb : DE X C b db) (he : ∀ whole, isTrue (.IfExp c a b pos) X.env whole = (do let v ← whole; standAt (Expr.IfExp c a b pos).pos; holding [v] (truthy v))) : DE X C (.IfExp c a b pos) (dIf dc da db) :=
  .of (PE.imp (pe_ifExp hc.pt ha.pe hb.pe) fun σ H Q ⟨B, H0, ρ, hB, W, q⟩ => tDT_run hB W q fun H1 H' ρ1 k W1 S1 q1 => by
    cases k with
    | true => exact iteT ⟨B, H1, ρ1, hB, W1, q1⟩
    | false => exact iteF ⟨B, H1, ρ1, hB, W1, q1⟩) he

/-! ### displays -/
def dTup (ds : List (M Val)) : M Val := mbind (evS ds) fun as ρ => if as.length ≤ 100000 then .ok (.sh (.tuple as)) ρ else .stuck
def dLst (ds : List (M Val)) : M Val := mbind (evS ds) fun as ρ => if as.length ≤ 100000 then .ok (.fr as) ρ else .stuck
theorem sz5 {n : Nat} (h : n ≤ 100000) : n ≤ sizeLine := Nat.le_trans h (by decide)
theorem de_tup {es : List Expr} {ds : List (M Val)} {k : Nat} {pos : Pos} (h : PA X es (tDAs C (evS ds))) (he : ∀ whole, isTrue (.Tuple es k pos) X.env whole = (do let v ← whole; standAt (Expr.Tuple es k pos).pos; holding [v] (truthy v))) : DE X C (.Tuple es k pos) (dTup ds) :=
  .of (PE.imp (pe_tupN h) fun σ H Q ⟨B, H0, ρ, hB, W, q⟩ => ⟨B, H0, ρ, hB, W, stG_mono (stG_bind q) fun H1 H' ρ1 as W1 S1 q1 vs rs => by
    split at q1
    · rename_i hl
      refine ⟨by rw [rs.length]; exact sz5 hl, fun p o ho hp => ?_⟩
      have S := same_upd (o := .frz o (.tup vs)) (W1.s0.free hp)
      exact q1 _ _ (W1.lay hp) S (.ref p) (.tup (.of upd_same ho) (rs.mono S))
    · exact q1.elim⟩) he
theorem de_lst {es : List Expr} {ds : List (M Val)} {pos : Pos} (h : PA X es (tDAs C (evS ds))) : DE X C (.List es pos) (dLst ds) :=
  .of (PE.imp (pe_lst h) fun σ H Q ⟨B, H0, ρ, hB, W, q⟩ => ⟨B, H0, ρ, hB, W, stG_mono (stG_bind q) fun H1 H' ρ1 as W1 S1 q1 vs rs => by
    split at q1
    · rename_i hl
      refine ⟨by rw [rs.length]; exact sz5 hl, fun p hp => ?_⟩
      exact q1 _ _ (W1.layF hp) (Same.refl _) (.ref p) ⟨p, vs, rfl, upd_same, W1.s0.free hp, W1.sb.free hp, W1.notOwn hp, rs⟩
    · exact q1.elim⟩) fun _ => rfl
end
end DL
end

section
set_option Elab.async false
set_option linter.all false
set_option maxRecDepth 100000
set_option maxHeartbeats 2000000
namespace DL
open PySem PySem.Spec PyProof.Rows L2
theorem fm_congr {α β : Type} {f g : α → Option β} : ∀ {l : List α}, (∀ x ∈ l, f x = g x) → l.filterMap f = l.filterMap g
  | [], _ => rfl
  | a :: l, h => by
    rw [List.filterMap_cons, List.filterMap_cons, h a (List.mem_cons_self ..), fm_congr (l := l) fun x hx => h x (List.mem_cons_of_mem _ hx)]
section
variable {prog : Program} {w : World} {A : Around} {E : Value → Shared → Prop} {s : Shared}
theorem rev_adjust (n : Nat) : Builtin.Slice.sliceAdjust none none (-1) (n : Int) = ((n : Int) - 1, -1) := by
  unfold Builtin.Slice.sliceAdjust
  rfl
theorem rev_places (n : Nat) : Builtin.Slice.slicePlaces ((n : Int) - 1) (-1) (-1) = n := by
  unfold Builtin.Slice.slicePlaces
  have h1 : ¬ ((-1 : Int) > 0) := by omega
  simp only [h1, if_false]
  by_cases hn : n = 0
  · subst hn
    simp
  · have h2 : ((-1 : Int) < (n : Int) - 1) := by omega
    simp only [h2, if_true]
    first
      | omega
      | (simp; done)
      | (simp; omega)
theorem rev_pick (xs : Array Value) : ((List.range xs.size).filterMap fun (m : Nat) => xs[(((xs.size : Int) - 1) + (m : Int) * (-1)).toNat]?).toArray = xs.toList.reverse.toArray := by
  congr 1
  have e : (List.range xs.size).filterMap (fun (m : Nat) => xs[(((xs.size : Int) - 1) + (m : Int) * (-1)).toNat]?) = (List.range xs.size).filterMap (fun m => xs.toList.reverse[m]?) := by
    refine fm_congr fun m hm => ?_
    have hm := List.mem_range.mp hm
    rw [List.getElem?_reverse (by simpa using hm), Array.getElem?_toList]
    congr 1
    rw [Array.length_toList]
    omega
  rw [e]
  have h2 := PySem.W.krv_all xs.toList.reverse.toArray
  simpa using h2
theorem getItem_tuple_rev {t sl : Addr} {items : Array Value} {vl vu vs : Value} {Q : Value → Shared → Prop} (ht : IsTup s.heap t items) (hs : s.heap.IsSliceOf sl vl vu vs) (pl : IsPart vl none) (pu : IsPart vu none) (ps : IsPart vs (some (-1)))
    (h : Q (.ref s.heap.objs.size) { s with heap := s.heap.push { cls := .type "tuple", data := .seq items.toList.reverse.toArray } })
    (hsz : items.size ≤ sizeLine) : wpAny (model prog w) A (getItem (.ref t) (.ref sl)) Q E s := by
  have htake : sizeOk (.seq items.toList.reverse.toArray) := by
    show items.toList.reverse.toArray.size ≤ sizeLine
    simpa using hsz
  obtain ⟨os, hos, hcs, hds⟩ := id hs
  have hTs : s.TypeIs (.ref sl) "slice" := ⟨os, hos, hcs⟩
  unfold getItem
  try with_reducible refine wpAny_holding ?_
  first | refine wpAny_bind (wpAny_pure ?_) | skip
  refine wpAny_bind (wpAny_sequenceKey ht.typeIs (by decide) ?_)
  refine wpAny_bind (wpAny_callSpecial?_slot (name := Str.ofString "__getitem__") ht.typeIs PyProof.Rows.slot_tuple_getitem
    (wpAny_call_entry PyProof.Rows.slot_tuple_getitem ht.typeIs entry_tuple_getitem ?_ (args_tuple_getitem _ _)))
  show wpAny _ _ (Builtin.Tuple.tupleItemsOf (.ref t) >>= _) _ _ s
  refine wpAny_bind (tupleItemsOf_ ht ?_)
  refine wpAny_bind (wpAny_typeOf hTs ?_)
  rw [if_pos (by decide)]
  have app : wpAny (model prog w) A.in1 (Builtin.Slice.sliceApplied (.ref sl) (pure (items.size : Int))) (fun r s' => r = ((items.size : Int) - 1, -1, items.size) ∧ s' = s) (fun _ _ => False) s := by
    unfold Builtin.Slice.sliceApplied Builtin.Slice.sliceFields
    refine wpAny_bind (wpAny_bind (wpAny_field hos hds (x := vl) rfl (wpAny_bind (wpAny_field hos hds (x := vu) rfl (wpAny_bind (wpAny_field hos hds (x := vs) rfl (wpAny_pure ?_)))))))
    refine wpAny_bind (HT.slicePart_ ps ?_)
    show wpAny _ _ (if ((-1 : Int) == 0) = true then _ else _) _ _ s
    rw [if_neg (by decide)]
    refine wpAny_bind (HT.slicePart_ pl (wpAny_bind (HT.slicePart_ pu (wpAny_bind (wpAny_pure ?_)))))
    show wpAny _ _ (match Builtin.Slice.sliceAdjust none none (-1) (items.size : Int) with | (lo, hi) => pure (lo, (-1 : Int), Builtin.Slice.slicePlaces lo hi (-1))) _ _ s
    rw [rev_adjust]
    show wpAny _ _ (pure ((items.size : Int) - 1, (-1 : Int), Builtin.Slice.slicePlaces ((items.size : Int) - 1) (-1) (-1))) _ _ s
    rw [rev_places]
    exact wpAny_pure ⟨rfl, rfl⟩
  refine wpAny_bind (wpAny_mono app (fun r s' hr => ?_) fun _ _ z => z.elim)
  obtain ⟨rfl, rfl⟩ := hr
  have hno : ¬ ((((items.size : Int) - 1) == 0 && (-1 : Int) == 1 && items.size == items.size) = true) := by
    intro q
    rw [Bool.and_eq_true, Bool.and_eq_true] at q
    exact absurd q.1.2 (by decide)
  show wpAny _ _ (if (((items.size : Int) - 1) == 0 && (-1 : Int) == 1 && items.size == items.size) = true then _ else _) _ _ s'
  rw [if_neg hno, rev_pick]
  first
    | exact wpAny_bind (m := Builtin.Tuple.tupleExact _) (wpAny_newObj_type (wpAny_pure ⟨_, rfl, wpAny_pure h⟩) htake)
    | exact wpAny_bind (m := Builtin.Tuple.tupleExact _) (wpAny_newObj_type (wpAny_bind (wpAny_pure (wpAny_pure ⟨_, rfl, wpAny_pure h⟩))) htake)
    | exact wpAny_bind (wpAny_bind (m := Builtin.Tuple.tupleExact _) (wpAny_newObj_type (wpAny_pure (wpAny_pure ⟨_, rfl, wpAny_pure h⟩)) htake))
    | exact wpAny_bind (wpAny_bind (m := Builtin.Tuple.tupleExact _) (wpAny_newObj_type (wpAny_pure ⟨_, rfl, wpAny_pure h⟩) htake))
end

/-! ### slices -/
def revS (z : Str) : Str := Txt.sliceBy z none none (-1, 0)
theorem revS_le (z : Str) : (revS z).length ≤ z.length := Txt.sliceBy_le z none none (-1, 0) (by decide)
def tRevA (K : PySem.W.Frag) (te : TE) : TE := fun σ H Q => te σ H fun x H1 => (∃ a xs, x = .ref a ∧ SqL K H1 a xs ∧ ∀ p, H1 p = none → Q (.ref p) (upd H1 p (.lst xs.reverse))) ∨ (∃ a xs, x = .ref a ∧ SqT K H1 a xs ∧ NewT H1 Q xs.reverse) ∨ (∃ z, x = .str z ∧ z.length ≤ sizeLine ∧ Q (.str (revS z)) H1)
section
variable {X : Cx} {C : Ctx}
theorem pe_revA {e : Expr} {te : TE} {k : Nat} {p1 p2 p3 pos : Pos} (he : PE X e te) : PE X (.Subscript e (.Slice none none (some (.UnaryOp .USub (.Constant (.int 1) k p1) p2)) p3) pos) (tRevA X.K te) := by
  refine ⟨fun pins s σ H Q I h => ?_⟩
  refine Subscript_ (thn (he.run pins s σ H _ I h) fun v s1 ⟨x, H1, I1, r1, q1⟩ => ?_)
  have hst : PO X (some (.UnaryOp .USub (.Constant (.int 1) k p1) p2)) (tPart (tUn (rU fun i => .int (-i)) (tC (.int 1)))) := po_some (pe_un un_neg pe_int)
  refine wpAny_Slice (thn (po_none.run pins s1 σ H1 (fun o H2 => o = none ∧ H2 = H1) I1 ⟨rfl, rfl⟩) fun vl s2 ⟨l, H2, I2, pl, el, e2⟩ => ?_)
  subst el e2
  refine thn (po_none.run pins s2 σ H2 (fun o H3 => o = none ∧ H3 = H2) I2 ⟨rfl, rfl⟩) fun vu s3 ⟨u, H3, I3, pu, eu, e3⟩ => ?_
  subst eu e3
  refine thn (hst.run pins s3 σ H3 (fun o H4 => o = some (-1) ∧ H4 = H3) I3 ⟨1, rfl, -1, rfl, rfl, rfl⟩) fun vs s4 ⟨o, H4, I4, ps, eo, e4⟩ => ?_
  subst eo e4
  have I5 : Inv X pins σ H4 { s4 with heap := s4.heap.push { cls := .type "slice", data := .fields #[vl, vu, vs] } } := I4.kept (t' := s4.toks) fun b ob q => Heap.get?_push_of_some _ q
  rcases q1 with ⟨a, xs, ex, hx, q⟩ | ⟨a, xs, ex, hx, q⟩ | ⟨z, ex, hz, q⟩
  · subst ex
    cases r1
    obtain ⟨its, r, ht, hz⟩ := I5.list hx
    have hlen := r.length
    show wpAny (model X.prog X.w) X.A (subscriptTail e (.Slice none none (some (.UnaryOp .USub (.Constant (.int 1) k p1) p2)) p3) (.ref a) (.ref s4.heap.objs.size)) (EP X pins σ Q) X.xe { s4 with heap := s4.heap.push { cls := .type "slice", data := .fields #[vl, vu, vs] } }
    refine tail_any (ops := [.ref a, .ref s4.heap.objs.size]) ht.isList.typeIs (PySem.slot_list_getitem.lookup) ?_ (by with_unfolding_all rfl)
    refine wpAny_getItem_list_slice ht.isList (Heap.IsSliceOf.new _ vl vu vs) pl pu ps (by decide) ?_ (by rw [List.size_toArray]; omega)
    rw [PySem.W.krv_pick]
    refine ⟨.ref _, _, I5.laid (t' := s4.toks) (o := .lst xs.reverse) (fun b ob q => Heap.get?_push_of_some _ q) (Nat.le_refl _) ?_, rfl, q _ (I5.hok.fresh (Nat.le_refl _))⟩
    exact ⟨by rw [List.length_reverse]; exact hz, _, 0, r.reverse, Heap.get?_push_size _ rfl⟩
  · subst ex
    cases r1
    obtain ⟨its, r, ht, hz⟩ := I5.tuple hx
    have hlen := r.length
    show wpAny (model X.prog X.w) X.A (subscriptTail e (.Slice none none (some (.UnaryOp .USub (.Constant (.int 1) k p1) p2)) p3) (.ref a) (.ref s4.heap.objs.size)) (EP X pins σ Q) X.xe { s4 with heap := s4.heap.push { cls := .type "slice", data := .fields #[vl, vu, vs] } }
    refine tail_any (ops := [.ref a, .ref s4.heap.objs.size]) ht.typeIs (PyProof.Rows.slot_tuple_getitem.lookup) ?_ (by with_unfolding_all rfl)
    refine getItem_tuple_rev ht (Heap.IsSliceOf.new _ vl vu vs) pl pu ps ?_ (by rw [List.size_toArray]; omega)
    exact new_tup I5 r.reverse (by rw [List.length_reverse]; exact hz) q s4.toks
  · subst ex
    obtain ⟨t, rfl⟩ := r1
    obtain ⟨l, rfl, e2⟩ := IsPart.raw pl
    obtain ⟨u, rfl, e4⟩ := IsPart.raw pu
    obtain ⟨w, rfl, e6⟩ := IsPart.raw ps
    cases l with
    | some l => cases e2
    | none =>
    cases u with
    | some u => cases e4
    | none =>
    cases w with
    | none => cases e6
    | some w =>
    obtain ⟨w1, w2⟩ := w
    cases e6
    show wpAny (model X.prog X.w) X.A (subscriptTail e (.Slice none none (some (.UnaryOp .USub (.Constant (.int 1) k p1) p2)) p3) (.str z t) (.ref s4.heap.objs.size)) (EP X pins σ Q) X.xe { s4 with heap := s4.heap.push { cls := .type "slice", data := .fields #[partValue none, partValue none, partValue (some (-1, w2))] } }
    refine tail_any (ops := [.ref s4.heap.objs.size, .str z t]) (typeIs_str _ _ _) PySem.F.slot_str_getitem.lookup ?_ (by with_unfolding_all rfl)
    exact wpAny_getItem_str_slice (l := none) (u := none) (st := some (-1, w2)) ⟨_, Heap.get?_push_size _ rfl, rfl, rfl⟩ rfl (post_val_or_str ⟨Nat.le_trans (revS_le z) hz, fun t' c => ⟨.str (revS z), H4, I5.tok _, ⟨t', rfl⟩, q⟩⟩)
def f_rev : PyData → Option Res
  | .str z => grd (decide (z.length ≤ sizeLine)) (.val (.str (revS z)))
  | .list xs => some (.nl xs.reverse)
  | .tuple xs => some (.nt xs.reverse)
  | _ => none
theorem de_rev {e : Expr} {d : M Val} {k : Nat} {p1 p2 p3 pos : Pos} (hK : C.K = X.K) (he : DE X C e d) : DE X C (.Subscript e (.Slice none none (some (.UnaryOp .USub (.Constant (.int 1) k p1) p2)) p3) pos) (dOp1 f_rev d) :=
  .of (PE.imp (pe_revA he.pe) fun σ H Q ⟨B, H0, ρ, hB, W, q⟩ => tD_run hB W q fun H1 H' ρ1 x v W1 S1 r1 q1 => by
    cases e : look ρ1 x with
    | none => rw [e] at q1; exact q1.elim
    | some a =>
      rw [e] at q1
      obtain ⟨res, e2, q2⟩ := optOk_some q1
      have q3 := res_ok W1 q2
      have rx := look_rd W1 r1 e
      cases a <;> try (cases e2; done)
      · obtain ⟨c, rfl⟩ := grd_some e2
        exact .inr (.inr ⟨_, rx.str, of_decide_eq_true c, q3 _ (.str _)⟩)
      · cases e2
        obtain ⟨b, vs, rfl, h1, h2⟩ := rx.lst W1.s0
        exact .inl ⟨b, vs, rfl, hK ▸ h1, fun p hp => q3 p _ hp h2.reverse⟩
      · cases e2
        obtain ⟨b, vs, rfl, h1, h2⟩ := rx.tup
        exact .inr (.inl ⟨b, vs, rfl, hK ▸ same_seqT W1.s0 h1, fun p o ho hp => q3.2 p _ o ho hp h2.reverse⟩)) fun _ => rfl
/-- x[lo:hi] -/
def cutD {α : Type} (xs : List α) (lo hi : Option Int) : List α := (xs.drop (HT.sIx xs.length 0 lo)).take (HT.sIx xs.length xs.length hi - HT.sIx xs.length 0 lo)
theorem RpA.cut {K : PySem.W.Frag} {H : Hp} {vs : List V} {ds : List PyData} (h : RpA K H vs ds) (lo hi : Option Int) : RpA K H (cutV vs lo hi) (cutD ds lo hi) := by
  unfold cutV cutD
  rw [h.length]
  exact (h.drop _).take _
def f_sl (lo hi : Option Int) : PyData → Option Res
  | .list xs => some (.nl (cutD xs lo hi))
  | .tuple xs => some (.nt (cutD xs lo hi))
  | .str z => grd (decide (z.length ≤ sizeLine)) (.val (.str (cutS z lo hi)))
  | _ => none
def optI : Option (M Val) → M (Option Int)
  | none => mpure none
  | some m => mbind m fun x ρ => match look ρ x with
    | some (.int i) => .ok (some i) ρ
    | _ => .stuck
def dSl (d : M Val) (lo hi : Option (M Val)) : M Val := mbind d fun x => mbind (optI lo) fun l => mbind (optI hi) fun h ρ => match look ρ x with
  | some a => optOk (f_sl l h a) ρ
  | none => .stuck
def tDO (C : Ctx) (m : M (Option Int)) : TO := fun σ H Q => ∃ B H0 ρ, Same C.Hb B ∧ Wd C B H0 H σ ρ ∧ stG C B H0 σ (fun _ H' _ o => Q o H') (m ρ)
theorem PO.imp {e : Option Expr} {t t' : TO} (h : PO X e t) (k : ∀ σ H Q, t' σ H Q → t σ H Q) : PO X e t' := ⟨fun pins s σ H Q I q => h.run pins s σ H Q I (k σ H Q q)⟩
structure DO (X : Cx) (C : Ctx) (e : Option Expr) (d : Option (M Val)) : Prop where
  po : PO X e (tDO C (optI d))
theorem do_none : DO X C none none := ⟨PO.imp po_none fun σ H Q ⟨B, H0, ρ, hB, W, q⟩ => q H0 H W (Same.refl _)⟩
theorem do_some {e : Expr} {d : M Val} (h : DE X C e d) : DO X C (some e) (some d) := ⟨PO.imp (po_some h.pe) fun σ H Q ⟨B, H0, ρ, hB, W, q⟩ => tD_run hB W q fun H1 H' ρ1 x v W1 S1 r1 q1 => by
  cases e : look ρ1 x with
  | none => rw [e] at q1; exact q1.elim
  | some a =>
    rw [e] at q1
    cases a <;> try exact q1.elim
    have := (look_rd W1 r1 e).int
    exact ⟨_, this, q1 H1 H' W1 (Same.refl _)⟩⟩
theorem sl_any : L2.SlR X (fun x lo hi H Q => rSlL X.K x lo hi H Q ∨ (rSlN X.K x lo hi H Q ∨ rSlS x lo hi H Q)) := L2.SlR.or sl_list (L2.SlR.or sl_tupN sl_str)
theorem sIx_whole {α : Type} {xs : List α} {lo hi : Option Int} (h : HT.sIx xs.length 0 lo = 0 ∧ HT.sIx xs.length xs.length hi = xs.length) : cutD xs lo hi = xs := by
  unfold cutD
  rw [h.1, h.2, List.drop_zero, Nat.sub_zero, List.take_length]
theorem de_sl {e : Expr} {lo hi : Option Expr} {d : M Val} {dl dh : Option (M Val)} {p2 pos : Pos} (hK : C.K = X.K) (he : DE X C e d) (hl : DO X C lo dl) (hh : DO X C hi dh) : DE X C (.Subscript e (.Slice lo hi none p2) pos) (dSl d dl dh) :=
  .of (PE.imp (pe_slice sl_any he.pe hl.po hh.po) fun σ H Q ⟨B, H0, ρ, hB, W, q⟩ => tD_run hB W q fun H1 H' ρ1 x v W1 S1 r1 q1 => by
    obtain ⟨H1', S1', W1', r1'⟩ := keep W1 r1
    refine ⟨B, H1', ρ1, hB, W1', stG_mono (stG_bind (stG_base q1 S1')) fun H2 H'' ρ2 l W2 S2 q2 => ⟨B, H2, ρ2, hB, W2, stG_mono (stG_bind q2) fun H3 H3' ρ3 h W3 S3 q3 => ?_⟩⟩
    have r3 := kept (H' := H3') (ρ' := ρ3) r1' (S2.trans S3)
    cases e : look ρ3 x with
    | none => rw [e] at q3; exact q3.elim
    | some a =>
      rw [e] at q3
      obtain ⟨res, e2, q4⟩ := optOk_some q3
      have q5 := res_ok W3 q4
      have rx := look_rd W3 r3 ((look_kp ρ3 x).trans e)
      cases a <;> try (cases e2; done)
      · obtain ⟨c, rfl⟩ := grd_some e2
        exact .inr (.inr ⟨_, rx.str, of_decide_eq_true c, q5 _ (.str _)⟩)
      · cases e2
        obtain ⟨b, vs, rfl, h1, h2⟩ := rx.lst W3.s0
        exact .inl ⟨b, vs, rfl, hK ▸ h1, fun p hp => q5 p _ hp (h2.cut l h)⟩
      · cases e2
        rename_i xs
        obtain ⟨b, vs, rfl, h1, h2⟩ := rx.tupN
        refine .inr (.inl ⟨b, vs, rfl, (same_sqn W3.s0 h1).sqt, fun hw => q5.1 _ ?_, fun hw p o ho hp => q5.2 p _ o ho hp (h2.cut l h)⟩)
        rw [h2.length] at hw
        rw [sIx_whole hw]
        exact .tup h1 h2) fun _ => rfl
end
end DL
end

section
set_option Elab.async false
set_option linter.all false
set_option maxRecDepth 100000
set_option maxHeartbeats 2000000
namespace DL
open PySem PySem.Spec PyProof.Rows L2

/-! ### comprehensions -/
def wipeR (ρ : Rho) : List Nat → Rho
  | [] => ρ
  | v :: vs => (wipeR ρ vs).set v .no
def isPlain : Option Sl → Bool
  | some (.ow _) => false
  | some (.bo _) => false
  | some (.oo _ _) => false
  | some (.ob _ _) => false
  | _ => true
theorem plain_cel {o : Option Sl} {s : Sl} (h : isPlain o = true) (e : o = some s) : s.cel = none := by
  subst e
  cases s <;> first | rfl | cases h
theorem plain_bo {o : Option Sl} (h : isPlain o = true) : bK o = none := by
  cases o with
  | none => rfl
  | some s => cases s <;> first | rfl | cases h
/-- the names' own slots as they were ahead of it -/
def restR (ρ0 ρ : Rho) : List Nat → Rho
  | [] => ρ
  | v :: vs => match ρ0[v]? with
    | some s => (restR ρ0 ρ vs).set v s
    | none => restR ρ0 ρ vs
def lcL (g : Tg) (t : M Bool) (e : M Val) (vs : List Nat) : List PyData → List PyData → Rho → Out (List PyData)
  | [], acc, ρ => .ok acc ρ
  | d :: r, acc, ρ => match g (.sh d) ρ with
    | none => .stuck
    | some ρ1 => match t ρ1 with
      | .ok true ρ2 => (match mbind e shr ρ2 with
        | .ok y ρ3 => if acc.length < 100000 then lcL g t e vs r (acc ++ [y]) (wipeR ρ3 vs) else .stuck
        | _ => .stuck)
      | .ok false ρ2 => lcL g t e vs r acc (wipeR ρ2 vs)
      | _ => .stuck
def lcO (ρ1 : Rho) (vs : List Nat) (o : Out (List PyData)) : Out Val := match o with
  | .ok acc ρ' => .ok (.fr acc) (restR ρ1 ρ' vs)
  | _ => .stuck
def dLC (m : M (List PyData)) (g : Tg) (t : M Bool) (e : M Val) (vs : List Nat) : M Val := mbind m fun items ρ1 =>
  if vs.all (fun i => isPlain ρ1[i]?) = true then lcO ρ1 vs (lcL g t e vs items [] (wipeR ρ1 vs)) else .stuck
def dYes : M Bool := mpure true
section
variable {C : Ctx} {B H0 H H0' H' : Hp} {σ : L2.St} {ρ ρ' : Rho}
theorem wipeR_get {ρ : Rho} : ∀ {vs : List Nat} {i : Nat}, i ∉ vs → (wipeR ρ vs)[i]? = ρ[i]?
  | [], _, _ => rfl
  | v :: vs, i, h => by
    simp only [List.mem_cons, not_or] at h
    unfold wipeR
    rw [List.getElem?_set_ne (Ne.symm h.1)]
    exact wipeR_get h.2
theorem wipeR_length {ρ : Rho} : ∀ vs : List Nat, (wipeR ρ vs).length = ρ.length
  | [] => rfl
  | v :: vs => by unfold wipeR; rw [List.length_set, wipeR_length vs]
theorem wipeR_mem {ρ : Rho} : ∀ {vs : List Nat} {i : Nat}, i ∈ vs → (wipeR ρ vs)[i]? = none ∨ (wipeR ρ vs)[i]? = some .no
  | v :: vs, i, h => by
    unfold wipeR
    by_cases e : v = i
    · subst e
      by_cases hl : v < (wipeR ρ vs).length
      · exact .inr (by rw [List.getElem?_set_self hl])
      · exact .inl (by rw [List.getElem?_eq_none]; rw [List.length_set]; omega)
    · rw [List.getElem?_set_ne e]
      rcases List.mem_cons.mp h with z | z
      · exact absurd z.symm e
      · exact wipeR_mem z
theorem wipe_get {σ : L2.St} : ∀ {vs : List Nat} {i : Nat}, i ∉ vs → (wipe σ vs)[i]? = σ[i]? := fun h => wipe_out h
theorem wipe_mem {σ : L2.St} : ∀ {vs : List Nat} {i : Nat}, i ∈ vs → i < σ.length → (wipe σ vs)[i]? = some none
  | v :: vs, i, h, hl => by
    unfold wipe
    by_cases e : v = i
    · subst e
      rw [List.getElem?_set_self (by rw [wipe_length]; exact hl)]
    · rw [List.getElem?_set_ne e]
      rcases List.mem_cons.mp h with z | z
      · exact absurd z.symm e
      · exact wipe_mem z hl
theorem wipe_agr {vs : List Nat} {σ σ' : L2.St} (a : Agr vs σ σ') : wipe σ' vs = wipe σ vs := by
  apply List.ext_getElem?
  intro i
  by_cases h : i ∈ vs
  · by_cases hl : i < σ.length
    · rw [wipe_mem h hl, wipe_mem h (by rw [a.1]; exact hl)]
    · rw [List.getElem?_eq_none (by rw [wipe_length, a.1]; omega), List.getElem?_eq_none (by rw [wipe_length]; omega)]
  · rw [wipe_get h, wipe_get h, a.2 i h]
theorem wipe_wipe {vs : List Nat} {σ : L2.St} : wipe (wipe σ vs) vs = wipe σ vs := by
  refine wipe_agr ⟨wipe_length _ _, fun j h => wipe_get h⟩
theorem wipeR_own {vs : List Nat} {j : Nat} (h : Own (wipeR ρ vs) j) : j ∉ vs ∧ Own ρ j := by
  obtain ⟨s, h, q⟩ := h
  by_cases e : j ∈ vs
  · rcases wipeR_mem (ρ := ρ) e with z | z <;> rw [z] at h <;> cases h
    cases q
  · rw [wipeR_get e] at h
    exact ⟨e, s, h, q⟩
/-- the block's names are forgotten -/
theorem Wd.wipe (W : Wd C B H0 H σ ρ) {vs : List Nat} (hb : ∀ p ∈ C.bos, p.1 ∉ vs) : Wd C B H0 H (L2.wipe σ vs) (wipeR ρ vs) := by
  refine ⟨W.s0, W.sb, W.s00, W.nf, fun i s e => ?_, fun i j a o1 o2 e1 e2 => ?_, by rw [wipe_length, wipeR_length]; exact W.len, fun p hp => ?_⟩
  · by_cases h : i ∈ vs
    · rcases wipeR_mem (ρ := ρ) h with z | z
      · rw [z] at e; cases e
      · rw [z] at e; cases e; trivial
    · rw [wipeR_get h] at e
      exact (W.slot i s e).move (Same.refl _) (wipe_get h) fun a _ _ h3 h4 => ⟨rfl, h3, h4⟩
  · obtain ⟨n1, o1⟩ := wipeR_own o1
    obtain ⟨n2, o2⟩ := wipeR_own o2
    rw [wipe_get n1] at e1
    rw [wipe_get n2] at e2
    exact W.inj i j a o1 o2 e1 e2
  · obtain ⟨h1, h2⟩ := W.bo p hp
    have n := hb p hp
    exact ⟨by rw [wipe_get n]; exact h1, by rw [wipeR_get n]; exact h2⟩
theorem restR_get {ρ0 ρ : Rho} : ∀ {vs : List Nat} {i : Nat}, i ∉ vs → (restR ρ0 ρ vs)[i]? = ρ[i]?
  | [], _, _ => rfl
  | v :: vs, i, h => by
    simp only [List.mem_cons, not_or] at h
    unfold restR
    split
    · rw [List.getElem?_set_ne (Ne.symm h.1)]
      exact restR_get h.2
    · exact restR_get h.2
theorem restR_length {ρ0 ρ : Rho} : ∀ vs : List Nat, (restR ρ0 ρ vs).length = ρ.length
  | [] => rfl
  | v :: vs => by
    unfold restR
    split
    · rw [List.length_set, restR_length vs]
    · exact restR_length vs
theorem restR_mem {ρ0 ρ : Rho} (hl : ρ0.length = ρ.length) : ∀ {vs : List Nat} {i : Nat}, i ∈ vs → (restR ρ0 ρ vs)[i]? = ρ0[i]?
  | v :: vs, i, h => by
    unfold restR
    by_cases e : v = i
    · subst e
      split
      · rename_i s q
        have : v < (restR ρ0 ρ vs).length := by rw [restR_length, ← hl]; exact lt_of_get q
        rw [List.getElem?_set_self this, q]
      · rename_i q
        have hv := List.getElem?_eq_none_iff.mp q
        rw [q, List.getElem?_eq_none (by rw [restR_length, ← hl]; exact hv)]
    · rcases List.mem_cons.mp h with z | z
      · exact absurd z.symm e
      · split
        · rw [List.getElem?_set_ne e]
          exact restR_mem hl z
        · exact restR_mem hl z
theorem restR_own {ρ0 : Rho} {vs : List Nat} (hl : ρ0.length = ρ.length) (hp : ∀ i ∈ vs, isPlain ρ0[i]? = true) {j : Nat} (h : Own (restR ρ0 ρ vs) j) : j ∉ vs ∧ Own ρ j := by
  obtain ⟨s, h, q⟩ := h
  by_cases e : j ∈ vs
  · rw [restR_mem hl e] at h
    rw [plain_cel (hp j e) h] at q
    cases q
  · rw [restR_get e] at h
    exact ⟨e, s, h, q⟩
/-- behind the block -/
theorem Wd.restore {vs : List Nat} {σ0 : L2.St} {ρ0 : Rho} {H00 H00' : Hp} (W0 : Wd C B H00 H00' σ0 ρ0) (W : Wd C B H0 H (L2.wipe σ0 vs) ρ) (s : Same H00 H0) (hp : ∀ i ∈ vs, isPlain ρ0[i]? = true) : Wd C B H0 H σ0 (restR ρ0 ρ vs) := by
  have hl : ρ0.length = ρ.length := by rw [← W0.len, ← W.len, wipe_length]
  refine ⟨W.s0, W.sb, W.s00, W.nf, fun i t e => ?_, fun i j a o1 o2 e1 e2 => ?_, by rw [restR_length, ← hl]; exact W0.len, fun p hp' => ?_⟩
  · by_cases h : i ∈ vs
    · rw [restR_mem hl h] at e
      have z := plain_cel (hp i h) e
      refine (W0.slot i t e).move s rfl fun a q _ _ _ => ?_
      rw [z] at q
      cases q
    · rw [restR_get h] at e
      exact (W.slot i t e).move (Same.refl _) (wipe_get h).symm fun a _ _ h3 h4 => ⟨rfl, h3, h4⟩
  · obtain ⟨n1, o1⟩ := restR_own hl hp o1
    obtain ⟨n2, o2⟩ := restR_own hl hp o2
    rw [← wipe_get (vs := vs) n1] at e1
    rw [← wipe_get (vs := vs) n2] at e2
    exact W.inj i j a o1 o2 e1 e2
  · obtain ⟨h1, h2⟩ := W0.bo p hp'
    have n : p.1 ∉ vs := fun z => by
      rw [plain_bo (hp p.1 z)] at h2
      cases h2
    obtain ⟨h3, h4⟩ := W.bo p hp'
    exact ⟨h1, by rw [restR_get n]; exact h4⟩
/-- the base with a list that is being made -/
theorem Wd.hold (W : Wd C B H0 H σ ρ) {D : Addr} {o : HO} (h1 : H D = some o) (h2 : H0 D = none) (h3 : ¬ OwnAt ρ σ D) : Wd C (upd B D o) H0 H σ ρ where
  s0 := W.s0
  sb := fun b u e => by
    by_cases hb : b = D
    · subst hb; rw [upd_same] at e; cases e; exact h1
    · rw [upd_ne hb] at e; exact W.sb b u e
  s00 := W.s00
  nf := fun b q1 q2 => by
    by_cases hb : b = D
    · subst hb; exact h2
    · rw [upd_ne hb] at q2; exact W.nf b q1 q2
  slot := fun i s e => (W.slot i s e).move (Same.refl _) rfl fun a q q1 h3' h4 => ⟨rfl, h3', (upd_ne (show a ≠ D from fun z => h3 ⟨i, ⟨s, e, q⟩, by rw [← z]; exact q1⟩)).trans h4⟩
  inj := W.inj
  len := W.len
  bo := W.bo
/-- .. taken off again -/
theorem Wd.unhold {D : Addr} {o : HO} (W : Wd C (upd B D o) H0 H σ ρ) (hn : B D = none) (hC : C.Hb0 D = none) : Wd C B H0 H σ ρ ∧ H D = some o ∧ H0 D = none ∧ ¬ OwnAt ρ σ D := by
  have hB : ∀ b u, B b = some u → upd B D o b = some u := fun b u e => by rw [upd_ne (ne_of_none e hn)]; exact e
  have ne : ∀ b, B b ≠ none → upd B D o b ≠ none := fun b h z => by
    cases q : B b with
    | none => exact h q
    | some u => rw [hB b u q] at z; cases z
  refine ⟨⟨W.s0, fun b u e => W.sb b u (hB b u e), W.s00, fun b q1 q2 => W.nf b q1 (ne b q2), fun i s e => ?_, W.inj, W.len, W.bo⟩, W.sb D o upd_same, W.nf D hC (by rw [upd_same]; exact fun z => nomatch z), fun h => ?_⟩
  · have bn : ∀ a, upd B D o a = none → B a = none := fun a h => by
      cases q : B a with
      | none => rfl
      | some u => rw [hB a u q] at h; cases h
    exact (W.slot i s e).move (Same.refl _) rfl fun a _ _ h3 h4 => ⟨rfl, h3, bn a h4⟩
  · obtain ⟨_, h2, _⟩ := W.ownAt h
    rw [upd_same] at h2
    cases h2
/-- an object that is no slot's and no data is changed -/
theorem Wd.change (W : Wd C B H0 H σ ρ) {D : Addr} {o : HO} (h2 : H0 D = none) (h3 : B D = none) (h4 : ¬ OwnAt ρ σ D) : Wd C B H0 (upd H D o) σ ρ where
  s0 := fun b u e => by rw [upd_ne (ne_of_none e h2)]; exact W.s0 b u e
  sb := fun b u e => by rw [upd_ne (ne_of_none e h3)]; exact W.sb b u e
  s00 := W.s00
  nf := W.nf
  slot := fun i s e => (W.slot i s e).mono (Same.refl _) fun a ho h1 => ⟨upd_ne fun z => h4 ⟨i, own_of e ho, z ▸ h1⟩, fun z => z⟩
  inj := W.inj
  len := W.len
  bo := W.bo
end
def Ctx.nox (C : Ctx) : Ctx := { C with wish := fun _ _ => False }
def tDP (C : Ctx) (t : M Bool) : TT := tDT C t
structure DT (X : Cx) (C : Ctx) (es : List Expr) (t : M Bool) : Prop where
  pts : PTs X es (tDT C t)
theorem PTs.imp {X : Cx} {e : List Expr} {t t' : TT} (h : PTs X e t) (k : ∀ σ H Q, t' σ H Q → t σ H Q) : PTs X e t' := ⟨fun pins s σ H Q I q => h.run pins s σ H Q I (k σ H Q q)⟩
theorem dt_nil {X : Cx} {C : Ctx} : DT X C [] dYes := ⟨PTs.imp pts_nil fun σ H Q ⟨B, H0, ρ, hB, W, q⟩ => q H0 H W (Same.refl _)⟩
theorem dt_one {X : Cx} {C : Ctx} {c : Expr} {d : M Val} (h : DE X C c d) : DT X C [c] (tst d) := ⟨pts_one h.pt⟩
theorem dLC_ok {C : Ctx} {m : M (List PyData)} {g : Tg} {t : M Bool} {e : M Val} {vs : List Nat} (σ : L2.St) (H : Hp) (Q : VK) (h : tD C (dLC m g t e vs) σ H Q) : tLc (tDI C m) (tG C.nox vs g) (tDT C.nox t) (tD C.nox e) vs σ H Q := by
  obtain ⟨B, H0, ρ, hB, W, q⟩ := h
  refine ⟨B, H0, ρ, hB, W, stG_mono (stG_bind q) fun H1 H' ρ1 items W1 S1 q1 J hj D hD => ?_⟩
  split at q1
  · rename_i hp
    have hp' : ∀ i ∈ vs, isPlain ρ1[i]? = true := fun i hi => List.all_eq_true.mp hp i hi
    have hbos : ∀ p ∈ C.bos, p.1 ∉ vs := fun p hp2 z => by
      obtain ⟨_, h2⟩ := W1.bo p hp2
      rw [plain_bo (hp' _ z)] at h2
      cases h2
    have hC0 : C.Hb0 D = none := Same.free W1.s00 (W1.s0.free hD)
    have hBD : B D = none := W1.sb.free hD
    refine ⟨fun i mm H => mm = items.length - i ∧ i ≤ items.length ∧ ∃ H0 ρ us acc, Wd C B H0 H (wipe σ vs) ρ ∧ H D = some (.lst us) ∧ H0 D = none ∧ ¬ OwnAt ρ (wipe σ vs) D ∧ RpA C.K H0 us acc ∧ Same H1 H0 ∧
      stG C B H1 σ (PV C B σ Q) (lcO ρ1 vs (lcL g t e vs (items.drop i) acc ρ)), ⟨items.length, by simp, Nat.zero_le _, H1, wipeR ρ1 vs, [], [], (W1.layF hD).wipe hbos, upd_same, W1.s0.free hD, ((W1.wipe hbos).notOwn hD), .nil, Same.refl _, q1⟩, fun i mm H hW => ?_⟩
    obtain ⟨rfl, hi, H0, ρ, us, acc, W2, e1, e2, e3, r2, S2, q2⟩ := hW
    by_cases hlt : i < items.length
    · rw [drop_cons hlt] at q2
      refine .inr ⟨hj.go i H0 H S2 W2.s0 hlt, fun H => ∃ H0 ρ us acc, Wd C B H0 H (wipe σ vs) ρ ∧ H D = some (.lst us) ∧ H0 D = none ∧ ¬ OwnAt ρ (wipe σ vs) D ∧ RpA C.K H0 us acc ∧ Same H1 H0 ∧
        stG C B H1 σ (PV C B σ Q) (lcO ρ1 vs (lcL g t e vs (items.drop (i + 1)) acc ρ)), fun H' hN => ⟨items.length - (i + 1), by omega, rfl, hlt, hN⟩, fun x H'' y => ?_⟩
      have W3 := W2.hold e1 e2 e3
      obtain ⟨H3, S3, W4, r4⟩ := yld_world W3 hj S2 (List.getElem?_eq_getElem hlt) y
      unfold lcL at q2
      cases eg : g (.sh items[i]) ρ with
      | none => rw [eg] at q2; exact q2.elim
      | some ρ4 =>
        rw [eg] at q2
        simp only at q2
        have hB' : Same C.nox.Hb (upd B D (.lst us)) := fun b u z => by
          rw [upd_ne (ne_of_none (hB b u z) hBD)]
          exact hB b u z
        have W4' : Wd C.nox (upd B D (.lst us)) H3 H'' (wipe σ vs) ρ := ⟨W4.s0, W4.sb, W4.s00, W4.nf, W4.slot, W4.inj, W4.len, W4.bo⟩
        refine ⟨_, H3, ρ, .sh items[i], hB', W4', r4, ρ4, eg, fun H5 H5' σ5 W5 S5 A5 => ?_⟩
        have ew : wipe σ5 vs = wipe σ vs := (wipe_agr A5).trans wipe_wipe
        refine ⟨ew, ?_⟩
        refine ⟨_, H5, ρ4, hB', W5, ?_⟩
        have S5' : Same H0 H5 := S3.trans S5
        -- behind the element
        have fin : ∀ {H6 H6' : Hp} {ρ6 : Rho} {us' : List V} {acc' : List PyData} {o : HO}, Wd C.nox (upd B D (.lst us)) H6 H6' σ5 ρ6 → RpA C.K H6 us' acc' → Same H1 H6 → upd H6' D (.lst us') = upd H6' D o →
            stG C B H1 σ (PV C B σ Q) (lcO ρ1 vs (lcL g t e vs (items.drop (i + 1)) acc' (wipeR ρ6 vs))) →
            ∃ H0 ρ us acc, Wd C B H0 (upd H6' D o) (wipe σ vs) ρ ∧ (upd H6' D o) D = some (.lst us) ∧ H0 D = none ∧ ¬ OwnAt ρ (wipe σ vs) D ∧ RpA C.K H0 us acc ∧ Same H1 H0 ∧ stG C B H1 σ (PV C B σ Q) (lcO ρ1 vs (lcL g t e vs (items.drop (i + 1)) acc ρ)) := fun {H6 H6' ρ6 us' acc' o} W6 r6 S6 eo q6 => by
          have W6' : Wd C (upd B D (.lst us)) H6 H6' σ5 ρ6 := ⟨W6.s0, W6.sb, W6.s00, W6.nf, W6.slot, W6.inj, W6.len, W6.bo⟩
          obtain ⟨W7, u1, u2, u3⟩ := W6'.unhold hBD hC0
          have W8 := (W7.change (o := .lst us') u2 hBD u3).wipe hbos
          have n8 : ¬ OwnAt (wipeR ρ6 vs) (wipe σ5 vs) D := fun z => by
            obtain ⟨i', ho, e'⟩ := z
            obtain ⟨hm, ho⟩ := wipeR_own ho
            rw [wipe_get hm] at e'
            exact u3 ⟨i', ho, e'⟩
          rw [ew] at W8 n8
          rw [← eo]
          exact ⟨H6, _, us', acc', W8, upd_same, u2, n8, r6, S6, q6⟩
        cases et : t ρ4 with
        | stuck => rw [et] at q2; exact q2.elim
        | exc c ρ5 => rw [et] at q2; exact q2.elim
        | ok b ρ5 =>
          rw [et] at q2
          intro H6 H6' W6 S6
          cases b with
          | false =>
            refine iteF ?_
            have hD6 : H6' D = some (.lst us) := W6.sb D _ upd_same
            have eo : upd H6' D (.lst us) = H6' := by
              funext b
              by_cases hb : b = D
              · subst hb; rw [upd_same, hD6]
              · rw [upd_ne hb]
            have := fin (o := .lst us) W6 (r2.mono (S5'.trans S6)) ((S2.trans S5').trans S6) rfl q2
            rw [eo] at this
            exact this
          | true =>
            refine iteT ?_
            refine ⟨_, H6, ρ5, hB', W6, ?_⟩
            have q3 : stG C B H1 σ (PV C B σ Q) (lcO ρ1 vs (match mbind e shr ρ5 with
              | .ok y ρ3 => if acc.length < 100000 then lcL g t e vs (items.drop (i + 1)) (acc ++ [y]) (wipeR ρ3 vs) else .stuck
              | _ => .stuck)) := q2
            unfold mbind at q3
            cases ee : e ρ5 with
            | stuck => rw [ee] at q3; exact q3.elim
            | exc c ρ6 => rw [ee] at q3; exact q3.elim
            | ok z ρ6 =>
              rw [ee] at q3
              simp only at q3
              intro H7 H7' W7 S7 yv ry
              cases es : shr z ρ6 with
              | stuck => rw [es] at q3; exact q3.elim
              | exc c ρ7 => exact (shr_exc es).elim
              | ok yd ρ7 =>
                rw [es] at q3
                simp only at q3
                obtain ⟨H8, S8, W8, r8⟩ := shr_ok W7 ry es
                split at q3
                · rename_i hlen
                  have S8' : Same H0 H8 := ((S5'.trans S6).trans S7).trans S8
                  refine ⟨us, W8.sb D _ upd_same, ?_, fin W8 ((r2.mono S8').append (.cons r8 .nil)) (S2.trans S8') rfl q3⟩
                  rw [r2.length]
                  exact Nat.lt_of_lt_of_le hlen (by decide)
                · exact q3.elim
    · have e : i = items.length := by omega
      subst e
      rw [List.drop_length] at q2
      have W3 := Wd.restore (vs := vs) W1 W2 S2 hp'
      have n3 : ¬ OwnAt (restR ρ1 ρ vs) σ D := fun z => by
        obtain ⟨i', ho, e'⟩ := z
        obtain ⟨hm, ho⟩ := restR_own (by rw [← W1.len, ← W2.len, wipe_length]) hp' ho
        exact e3 ⟨i', ho, by rw [wipe_get hm]; exact e'⟩
      exact .inl ⟨hj.stop H0 H S2 W2.s0, q2 H0 H W3 S2 (.ref D) ⟨D, us, rfl, e1, e2, hBD, n3, r2⟩⟩
  · exact q1.elim
section
variable {X : Cx} {C : Ctx}
theorem de_lc {elt tg iter : Expr} {ifs : List Expr} {scope : Scope} {own : List (Str × Nat)} {pos : Pos} {m : M (List PyData)} {g : Tg} {t : M Bool} {e : M Val} (hc : X.calm = true) (hN : X.N.Nodup) (hi : DI X C tg iter m) (ok : BlkOk X.N X.env.scope scope own)
    (hg : ∀ (s : Shared) (H : Hp) (Cc : Addr) (cl : List (Str × Addr)) (fp : List Addr), DG (X.blk s H scope (compEnvC scope cl Cc X.env) fp) C.nox tg (own.map (·.2)) g) (ht : ∀ (s : Shared) (H : Hp) (Cc : Addr) (cl : List (Str × Addr)) (fp : List Addr), DT (X.blk s H scope (compEnvC scope cl Cc X.env) fp) C.nox ifs t)
    (he : ∀ (s : Shared) (H : Hp) (Cc : Addr) (cl : List (Str × Addr)) (fp : List Addr), DE (X.blk s H scope (compEnvC scope cl Cc X.env) fp) C.nox elt e) (hs : ∀ x, foldedSetIterable iter X.env x = pure x) :
    DE X C (.ListComp elt [⟨tg, iter, ifs, 0⟩] scope pos) (dLC m g t e (own.map (·.2))) :=
  .of (PE.imp (pe_lc hc hN hi.pi ok (fun s H Cc cl fp => (hg s H Cc cl fp).pg) (fun s H Cc cl fp => (ht s H Cc cl fp).pts) (fun s H Cc cl fp => (he s H Cc cl fp).pe) hs) fun σ H Q q => dLC_ok σ H Q q) fun _ => rfl
theorem ds_setLc {i : Nat} {y : Str} {py : Pos} {elt tg iter : Expr} {ifs : List Expr} {scope : Scope} {own : List (Str × Nat)} {pos spos : Pos} {m : M (List PyData)} {g : Tg} {t : M Bool} {e : M Val} (hc : X.calm = true) (hN : X.N.Nodup) (hy : X.N[i]? = some y) (hyl : X.env.scope.names.lookup y = some .local)
    (hsw : swapsWith (.ListComp elt [⟨tg, iter, ifs, 0⟩] scope pos) (some (.Name y py)) spos.line X.env = pure true) (hi : DI X C tg iter m) (ok : BlkOk X.N X.env.scope scope own)
    (hg : ∀ (s : Shared) (H : Hp) (Cc : Addr) (cl : List (Str × Addr)) (fp : List Addr), DG (X.blk s H scope (compEnvC scope cl Cc X.env) fp) C.nox tg (own.map (·.2)) g) (ht : ∀ (s : Shared) (H : Hp) (Cc : Addr) (cl : List (Str × Addr)) (fp : List Addr), DT (X.blk s H scope (compEnvC scope cl Cc X.env) fp) C.nox ifs t)
    (he : ∀ (s : Shared) (H : Hp) (Cc : Addr) (cl : List (Str × Addr)) (fp : List Addr), DE (X.blk s H scope (compEnvC scope cl Cc X.env) fp) C.nox elt e) (hs : ∀ x, foldedSetIterable iter X.env x = pure x) :
    DS X C (.Assign [.Name y py] (.ListComp elt [⟨tg, iter, ifs, 0⟩] scope pos) spos) (sAsg (dLC m g t e (own.map (·.2))) (gtName i)) :=
  ⟨PS.imp (ps_setLc (i := i) hc hN hy hyl hsw hi.pi ok (fun s H Cc cl fp => (hg s H Cc cl fp).pg) (fun s H Cc cl fp => (ht s H Cc cl fp).pts) (fun s H Cc cl fp => (he s H Cc cl fp).pe) hs) fun D σ H ⟨H0, ρ, W, q⟩ => by
    refine dLC_ok σ H _ (tDS_run W q fun H0' H' ρ' x v W' _ r q' => ?_)
    cases e : gtName i x ρ' with
    | none => rw [e] at q'; exact q'.elim
    | some ρ2 =>
      rw [e] at q'
      obtain ⟨H2, S2, W2⟩ := stI_ok W' r e
      exact q' H2 H' _ W2 S2⟩
end
end DL
end

section
set_option Elab.async false
set_option linter.all false
set_option maxRecDepth 100000
set_option maxHeartbeats 2000000
namespace DL
open PySem PySem.Spec PyProof.Rows L2
section
variable {X : Cx} {C : Ctx} {B H0 H H0' H' : Hp} {σ : L2.St} {ρ ρ' : Rho} {v : V} {a : Addr}
/-! ### x op= e -/
def sAug (i : Nat) (f : PyData → PyData → Option Res) (d : M Val) : SD := fun ρ => match ρ[i]? with
  | some (.sh a) => sBind d (fun y ρ => match look ρ y with
    | some b => match f a b with
      | some r => gOpt (stI i (resV r) ρ)
      | none => .stuck
    | none => .stuck) ρ
  | _ => .stuck
theorem res_val {B : Hp} {r : Res} {Q : VK} {T : Val → Rho → Prop} (W : Wd C B H0 H σ ρ) (h : ∀ H0' H' v, Wd C B H0' H' σ ρ → Same H0 H0' → VlR C.K B H0' H' σ ρ v (resV r) → Q v H') : ResOk C.K H0 H Q r := by
  cases r with
  | val d => exact fun v hv => h H0 H v W (Same.refl _) hv
  | nl xs => exact fun p vs hp r => h H0 _ (.ref p) (W.layF hp) (Same.refl _) ⟨p, vs, rfl, upd_same, W.s0.free hp, W.sb.free hp, W.notOwn hp, r⟩
  | nt xs => exact ⟨fun v hv => h H0 H v W (Same.refl _) hv, fun p vs o ho hp r => h _ _ (.ref p) (W.lay hp) (same_upd (W.s0.free hp)) (.tup (.of upd_same ho) (r.mono (same_upd (W.s0.free hp))))⟩
theorem ds_aug {i : Nat} {x : Str} {e : Expr} {d : M Val} {op : Operator} {r : R2} {f : PyData → PyData → Option Res} {pos pos' : Pos} (hN : X.N.Nodup) (hi : X.N[i]? = some x) (hx : Loc X.env.scope x) (he : DE X C e d) (ho : OpR X (inplaceOp op) r) (hr : OkR2 C.K r f)
    (hf : X.fn x = true ∨ X.env.scope.names.lookup x = some .local) : DS X C (.AugAssign (.Name x pos') op e pos) (sAug i f d) :=
  ⟨PS.imp (ps_aug (ti := r) hN hi hx he.pe (fun pins s σ H x y v u Q I r1 r2 h => ho pins s σ H x y v u Q I r1 r2 h) hf) fun D σ H ⟨H0, ρ, W, q⟩ => by
    unfold sAug at q
    split at q
    · rename_i a e
      obtain ⟨v, h1, h2⟩ := W.slot i _ e
      refine ⟨v, h1, tDS_run W q fun H1 H' ρ1 y u W1 S1 r1 q1 => ?_⟩
      cases e1 : look ρ1 y with
      | none => rw [e1] at q1; exact q1.elim
      | some b =>
        rw [e1] at q1
        simp only at q1
        cases e2 : f a b with
        | none => rw [e2] at q1; exact q1.elim
        | some res =>
          rw [e2] at q1
          simp only at q1
          refine hr H1 H' v u a b res _ W1.s0 (.sh (h2.mono S1)) (look_rd W1 r1 e1) e2 (res_val (T := fun _ _ => True) W1 fun H2 H2' w W2 S2 r2 => ?_)
          cases e3 : stI i (resV res) ρ1 with
          | none => rw [e3] at q1; exact q1.elim
          | some ρ2 =>
            rw [e3] at q1
            obtain ⟨H3, S3, W3⟩ := stI_ok W2 r2 e3
            exact q1 H3 H2' _ W3 (S2.trans S3)
    · exact q.elim⟩
def f_addI : PyData → PyData → Option Res
  | .int i, .int j => ok (.int (i + j))
  | .str x, .str y => grd (decide (x.length + y.length ≤ sizeLine)) (.val (.str (x ++ y)))
  | _, _ => none
def rAddI : R2 := fun x y H Q => (rI0 fun i j => .int (i + j)) x y H Q ∨ (∃ i j, x = .str i ∧ y = .str j ∧ i.length + j.length ≤ sizeLine ∧ Q (.str (i ++ j)) H)
theorem iop_Add : OpR X (inplaceOp .Add) rAddI := OpR.or iop_add iop_add_str
theorem ok_addI {K : PySem.W.Frag} : OkR2 K rAddI f_addI := by
  intro H0 H x y dx dy res Q s rx ry e q
  cases dx <;> cases dy <;> try (cases e; done)
  · cases e
    exact .inl ⟨_, _, rx.int, ry.int, q _ (.int _)⟩
  · obtain ⟨c, rfl⟩ := grd_some e
    exact .inr ⟨_, _, rx.str, ry.str, of_decide_eq_true c, q _ (.str _)⟩
def f_mulI : PyData → PyData → Option Res
  | .int i, .int j => grd (decide (i.natAbs.log2 + j.natAbs.log2 < 1000000)) (.val (.int (i * j)))
  | _, _ => none
theorem iop_mulW : OpR X (inplaceOp .Mult) (rI CMulW fun i j => .int (i * j)) := opI fun _ _ _ _ _ _ _ hc q => imul_int q hc.ok
theorem ok_mulI {K : PySem.W.Frag} : OkR2 K (rI CMulW fun i j => .int (i * j)) f_mulI := by
  intro H0 H x y dx dy res Q s rx ry e q
  cases dx <;> cases dy <;> try (cases e; done)
  obtain ⟨c, rfl⟩ := grd_some e
  have c' := of_decide_eq_true c
  exact ⟨_, _, rx.int, ry.int, c', q _ (.int _)⟩

/-! ### an owned list is changed -/
def setSl (k : Bool) (xs : List PyData) : Sl := if k = true then .ow xs else .bo xs
/-- a cell is changed -/
theorem Wd.mutC (W : Wd C B H0 H σ ρ) {i : Nat} {s s' : Sl} {k k' : Option Nat} {xs xs' : List PyData} {vs' : List V} {o : HO} (e : ρ[i]? = some s) (hs : s.cel = some (k, xs)) (hs' : s'.cel = some (k', xs')) (hb : bK (some s') = bK (some s)) (h1 : σ[i]? = some (some (.ref a)))
    (h2 : CelH C.K (upd H a o) a k' vs') (r : RpA C.K H0 vs' xs') : Wd C B H0 (upd H a o) σ (ρ.set i s') := by
  have hown : Own ρ i := ⟨s, e, by rw [hs]; rfl⟩
  obtain ⟨a', _, ys, us, _, _, _, q1, q2, q3, q4, _⟩ := W.own hown
  rw [h1] at q1
  cases q1
  have own : ∀ j, Own (ρ.set i s') j → Own ρ j := fun j h => by
    rcases h.set with ⟨rfl, _⟩ | ⟨_, h⟩
    · exact hown
    · exact h
  refine ⟨fun b u z => ?_, fun b u z => ?_, W.s00, W.nf, fun j t z => ?_, fun j l b o1 o2 => W.inj j l b (own j o1) (own l o2), by rw [List.length_set]; exact W.len, fun p hp => ?_⟩
  · rw [upd_ne (ne_of_none z q3)]; exact W.s0 b u z
  · rw [upd_ne (ne_of_none z q4)]; exact W.sb b u z
  · rcases Rho.get_set z with ⟨rfl, rfl⟩ | ⟨n, z⟩
    · exact CelR.sl ⟨a, vs', h1, h2, q3, q4, r⟩ hs'
    · refine (W.slot j t z).mono (Same.refl _) fun b ho hb => ⟨upd_ne fun zz => ?_, fun z => z⟩
      subst zz
      exact n (W.inj j i _ (own_of z ho) hown hb h1)
  · obtain ⟨g1, g2⟩ := W.bo p hp
    refine ⟨g1, ?_⟩
    by_cases hi : i = p.1
    · rw [← hi] at g2 ⊢
      rw [e] at g2
      rw [List.getElem?_set_self (lt_of_get e), hb]
      exact g2
    · rw [List.getElem?_set_ne hi]; exact g2
theorem setSl_cel (k : Bool) (xs : List PyData) : (setSl k xs).cel = some (none, xs) := by cases k <;> rfl
theorem Wd.mutate (W : Wd C B H0 H σ ρ) {i : Nat} {k : Bool} {xs xs' : List PyData} {vs vs' : List V} (e : ρ[i]? = some (setSl k xs)) (h1 : σ[i]? = some (some (.ref a))) (h2 : H a = some (.lst vs)) (r : RpA C.K H0 vs' xs') :
    Wd C B H0 (upd H a (.lst vs')) σ (ρ.set i (setSl k xs')) :=
  W.mutC (k' := none) e (setSl_cel k xs) (setSl_cel k xs') (by cases k <;> rfl) h1 upd_same r
def lsOf : Option Sl → Option (Bool × List PyData)
  | some (.ow xs) => some (true, xs)
  | some (.bo xs) => some (false, xs)
  | _ => none
theorem lsOf_some {o : Option Sl} {k : Bool} {xs : List PyData} (h : lsOf o = some (k, xs)) : o = some (setSl k xs) := by
  unfold lsOf at h
  split at h
  · cases h; rfl
  · cases h; rfl
  · cases h
theorem ls_slot (W : Wd C B H0 H σ ρ) {i : Nat} {k : Bool} {xs : List PyData} (e : ρ[i]? = some (setSl k xs)) : LsR C.K B H0 H σ i xs := by
  have q := W.slot i _ e
  cases k <;> exact q
/-- what a changing method does with the list and its arguments: the new list, the answer -/
abbrev MutF := List PyData → List PyData → Option (List PyData × PyData)
def dMut (i : Nat) (ds : List (M Val)) (f : MutF) : M Val := mbind (evS ds) fun as ρ => match lsOf ρ[i]? with
  | some (k, xs) => (match f xs as with
    | some (xs', d) => .ok (.sh d) (ρ.set i (setSl k xs'))
    | none => .stuck)
  | none => .stuck
def OkMut (K : PySem.W.Frag) (r : V → List V → Hp → VK → Prop) (f : MutF) : Prop := ∀ (H0 H : Hp) (l : Addr) (vs us : List V) (xs as xs' : List PyData) (d : PyData) (Q : VK), Same H0 H → H l = some (.lst vs) → RpA K H0 vs xs → RpA K H0 us as → f xs as = some (xs', d) →
  (∀ v vs', RpA K H0 vs' xs' → Rp K H0 v d → Q v (upd H l (.lst vs'))) → r (.ref l) us H Q
theorem mut_ok {r : V → List V → Hp → VK → Prop} {f : MutF} {i : Nat} {us : List V} {as : List PyData} {Q : VK} (hr : OkMut C.K r f) (W : Wd C B H0 H σ ρ) (hv : σ[i]? = some (some v)) (rs : RpA C.K H0 us as)
    (h : stG C B H0 σ (PV C B σ Q) (match lsOf ρ[i]? with
      | some (k, xs) => (match f xs as with
        | some (xs', d) => .ok (.sh d) (ρ.set i (setSl k xs'))
        | none => .stuck)
      | none => .stuck)) : r v us H Q := by
  cases e : lsOf ρ[i]? with
  | none => rw [e] at h; exact h.elim
  | some p =>
    obtain ⟨k, xs⟩ := p
    rw [e] at h
    simp only at h
    cases e2 : f xs as with
    | none => rw [e2] at h; exact h.elim
    | some p =>
      obtain ⟨xs', d⟩ := p
      rw [e2] at h
      have e' := lsOf_some e
      obtain ⟨b, ws, h1, h2, h3, h4, h5⟩ := ls_slot W e'
      rw [hv] at h1
      cases h1
      exact hr H0 H b ws us xs as xs' d Q W.s0 h2 h5 rs e2 fun w vs' r1 r2 => h H0 _ (W.mutate e' hv h2 r1) (Same.refl _) w r2
theorem tyV_slot (W : Wd C B H0 H σ ρ) {i : Nat} (hv : σ[i]? = some (some v)) (h : ∃ p, lsOf ρ[i]? = some p) : tyV C.K "list" v H := by
  obtain ⟨⟨k, xs⟩, e⟩ := h
  obtain ⟨b, ws, h1, h2, _⟩ := ls_slot W (lsOf_some e)
  rw [hv] at h1
  cases h1
  exact .inl ⟨rfl, ws, .of h2⟩
/-- x.m(e, ..), x a slot's list: at the start the slot must hold a list, too -/
def dMutM (i : Nat) (ds : List (M Val)) (f : MutF) : M Val := fun ρ => match lsOf ρ[i]? with
  | some _ => dMut i ds f ρ
  | none => .stuck
theorem de_mut {o e : Expr} {es : List Expr} {i : Nat} {ds : List (M Val)} {f : MutF} {name : Str} {apos cpos : Pos} {id : String} {r : V → List V → Hp → VK → Prop} (hK : C.K = X.K) (slot : Slot "list" name id) (hty : typeOf (.builtin id) = pure (.type "method_descriptor")) (hm : MtR X id r) (hr : OkMut C.K r f)
    (ho : PE X o (tVar i)) (ha : PA X (e :: es) (tDAs C (evS ds))) (hbase : attributeBase o name X.env (eval o X.env) = eval o X.env)
    (hfew : ((backTo cpos (starEach (e :: es) X.env)).all (fun x => !x.1) && (backToKw cpos (keywordEach [] X.env)).all (fun x => x.1.isSome)
      && decide ((e :: es).length + ([] : List Keyword).length + (if ([] : List Keyword).isEmpty then 0 else 1) < 30)) = true)
    (hline : (apos.endLine == cpos.line) = true) (hs : starEach (e :: es) X.env = (false, eval e X.env) :: starEach es X.env) (hplain : (backTo cpos (starEach es X.env)).any (·.1) = false) : DE X C (.Call (.Attribute o name apos) (e :: es) [] cpos) (dMutM i ds f) :=
  .of (PE.imp (pe_bm PySem.F.plainAttrs_list slot hty hm ho ha hbase hfew hline hs hplain) fun σ H Q ⟨B, H0, ρ, hB, W, q⟩ => by
    unfold dMutM at q
    cases e : lsOf ρ[i]? with
    | none => rw [e] at q; exact q.elim
    | some p =>
      rw [e] at q
      simp only at q
      obtain ⟨k, xs⟩ := p
      obtain ⟨b, ws, h1, h2, _⟩ := ls_slot W (lsOf_some e)
      exact ⟨_, h1, hK ▸ tyV_slot W h1 ⟨_, e⟩, B, H0, ρ, hB, W, stG_mono (stG_bind q) fun H1 H' ρ1 as W1 S1 q1 vs rs => mut_ok hr W1 h1 rs q1⟩) fun _ => rfl
theorem de_mut0 {o : Expr} {i : Nat} {f : MutF} {name : Str} {apos cpos : Pos} {id : String} {r : V → List V → Hp → VK → Prop} (hK : C.K = X.K) (slot : Slot "list" name id) (hty : typeOf (.builtin id) = pure (.type "method_descriptor")) (hm : MtR X id r) (hr : OkMut C.K r f)
    (ho : PE X o (tVar i)) (hbase : attributeBase o name X.env (eval o X.env) = eval o X.env) (hline : (apos.endLine == cpos.line) = true) : DE X C (.Call (.Attribute o name apos) [] [] cpos) (dMutM i [] f) :=
  .of (PE.imp (pe_bm0 PySem.F.plainAttrs_list slot hty hm ho hbase hline) fun σ H Q ⟨B, H0, ρ, hB, W, q⟩ => by
    unfold dMutM at q
    cases e : lsOf ρ[i]? with
    | none => rw [e] at q; exact q.elim
    | some p =>
      rw [e] at q
      simp only at q
      obtain ⟨k, xs⟩ := p
      obtain ⟨b, ws, h1, h2, _⟩ := ls_slot W (lsOf_some e)
      exact ⟨_, h1, hK ▸ tyV_slot W h1 ⟨_, e⟩, mut_ok hr W h1 .nil q⟩) fun _ => rfl
def f_append : MutF := fun xs as => match as with
  | [d] => if xs.length < 100000 then some (xs ++ [d], .none) else none
  | _ => none
theorem ok_append {K : PySem.W.Frag} : OkMut K rAppend f_append := by
  intro H0 H l vs us xs as xs' d Q s h1 r1 r2 e q
  cases r2 with
  | nil => cases e
  | cons r rs =>
    cases rs with
    | cons _ _ => cases e
    | nil =>
      simp only [f_append] at e
      split at e
      · rename_i hl
        cases e
        exact ⟨l, vs, _, rfl, rfl, h1, by rw [r1.length]; exact Nat.lt_of_lt_of_le hl (by decide), q _ _ (r1.append (.cons r .nil)) .non⟩
      · cases e
def f_pop : MutF := fun xs as => match as with
  | [] => (xs[xs.length - 1]?).map fun d => (xs.dropLast, d)
  | _ => none
theorem ok_pop {K : PySem.W.Frag} : OkMut K rPop f_pop := by
  intro H0 H l vs us xs as xs' d Q s h1 r1 r2 e q
  cases r2 with
  | cons _ _ => cases e
  | nil =>
    obtain ⟨y, e1, e2⟩ := Option.map_eq_some_iff.mp e
    cases e2
    obtain ⟨v, h2, h3⟩ := r1.get e1
    exact ⟨l, vs, v, rfl, rfl, h1, by rw [r1.length]; exact h2, q _ _ r1.dropLast h3⟩
def f_popAt : MutF := fun xs as => match as with
  | [.int i] => if -(2 ^ 63) ≤ i ∧ i < 2 ^ 63 then (seqIndex? i xs.length).bind fun k => (xs[k]?).map fun d => (xs.eraseIdx k, d) else none
  | _ => none
theorem ok_popAt {K : PySem.W.Frag} : OkMut K rPopAt f_popAt := by
  intro H0 H l vs us xs as xs' d Q s h1 r1 r2 e q
  cases r2 with
  | nil => cases e
  | cons r rs =>
    cases rs with
    | cons _ _ => cases r <;> cases e
    | nil =>
      cases r <;> try (cases e; done)
      simp only [f_popAt] at e
      split at e
      · rename_i hi
        obtain ⟨k, e1, e2⟩ := Option.bind_eq_some_iff.mp e
        obtain ⟨y, e3, e4⟩ := Option.map_eq_some_iff.mp e2
        cases e4
        obtain ⟨v, h2, h3⟩ := r1.get e3
        exact ⟨l, vs, _, k, v, rfl, rfl, h1, hi.1, hi.2, by rw [r1.length]; exact e1, h2, q _ _ (r1.eraseIdx k) h3⟩
      · cases e
/-! ### x[i] = e -/
def gtSub (i : Nat) (di : M Val) : Tg := fun x ρ => match shr x ρ with
  | .ok d ρ1 => (match lsOf ρ1[i]? with
    | some _ => (match di ρ1 with
      | .ok y ρ2 => (match look ρ2 y, lsOf ρ2[i]? with
        | some (.int k), some (b, xs) => (ixN xs.length k).map fun j => ρ2.set i (setSl b (xs.set j d))
        | _, _ => none)
      | _ => none)
    | none => none)
  | _ => none
theorem dg_sub {o e : Expr} {i : Nat} {di : M Val} {pos : Pos} (ho : PE X o (tVar i)) (hi : DE X C e di) (hpg : PG X (.Subscript o e pos) (gSub (tVar i) (tD C di) rSetL)) : DG X C (.Subscript o e pos) [] (gtSub i di) := by
  refine ⟨PG.imp hpg fun v σ H Q h => ?_⟩
  obtain ⟨B, H0, ρ, x, hB, W, r, ρ', e, q⟩ := h
  unfold gtSub at e
  cases e1 : shr x ρ with
  | stuck => rw [e1] at e; cases e
  | exc c ρ1 => rw [e1] at e; cases e
  | ok d ρ1 =>
    rw [e1] at e
    simp only at e
    obtain ⟨H1, S1, W1, r1⟩ := shr_ok W r e1
    cases e2 : lsOf ρ1[i]? with
    | none => rw [e2] at e; cases e
    | some p =>
      rw [e2] at e
      simp only at e
      obtain ⟨k, xs⟩ := p
      obtain ⟨b, ws, h1, h2, _⟩ := ls_slot W1 (lsOf_some e2)
      refine ⟨_, h1, B, H1, ρ1, hB, W1, ?_⟩
      cases e3 : di ρ1 with
      | stuck => rw [e3] at e; cases e
      | exc c ρ2 => rw [e3] at e; cases e
      | ok y ρ2 =>
        rw [e3] at e
        simp only at e
        intro H2 H' W2 S2 u ru
        cases e4 : look ρ2 y with
        | none => rw [e4] at e; cases e
        | some dy =>
          rw [e4] at e
          cases dy with
          | int kk =>
            cases e5 : lsOf ρ2[i]? with
            | none => rw [e5] at e; cases e
            | some p =>
              obtain ⟨k2, ys⟩ := p
              rw [e5] at e
              simp only at e
              obtain ⟨j, e6, rfl⟩ := Option.map_eq_some_iff.mp e
              have e5' := lsOf_some e5
              obtain ⟨b', us, g1, g2, g3, g4, g5⟩ := ls_slot W2 e5'
              rw [h1] at g1
              cases g1
              exact ⟨b, us, kk, j, rfl, (look_rd W2 ru e4).int, g2, by rw [g5.length]; exact e6, q H2 _ σ (W2.mutate e5' h1 g2 (g5.set (r1.mono S2) j)) (S1.trans S2) (Agr.refl _ _)⟩
          | none => cases e
          | bool b => cases e
          | str s => cases e
          | list s => cases e
          | tuple s => cases e
          | dict s => cases e
end
end DL
end

section
set_option Elab.async false
set_option linter.all false
set_option maxRecDepth 100000
set_option maxHeartbeats 2000000
namespace DL
open PySem PySem.Spec PyProof.Rows L2
section
variable {X : Cx} {C : Ctx} {B H0 H H0' H' : Hp} {σ : L2.St} {ρ ρ' : Rho} {v : V} {a : Addr}
/-! ### a, b = e1, e2 -/
def nrm (x : Val) : M Val := match x with
  | .sl i => mbind (shr (.sl i)) fun d => mpure (.sh d)
  | x => mpure x
def notSl : Val → Prop
  | .sl _ => False
  | _ => True
theorem nrm_run {α : Type} {P : Hp → Hp → Rho → α → Prop} {x : Val} {k : Val → M α} {T : Prop} (W : Wd C B H0 H σ ρ) (r : VlR C.K B H0 H σ ρ v x) (h : stG C B H0 σ P (mbind (nrm x) k ρ))
    (hk : ∀ H0' ρ' y, Wd C B H0' H σ ρ' → Same H0 H0' → VlR C.K B H0' H σ ρ' v y → notSl y → stG C B H0' σ P (k y ρ') → T) : T := by
  cases x with
  | sh d => exact hk H0 ρ _ W (Same.refl _) r trivial h
  | fr xs => exact hk H0 ρ _ W (Same.refl _) r trivial h
  | fo c xs => exact hk H0 ρ _ W (Same.refl _) r trivial h
  | gone => exact hk H0 ρ _ W (Same.refl _) r trivial h
  | sl i =>
    have h' : stG C B H0 σ P (mbind (mbind (shr (.sl i)) fun d => mpure (.sh d)) k ρ) := h
    rw [mbind_assoc] at h'
    exact shr_run W r h' fun H1 ρ1 d W1 S1 r1 q1 => hk H1 ρ1 (.sh d) W1 S1 r1 trivial q1
/-- a value is held while others are reckoned -/
theorem holdV {x : Val} (W : Wd C B H0 H σ ρ) (r : VlR C.K B H0 H σ ρ v x) (n : notSl x) : ∃ B1, Same B B1 ∧ (∀ a, B1 a = none → B a = none) ∧ Wd C B1 H0 H σ ρ ∧
    ∀ H0' H' σ' ρ', Wd C B1 H0' H' σ' ρ' → Same H0 H0' → Wd C B H0' H' σ' ρ' ∧ VlR C.K B H0' H' σ' ρ' v x := by
  cases x with
  | sl i => exact n.elim
  | sh d => exact ⟨B, Same.refl _, fun _ h => h, W, fun H0' H' σ' ρ' W' S => ⟨W', Rp.mono S r⟩⟩
  | fr xs =>
    obtain ⟨b, vs, rfl, h1, h2, h3, h4, h5⟩ := r
    refine ⟨upd B b (.lst vs), same_upd h3, fun c hc => ?_, W.hold h1 h2 h4, fun H0' H' σ' ρ' W' S => ?_⟩
    · cases q : B c with
      | none => rfl
      | some u => rw [upd_ne (ne_of_none q h3), q] at hc; cases hc
    · obtain ⟨W2, g1, g2, g3⟩ := W'.unhold h3 (Same.free W.s00 h2)
      exact ⟨W2, b, vs, rfl, g1, g2, h3, g3, h5.mono S⟩
  | gone => exact ⟨B, Same.refl _, fun _ h => h, W, fun H0' H' σ' ρ' W' S => ⟨W', trivial⟩⟩
  | fo c xs =>
    obtain ⟨b, vs, rfl, h1, h2, h3, h4, h5⟩ := r
    obtain ⟨o, ho⟩ := h1.ho
    refine ⟨upd B b o, same_upd h3, fun c hc => ?_, W.hold ho h2 h4, fun H0' H' σ' ρ' W' S => ?_⟩
    · cases q : B c with
      | none => rfl
      | some u => rw [upd_ne (ne_of_none q h3), q] at hc; cases hc
    · obtain ⟨W2, g1, g2, g3⟩ := W'.unhold h3 (Same.free W.s00 h2)
      exact ⟨W2, b, vs, rfl, h1.of (g1.trans ho.symm), g2, h3, g3, h5.mono S⟩
theorem VlR.base {B1 : Hp} {x : Val} (hn : ∀ a, B1 a = none → B a = none) (r : VlR C.K B1 H0 H σ ρ v x) : VlR C.K B H0 H σ ρ v x := by
  cases x with
  | sl i => exact r
  | sh d => exact r
  | fr xs =>
    obtain ⟨b, vs, h0, h1, h2, h3, h4⟩ := r
    exact ⟨b, vs, h0, h1, h2, hn _ h3, h4⟩
  | fo c xs =>
    obtain ⟨b, vs, h0, h1, h2, h3, h4⟩ := r
    exact ⟨b, vs, h0, h1, h2, hn _ h3, h4⟩
  | gone => trivial
def sOpt (o : Option Rho) (k : Rho → SOut) : SOut := match o with
  | some ρ => k ρ
  | none => .stuck
def sPar2 (i j : Nat) (da db : M Val) : SD := sBind da fun x => sBind (nrm x) fun x => sBind db fun y => sBind (nrm y) fun y ρ => sOpt (stI j y ρ) fun ρ => gOpt (stI i x ρ)
theorem sBind_stG {α : Type} {D : Ends} {m : M α} {k : α → SD} (h : stS C H0 D (sBind m k ρ)) : stG C C.Hb H0 σ (fun H0' _ ρ' a => stS C H0' D (k a ρ')) (m ρ) := stS_bind h
theorem nrm_runS {D : Ends} {x : Val} {k : Val → SD} {T : Prop} (W : Wd C B H0 H σ ρ) (r : VlR C.K B H0 H σ ρ v x) (h : stS C H0 D (sBind (nrm x) k ρ))
    (hk : ∀ H0' ρ' y, Wd C B H0' H σ ρ' → Same H0 H0' → VlR C.K B H0' H σ ρ' v y → notSl y → stS C H0' D (k y ρ') → T) : T := by
  cases x with
  | sh d => exact hk H0 ρ _ W (Same.refl _) r trivial h
  | fr xs => exact hk H0 ρ _ W (Same.refl _) r trivial h
  | fo c xs => exact hk H0 ρ _ W (Same.refl _) r trivial h
  | gone => exact hk H0 ρ _ W (Same.refl _) r trivial h
  | sl i =>
    unfold sBind nrm mbind at h
    simp only at h
    cases e : shr (.sl i) ρ with
    | stuck => rw [e] at h; exact h.elim
    | exc c ρ1 => exact (shr_exc e).elim
    | ok d ρ1 =>
      rw [e] at h
      obtain ⟨H1, S1, W1, r1⟩ := shr_ok W r e
      exact hk H1 ρ1 (.sh d) W1 S1 r1 trivial (stS_base h S1)
theorem tDS_runB {D : Ends} {da : M Val} {k : Val → SD} {Q : VK} (hB : Same C.Hb B) (W : Wd C B H0 H σ ρ) (h : stS C H0 D (sBind da k ρ))
    (hk : ∀ H0' H' ρ' x v, Wd C B H0' H' σ ρ' → Same H0 H0' → VlR C.K B H0' H' σ ρ' v x → stS C H0' D (k x ρ') → Q v H') : tD C da σ H Q := by
  refine ⟨B, H0, ρ, hB, W, ?_⟩
  unfold sBind at h
  cases e : da ρ with
  | stuck => rw [e] at h; exact h
  | ok x ρ' => rw [e] at h; exact fun H0' H' W' S v r => hk H0' H' ρ' x v W' S r (stS_base h S)
  | exc c ρ' => rw [e] at h; exact h
theorem ds_par2 {i j : Nat} {x y : Str} {a b : Expr} {da db : M Val} {px py pt pos : Pos} {kt k2 pt2} (hc : X.calm = true) (hN : X.N.Nodup) (hi : X.N[i]? = some x) (hj : X.N[j]? = some y) (hij : i ≠ j)
    (hp : PS X (.Assign [.Tuple [.Name x px, .Name y py] kt pt] (.Tuple [a, b] k2 pt2) pos) (tPar i j (tCons (tD C da) (tCons (tD C db) tNil)))) :
    DS X C (.Assign [.Tuple [.Name x px, .Name y py] kt pt] (.Tuple [a, b] k2 pt2) pos) (sPar2 i j da db) :=
  ⟨PS.imp hp fun D σ H ⟨H0, ρ, W, q⟩ => by
    refine tDS_run W q fun H1 H' ρ1 x v W1 S1 r1 q1 => ?_
    refine nrm_runS W1 r1 q1 fun H2 ρ2 x W2 S2 r2 n2 q2 => ?_
    obtain ⟨B1, hB1, hn1, W3, back⟩ := holdV W2 r2 n2
    refine tDS_runB hB1 W3 q2 fun H4 H4' ρ4 y u W4 S4 r4 q4 => ?_
    refine nrm_runS W4 r4 q4 fun H5 ρ5 y W5 S5 r5 n5 q5 => ?_
    refine ⟨v, u, rfl, ?_⟩
    cases e1 : stI j y ρ5 with
    | none => rw [e1] at q5; exact q5.elim
    | some ρ6 =>
      rw [e1] at q5
      obtain ⟨H6, S6, W6⟩ := stI_ok W5 r5 e1
      obtain ⟨W7, r7⟩ := back H6 _ _ _ W6 ((S4.trans S5).trans S6)
      have q5 : stS C H5 D (gOpt (stI i x ρ6)) := q5
      cases e2 : stI i x ρ6 with
      | none => rw [e2] at q5; exact q5.elim
      | some ρ7 =>
        rw [e2] at q5
        obtain ⟨H8, S8, W8⟩ := stI_ok W7 r7 e2
        rw [List.set_comm _ _ hij]
        exact q5 H8 _ _ W8 (S6.trans S8)⟩
def sPar3 (i j l : Nat) (da db dc : M Val) : SD := sBind da fun x => sBind (nrm x) fun x => sBind db fun y => sBind (nrm y) fun y => sBind dc fun z => sBind (nrm z) fun z ρ => sOpt (stI l z ρ) fun ρ => sOpt (stI j y ρ) fun ρ => gOpt (stI i x ρ)
theorem ds_par3 {i j l : Nat} {x y z : Str} {a b c : Expr} {da db dc : M Val} {px py pz pt pos : Pos} {kt k2 pt2} (hij : i ≠ j) (hil : i ≠ l) (hjl : j ≠ l)
    (hp : PS X (.Assign [.Tuple [.Name x px, .Name y py, .Name z pz] kt pt] (.Tuple [a, b, c] k2 pt2) pos) (tPar3 i j l (tCons (tD C da) (tCons (tD C db) (tCons (tD C dc) tNil))))) :
    DS X C (.Assign [.Tuple [.Name x px, .Name y py, .Name z pz] kt pt] (.Tuple [a, b, c] k2 pt2) pos) (sPar3 i j l da db dc) :=
  ⟨PS.imp hp fun D σ H ⟨H0, ρ, W, q⟩ => by
    refine tDS_run W q fun H1 H' ρ1 x v W1 S1 r1 q1 => ?_
    refine nrm_runS W1 r1 q1 fun H2 ρ2 x W2 S2 r2 n2 q2 => ?_
    obtain ⟨B1, hB1, hn1, W3, back1⟩ := holdV W2 r2 n2
    refine tDS_runB hB1 W3 q2 fun H4 H4' ρ4 y u W4 S4 r4 q4 => ?_
    refine nrm_runS W4 r4 q4 fun H5 ρ5 y W5 S5 r5 n5 q5 => ?_
    obtain ⟨B2, hB2, hn2, W6, back2⟩ := holdV W5 r5 n5
    refine tDS_runB (hB1.trans hB2) W6 q5 fun H7 H7' ρ7 z w W7 S7 r7 q7 => ?_
    refine nrm_runS W7 r7 q7 fun H8 ρ8 z W8 S8 r8 n8 q8 => ?_
    refine ⟨v, u, w, rfl, ?_⟩
    cases e1 : stI l z ρ8 with
    | none => rw [e1] at q8; exact q8.elim
    | some ρ9 =>
      rw [e1] at q8
      obtain ⟨H9, S9, W9⟩ := stI_ok W8 r8 e1
      obtain ⟨W10, r10⟩ := back2 H9 _ _ _ W9 ((S7.trans S8).trans S9)
      have q8 : stS C H8 D (sOpt (stI j y ρ9) fun ρ => gOpt (stI i x ρ)) := q8
      cases e2 : stI j y ρ9 with
      | none => rw [e2] at q8; exact q8.elim
      | some ρ10 =>
        rw [e2] at q8
        obtain ⟨H11, S11, W11⟩ := stI_ok W10 r10 e2
        obtain ⟨W12, r12⟩ := back1 H11 _ _ _ W11 (((((S4.trans S5).trans S7).trans S8).trans S9).trans S11)
        have q8 : stS C H8 D (gOpt (stI i x ρ10)) := q8
        cases e3 : stI i x ρ10 with
        | none => rw [e3] at q8; exact q8.elim
        | some ρ11 =>
          rw [e3] at q8
          obtain ⟨H13, S13, W13⟩ := stI_ok W12 r12 e3
          have e4 : (((σ.set i (some v)).set j (some u)).set l (some w)) = (((σ.set l (some w)).set j (some u)).set i (some v)) := by
            rw [List.set_comm (some v) (some u) hij, List.set_comm (some v) (some w) hil, List.set_comm (some u) (some w) hjl]
          rw [e4]
          exact q8 H13 _ _ W13 ((S9.trans S11).trans S13)⟩
end
end DL
end

section
set_option Elab.async false
set_option linter.all false
set_option maxRecDepth 100000
set_option maxHeartbeats 2000000
namespace DL
open PySem PySem.Spec PyProof.Rows L2

/-! ### a def's promise, with no repr running around it -/
structure RoomG (k : Nat) (A : Around) : Prop where
  room : Room k A
  gd : 40 ≤ k → A.guards = some []
theorem RoomG.mono {j k : Nat} {A : Around} (r : RoomG k A) (h : j ≤ k) : RoomG j A := ⟨r.room.mono h, fun z => r.gd (Nat.le_trans z h)⟩
structure FnG (P : Program) (w : World) (K : PySem.W.Frag) (mg : Str → Option Value) (base : Heap) (CX : CXT) (k : Nat) (f : Addr) (fd : FuncData) (ps : List Str) (sp : Sp) : Prop where
  len : ∀ vs H Q E, sp vs H Q E → vs.length = ps.length
  run : ∀ (A : Around) (outer : List Env) (s : Shared) (H : Hp) (args : Args) (us : List Value) (vs : List V) (Q : VK) (E : XK), RoomG k A → Env0 P w K mg base A outer s H → BindsTo s fd args (ps.zip us) → Vals vs us → sp vs H Q E →
    codeAny (model P w) A (.call (.ref f) args) (CR CX outer P w H s Q E) s
theorem FnG.mono {P : Program} {w : World} {K : PySem.W.Frag} {mg : Str → Option Value} {base : Heap} {CX : CXT} {j k : Nat} {f : Addr} {fd : FuncData} {ps : List Str} {sp : Sp} (F : FnG P w K mg base CX j f fd ps sp) (h : j ≤ k) :
    FnG P w K mg base CX k f fd ps sp := ⟨F.len, fun A outer s H args us vs Q E hr => F.run A outer s H args us vs Q E (hr.mono h)⟩
theorem fnG_of {CX : CXT} {P : Program} {w : World} {K : PySem.W.Frag} {mg : Str → Option Value} {base : Heap} {k : Nat} {f : Addr} {name qual : Str} {params : Arguments} {body : List Stmt} {scope : Scope} {dV kV doc pm cdv ct oc : Value} {an od : Option Addr}
    {osl : Array (Option Value)} {N ps : List Str} {sp : Sp} (lk : K.lookup f = some ⟨oc, od, .func (PySem.W.fnOf name qual params body scope dV kV doc pm an cdv ct), osl⟩) (hcd : PySem.W.codeIn K cdv qual = true) (S : FnScope N ps scope)
    (len : ∀ vs H Q E, sp vs H Q E → vs.length = ps.length)
    (hbody : ∀ (A : Around) (outer : List Env) (s : Shared) (H : Hp) (vs : List V) (Q : VK) (E : XK), RoomG k (A.deeper (envOfC qual scope s.heap.objs.size f cdv)) → sp vs H Q E →
      ∃ t, PSs (cxOf CX P w K mg base N qual scope f cdv A outer s H E) body t ∧ t { nx := fun _ H' => Q .non H', rt := Q } (start N vs) H) :
    FnG P w K mg base CX (k + 1) f (PySem.W.fnOf name qual params body scope dV kV doc pm an cdv ct) ps sp := by
  refine ⟨len, fun A outer s H args us vs Q E hr e0 hb r hsp => ?_⟩
  have hl := len _ _ _ _ hsp
  have KX : K.In s.heap := e0.mod.kin.keeps fun b o e => (e0.bs b o e).1
  have lim : s.heap.NoLimit := e0.mod.nolimit.keeps fun b o e => (e0.bs b o e).1
  have hkind : ∀ y ∈ ps.zip us, scope.names.lookup y.1 = some .local ∨ (scope.names.lookup y.1 = some .cell ∧ ((cellsFrom (s.heap.objs.size + 1) scope.names []).lookup y.1).isSome = true) := fun ⟨n, v⟩ hy => by
    rcases S.par n (List.of_mem_zip hy).1 with q | q
    · exact .inl q
    · exact .inr ⟨q, PySem.W.cellsFrom_some _ _ _ (.inl q)⟩
  refine codeAny_call_function hr.room.depth (KX _ _ lk) rfl S.co S.gen rfl (PySem.W.codeRec_of KX hcd) (hb _ _ _ _ ?_)
  refine wpAny_newFunctionEnv_cells S.kind hkind fun env he s1 x => ?_
  subst he
  refine ⟨lim.keeps x.toInCall.keep, codeAny_func ?_⟩
  obtain ⟨t, ht, hq⟩ := hbody A outer s H vs Q E ⟨hr.room.deeper _, fun z => hr.gd (Nat.le_succ_of_le z)⟩ hsp
  have I : Inv (cxOf CX P w K mg base N qual scope f cdv A outer s H E) [] (start N vs) H s1 := inv_start S hr.room.hd e0 hl r x
  refine wpAny_mono (ht.run [] s1 (start N vs) H _ I hq) (fun fl s' hs => ?_) fun e s' hs => hs
  have fin : ∀ {σ' : L2.St} {H' : Hp} {v : V} {u : Value}, Inv (cxOf CX P w K mg base N qual scope f cdv A outer s H E) [] σ' H' s' → RelV v u → Q v H' → CE outer P w H s Q u s' :=
    fun {σ' H' v u} J rv q => ⟨v, H', J.os, J.bare, J.base, J.hok, rv, q⟩
  cases fl with
  | ret u =>
    obtain ⟨v, σ', H', J, rv, q⟩ := hs
    exact fin J rv q
  | next =>
    obtain ⟨σ', H', J, q⟩ := hs
    exact fin (v := V.non) (u := Value.none) J rfl q
  | brk =>
    obtain ⟨_, _, _, q⟩ := hs
    exact False.elim q
  | cont =>
    obtain ⟨_, _, _, q⟩ := hs
    exact False.elim q
section
variable {X : Cx} {CX : CXT} {k : Nat} {f : Addr} {fd : FuncData} {ps : List Str} {sp : Sp} {E : L2.St → XK} {x : Str} {p pos : Pos} {e : Expr} {es : List Expr} {t : TA} {dvs : List V} {ds : List Value}
theorem run_fnG {pins : List (Addr × Obj)} {σ : L2.St} {H : Hp} {s : Shared} {Q : VK} {us : List Value} {vs : List V} (F : FnG X.prog X.w X.K X.mg X.base CX k f fd ps sp) (hr : RoomG k X.A) (hb : Binds X.K fd ps ds) (hd : Vals dvs ds) (hx : PassesAt CX X σ (E σ))
    (I : Inv X pins σ H s) (r : Vals vs us) (h : sp (vs ++ dvs) H Q (E σ)) : wpAny (model X.prog X.w) X.A (call (.ref f) us) (EP X pins σ Q) X.xe s := by
  have r2 : Vals (vs ++ dvs) (us ++ ds) := r.append hd
  have hl : (us ++ ds).length = ps.length := by rw [← r2.length]; exact F.len _ _ _ _ h
  refine wpAny_call (codeAny_mono (F.run X.A X.stack s H ⟨us, []⟩ (us ++ ds) (vs ++ dvs) Q (E σ) hr I.env0 (hb s us I.kIn hl) r2 h) fun r s' hq => ?_)
  cases r with
  | error e => exact hx pins H s e s' I hq
  | ok fl =>
    cases fl with
    | ret u => exact I.after hq
    | next => exact False.elim hq
    | brk => exact False.elim hq
    | cont => exact False.elim hq
theorem pe_callG (F : FnG X.prog X.w X.K X.mg X.base CX k f fd ps sp) (hr : RoomG k X.A) (hg : Gl X x) (hm : X.mg x = some (.ref f)) (hk : PySem.W.keepIn X.K (.ref f) = true) (hb : Binds X.K fd ps ds) (hd : Vals dvs ds) (hx : ∀ σ, PassesAt CX X σ (E σ))
    (ha : PA X (e :: es) t) (hdb : (x == ("__debug__" : Str)) = false) (he : starEach (e :: es) X.env = (false, eval e X.env) :: starEach es X.env) (hpl : (backTo pos (starEach es X.env)).any (·.1) = false) :
    PE X (.Call (.Name x p) (e :: es) [] pos) (tCallSD sp dvs E t) := by
  refine ⟨fun pins s σ H Q I h => ?_⟩
  refine wpAny_Call_Name_kw (ld_glob I hg hm ?_ hdb)
  refine PySem.W.callWith_K (h₀ := X.base) I.ok.mod.kin hk (thn (ha.run pos pins s σ H _ I h) fun us s1 ⟨vs, H1, I1, r, q⟩ => ⟨I1.kIn, ?_⟩) he hpl
  exact run_fnG F hr hb hd (hx σ) I1 r q
theorem pe_callG0 (F : FnG X.prog X.w X.K X.mg X.base CX k f fd ps sp) (hr : RoomG k X.A) (hg : Gl X x) (hm : X.mg x = some (.ref f)) (hk : PySem.W.keepIn X.K (.ref f) = true) (hb : Binds X.K fd ps ds) (hd : Vals dvs ds) (hx : ∀ σ, PassesAt CX X σ (E σ))
    (hdb : (x == ("__debug__" : Str)) = false) : PE X (.Call (.Name x p) [] [] pos) (tCallSD sp dvs E tNil) := by
  refine ⟨fun pins s σ H Q I h => ?_⟩
  refine wpAny_Call_Name_kw (ld_glob I hg hm ?_ hdb)
  exact PySem.W.callWith_K0 I.kIn hk (run_fnG (us := []) F hr hb hd (hx σ) I .nil h)
end

/-! ### a def as a function on data -/
inductive Arg where
  | sh (d : PyData) | bo (xs : List PyData) | ob (c : Nat) (xs : List PyData)
def Arg.isB : Arg → Bool
  | .sh _ => false
  | _ => true
inductive FRes where
  | stuck | ret (r : RV) (bs : List (List PyData)) | exc (c : Nat) (bs : List (List PyData))
abbrev Fn := List Arg → FRes
def ArgR (K : PySem.W.Frag) (H0 H : Hp) (v : V) : Arg → Prop
  | .sh d => Rp K H0 v d
  | .bo xs => ∃ a vs, v = .ref a ∧ H a = some (.lst vs) ∧ H0 a = none ∧ RpA K H0 vs xs
  | .ob c xs => ∃ a vs, v = .ref a ∧ ObH K H a c vs ∧ H0 a = none ∧ RpA K H0 vs xs ∧ c = 0
theorem ArgR.ref {K : PySem.W.Frag} {H0 H : Hp} {v : V} {x : Arg} (r : ArgR K H0 H v x) (h : x.isB = true) : ∃ a, v = .ref a := by
  cases x with
  | sh d => cases h
  | bo xs => obtain ⟨a, _, e, _⟩ := r; exact ⟨a, e⟩
  | ob c xs => obtain ⟨a, _, e, _⟩ := r; exact ⟨a, e⟩
/-- a cell as it was lent, with other things in it -/
def CelK (o : Option HO) (us : List V) (o' : Option HO) : Prop := match o with
  | some (.lst _) => o' = some (.lst us)
  | some (.ins cl _ _) => ∃ dx, us.length ≤ (FLD 0).length ∧ o' = some (.ins cl dx ((FLD 0).zip us))
  | _ => False
/-- the borrowed lists' addresses -/
def boA : List V → List Arg → List Addr
  | .ref a :: vs, .bo _ :: as => a :: boA vs as
  | .ref a :: vs, .ob _ _ :: as => a :: boA vs as
  | _ :: vs, _ :: as => boA vs as
  | _, _ => []
structure Aft (K : PySem.W.Frag) (H0 H : Hp) (bo : List Addr) (bs : List (List PyData)) (H0' H' : Hp) : Prop where
  s0 : Same H0' H'
  s00 : Same H0 H0'
  kp : ∀ a o, a ∉ bo → H a = some o → H' a = some o
  nf : ∀ a, H a ≠ none → H0 a = none → H0' a = none
  bos : Paired (fun a xs => ∃ us, CelK (H a) us (H' a) ∧ RpA K H0' us xs) bo bs
def RvF (K : PySem.W.Frag) (H H0' H' : Hp) (v : V) : RV → Prop
  | .sh d => Rp K H0' v d
  | .fr xs => ∃ a us, v = .ref a ∧ H' a = some (.lst us) ∧ H0' a = none ∧ H a = none ∧ RpA K H0' us xs
  | .fo c xs => ∃ a us, v = .ref a ∧ ObH K H' a c us ∧ H0' a = none ∧ H a = none ∧ RpA K H0' us xs
def frOk (K : PySem.W.Frag) (cls : Nat → Value) (H0 H : Hp) (bo : List Addr) (Q : VK) (E : XK) : FRes → Prop
  | .stuck => False
  | .ret r bs => ∀ H0' H' v, Aft K H0 H bo bs H0' H' → RvF K H H0' H' v r → Q v H'
  | .exc c bs => ∀ H0' H', Aft K H0 H bo bs H0' H' → E (cls c) none H'
def spF (K : PySem.W.Frag) (cls : Nat → Value) (n : Nat) (F : Fn) : Sp := fun vs H Q E => vs.length = n ∧ ∃ H0 as, Same H0 H ∧ Paired (ArgR K H0 H) vs as ∧ (boA vs as).Nodup ∧ frOk K cls H0 H (boA vs as) Q E (F as)

/-! ### the callee's side -/
def argSl : Arg → Sl
  | .sh d => .sh d
  | .bo xs => .bo xs
  | .ob c xs => .ob c xs
def boIx : List Arg → Nat → List Nat
  | [], _ => []
  | .bo _ :: as, i => i :: boIx as (i + 1)
  | .ob _ _ :: as, i => i :: boIx as (i + 1)
  | .sh _ :: as, i => boIx as (i + 1)
def boC : Option Sl → List PyData
  | some (.bo xs) => xs
  | some (.ob _ xs) => xs
  | _ => []
theorem boC_cel {s : Sl} {k k' : Option Nat} {xs : List PyData} (h : bK (some s) = some k) (e : s.cel = some (k', xs)) : k' = k ∧ boC (some s) = xs := by
  cases s <;> cases h <;> cases e <;> exact ⟨rfl, rfl⟩
def rho0 (N : Nat) (as : List Arg) : Rho := as.map argSl ++ List.replicate (N - as.length) .no
def fnRes (d : SD) (N : Nat) : Fn := fun as => match d (rho0 N as) with
  | .rt r ρ' => .ret r ((boIx as 0).map fun i => boC ρ'[i]?)
  | .nx ρ' => .ret (.sh .none) ((boIx as 0).map fun i => boC ρ'[i]?)
  | .exc c ρ' => .exc c ((boIx as 0).map fun i => boC ρ'[i]?)
  | _ => .stuck
def Lnk (X : Cx) (C : Ctx) (cls : Nat → Value) : Prop := Takes X (fun c d σ H => d = none ∧ ∃ k H0 ρ, c = cls k ∧ Wd C C.Hb H0 H σ ρ ∧ C.wish k ρ)
theorem Paired.length' {α β : Type} {R : α → β → Prop} {xs : List α} {ys : List β} (h : Paired R xs ys) : xs.length = ys.length := Paired.length h
theorem Paired.get' {α β : Type} {R : α → β → Prop} : ∀ {xs : List α} {ys : List β} {i : Nat} {y : β}, Paired R xs ys → ys[i]? = some y → ∃ x, xs[i]? = some x ∧ R x y
  | _, _, _, _, .nil, e => by simp at e
  | _, _, 0, _, .cons r _, e => by simp at e; subst e; exact ⟨_, rfl, r⟩
  | _, _, i + 1, _, .cons _ t, e => Paired.get' (i := i) t (by simpa using e)
theorem boA_cons {vs : List V} {as : List Arg} {v : V} {x : Arg} : boA (v :: vs) (x :: as) = (match v, x with
  | .ref a, .bo _ => [a]
  | .ref a, .ob _ _ => [a]
  | _, _ => []) ++ boA vs as := by
  cases x <;> cases v <;> rfl
theorem boA_no {vs : List V} {as : List Arg} {v : V} {x : Arg} (h : x.isB = false) : boA (v :: vs) (x :: as) = boA vs as := by
  cases x with
  | sh d => cases v <;> rfl
  | bo xs => cases h
  | ob c xs => cases h
theorem boA_yes {vs : List V} {as : List Arg} {a : Addr} {x : Arg} (h : x.isB = true) : boA (.ref a :: vs) (x :: as) = a :: boA vs as := by
  cases x with
  | sh d => cases h
  | bo xs => rfl
  | ob c xs => rfl
theorem boA_mem {K : PySem.W.Frag} {H0 H : Hp} : ∀ {vs : List V} {as : List Arg} {a : Addr}, Paired (ArgR K H0 H) vs as → a ∈ boA vs as → ∃ (i : Nat) (x : Arg), as[i]? = some x ∧ x.isB = true ∧ vs[i]? = some (.ref a)
  | _, _, _, .nil, h => by simp [boA] at h
  | v :: vs, x :: as, a, .cons r t, h => by
    cases e : x.isB with
    | false =>
      rw [boA_no e] at h
      obtain ⟨i, y, h1, h2, h3⟩ := boA_mem t h
      exact ⟨i + 1, y, by simpa using h1, h2, by simpa using h3⟩
    | true =>
      obtain ⟨b, rfl⟩ := r.ref e
      rw [boA_yes e] at h
      rcases List.mem_cons.mp h with rfl | h'
      · exact ⟨0, x, rfl, e, rfl⟩
      · obtain ⟨i, y, h1, h2, h3⟩ := boA_mem t h'
        exact ⟨i + 1, y, by simpa using h1, h2, by simpa using h3⟩
theorem boA_of {K : PySem.W.Frag} {H0 H : Hp} : ∀ {vs : List V} {as : List Arg} {i : Nat} {x : Arg} {a : Addr}, Paired (ArgR K H0 H) vs as → as[i]? = some x → vs[i]? = some (.ref a) → x.isB = true → a ∈ boA vs as
  | _, _, _, _, _, .nil, h, _, _ => by simp at h
  | v :: vs, x :: as, 0, _, a, .cons r t, h1, h2, h3 => by
    simp at h1 h2
    subst h1 h2
    rw [boA_yes h3]
    exact List.mem_cons_self ..
  | v :: vs, x :: as, i + 1, _, a, .cons r t, h1, h2, h3 => by
    have q := boA_of (i := i) t (by simpa using h1) (by simpa using h2) h3
    rw [boA_cons]
    exact List.mem_append_right _ q
theorem boA_inj {K : PySem.W.Frag} {H0 H : Hp} : ∀ {vs : List V} {as : List Arg} {i j : Nat} {x y : Arg} {a : Addr}, Paired (ArgR K H0 H) vs as → (boA vs as).Nodup → as[i]? = some x → x.isB = true → vs[i]? = some (.ref a) → as[j]? = some y → y.isB = true → vs[j]? = some (.ref a) → i = j
  | _, _, _, _, _, _, _, .nil, _, h, _, _, _, _, _ => by simp at h
  | v :: vs, x :: as, 0, 0, _, _, a, .cons r t, _, h1, _, h2, h3, _, h4 => rfl
  | v :: vs, x :: as, 0, j + 1, _, _, a, .cons r t, nd, h1, b1, h2, h3, b2, h4 => by
    simp at h1 h2
    subst h1 h2
    have q := boA_of (i := j) t (by simpa using h3) (by simpa using h4) b2
    rw [boA_yes b1] at nd
    exact absurd q (List.nodup_cons.mp nd).1
  | v :: vs, x :: as, i + 1, 0, _, _, a, .cons r t, nd, h1, b1, h2, h3, b2, h4 => by
    simp at h3 h4
    subst h3 h4
    have q := boA_of (i := i) t (by simpa using h1) (by simpa using h2) b1
    rw [boA_yes b2] at nd
    exact absurd q (List.nodup_cons.mp nd).1
  | v :: vs, x :: as, i + 1, j + 1, _, _, a, .cons r t, nd, h1, b1, h2, h3, b2, h4 => by
    have nd' : (boA vs as).Nodup := by
      rw [boA_cons] at nd
      exact (List.nodup_append.mp nd).2.1
    exact congrArg (· + 1) (boA_inj t nd' (by simpa using h1) b1 (by simpa using h2) (by simpa using h3) b2 (by simpa using h4))
/-- the slots of the borrowed lists, with their addresses -/
def boP : List V → List Arg → Nat → List (Nat × Addr)
  | .ref a :: vs, .bo _ :: as, i => (i, a) :: boP vs as (i + 1)
  | .ref a :: vs, .ob _ _ :: as, i => (i, a) :: boP vs as (i + 1)
  | _ :: vs, _ :: as, i => boP vs as (i + 1)
  | _, _, _ => []
theorem boP_no {vs : List V} {as : List Arg} {v : V} {x : Arg} {i : Nat} (h : x.isB = false) : boP (v :: vs) (x :: as) i = boP vs as (i + 1) := by
  cases x with
  | sh d => cases v <;> rfl
  | bo xs => cases h
  | ob c xs => cases h
theorem boP_yes {vs : List V} {as : List Arg} {a : Addr} {x : Arg} {i : Nat} (h : x.isB = true) : boP (.ref a :: vs) (x :: as) i = (i, a) :: boP vs as (i + 1) := by
  cases x with
  | sh d => cases h
  | bo xs => rfl
  | ob c xs => rfl
theorem boIx_no {as : List Arg} {x : Arg} {i : Nat} (h : x.isB = false) : boIx (x :: as) i = boIx as (i + 1) := by
  cases x with
  | sh d => rfl
  | bo xs => cases h
  | ob c xs => cases h
theorem boIx_yes {as : List Arg} {x : Arg} {i : Nat} (h : x.isB = true) : boIx (x :: as) i = i :: boIx as (i + 1) := by
  cases x with
  | sh d => cases h
  | bo xs => rfl
  | ob c xs => rfl
theorem boP_snd {K : PySem.W.Frag} {H0 H : Hp} : ∀ {vs : List V} {as : List Arg} (i : Nat), Paired (ArgR K H0 H) vs as → (boP vs as i).map (·.2) = boA vs as ∧ (boP vs as i).map (·.1) = boIx as i
  | _, _, _, .nil => ⟨rfl, rfl⟩
  | v :: vs, x :: as, i, .cons r t => by
    obtain ⟨h1, h2⟩ := boP_snd (i + 1) t
    cases e : x.isB with
    | false => rw [boP_no e, boA_no e, boIx_no e]; exact ⟨h1, h2⟩
    | true =>
      obtain ⟨b, rfl⟩ := r.ref e
      rw [boP_yes e, boA_yes e, boIx_yes e]
      exact ⟨by show b :: _ = b :: _; rw [h1], by show i :: _ = i :: _; rw [h2]⟩
theorem boP_mem {K : PySem.W.Frag} {H0 H : Hp} : ∀ {vs : List V} {as : List Arg} {i : Nat} {p : Nat × Addr}, Paired (ArgR K H0 H) vs as → p ∈ boP vs as i → ∃ (j : Nat) (x : Arg), p.1 = i + j ∧ as[j]? = some x ∧ x.isB = true ∧ vs[j]? = some (.ref p.2)
  | _, _, _, _, .nil, h => by simp [boP] at h
  | v :: vs, x :: as, i, p, .cons r t, h => by
    have step : p ∈ boP vs as (i + 1) → ∃ (j : Nat) (y : Arg), p.1 = i + j ∧ (x :: as)[j]? = some y ∧ y.isB = true ∧ (v :: vs)[j]? = some (.ref p.2) := fun h => by
      obtain ⟨j, y, h1, h2, h3, h4⟩ := boP_mem t h
      exact ⟨j + 1, y, by omega, by simpa using h2, h3, by simpa using h4⟩
    cases e : x.isB with
    | false => rw [boP_no e] at h; exact step h
    | true =>
      obtain ⟨b, rfl⟩ := r.ref e
      rw [boP_yes e] at h
      rcases List.mem_cons.mp h with rfl | h'
      · exact ⟨0, x, rfl, rfl, e, rfl⟩
      · exact step h'
end DL
end

section
set_option Elab.async false
set_option linter.all false
set_option maxRecDepth 100000
set_option maxHeartbeats 2000000
namespace DL
open PySem PySem.Spec PyProof.Rows L2

/-- the world at a def's entry -/
def entryB (H : Hp) (bo : List Addr) : Hp := fun a => if a ∈ bo then none else H a
theorem start_get {N : List Str} {vs : List V} {i : Nat} {v : V} (h : vs[i]? = some v) : (L2.start N vs)[i]? = some (some v) := by
  unfold L2.start
  rw [List.getElem?_append_left (by simpa using lt_of_get h), List.getElem?_map, h]
  rfl
theorem rho0_get {n : Nat} {as : List Arg} {i : Nat} {s : Sl} (h : (rho0 n as)[i]? = some s) : (∃ a, as[i]? = some a ∧ s = argSl a) ∨ s = .no := by
  unfold rho0 at h
  by_cases hi : i < (as.map argSl).length
  · rw [List.getElem?_append_left hi, List.getElem?_map] at h
    obtain ⟨a, h1, h2⟩ := Option.map_eq_some_iff.mp h
    exact .inl ⟨a, h1, h2.symm⟩
  · rw [List.getElem?_append_right (by omega), List.getElem?_replicate] at h
    split at h
    · exact .inr (Option.some.inj h).symm
    · cases h
theorem rho0_at {n : Nat} {as : List Arg} {i : Nat} {a : Arg} (h : as[i]? = some a) : (rho0 n as)[i]? = some (argSl a) := by
  unfold rho0
  rw [List.getElem?_append_left (by simpa using lt_of_get h), List.getElem?_map, h]
  rfl
/-- the kinds of the lent cells -/
def ksOf (as : List Arg) (i : Nat) : Option Nat := (bK ((as[i]?).map argSl)).getD none
theorem ksOf_at {as : List Arg} {i : Nat} {x : Arg} (h : as[i]? = some x) (hb : x.isB = true) : bK (some (argSl x)) = some (ksOf as i) := by
  unfold ksOf
  rw [h]
  cases x with
  | sh d => cases hb
  | bo xs => rfl
  | ob c xs => rfl
section
variable {K : PySem.W.Frag} {H0 H : Hp} {vs : List V} {as : List Arg}
theorem CelK.celH {H H' : Hp} {a : Addr} {k : Option Nat} {vs us : List V} (h : CelH K H a k vs) (hk : k = none ∨ k = some 0) (e : CelK (H a) us (H' a)) : CelH K H' a k us := by
  rcases hk with rfl | rfl
  · have h : H a = some (.lst vs) := h
    rw [h] at e
    exact e
  · obtain ⟨cl, dx, h1, h2, h3⟩ := h
    rw [h3] at e
    obtain ⟨dx', e1, e2⟩ := e
    exact ⟨cl, dx', h1, e1, e2⟩
theorem CelK.of {H H' : Hp} {a : Addr} {k : Option Nat} {vs us : List V} (h : CelH K H a k vs) (hk : k = none ∨ k = some 0) (e : CelH K H' a k us) : CelK (H a) us (H' a) := by
  rcases hk with rfl | rfl
  · have h : H a = some (.lst vs) := h
    rw [h]
    exact e
  · obtain ⟨cl, dx, h1, h2, h3⟩ := h
    obtain ⟨cl', dx', g1, g2, g3⟩ := e
    rw [h1] at g1
    cases g1
    rw [h3]
    exact ⟨dx', g2, g3⟩
theorem ArgR.celH {v : V} {x : Arg} {k : Option Nat} (r : ArgR K H0 H v x) (e : bK (some (argSl x)) = some k) : ∃ a vs, v = .ref a ∧ CelH K H a k vs ∧ (k = none ∨ k = some 0) := by
  cases x with
  | sh d => cases e
  | bo xs => cases e; obtain ⟨a, vs, h1, h2, _⟩ := r; exact ⟨a, vs, h1, h2, .inl rfl⟩
  | ob c xs => cases e; obtain ⟨a, vs, h1, h2, _, _, rfl⟩ := r; exact ⟨a, vs, h1, h2, .inr rfl⟩
theorem entry_world {N : List Str} (s0 : Same H0 H) (r : Paired (ArgR K H0 H) vs as) (nd : (boA vs as).Nodup) (hl : vs.length ≤ N.length) (wish : Nat → Rho → Prop) :
    Wd ⟨K, entryB H (boA vs as), H0, boP vs as 0, wish, ksOf as⟩ (entryB H (boA vs as)) H0 H (L2.start N vs) (rho0 N.length as) := by
  have lv := Paired.length' r
  have own : ∀ i, Own (rho0 N.length as) i → ∃ x, as[i]? = some x ∧ x.isB = true := fun i ⟨s, h, q⟩ => by
    rcases rho0_get h with ⟨a, h1, rfl⟩ | rfl
    · refine ⟨a, h1, ?_⟩
      cases a <;> first | rfl | cases q
    · cases q
  have ref : ∀ (i : Nat) (a : Addr), (∃ x, as[i]? = some x ∧ x.isB = true) → (L2.start N vs)[i]? = some (some (.ref a)) → vs[i]? = some (.ref a) := fun i a ⟨x, h, _⟩ e => by
    obtain ⟨v, h1, _⟩ := Paired.get' r h
    rw [start_get h1] at e
    cases e
    exact h1
  have hB : ∀ b, b ∈ boA vs as → entryB H (boA vs as) b = none := fun b hb => by
    unfold entryB
    rw [if_pos hb]
  refine ⟨s0, fun b u e => ?_, Same.refl _, fun a h _ => h, fun i s e => ?_, fun i j a o1 o2 e1 e2 => ?_, ?_, fun p hp => ?_⟩
  · unfold entryB at e
    split at e
    · cases e
    · exact e
  · rcases rho0_get e with ⟨a, h1, rfl⟩ | rfl
    · obtain ⟨v, h2, h3⟩ := Paired.get' r h1
      cases a with
      | sh d => exact ⟨v, start_get h2, h3⟩
      | bo xs =>
        obtain ⟨b, us, rfl, g1, g2, g3⟩ := h3
        exact ⟨b, us, start_get h2, g1, g2, hB b (boA_of r h1 h2 rfl), g3⟩
      | ob c xs =>
        obtain ⟨b, us, rfl, g1, g2, g3, _⟩ := h3
        exact ⟨b, us, start_get h2, g1, g2, hB b (boA_of r h1 h2 rfl), g3⟩
    · trivial
  · obtain ⟨x, h1, b1⟩ := own i o1
    obtain ⟨y, h2, b2⟩ := own j o2
    exact boA_inj r nd h1 b1 (ref i a ⟨x, h1, b1⟩ e1) h2 b2 (ref j a ⟨y, h2, b2⟩ e2)
  · unfold L2.start rho0
    rw [List.length_append, List.length_append, List.length_map, List.length_map, List.length_replicate, List.length_replicate]
    omega
  · obtain ⟨j, x, h1, h2, hb, h3⟩ := boP_mem r hp
    have e : p.1 = j := by omega
    rw [e]
    exact ⟨start_get h3, by rw [rho0_at h2]; exact ksOf_at h2 hb⟩
theorem paired_mapP {α β γ δ : Type} {R : α → β → Prop} {f : γ → α} {g : γ → β} : ∀ {l : List γ}, (∀ x ∈ l, R (f x) (g x)) → Paired R (l.map f) (l.map g)
  | [], _ => .nil
  | a :: l, h => .cons (h a (List.mem_cons_self ..)) (paired_mapP (δ := δ) (l := l) fun x hx => h x (List.mem_cons_of_mem _ hx))
/-- what a def leaves -/
theorem exit_aft {wish : Nat → Rho → Prop} {H0' H' : Hp} {σ' : L2.St} {ρ' : Rho} (r : Paired (ArgR K H0 H) vs as)
    (W : Wd ⟨K, entryB H (boA vs as), H0, boP vs as 0, wish, ksOf as⟩ (entryB H (boA vs as)) H0' H' σ' ρ') : Aft K H0 H (boA vs as) ((boIx as 0).map fun i => boC ρ'[i]?) H0' H' := by
  have nfb : ∀ a, a ∈ boA vs as → H0' a = none := fun a h => by
    rw [← (boP_snd 0 r).1] at h
    obtain ⟨p, hp, rfl⟩ := List.mem_map.mp h
    obtain ⟨ho, h1⟩ := W.boc hp
    exact (W.ownAt ⟨_, ho, h1⟩).1
  refine ⟨W.s0, W.s00, fun a o h e => W.sb a o (by show (if a ∈ boA vs as then none else H a) = some o; rw [if_neg h]; exact e), fun a h1 h2 => ?_, ?_⟩
  · by_cases h : a ∈ boA vs as
    · exact nfb a h
    · exact W.nf a h2 (by show (if a ∈ boA vs as then none else H a) ≠ none; rw [if_neg h]; exact h1)
  · rw [← (boP_snd 0 r).1, ← (boP_snd 0 r).2, List.map_map]
    refine paired_mapP (δ := Unit) fun p hp => ?_
    obtain ⟨j, x, g0, g1, gb, g2⟩ := boP_mem r hp
    have ej : p.1 = j := by omega
    obtain ⟨h1, h2⟩ := W.bo p hp
    have h2 : bK ρ'[p.1]? = some (ksOf as p.1) := h2
    obtain ⟨v, e1, rx⟩ := Paired.get' r g1
    rw [g2] at e1
    cases e1
    have ek := ksOf_at g1 gb
    rw [ej] at h2
    obtain ⟨a, vs0, ea, c1, c2⟩ := rx.celH ek
    cases ea
    cases es : ρ'[j]? with
    | none => rw [es] at h2; cases h2
    | some s =>
      rw [es] at h2
      obtain ⟨ys, q⟩ := bK_cel h2
      obtain ⟨b, us, q1, q2, q3, _, q5⟩ := (W.slot _ _ es).cel q
      rw [← ej, h1] at q1
      cases q1
      refine ⟨us, CelK.of c1 c2 q2, ?_⟩
      show RpA K H0' us (boC ρ'[p.1]?)
      rw [ej, es, (boC_cel h2 q).2]
      exact q5
end
/-- THE RULE for a def -/
theorem fn_denC {P : Program} {w : World} {K : PySem.W.Frag} {mg : Str → Option Value} {base : Heap} {x qual : Str} {st : Stmt} {f : Addr} {fd : FuncData} {N ps : List Str} {k : Nat} {d : SD} {cls : Nat → Value} (F : Fun K x qual st f fd) (S : FnScope N ps (defScope st))
    (hbody : ∀ (cdv : Value), PySem.W.codeIn K cdv qual = true → ∀ (A : Around) (outer : List Env) (s : Shared) (H : Hp) (E : XK) (C : Ctx), RoomG k (A.deeper (envOfC qual (defScope st) s.heap.objs.size f cdv)) → C.K = K →
      Lnk (cxOf (L2.CX P w) P w K mg base N qual (defScope st) f cdv A outer s H E) C cls →
      DSs (cxOf (L2.CX P w) P w K mg base N qual (defScope st) f cdv A outer s H E) C (defBody st) d) :
    FnG P w K mg base (L2.CX P w) (k + 1) f fd ps (spF K cls ps.length (fnRes d N.length)) := by
  obtain ⟨oc, od, kV, doc, pm, an, cdv, ct, osl, rfl, lk, hcd⟩ := F.ex
  have hpl : ps.length ≤ N.length := by have := congrArg List.length S.pre; rw [List.length_take] at this; omega
  refine fnG_of lk hcd S (fun vs H Q E h => h.1) fun A outer s H vs Q E hr hsp => ?_
  obtain ⟨hlen, H0, as, s0, r, nd, hk⟩ := hsp
  have hwish : ∀ (c : Nat) (ρ' : Rho), True := fun _ _ => trivial
  let C : Ctx := ⟨K, entryB H (boA vs as), H0, boP vs as 0, fun c ρ' => ∀ H0' H', Aft K H0 H (boA vs as) ((boIx as 0).map fun i => boC ρ'[i]?) H0' H' → E (cls c) none H', ksOf as⟩
  have lnk : Lnk (cxOf (L2.CX P w) P w K mg base N qual (defScope st) f cdv A outer s H E) C cls := by
    refine Takes.imp (takes_of (E := E) rfl rfl rfl rfl) fun c dd σ HH ⟨e1, kk, H0', ρ', e2, W, wq⟩ => ?_
    subst e1 e2
    exact wq H0' HH (exit_aft r W)
  refine ⟨_, (hbody cdv hcd A outer s H E C hr rfl lnk).ps, H0, rho0 N.length as, entry_world s0 r nd (by omega) _, ?_⟩
  have hd : frOk K cls H0 H (boA vs as) Q E (fnRes d N.length as) := hk
  unfold fnRes at hd
  cases e : d (rho0 N.length as) with
  | stuck => rw [e] at hd; exact hd
  | bk ρ' => rw [e] at hd; exact hd.elim
  | ct ρ' => rw [e] at hd; exact hd.elim
  | nx ρ' => rw [e] at hd; exact fun H0' H' σ' W _ => hd H0' H' .non (exit_aft r W) .non
  | exc c ρ' => rw [e] at hd; exact hd
  | rt rv ρ' =>
    rw [e] at hd
    intro H0' H' σ' v W _ rr
    refine hd H0' H' v (exit_aft r W) ?_
    have fresh : ∀ a, entryB H (boA vs as) a = none → ¬ OwnAt ρ' σ' a → H a = none := fun a g3 g4 => by
      have g3' : (if a ∈ boA vs as then none else H a) = none := g3
      split at g3'
      · rename_i hm
        refine absurd ?_ g4
        rw [← (boP_snd 0 r).1] at hm
        obtain ⟨p, hp, rfl⟩ := List.mem_map.mp hm
        obtain ⟨ho, h1⟩ := W.boc hp
        exact ⟨p.1, ho, h1⟩
      · exact g3'
    cases rv with
    | sh dd => exact rr
    | fr xs =>
      obtain ⟨a, us, rfl, g1, g2, g3, g4, g5⟩ := rr
      exact ⟨a, us, rfl, g1, g2, fresh a g3 g4, g5⟩
    | fo c xs =>
      obtain ⟨a, us, rfl, g1, g2, g3, g4, g5⟩ := rr
      exact ⟨a, us, rfl, g1, g2, fresh a g3 g4, g5⟩

theorem fn_den {P : Program} {w : World} {K : PySem.W.Frag} {mg : Str → Option Value} {base : Heap} {x qual : Str} {st : Stmt} {f : Addr} {fd : FuncData} {N ps : List Str} {k : Nat} {d : SD} {cls : Nat → Value} (F : Fun K x qual st f fd) (S : FnScope N ps (defScope st))
    (hbody : ∀ (cdv : Value) (A : Around) (outer : List Env) (s : Shared) (H : Hp) (E : XK) (C : Ctx), RoomG k (A.deeper (envOfC qual (defScope st) s.heap.objs.size f cdv)) → C.K = K →
      Lnk (cxOf (L2.CX P w) P w K mg base N qual (defScope st) f cdv A outer s H E) C cls →
      DSs (cxOf (L2.CX P w) P w K mg base N qual (defScope st) f cdv A outer s H E) C (defBody st) d) :
    FnG P w K mg base (L2.CX P w) (k + 1) f fd ps (spF K cls ps.length (fnRes d N.length)) :=
  fn_denC F S fun cdv _ => hbody cdv
/-! ### the caller's side -/
inductive AV where
  | dat (d : PyData) | slot (i : Nat)
def toAV (m : Bool) (x : Val) : M AV := match m, x with
  | true, .sl i => mpure (.slot i)
  | _, x => mbind (shr x) fun d => mpure (.dat d)
def evAV : List (Bool × M Val) → M (List AV)
  | [] => mpure []
  | (m, d) :: r => mbind d fun x => mbind (toAV m x) fun a => mbind (evAV r) fun as => mpure (a :: as)
def argOf (ρ : Rho) : AV → Option Arg
  | .dat d => some (.sh d)
  | .slot i => match ρ[i]? with
    | some (.ow xs) => some (.bo xs)
    | some (.bo xs) => some (.bo xs)
    | some (.sh d) => some (.sh d)
    | some (.oo 0 xs) => some (.ob 0 xs)
    | some (.ob 0 xs) => some (.ob 0 xs)
    | _ => none
def argsOf (ρ : Rho) : List AV → Option (List Arg)
  | [] => some []
  | a :: r => match argOf ρ a, argsOf ρ r with
    | some x, some xs => some (x :: xs)
    | _, _ => none
def isCel : Option Sl → Bool
  | some s => s.cel.isSome
  | none => false
def setC : Sl → List PyData → Sl
  | .ow _, ys => .ow ys
  | .bo _, ys => .bo ys
  | .oo c _, ys => .oo c ys
  | .ob c _, ys => .ob c ys
  | s, _ => s
theorem setC_cel {s : Sl} {k : Option Nat} {xs : List PyData} (ys : List PyData) (e : s.cel = some (k, xs)) : (setC s ys).cel = some (k, ys) := by
  cases s <;> cases e <;> rfl
theorem setC_bK (s : Sl) (ys : List PyData) : bK (some (setC s ys)) = bK (some s) := by cases s <;> rfl
theorem setC_some (s : Sl) (ys : List PyData) : (setC s ys).cel.isSome = s.cel.isSome := by cases s <;> rfl
def boSl (ρ : Rho) : List AV → List Nat
  | [] => []
  | .dat _ :: r => boSl ρ r
  | .slot i :: r => if isCel ρ[i]? = true then i :: boSl ρ r else boSl ρ r
def putBo (ρ : Rho) : List Nat → List (List PyData) → Rho
  | i :: is, xs :: xss => putBo (match ρ[i]? with
    | some s => ρ.set i (setC s xs)
    | none => ρ) is xss
  | _, _ => ρ
def rvVal : RV → Val
  | .sh d => .sh d
  | .fr xs => .fr xs
  | .fo c xs => .fo c xs
def dCallA (F : Fn) (avs : List AV) : M Val := fun ρ => match argsOf ρ avs with
  | none => .stuck
  | some as => if (boSl ρ avs).Nodup then (match F as with
    | .stuck => .stuck
    | .ret r bs => .ok (rvVal r) (putBo ρ (boSl ρ avs) bs)
    | .exc c bs => .exc c (putBo ρ (boSl ρ avs) bs)) else .stuck
def dCall (F : Fn) (ms : List (Bool × M Val)) : M Val := mbind (evAV ms) (dCallA F)
def AvR (K : PySem.W.Frag) (H0 : Hp) (σ : L2.St) (v : V) : AV → Prop
  | .dat d => Rp K H0 v d
  | .slot i => σ[i]? = some (some v)
theorem Paired.map2 {α β : Type} {R S : α → β → Prop} : ∀ {xs : List α} {ys : List β}, Paired R xs ys → (∀ a b, R a b → S a b) → Paired S xs ys
  | _, _, .nil, _ => .nil
  | _, _, .cons r t, f => .cons (f _ _ r) (Paired.map2 t f)
abbrev tDAv (C : Ctx) : M (List AV) → TA := tDA C fun H0 _ σ _ vs as => Paired (AvR C.K H0 σ) vs as
section
variable {X : Cx} {C : Ctx} {B H0 H H0' H' : Hp} {σ : L2.St} {ρ ρ' : Rho}
theorem toAV_run {α : Type} {P : Hp → Hp → Rho → α → Prop} {m : Bool} {x : Val} {v : V} {k : AV → M α} {T : Prop} (W : Wd C B H0 H σ ρ) (r : VlR C.K B H0 H σ ρ v x) (h : stG C B H0 σ P (mbind (toAV m x) k ρ))
    (hk : ∀ H0' ρ' a, Wd C B H0' H σ ρ' → Same H0 H0' → AvR C.K H0' σ v a → stG C B H0' σ P (k a ρ') → T) : T := by
  have shc : stG C B H0 σ P (mbind (mbind (shr x) fun d => mpure (.dat d)) k ρ) → T := fun h => by
    rw [mbind_assoc] at h
    exact shr_run W r h fun H1 ρ1 d W1 S1 r1 q1 => hk H1 ρ1 (.dat d) W1 S1 r1 q1
  cases m with
  | false => exact shc h
  | true =>
    cases x with
    | sh d => exact shc h
    | fr xs => exact shc h
    | fo c xs => exact shc h
    | gone => exact shc h
    | sl i => exact hk H0 ρ (.slot i) W (Same.refl _) r h
theorem pav_nil : PA X [] (tDAv C (evAV [])) := PA.imp pa_nil fun σ H Q ⟨B, H0, ρ, hB, W, h⟩ => h H0 H W (Same.refl _) [] .nil
theorem pav_cons {e : Expr} {es : List Expr} {m : Bool} {d : M Val} {ds : List (Bool × M Val)} (h : DE X C e d) (hr : PA X es (tDAv C (evAV ds))) (hs : starEach (e :: es) X.env = (false, eval e X.env) :: starEach es X.env) : PA X (e :: es) (tDAv C (evAV ((m, d) :: ds))) :=
  PA.imp (pa_cons h.pe hr hs) fun σ H Q ⟨B, H0, ρ, hB, W, q⟩ => tD_run hB W q fun H1 H' ρ1 x v W1 S1 r1 q1 =>
    toAV_run W1 r1 q1 fun H2 ρ2 a W2 S2 r2 q2 => ⟨B, H2, ρ2, hB, W2, stG_mono (stG_bind q2) fun H3 H'' ρ3 as W3 S3 q3 vs rs => q3 H3 H'' W3 (Same.refl _) (v :: vs) (.cons (by
      cases a with
      | dat d => exact Rp.mono S3 r2
      | slot i => exact r2) rs)⟩
theorem argOf_ok {v : V} {a : AV} {x : Arg} (W : Wd C B H0 H σ ρ) (r : AvR C.K H0 σ v a) (e : argOf ρ a = some x) : ArgR C.K H0 H v x := by
  cases a with
  | dat d => cases e; exact r
  | slot i =>
    have hv : σ[i]? = some (some v) := r
    unfold argOf at e
    simp only at e
    split at e
    · rename_i xs q
      cases e
      obtain ⟨b, us, h1, h2, h3, _, h5⟩ := W.slot i _ q
      rw [hv] at h1; cases h1
      exact ⟨b, us, rfl, h2, h3, h5⟩
    · rename_i xs q
      cases e
      obtain ⟨b, us, h1, h2, h3, _, h5⟩ := W.slot i _ q
      rw [hv] at h1; cases h1
      exact ⟨b, us, rfl, h2, h3, h5⟩
    · rename_i d q
      cases e
      obtain ⟨u, h1, h2⟩ := W.slot i _ q
      rw [hv] at h1; cases h1
      exact h2
    · rename_i xs q
      cases e
      obtain ⟨b, us, h1, h2, h3, _, h5⟩ := W.slot i _ q
      rw [hv] at h1; cases h1
      exact ⟨b, us, rfl, h2, h3, h5, rfl⟩
    · rename_i xs q
      cases e
      obtain ⟨b, us, h1, h2, h3, _, h5⟩ := W.slot i _ q
      rw [hv] at h1; cases h1
      exact ⟨b, us, rfl, h2, h3, h5, rfl⟩
    · cases e
/-- a slot that is lent -/
def Lent (ρ : Rho) (i : Nat) : Prop := ∃ s k xs, ρ[i]? = some s ∧ s.cel = some (k, xs) ∧ (k = none ∨ k = some 0)
theorem Lent.own {i : Nat} (h : Lent ρ i) : Own ρ i := by
  obtain ⟨s, k, xs, h1, h2, _⟩ := h
  exact ⟨s, h1, by rw [h2]; rfl⟩
theorem argOf_slotB {i : Nat} {x : Arg} (e : argOf ρ (.slot i) = some x) : (x.isB = true ∧ isCel ρ[i]? = true ∧ Lent ρ i) ∨ (x.isB = false ∧ isCel ρ[i]? = false) := by
  unfold argOf at e
  simp only at e
  split at e
  · rename_i xs q
    cases e
    exact .inl ⟨rfl, by rw [q]; rfl, _, _, _, q, rfl, .inl rfl⟩
  · rename_i xs q
    cases e
    exact .inl ⟨rfl, by rw [q]; rfl, _, _, _, q, rfl, .inl rfl⟩
  · rename_i d q
    cases e
    exact .inr ⟨rfl, by rw [q]; rfl⟩
  · rename_i xs q
    cases e
    exact .inl ⟨rfl, by rw [q]; rfl, _, _, _, q, rfl, .inr rfl⟩
  · rename_i xs q
    cases e
    exact .inl ⟨rfl, by rw [q]; rfl, _, _, _, q, rfl, .inr rfl⟩
  · cases e
theorem argsOf_ok : ∀ {vs : List V} {avs : List AV} {as : List Arg}, Wd C B H0 H σ ρ → Paired (AvR C.K H0 σ) vs avs → argsOf ρ avs = some as →
    Paired (ArgR C.K H0 H) vs as ∧ Paired (fun a i => σ[i]? = some (some (.ref a)) ∧ Lent ρ i) (boA vs as) (boSl ρ avs)
  | _, _, _, W, .nil, e => by
    cases e
    exact ⟨.nil, .nil⟩
  | v :: vs, a :: avs, as, W, .cons r t, e => by
    unfold argsOf at e
    cases e1 : argOf ρ a with
    | none => rw [e1] at e; cases e
    | some x =>
      rw [e1] at e
      cases e2 : argsOf ρ avs with
      | none => rw [e2] at e; cases e
      | some xs =>
        rw [e2] at e
        cases e
        obtain ⟨g1, g2⟩ := argsOf_ok W t e2
        have ra := argOf_ok W r e1
        refine ⟨.cons ra g1, ?_⟩
        cases a with
        | dat d =>
          cases e1
          have h1 : boA (v :: vs) (.sh d :: xs) = boA vs xs := by cases v <;> rfl
          rw [h1]
          exact g2
        | slot i =>
          have hv : σ[i]? = some (some v) := r
          unfold boSl
          rcases argOf_slotB e1 with ⟨b1, b2, b3⟩ | ⟨b1, b2⟩
          · obtain ⟨b, rfl⟩ := ra.ref b1
            rw [if_pos b2, boA_yes b1]
            exact .cons ⟨hv, b3⟩ g2
          · rw [if_neg (by rw [b2]; exact fun z => nomatch z), boA_no b1]
            exact g2
theorem putBo_length : ∀ (is : List Nat) (xss : List (List PyData)) (ρ : Rho), (putBo ρ is xss).length = ρ.length
  | [], [], _ => rfl
  | [], _ :: _, _ => rfl
  | _ :: _, [], _ => rfl
  | i :: is, xs :: xss, ρ => by
    unfold putBo
    rw [putBo_length is xss]
    split
    · rw [List.length_set]
    · rfl
theorem putBo_out : ∀ {is : List Nat} {xss : List (List PyData)} {ρ : Rho} {j : Nat}, j ∉ is → (putBo ρ is xss)[j]? = ρ[j]?
  | [], [], _, _, _ => rfl
  | [], _ :: _, _, _, _ => rfl
  | _ :: _, [], _, _, _ => rfl
  | i :: is, xs :: xss, ρ, j, h => by
    simp only [List.mem_cons, not_or] at h
    unfold putBo
    rw [putBo_out h.2]
    split
    · rw [List.getElem?_set_ne (Ne.symm h.1)]
    · rfl
theorem putBo_in : ∀ {is : List Nat} {xss : List (List PyData)} {ρ : Rho} {m j : Nat} {s : Sl} {xs : List PyData}, is.Nodup → is[m]? = some j → xss[m]? = some xs → ρ[j]? = some s → (putBo ρ is xss)[j]? = some (setC s xs)
  | [], _, _, _, _, _, _, _, h, _, _ => by simp at h
  | _ :: _, [], _, _, _, _, _, _, _, h, _ => by simp at h
  | i :: is, x :: xss, ρ, 0, j, s, xs, nd, h1, h2, h3 => by
    simp at h1 h2
    subst h1 h2
    unfold putBo
    rw [putBo_out (List.nodup_cons.mp nd).1, h3]
    simp only
    rw [List.getElem?_set_self (lt_of_get h3)]
  | i :: is, x :: xss, ρ, m + 1, j, s, xs, nd, h1, h2, h3 => by
    have hj : j ∈ is := List.mem_of_getElem? (by simpa using h1)
    have hij : i ≠ j := fun z => (List.nodup_cons.mp nd).1 (z ▸ hj)
    unfold putBo
    refine putBo_in (m := m) (List.nodup_cons.mp nd).2 (by simpa using h1) (by simpa using h2) ?_
    split
    · rw [List.getElem?_set_ne hij]; exact h3
    · exact h3
/-- the caller's world behind a call -/
theorem Wd.after (W : Wd C B H0 H σ ρ) {bo : List Addr} {is : List Nat} {bs : List (List PyData)} (hb : Paired (fun a i => σ[i]? = some (some (.ref a)) ∧ Lent ρ i) bo is) (nd : is.Nodup) (A : Aft C.K H0 H bo bs H0' H') :
    Wd C B H0' H' σ (putBo ρ is bs) := by
  have len1 := Paired.length' hb
  have len2 := Paired.length' A.bos
  -- an owned slot's address
  have own : ∀ j, Own (putBo ρ is bs) j → Own ρ j := fun j ⟨xs, h⟩ => by
    by_cases hj : j ∈ is
    · obtain ⟨m, hm⟩ := List.getElem?_of_mem hj
      obtain ⟨a, _, _, hp⟩ := Paired.get' hb hm
      exact hp.own
    · rw [putBo_out hj] at h
      exact ⟨xs, h⟩
  have notin : ∀ j a, j ∉ is → Own ρ j → σ[j]? = some (some (.ref a)) → a ∉ bo := fun j a hj ho e hm => by
    obtain ⟨m, hm'⟩ := List.getElem?_of_mem hm
    have hl : m < is.length := by rw [← len1]; exact lt_of_get hm'
    obtain ⟨a', h1, h2, hp⟩ := Paired.get' hb (List.getElem?_eq_getElem hl)
    rw [hm'] at h1
    cases h1
    exact hj (by rw [W.inj j _ a ho hp.own e h2]; exact List.getElem_mem hl)
  refine ⟨A.s0, fun b u e => A.kp b u (fun hm => ?_) (W.sb b u e), W.s00.trans A.s00, fun b h1 h2 => ?_, fun j s e => ?_, fun i j a o1 o2 => W.inj i j a (own i o1) (own j o2), by rw [putBo_length]; exact W.len, fun p hp => ?_⟩
  · obtain ⟨m, hm'⟩ := List.getElem?_of_mem hm
    have hl : m < is.length := by rw [← len1]; exact lt_of_get hm'
    obtain ⟨a', g1, g2, gp⟩ := Paired.get' hb (List.getElem?_eq_getElem hl)
    rw [hm'] at g1
    cases g1
    rw [(W.ownAt ⟨_, gp.own, g2⟩).2.1] at e
    cases e
  · refine A.nf b (fun z => ?_) (W.nf b h1 h2)
    cases q : B b with
    | none => exact h2 q
    | some u => rw [W.sb b u q] at z; cases z
  · by_cases hj : j ∈ is
    · obtain ⟨m, hm⟩ := List.getElem?_of_mem hj
      obtain ⟨a, g1, g2, ⟨s0, k, ys, p0, pc, pk⟩⟩ := Paired.get' hb hm
      have hl : m < bs.length := by rw [← len2, len1]; exact lt_of_get hm
      obtain ⟨a', q1, us, q2, q3⟩ := Paired.get' A.bos (List.getElem?_eq_getElem hl)
      rw [g1] at q1
      cases q1
      rw [putBo_in nd hm (List.getElem?_eq_getElem hl) p0] at e
      obtain ⟨b', us', p1, p2, p3, p4, _⟩ := (W.slot _ _ p0).cel pc
      rw [g2] at p1
      cases p1
      cases e
      obtain ⟨o, ho⟩ := p2.ho
      exact CelR.sl ⟨a, us, g2, CelK.celH p2 pk q2, A.nf a (by rw [ho]; exact fun z => nomatch z) p3, p4, q3⟩ (setC_cel _ pc)
    · rw [putBo_out hj] at e
      refine (W.slot j s e).mono A.s00 fun a ho h1 => ?_
      obtain ⟨p3, p4, vs, p2⟩ := W.ownAt ⟨j, own_of e ho, h1⟩
      exact ⟨(A.kp a _ (notin j a hj (own_of e ho) h1) p2).trans p2.symm, fun _ => A.nf a (by rw [p2]; exact fun z => nomatch z) p3⟩
  · obtain ⟨h1, h2⟩ := W.bo p hp
    refine ⟨h1, ?_⟩
    by_cases hj : p.1 ∈ is
    · obtain ⟨m, hm⟩ := List.getElem?_of_mem hj
      have hl : m < bs.length := by rw [← len2, len1]; exact lt_of_get hm
      cases es : ρ[p.1]? with
      | none => rw [es] at h2; cases h2
      | some s =>
        rw [es] at h2
        rw [putBo_in nd hm (List.getElem?_eq_getElem hl) es, setC_bK]
        exact h2
    · rw [putBo_out hj]; exact h2
theorem paired_mem {α β : Type} {R : α → β → Prop} : ∀ {xs : List α} {ys : List β} {a : α}, Paired R xs ys → a ∈ xs → ∃ b, b ∈ ys ∧ R a b
  | _, _, _, .nil, h => by simp at h
  | x :: xs, y :: ys, a, .cons r t, h => by
    rcases List.mem_cons.mp h with rfl | h
    · exact ⟨y, List.mem_cons_self .., r⟩
    · obtain ⟨b, h1, h2⟩ := paired_mem t h
      exact ⟨b, List.mem_cons_of_mem _ h1, h2⟩
theorem paired_nodup {α β : Type} {R : α → β → Prop} : ∀ {xs : List α} {ys : List β}, Paired R xs ys → ys.Nodup → (∀ a i j, R a i → R a j → i = j) → xs.Nodup
  | _, _, .nil, _, _ => List.nodup_nil
  | x :: xs, y :: ys, .cons r t, nd, inj => by
    refine List.nodup_cons.mpr ⟨fun h => ?_, paired_nodup t (List.nodup_cons.mp nd).2 inj⟩
    obtain ⟨b, h1, h2⟩ := paired_mem t h
    exact (List.nodup_cons.mp nd).1 (inj x y b r h2 ▸ h1)
/-- a call's reading -/
theorem callA_ok {cls : Nat → Value} {n : Nat} {F : Fn} {vs : List V} {avs : List AV} {Q : VK} (hB : Same C.Hb B) (hl : vs.length = n) (W : Wd C B H0 H σ ρ) (r : Paired (AvR C.K H0 σ) vs avs) (h : stG C B H0 σ (PV C B σ Q) (dCallA F avs ρ)) :
    spF C.K cls n F vs H Q (fun c d H => d = none ∧ ∃ k H0 ρ, c = cls k ∧ Wd C C.Hb H0 H σ ρ ∧ C.wish k ρ) := by
  unfold dCallA at h
  cases e : argsOf ρ avs with
  | none => rw [e] at h; exact h.elim
  | some as =>
    rw [e] at h
    simp only at h
    split at h
    · rename_i nd
      obtain ⟨g1, g2⟩ := argsOf_ok W r e
      have ndA : (boA vs as).Nodup := by
        refine paired_nodup g2 nd fun a1 i j p q => ?_
        exact W.inj _ _ a1 p.2.own q.2.own p.1 q.1
      refine ⟨hl, H0, as, W.s0, g1, ndA, ?_⟩
      cases eF : F as with
      | stuck => rw [eF] at h; exact h.elim
      | ret rv bs =>
        rw [eF] at h
        intro H0' H' v A rr
        have W' := W.after g2 nd A
        refine h H0' H' W' A.s00 v ?_
        have fresh : ∀ a, H a = none → ¬ OwnAt (putBo ρ (boSl ρ avs) bs) σ a := fun a p3 z => by
          obtain ⟨i, ho, hi⟩ := z
          have ho' : Own ρ i := by
            obtain ⟨ys, ho⟩ := ho
            by_cases hj : i ∈ boSl ρ avs
            · obtain ⟨m, hm⟩ := List.getElem?_of_mem hj
              obtain ⟨a', _, _, hp⟩ := Paired.get' g2 hm
              exact hp.own
            · rw [putBo_out hj] at ho
              exact ⟨ys, ho⟩
          exact W.notOwn p3 ⟨i, ho', hi⟩
        cases rv with
        | sh d => exact rr
        | fr xs =>
          obtain ⟨a, us, rfl, p1, p2, p3, p4⟩ := rr
          exact ⟨a, us, rfl, p1, p2, W.sb.free p3, fresh a p3, p4⟩
        | fo c xs =>
          obtain ⟨a, us, rfl, p1, p2, p3, p4⟩ := rr
          exact ⟨a, us, rfl, p1, p2, W.sb.free p3, fresh a p3, p4⟩
      | exc c bs =>
        rw [eF] at h
        intro H0' H' A
        have W' := W.after g2 nd A
        have W2 : Wd C C.Hb H0' H' σ (putBo ρ (boSl ρ avs) bs) := by
          have hn : ∀ a, B a = none → C.Hb a = none := fun a ha => hB.free ha
          refine ⟨W'.s0, fun b u z => W'.sb b u (hB b u z), W'.s00, fun a q1 q2 => W'.nf a q1 (fun z => q2 (hn a z)), fun i s z => ?_, W'.inj, W'.len, W'.bo⟩
          exact (W'.slot i s z).move (Same.refl _) rfl fun a _ _ h3 h4 => ⟨rfl, h3, hn a h4⟩
        exact ⟨rfl, c, H0', _, rfl, W2, h⟩
    · exact h.elim
theorem evAV_len : ∀ {ms : List (Bool × M Val)} {ρ ρ' : Rho} {avs : List AV}, evAV ms ρ = .ok avs ρ' → avs.length = ms.length
  | [], _, _, _, e => by cases e; rfl
  | (m, d) :: ms, ρ, ρ', avs, e => by
    unfold evAV mbind at e
    cases e1 : d ρ with
    | stuck => rw [e1] at e; cases e
    | exc c ρ1 => rw [e1] at e; cases e
    | ok x ρ1 =>
      rw [e1] at e
      simp only at e
      cases e2 : toAV m x ρ1 with
      | stuck => rw [e2] at e; cases e
      | exc c ρ2 => rw [e2] at e; cases e
      | ok a ρ2 =>
        rw [e2] at e
        simp only at e
        cases e3 : evAV ms ρ2 with
        | stuck => rw [e3] at e; cases e
        | exc c ρ3 => rw [e3] at e; cases e
        | ok as ρ3 =>
          rw [e3] at e
          cases e
          exact congrArg (· + 1) (evAV_len e3)
/-- what a name of a def is worth for its callers -/
structure CallOk (P : Program) (w : World) (K : PySem.W.Frag) (mg : Str → Option Value) (base : Heap) (cls : Nat → Value) (k : Nat) (x : Str) (n : Nat) (F : Fn) : Prop where
  ex : ∃ (f : Addr) (fd : FuncData) (ps : List Str), FnG P w K mg base (L2.CX P w) k f fd ps (spF K cls n F) ∧ mg x = some (.ref f) ∧ PySem.W.keepIn K (.ref f) = true ∧ Binds K fd ps []
theorem CallOk.mono {P : Program} {w : World} {K : PySem.W.Frag} {mg : Str → Option Value} {base : Heap} {cls : Nat → Value} {j k : Nat} {x : Str} {n : Nat} {F : Fn} (h : CallOk P w K mg base cls j x n F) (l : j ≤ k) : CallOk P w K mg base cls k x n F := by
  obtain ⟨f, fd, ps, h1, h2⟩ := h.ex
  exact ⟨f, fd, ps, h1.mono l, h2⟩
theorem de_call {cls : Nat → Value} {k n : Nat} {F : Fn} {x : Str} {p pos : Pos} {e : Expr} {es : List Expr} {ms : List (Bool × M Val)} (h : CallOk X.prog X.w X.K X.mg X.base cls k x n F) (hK : C.K = X.K) (lk : Lnk X C cls) (hr : RoomG k X.A) (hg : Gl X x) (ha : PA X (e :: es) (tDAv C (evAV ms))) (hn : ms.length = n)
    (hdb : (x == ("__debug__" : Str)) = false) (he : starEach (e :: es) X.env = (false, eval e X.env) :: starEach es X.env) (hpl : (backTo pos (starEach es X.env)).any (·.1) = false) : DE X C (.Call (.Name x p) (e :: es) [] pos) (dCall F ms) := by
  obtain ⟨f, fd, ps, F1, hm, hk, hb⟩ := h.ex
  refine .of (PE.imp (pe_callG F1 hr hg hm hk hb .nil (fun σ => passAt lk σ) ha hdb he hpl) fun σ H Q ⟨B, H0, ρ, hB, W, q⟩ => ?_) fun _ => rfl
  refine ⟨B, H0, ρ, hB, W, ?_⟩
  have q := stG_bind q
  cases e1 : evAV ms ρ with
  | stuck => rw [e1] at q; exact q
  | exc c ρ' => rw [e1] at q; exact q
  | ok avs ρ' =>
    rw [e1] at q
    intro H0' H' W' S vs rs
    have lv : vs.length = n := by rw [Paired.length' rs, evAV_len e1, hn]
    rw [List.append_nil]
    rw [← hK]
    exact callA_ok hB lv W' rs (q H0' H' W' S)
theorem de_call0 {cls : Nat → Value} {k : Nat} {F : Fn} {x : Str} {p pos : Pos} (h : CallOk X.prog X.w X.K X.mg X.base cls k x 0 F) (hK : C.K = X.K) (lk : Lnk X C cls) (hr : RoomG k X.A) (hg : Gl X x) (hdb : (x == ("__debug__" : Str)) = false) : DE X C (.Call (.Name x p) [] [] pos) (dCall F []) := by
  obtain ⟨f, fd, ps, F1, hm, hk, hb⟩ := h.ex
  refine .of (PE.imp (pe_callG0 F1 hr hg hm hk hb .nil (fun σ => passAt lk σ) hdb) fun σ H Q ⟨B, H0, ρ, hB, W, q⟩ => ?_) fun _ => rfl
  show spF X.K cls 0 F ([] ++ []) H Q _
  rw [← hK]
  exact callA_ok hB rfl W .nil q
end
end DL
end

section
set_option Elab.async false
set_option linter.all false
set_option maxRecDepth 100000
set_option maxHeartbeats 2000000
namespace DL
open PySem PySem.Spec PyProof.Rows L2
/-! ### arguments that are read -/
def evL : List (M Val) → M (List Val)
  | [] => mpure []
  | d :: r => mbind d fun x => mbind (evL r) fun xs => mpure (kp x :: xs)
def lookL (ρ : Rho) : List Val → Option (List PyData)
  | [] => some []
  | x :: xs => match look ρ x, lookL ρ xs with
    | some a, some as => some (a :: as)
    | _, _ => none
def isKp : Val → Prop
  | .fr _ => False
  | .fo _ _ => False
  | _ => True
theorem kp_isKp (x : Val) : isKp (kp x) := by cases x <;> trivial
abbrev tDL (C : Ctx) : M (List Val) → TA := tDA C fun H0 H σ ρ vs xs => Paired (fun v x => isKp x ∧ ∀ H' ρ', VlR C.K C.Hb H0 H' σ ρ' v x) vs xs
section
variable {X : Cx} {C : Ctx} {B H0 H H0' H' : Hp} {σ : L2.St} {ρ ρ' : Rho}
theorem kp_any {B' : Hp} {x : Val} {v : V} (n : isKp x) (r : VlR C.K B H0 H σ ρ v x) : VlR C.K B' H0 H' σ ρ' v x := by
  cases x with
  | fr xs => exact n.elim
  | fo c xs => exact n.elim
  | gone => trivial
  | sh d => exact r
  | sl i => exact r
theorem kp_mono {B' : Hp} {x : Val} {v : V} (n : isKp x) (r : VlR C.K B H0 H σ ρ v x) (s : Same H0 H0') : VlR C.K B' H0' H' σ ρ' v x := by
  cases x with
  | fr xs => exact n.elim
  | fo c xs => exact n.elim
  | gone => trivial
  | sh d => exact Rp.mono s r
  | sl i => exact r
theorem pal_nil : PA X [] (tDL C (evL [])) := PA.imp pa_nil fun σ H Q ⟨B, H0, ρ, hB, W, h⟩ => h H0 H W (Same.refl _) [] .nil
theorem pal_cons {e : Expr} {es : List Expr} {d : M Val} {ds : List (M Val)} (h : DE X C e d) (hr : PA X es (tDL C (evL ds))) (hs : starEach (e :: es) X.env = (false, eval e X.env) :: starEach es X.env) : PA X (e :: es) (tDL C (evL (d :: ds))) :=
  PA.imp (pa_cons h.pe hr hs) fun σ H Q ⟨B, H0, ρ, hB, W, q⟩ => tD_run hB W q fun H1 H' ρ1 x v W1 S1 r1 q1 => by
    obtain ⟨H2, S2, W2, r2⟩ := keep W1 r1
    exact ⟨B, H2, ρ1, hB, W2, stG_mono (stG_bind (stG_base q1 S2)) fun H3 H'' ρ3 as W3 S3 q3 vs rs => q3 H3 H'' W3 (Same.refl _) (v :: vs) (.cons ⟨kp_isKp x, fun H4 ρ4 => kp_mono (kp_isKp x) r2 S3⟩ rs)⟩
theorem lookL_ok : ∀ {vs : List V} {xs : List Val} {as : List PyData}, Wd C B H0 H σ ρ → Paired (fun v x => isKp x ∧ ∀ H' ρ', VlR C.K C.Hb H0 H' σ ρ' v x) vs xs → lookL ρ xs = some as → Paired (RdT C.K H0 H) vs as
  | _, _, _, W, .nil, e => by cases e; exact .nil
  | v :: vs, x :: xs, as, W, .cons r t, e => by
    unfold lookL at e
    cases e1 : look ρ x with
    | none => rw [e1] at e; cases e
    | some a =>
      rw [e1] at e
      cases e2 : lookL ρ xs with
      | none => rw [e2] at e; cases e
      | some as' =>
        rw [e2] at e
        cases e
        exact .cons (look_rd W (kp_any (B' := B) r.1 (r.2 H ρ)) e1) (lookL_ok W t e2)
def dB (f : List PyData → Option Res) (ds : List (M Val)) : M Val := mbind (evL ds) fun xs ρ => match lookL ρ xs with
  | some as => optOk (f as) ρ
  | none => .stuck
def OkRN (K : PySem.W.Frag) (r : List V → Hp → VK → Prop) (f : List PyData → Option Res) : Prop := ∀ (H0 H : Hp) (vs : List V) (as : List PyData) (res : Res) (Q : VK), Same H0 H → Paired (RdT K H0 H) vs as → f as = some res → ResOk K H0 H Q res → r vs H Q
theorem dB_ok {r : List V → Hp → VK → Prop} {f : List PyData → Option Res} {ds : List (M Val)} (hr : OkRN C.K r f) (σ : L2.St) (H : Hp) (Q : VK) (h : tD C (dB f ds) σ H Q) : tCB r (tDL C (evL ds)) σ H Q := by
  obtain ⟨B, H0, ρ, hB, W, q⟩ := h
  refine ⟨B, H0, ρ, hB, W, stG_mono (stG_bind q) fun H1 H' ρ1 xs W1 S1 q1 vs rs => ?_⟩
  cases e : lookL ρ1 xs with
  | none => rw [e] at q1; exact q1.elim
  | some as =>
    rw [e] at q1
    obtain ⟨res, e2, q2⟩ := optOk_some q1
    exact hr H1 H' vs as res Q W1.s0 (lookL_ok W1 rs e) e2 (res_ok W1 q2)
theorem de_callB {x : Str} {p pos : Pos} {e : Expr} {es : List Expr} {ds : List (M Val)} {id : String} {r : List V → Hp → VK → Prop} {f : List PyData → Option Res} (hc : CallR X (.builtin id) r) (hr : OkRN C.K r f) (hg : Gl X x) (hm : X.mg x = none) (hv : bootBuiltins x = some (.builtin id)) (ha : PA X (e :: es) (tDL C (evL ds)))
    (hn : x ≠ "__name__") (hdb : (x == ("__debug__" : Str)) = false) (he : starEach (e :: es) X.env = (false, eval e X.env) :: starEach es X.env) (hpl : (backTo pos (starEach es X.env)).any (·.1) = false) : DE X C (.Call (.Name x p) (e :: es) [] pos) (dB f ds) :=
  .of (PE.imp (pe_callB hc hg hm hv ha hn hdb he hpl) fun σ H Q q => dB_ok hr σ H Q q) fun _ => rfl
theorem de_callTy {x : Str} {p pos : Pos} {e : Expr} {es : List Expr} {ds : List (M Val)} {T : String} {r : List V → Hp → VK → Prop} {f : List PyData → Option Res} (hc : CallR X (.type T) r) (hr : OkRN C.K r f) (hg : Gl X x) (hm : X.mg x = none) (hv : bootBuiltins x = some (.type T)) (ha : PA X (e :: es) (tDL C (evL ds)))
    (hn : x ≠ "__name__") (hdb : (x == ("__debug__" : Str)) = false) (he : starEach (e :: es) X.env = (false, eval e X.env) :: starEach es X.env) (hpl : (backTo pos (starEach es X.env)).any (·.1) = false) : DE X C (.Call (.Name x p) (e :: es) [] pos) (dB f ds) :=
  .of (PE.imp (pe_callTy hc hg hm hv ha hn hdb he hpl) fun σ H Q q => dB_ok hr σ H Q q) fun _ => rfl
end
end DL
end

section
set_option Elab.async false
set_option linter.all false
set_option maxRecDepth 100000
set_option maxHeartbeats 2000000
namespace DL
open PySem PySem.Spec PyProof.Rows L2
/-! ### built-in functions on data -/
def intsOf : List PyData → Option (List Int)
  | [] => some []
  | .int i :: r => (intsOf r).map (i :: ·)
  | _ => none
def boolsOf : List PyData → Option (List Bool)
  | [] => some []
  | .bool i :: r => (boolsOf r).map (i :: ·)
  | _ => none
theorem intsOf_map : ∀ ns : List Int, intsOf (ns.map .int) = some ns
  | [] => rfl
  | n :: ns => by show (intsOf (ns.map .int)).map _ = _; rw [intsOf_map ns]; rfl
theorem boolsOf_map : ∀ ns : List Bool, boolsOf (ns.map .bool) = some ns
  | [] => rfl
  | n :: ns => by show (boolsOf (ns.map .bool)).map _ = _; rw [boolsOf_map ns]; rfl
theorem intsOf_eq : ∀ {ds : List PyData} {ns : List Int}, intsOf ds = some ns → ds = ns.map .int
  | [], _, e => by cases e; rfl
  | .int i :: r, _, e => by
    obtain ⟨ns, h, rfl⟩ := Option.map_eq_some_iff.mp (show (intsOf r).map (i :: ·) = some _ from e)
    rw [intsOf_eq h]; rfl
  | .none :: _, _, e => by cases e
  | .bool _ :: _, _, e => by cases e
  | .str _ :: _, _, e => by cases e
  | .list _ :: _, _, e => by cases e
  | .tuple _ :: _, _, e => by cases e
  | .dict _ :: _, _, e => by cases e
theorem boolsOf_eq : ∀ {ds : List PyData} {ns : List Bool}, boolsOf ds = some ns → ds = ns.map .bool
  | [], _, e => by cases e; rfl
  | .bool i :: r, _, e => by
    obtain ⟨ns, h, rfl⟩ := Option.map_eq_some_iff.mp (show (boolsOf r).map (i :: ·) = some _ from e)
    rw [boolsOf_eq h]; rfl
  | .none :: _, _, e => by cases e
  | .int _ :: _, _, e => by cases e
  | .str _ :: _, _, e => by cases e
  | .list _ :: _, _, e => by cases e
  | .tuple _ :: _, _, e => by cases e
  | .dict _ :: _, _, e => by cases e
def f_len : List PyData → Option Res
  | [.list xs] => ok (.int xs.length)
  | [.tuple xs] => ok (.int xs.length)
  | [.str z] => grd (decide (z.length ≤ sizeLine)) (.val (.int z.length))
  | _ => none
def f_abs : List PyData → Option Res
  | [.int i] => ok (.int (if i < 0 then -i else i))
  | _ => none
def maxI : Int → List Int → Int
  | m, [] => m
  | m, x :: r => maxI (if x > m then x else m) r
def minI : Int → List Int → Int
  | m, [] => m
  | m, x :: r => minI (if x < m then x else m) r
def f_max : List PyData → Option Res
  | [.int i, .int j] => ok (.int (if j > i then j else i))
  | [.list xs] => match intsOf xs with
    | some (n :: ns) => ok (.int (maxI n ns))
    | _ => none
  | [.tuple xs] => match intsOf xs with
    | some (n :: ns) => ok (.int (maxI n ns))
    | _ => none
  | _ => none
def f_min : List PyData → Option Res
  | [.int i, .int j] => ok (.int (if j < i then j else i))
  | [.list xs] => match intsOf xs with
    | some (n :: ns) => ok (.int (minI n ns))
    | _ => none
  | [.tuple xs] => match intsOf xs with
    | some (n :: ns) => ok (.int (minI n ns))
    | _ => none
  | _ => none
def f_sum : List PyData → Option Res
  | [.list xs] => (intsOf xs).bind fun ns => ok (.int ns.sum)
  | [.tuple xs] => (intsOf xs).bind fun ns => ok (.int ns.sum)
  | _ => none
def f_all : List PyData → Option Res
  | [.list xs] => (boolsOf xs).bind fun ns => ok (.bool (ns.all id))
  | _ => none
def f_any : List PyData → Option Res
  | [.list xs] => (boolsOf xs).bind fun ns => ok (.bool (ns.any id))
  | _ => none
def f_list : List PyData → Option Res
  | [.list xs] => some (.nl xs)
  | [.tuple xs] => some (.nl xs)
  | _ => none
def f_tuple : List PyData → Option Res
  | [.list xs] => some (.nt xs)
  | [.tuple xs] => ok (.tuple xs)
  | _ => none
def f_int : List PyData → Option Res
  | [.int i] => ok (.int i)
  | [.bool b] => ok (.int (if b then 1 else 0))
  | _ => none
def f_bool : List PyData → Option Res
  | [.int i] => ok (.bool (i != 0))
  | [.bool b] => ok (.bool b)
  | _ => none
def f_str : List PyData → Option Res
  | [.int i] => grd (decide (i.natAbs.log2 < 1920)) (.val (.str (toString i)))
  | [.str z] => ok (.str z)
  | _ => none
def rpr (d : PyData) : Bool := !d.hasDict && d.showable && decide (d.depth ≤ 64) && decide (d.shown.length ≤ sizeLine)
/-! no list in it, and of dicts the empty ones alone -/
mutual
def noL : PyData → Bool
  | .list _ => false
  | .tuple ds => noLs ds
  | .dict [] => true
  | .dict (_ :: _) => false
  | _ => true
def noLs : List PyData → Bool
  | [] => true
  | d :: ds => noL d && noLs ds
end
def rprX (d : PyData) : Bool := noL d && d.showable && decide (d.depth ≤ 64) && decide (d.shown.length ≤ sizeLine)
def f_repr : List PyData → Option Res
  | [d] => grd (rpr d || rprX d) (.val (.str d.shown))
  | _ => none
theorem maxI_mem : ∀ (m : Int) (ns : List Int), maxI m ns ∈ m :: ns
  | m, [] => List.mem_cons_self
  | m, x :: r => by
    unfold maxI
    rcases List.mem_cons.mp (maxI_mem (if x > m then x else m) r) with h | h
    · rw [h]; split
      · exact List.mem_cons_of_mem _ List.mem_cons_self
      · exact List.mem_cons_self
    · exact List.mem_cons_of_mem _ (List.mem_cons_of_mem _ h)
theorem maxI_ge : ∀ (m : Int) (ns : List Int), ∀ y ∈ m :: ns, y ≤ maxI m ns
  | m, [], y, h => by rw [List.mem_singleton.mp h]; exact Int.le_refl _
  | m, x :: r, y, h => by
    unfold maxI
    have h0 := maxI_ge (if x > m then x else m) r _ List.mem_cons_self
    rcases List.mem_cons.mp h with rfl | h
    · split at h0 <;> split <;> omega
    · rcases List.mem_cons.mp h with rfl | h
      · split at h0 <;> split <;> omega
      · exact maxI_ge _ r y (List.mem_cons_of_mem _ h)
theorem minI_mem : ∀ (m : Int) (ns : List Int), minI m ns ∈ m :: ns
  | m, [] => List.mem_cons_self
  | m, x :: r => by
    unfold minI
    rcases List.mem_cons.mp (minI_mem (if x < m then x else m) r) with h | h
    · rw [h]; split
      · exact List.mem_cons_of_mem _ List.mem_cons_self
      · exact List.mem_cons_self
    · exact List.mem_cons_of_mem _ (List.mem_cons_of_mem _ h)
theorem minI_le : ∀ (m : Int) (ns : List Int), ∀ y ∈ m :: ns, minI m ns ≤ y
  | m, [], y, h => by rw [List.mem_singleton.mp h]; exact Int.le_refl _
  | m, x :: r, y, h => by
    unfold minI
    have h0 := minI_le (if x < m then x else m) r _ List.mem_cons_self
    rcases List.mem_cons.mp h with rfl | h
    · split at h0 <;> split <;> omega
    · rcases List.mem_cons.mp h with rfl | h
      · split at h0 <;> split <;> omega
      · exact minI_le _ r y (List.mem_cons_of_mem _ h)
theorem rpa_ints {K : PySem.W.Frag} {H : Hp} : ∀ {vs : List V} {ns : List Int}, RpA K H vs (ns.map .int) → vs = ns.map V.int
  | _, [], h => by cases h; rfl
  | _, n :: ns, h => by cases h with | cons r t => cases r; rw [rpa_ints t]; rfl
theorem rpa_bools {K : PySem.W.Frag} {H : Hp} : ∀ {vs : List V} {ns : List Bool}, RpA K H vs (ns.map .bool) → vs = ns.map V.bl
  | _, [], h => by cases h; rfl
  | _, n :: ns, h => by cases h with | cons r t => cases r; rw [rpa_bools t]; rfl

section
variable {X : Cx} {K : PySem.W.Frag}
/-- sum of a tuple of ints -/
def rSumT (K : PySem.W.Frag) : List V → Hp → VK → Prop := fun vs H Q => ∃ (a : Addr) (ns : List Int), vs = [V.ref a] ∧ SqT K H a (ns.map V.int) ∧ Q (.int ns.sum) H
theorem cr_sumT (hc : X.calm = true) : CallR X (.builtin "sum") (rSumT X.K) := by
  intro pins s σ H vs us Q I r h
  obtain ⟨a, ns, rfl, hs, q⟩ := h
  obtain ⟨its, rv, hl, _⟩ := I.tuple hs
  rw [Vals.ref1 r]
  have hi := rv.ints
  obtain ⟨xs, e⟩ := hi.allInts.items
  have hn : numsOf (intItems xs).toList = ns := by rw [← e]; exact hi.numsOf
  rw [nums_intItems] at hn
  rw [e] at hl
  have hlt : a < s.heap.objs.size := by obtain ⟨_, e, _⟩ := hl; exact Heap.lt_size e
  refine call_sum_walkG (wpAny_pyIter_tuple hl ?_)
  refine ⟨_, _, _, _, _, _, numAt xs, rfl, Walks.tuple (A := X.A.in1) (I.ok.hd hc) s.heap.objs.size a (Nat.ne_of_lt hlt) (intItems xs), ⟨⟨_, Heap.get?_push_size _ rfl, rfl, rfl⟩, hl.push _⟩, fun b hb => ?_, (fun _ _ => intItems_at), fun h' tk t' hk => ?_⟩
  · show b < (s.heap.push _).objs.size
    rw [Heap.size_push]
    rcases List.mem_cons.mp hb with rfl | hb
    · exact Nat.lt_succ_self _
    · rcases List.mem_cons.mp hb with rfl | hb
      · exact Nat.lt_succ_of_lt hlt
      · cases hb
  · refine ⟨.int ns.sum, H, I.kept fun b o eo => hk b o (fun hmem => ?_) (Heap.get?_push_of_some _ eo), ⟨t', ?_⟩, q⟩
    · rcases List.mem_cons.mp hmem with e1 | hmem
      · exact absurd (e1 ▸ Heap.lt_size eo) (Nat.lt_irrefl _)
      · cases hmem
    · show Value.int _ _ = _
      congr 1
      have hz : (intItems xs).size = xs.size := by unfold intItems; exact Array.size_map
      rw [hz, preSum_eq, List.take_of_length_le (by simp), hn]
theorem pr1 {α β : Type} {R : α → β → Prop} {vs : List α} {a : β} (h : Paired R vs [a]) : ∃ v, vs = [v] ∧ R v a := by
  cases h with | cons r t => cases t; exact ⟨_, rfl, r⟩
theorem pr2 {α β : Type} {R : α → β → Prop} {vs : List α} {a b : β} (h : Paired R vs [a, b]) : ∃ v w, vs = [v, w] ∧ R v a ∧ R w b := by
  cases h with | cons r t => cases t with | cons r2 t => cases t; exact ⟨_, _, rfl, r, r2⟩
theorem call_len' : CallR X (.builtin "len") (fun xs H Q => (∃ p ys, xs = [.ref p] ∧ (SqL X.K H p ys ∨ SqT X.K H p ys) ∧ Q (.int ys.length) H) ∨ (∃ z, xs = [.str z] ∧ z.length ≤ sizeLine ∧ Q (.int z.length) H)) := CallR.or call_len_seq call_len_str
def rLen (K : PySem.W.Frag) : List V → Hp → VK → Prop := fun xs H Q => (∃ p ys, xs = [.ref p] ∧ (SqL K H p ys ∨ SqT K H p ys) ∧ Q (.int ys.length) H) ∨ (∃ z, xs = [.str z] ∧ z.length ≤ sizeLine ∧ Q (.int z.length) H)
theorem cr_len : CallR X (.builtin "len") (rLen X.K) := CallR.or call_len_seq call_len_str
theorem ok_len : OkRN K (rLen K) f_len := by
  intro H0 H vs as res Q s r e q
  unfold f_len at e
  split at e
  · cases e
    obtain ⟨v, rfl, r1⟩ := pr1 r
    obtain ⟨a, us, rfl, h1, h2⟩ := r1.lst s
    exact .inl ⟨a, us, rfl, .inl h1, by rw [h2.length]; exact q _ (.int _)⟩
  · cases e
    obtain ⟨v, rfl, r1⟩ := pr1 r
    obtain ⟨a, us, rfl, h1, h2⟩ := r1.tup
    exact .inl ⟨a, us, rfl, .inr (same_seqT s h1), by rw [h2.length]; exact q _ (.int _)⟩
  · obtain ⟨c, rfl⟩ := grd_some e
    obtain ⟨v, rfl, r1⟩ := pr1 r
    exact .inr ⟨_, by rw [r1.str], of_decide_eq_true c, q _ (.int _)⟩
  · cases e
theorem ok_abs : OkRN K (fun xs H Q => ∃ i, xs = [.int i] ∧ Q (.int (if i < 0 then -i else i)) H) f_abs := by
  intro H0 H vs as res Q s r e q
  unfold f_abs at e
  split at e
  · cases e
    obtain ⟨v, rfl, r1⟩ := pr1 r
    exact ⟨_, by rw [r1.int], q _ (.int _)⟩
  · cases e
/-- max of a tuple of ints -/
def rMaxT (K : PySem.W.Frag) : List V → Hp → VK → Prop := fun vs H Q => ∃ (a : Addr) (ns : List Int), vs = [V.ref a] ∧ SqT K H a (ns.map V.int) ∧ 0 < ns.length ∧ ∀ m, m ∈ ns → (∀ y, y ∈ ns → y ≤ m) → Q (.int m) H
theorem cr_maxT (hc : X.calm = true) : CallR X (.builtin "max") (rMaxT X.K) := by
  intro pins s σ H vs us Q I r h
  obtain ⟨a, ns, rfl, hs, hne, q⟩ := h
  obtain ⟨its, rv, hl, _⟩ := I.tuple hs
  rw [Vals.ref1 r]
  have hi := rv.ints
  obtain ⟨xs, e⟩ := hi.allInts.items
  have hn : numsOf (intItems xs).toList = ns := by rw [← e]; exact hi.numsOf
  rw [nums_intItems] at hn
  rw [e] at hl
  have hlt : a < s.heap.objs.size := by obtain ⟨_, e, _⟩ := hl; exact Heap.lt_size e
  have hsz : 0 < xs.size := by rw [← hn] at hne; simpa using hne
  refine call_max_walk (wpAny_pyIter_tuple hl ?_)
  refine ⟨_, _, _, _, _, _, _, rfl, Walks.tuple (A := X.A.in1) (I.ok.hd hc) s.heap.objs.size a (Nat.ne_of_lt hlt) (intItems xs), ⟨⟨_, Heap.get?_push_size _ rfl, rfl, rfl⟩, hl.push _⟩, fun b hb => ?_, by simpa [intItems] using hsz, CmpOf.ints_gt (numAt xs) (fun _ _ => intItems_at), fun v h' tk hP hk => ?_⟩
  · show b < (s.heap.push _).objs.size
    rw [Heap.size_push]
    rcases List.mem_cons.mp hb with rfl | hb
    · exact Nat.lt_succ_self _
    · rcases List.mem_cons.mp hb with rfl | hb
      · exact Nat.lt_succ_of_lt hlt
      · cases hb
  · have hP' : (intItems xs)[argBest (fun i j => decide (numAt xs i > numAt xs j)) (xs.size - 1)]? = some v := by simpa [intItems] using hP
    obtain ⟨t, rfl⟩ := intItems_at hP'
    obtain ⟨h1, h2⟩ := argBest_gt (numAt xs) (xs.size - 1)
    refine ⟨.int _, H, I.kept fun b o eo => hk b o (fun hmem => ?_) (Heap.get?_push_of_some _ eo), ⟨t, rfl⟩, q _ ?_ fun y hy => ?_⟩
    · rcases List.mem_cons.mp hmem with e1 | hmem
      · exact absurd (e1 ▸ Heap.lt_size eo) (Nat.lt_irrefl _)
      · cases hmem
    · rw [← hn, numAt_eq]; exact PySem.getD_mem (by rw [List.length_map, Array.length_toList]; omega)
    · rw [← hn] at hy
      obtain ⟨j, hj, rfl⟩ := mem_getD hy
      rw [List.length_map, Array.length_toList] at hj
      rw [← numAt_eq]; exact h2 j (by omega)
/-- min of a tuple of ints -/
def rMinT (K : PySem.W.Frag) : List V → Hp → VK → Prop := fun vs H Q => ∃ (a : Addr) (ns : List Int), vs = [V.ref a] ∧ SqT K H a (ns.map V.int) ∧ 0 < ns.length ∧ ∀ m, m ∈ ns → (∀ y, y ∈ ns → m ≤ y) → Q (.int m) H
theorem cr_minT (hc : X.calm = true) : CallR X (.builtin "min") (rMinT X.K) := by
  intro pins s σ H vs us Q I r h
  obtain ⟨a, ns, rfl, hs, hne, q⟩ := h
  obtain ⟨its, rv, hl, _⟩ := I.tuple hs
  rw [Vals.ref1 r]
  have hi := rv.ints
  obtain ⟨xs, e⟩ := hi.allInts.items
  have hn : numsOf (intItems xs).toList = ns := by rw [← e]; exact hi.numsOf
  rw [nums_intItems] at hn
  rw [e] at hl
  have hlt : a < s.heap.objs.size := by obtain ⟨_, e, _⟩ := hl; exact Heap.lt_size e
  have hsz : 0 < xs.size := by rw [← hn] at hne; simpa using hne
  refine call_min_walk (wpAny_pyIter_tuple hl ?_)
  refine ⟨_, _, _, _, _, _, _, rfl, Walks.tuple (A := X.A.in1) (I.ok.hd hc) s.heap.objs.size a (Nat.ne_of_lt hlt) (intItems xs), ⟨⟨_, Heap.get?_push_size _ rfl, rfl, rfl⟩, hl.push _⟩, fun b hb => ?_, by simpa [intItems] using hsz, CmpOf.ints_lt (numAt xs) (fun _ _ => intItems_at), fun v h' tk hP hk => ?_⟩
  · show b < (s.heap.push _).objs.size
    rw [Heap.size_push]
    rcases List.mem_cons.mp hb with rfl | hb
    · exact Nat.lt_succ_self _
    · rcases List.mem_cons.mp hb with rfl | hb
      · exact Nat.lt_succ_of_lt hlt
      · cases hb
  · have hP' : (intItems xs)[argBest (fun i j => decide (numAt xs i < numAt xs j)) (xs.size - 1)]? = some v := by simpa [intItems] using hP
    obtain ⟨t, rfl⟩ := intItems_at hP'
    obtain ⟨h1, h2⟩ := argBest_lt (numAt xs) (xs.size - 1)
    refine ⟨.int _, H, I.kept fun b o eo => hk b o (fun hmem => ?_) (Heap.get?_push_of_some _ eo), ⟨t, rfl⟩, q _ ?_ fun y hy => ?_⟩
    · rcases List.mem_cons.mp hmem with e1 | hmem
      · exact absurd (e1 ▸ Heap.lt_size eo) (Nat.lt_irrefl _)
      · cases hmem
    · rw [← hn, numAt_eq]; exact PySem.getD_mem (by rw [List.length_map, Array.length_toList]; omega)
    · rw [← hn] at hy
      obtain ⟨j, hj, rfl⟩ := mem_getD hy
      rw [List.length_map, Array.length_toList] at hj
      rw [← numAt_eq]; exact h2 j (by omega)
def rMax' (K : PySem.W.Frag) : List V → Hp → VK → Prop := fun xs H Q => (∃ i j, xs = [.int i, .int j] ∧ Q (.int (if j > i then j else i)) H) ∨ (rMax K xs H Q ∨ rMaxT K xs H Q)
def rMin' (K : PySem.W.Frag) : List V → Hp → VK → Prop := fun xs H Q => (∃ i j, xs = [.int i, .int j] ∧ Q (.int (if j < i then j else i)) H) ∨ (rMin K xs H Q ∨ rMinT K xs H Q)
theorem cr_max' (hc : X.calm = true) : CallR X (.builtin "max") (rMax' X.K) := CallR.or (call_max2 hc) (CallR.or (cr_max hc) (cr_maxT hc))
theorem cr_min' (hc : X.calm = true) : CallR X (.builtin "min") (rMin' X.K) := CallR.or (call_min2 hc) (CallR.or (cr_min hc) (cr_minT hc))
theorem ok_max : OkRN K (rMax' K) f_max := by
  intro H0 H vs as res Q s r e q
  unfold f_max at e
  split at e
  · cases e
    obtain ⟨v, w, rfl, r1, r2⟩ := pr2 r
    exact .inl ⟨_, _, by rw [r1.int, r2.int], q _ (.int _)⟩
  · split at e
    · rename_i xs n ns e1
      cases e
      obtain ⟨v, rfl, r1⟩ := pr1 r
      obtain ⟨a, us, rfl, h1, h2⟩ := r1.lst s
      rw [intsOf_eq e1] at h2
      have := rpa_ints h2
      subst this
      refine .inr (.inl ⟨a, n :: ns, rfl, h1, Nat.succ_pos _, fun m hm hy => ?_⟩)
      have e2 : m = maxI n ns := Int.le_antisymm (maxI_ge n ns m hm) (hy _ (maxI_mem n ns))
      rw [e2]
      exact q _ (.int _)
    · cases e
  · split at e
    · rename_i xs n ns e1
      cases e
      obtain ⟨v, rfl, r1⟩ := pr1 r
      obtain ⟨a, us, rfl, h1, h2⟩ := r1.tup
      rw [intsOf_eq e1] at h2
      have := rpa_ints h2
      subst this
      refine .inr (.inr ⟨a, n :: ns, rfl, same_seqT s h1, Nat.succ_pos _, fun m hm hy => ?_⟩)
      have e2 : m = maxI n ns := Int.le_antisymm (maxI_ge n ns m hm) (hy _ (maxI_mem n ns))
      rw [e2]
      exact q _ (.int _)
    · cases e
  · cases e
theorem ok_min : OkRN K (rMin' K) f_min := by
  intro H0 H vs as res Q s r e q
  unfold f_min at e
  split at e
  · cases e
    obtain ⟨v, w, rfl, r1, r2⟩ := pr2 r
    exact .inl ⟨_, _, by rw [r1.int, r2.int], q _ (.int _)⟩
  · split at e
    · rename_i xs n ns e1
      cases e
      obtain ⟨v, rfl, r1⟩ := pr1 r
      obtain ⟨a, us, rfl, h1, h2⟩ := r1.lst s
      rw [intsOf_eq e1] at h2
      have := rpa_ints h2
      subst this
      refine .inr (.inl ⟨a, n :: ns, rfl, h1, Nat.succ_pos _, fun m hm hy => ?_⟩)
      have e2 : m = minI n ns := Int.le_antisymm (hy _ (minI_mem n ns)) (minI_le n ns m hm)
      rw [e2]
      exact q _ (.int _)
    · cases e
  · split at e
    · rename_i xs n ns e1
      cases e
      obtain ⟨v, rfl, r1⟩ := pr1 r
      obtain ⟨a, us, rfl, h1, h2⟩ := r1.tup
      rw [intsOf_eq e1] at h2
      have := rpa_ints h2
      subst this
      refine .inr (.inr ⟨a, n :: ns, rfl, same_seqT s h1, Nat.succ_pos _, fun m hm hy => ?_⟩)
      have e2 : m = minI n ns := Int.le_antisymm (hy _ (minI_mem n ns)) (minI_le n ns m hm)
      rw [e2]
      exact q _ (.int _)
    · cases e
  · cases e
def rSum' (K : PySem.W.Frag) : List V → Hp → VK → Prop := fun xs H Q => rSum K xs H Q ∨ rSumT K xs H Q
theorem cr_sum' (hc : X.calm = true) : CallR X (.builtin "sum") (rSum' X.K) := CallR.or (cr_sum hc) (cr_sumT hc)
theorem ok_sum : OkRN K (rSum' K) f_sum := by
  intro H0 H vs as res Q s r e q
  unfold f_sum at e
  split at e
  · obtain ⟨ns, e1, e2⟩ := Option.bind_eq_some_iff.mp e
    cases e2
    obtain ⟨v, rfl, r1⟩ := pr1 r
    obtain ⟨a, us, rfl, h1, h2⟩ := r1.lst s
    rw [intsOf_eq e1] at h2
    have := rpa_ints h2
    subst this
    exact .inl ⟨a, ns, rfl, h1, q _ (.int _)⟩
  · obtain ⟨ns, e1, e2⟩ := Option.bind_eq_some_iff.mp e
    cases e2
    obtain ⟨v, rfl, r1⟩ := pr1 r
    obtain ⟨a, us, rfl, h1, h2⟩ := r1.tup
    rw [intsOf_eq e1] at h2
    have := rpa_ints h2
    subst this
    exact .inr ⟨a, ns, rfl, same_seqT s h1, q _ (.int _)⟩
  · cases e
theorem ok_all : OkRN K (rAll K) f_all := by
  intro H0 H vs as res Q s r e q
  unfold f_all at e
  split at e
  · obtain ⟨ns, e1, e2⟩ := Option.bind_eq_some_iff.mp e
    cases e2
    obtain ⟨v, rfl, r1⟩ := pr1 r
    obtain ⟨a, us, rfl, h1, h2⟩ := r1.lst s
    rw [boolsOf_eq e1] at h2
    have := rpa_bools h2
    subst this
    exact ⟨a, ns, rfl, h1, q _ (.bl _)⟩
  · cases e
theorem ok_any : OkRN K (rAny K) f_any := by
  intro H0 H vs as res Q s r e q
  unfold f_any at e
  split at e
  · obtain ⟨ns, e1, e2⟩ := Option.bind_eq_some_iff.mp e
    cases e2
    obtain ⟨v, rfl, r1⟩ := pr1 r
    obtain ⟨a, us, rfl, h1, h2⟩ := r1.lst s
    rw [boolsOf_eq e1] at h2
    have := rpa_bools h2
    subst this
    exact ⟨a, ns, rfl, h1, q _ (.bl _)⟩
  · cases e
theorem ok_list : OkRN K (fun xs H Q => ∃ p ys, xs = [.ref p] ∧ (SqL K H p ys ∨ SqT K H p ys) ∧ ∀ l, H l = none → Q (.ref l) (upd H l (.lst ys))) f_list := by
  intro H0 H vs as res Q s r e q
  unfold f_list at e
  split at e
  · cases e
    obtain ⟨v, rfl, r1⟩ := pr1 r
    obtain ⟨a, us, rfl, h1, h2⟩ := r1.lst s
    exact ⟨a, us, rfl, .inl h1, fun l hl => q l us hl h2⟩
  · cases e
    obtain ⟨v, rfl, r1⟩ := pr1 r
    obtain ⟨a, us, rfl, h1, h2⟩ := r1.tup
    exact ⟨a, us, rfl, .inr (same_seqT s h1), fun l hl => q l us hl h2⟩
  · cases e
theorem ok_tuple : OkRN K (fun xs H Q => ∃ p ys, xs = [.ref p] ∧ ((SqL K H p ys ∧ NewT H Q ys) ∨ (SqT K H p ys ∧ Q (.ref p) H))) f_tuple := by
  intro H0 H vs as res Q s r e q
  unfold f_tuple at e
  split at e
  · cases e
    obtain ⟨v, rfl, r1⟩ := pr1 r
    obtain ⟨a, us, rfl, h1, h2⟩ := r1.lst s
    exact ⟨a, us, rfl, .inl ⟨h1, fun l o ho hl => q.2 l us o ho hl h2⟩⟩
  · cases e
    obtain ⟨v, rfl, r1⟩ := pr1 r
    obtain ⟨a, us, rfl, h1, h2⟩ := r1.tupN
    exact ⟨a, us, rfl, .inr ⟨(same_sqn s h1).sqt, q _ (.tup h1 h2)⟩⟩
  · cases e
theorem ok_int : OkRN K (fun xs H Q => (∃ i, xs = [.int i] ∧ Q (.int i) H) ∨ ∃ k, xs = [.bl k] ∧ Q (.int (if k then 1 else 0)) H) f_int := by
  intro H0 H vs as res Q s r e q
  unfold f_int at e
  split at e
  · cases e
    obtain ⟨v, rfl, r1⟩ := pr1 r
    exact .inl ⟨_, by rw [r1.int], q _ (.int _)⟩
  · cases e
    obtain ⟨v, rfl, r1⟩ := pr1 r
    exact .inr ⟨_, by rw [r1.bl], q _ (.int _)⟩
  · cases e
theorem ok_bool : OkRN K (fun xs H Q => (∃ i, xs = [.int i] ∧ Q (.bl (i != 0)) H) ∨ ∃ k, xs = [.bl k] ∧ Q (.bl k) H) f_bool := by
  intro H0 H vs as res Q s r e q
  unfold f_bool at e
  split at e
  · cases e
    obtain ⟨v, rfl, r1⟩ := pr1 r
    exact .inl ⟨_, by rw [r1.int], q _ (.bl _)⟩
  · cases e
    obtain ⟨v, rfl, r1⟩ := pr1 r
    exact .inr ⟨_, by rw [r1.bl], q _ (.bl _)⟩
  · cases e
theorem cr_str' : CallR X (.type "str") (fun xs H Q => (∃ i, xs = [.int i] ∧ i.natAbs.log2 < 1920 ∧ Q (.str (toString i)) H) ∨ (∃ a, xs = [.str a] ∧ Q (.str a) H)) := by
  intro pins s σ H xs us Q I r h
  rcases h with h | ⟨a, rfl, q⟩
  · exact call_str_int pins s σ H xs us Q I r h
  · obtain ⟨u, rfl, t, rfl⟩ := vals1 r
    exact PySem.P.str_of_str ⟨.str a, H, I, ⟨t, rfl⟩, q⟩
theorem ok_str : OkRN K (fun xs H Q => (∃ i, xs = [.int i] ∧ i.natAbs.log2 < 1920 ∧ Q (.str (toString i)) H) ∨ (∃ a, xs = [.str a] ∧ Q (.str a) H)) f_str := by
  intro H0 H vs as res Q s r e q
  unfold f_str at e
  split at e
  · obtain ⟨c, rfl⟩ := grd_some e
    obtain ⟨v, rfl, r1⟩ := pr1 r
    exact .inl ⟨_, by rw [r1.int], of_decide_eq_true c, q _ (.str _)⟩
  · cases e
    obtain ⟨v, rfl, r1⟩ := pr1 r
    exact .inr ⟨_, by rw [r1.str], q _ (.str _)⟩
  · cases e
/-- repr of data -/
def rRepr (K : PySem.W.Frag) : List V → Hp → VK → Prop := fun xs H Q => ∃ v d, xs = [v] ∧ Rp K H v d ∧ (rpr d || rprX d) = true ∧ Q (.str d.shown) H
theorem sysm {P : Program} {w : World} {H : Hp} {h : Heap} {a : Addr} {kvs : List (Key × V)} (x : ObjOk P w H h a (.dK kvs)) (e : kvs = []) : a ≠ sysModules ∧ ∃ o n, h.get? a = some o ∧ o.cls = .type "dict" ∧ o.data = .dict #[] n := by
  subst e
  obtain ⟨_, y, vs, kv, o, es, ep, e1, e2, e3, _, e5, _⟩ := x
  cases kv
  have e4 : es = #[] := by
    have : es.toList.length = 0 := e5.length
    exact Array.eq_empty_of_size_eq_zero (by simpa using this)
  subst e4
  exact ⟨fun z => by simp [z] at y, o, ep, e1, e2.1, e3⟩
section
variable {pins : List (Addr × Obj)} {σ : L2.St} {H : Hp} {s : Shared}
mutual
theorem Rp.readsX (I : Inv X pins σ H s) : ∀ (d : PyData) (v : V) (u : Value), Rp X.K H v d → noL d = true → RelV v u → ∃ as, Reads s.heap u d as ∧ sysModules ∉ as
  | .none, _, _, h, _, r => by
    cases h; cases r
    exact ⟨_, Reads.none, by simp⟩
  | .bool b, _, _, h, _, r => by
    cases h; cases r
    exact ⟨_, Reads.bool b, by simp⟩
  | .int i, _, _, h, _, r => by
    cases h
    obtain ⟨t, rfl⟩ := r
    exact ⟨_, Reads.int i t, by simp⟩
  | .str x, _, _, h, _, r => by
    cases h
    obtain ⟨t, rfl⟩ := r
    exact ⟨_, Reads.str x t, by simp⟩
  | .list ds, _, _, h, n, r => by simp [noL] at n
  | .tuple ds, _, _, h, n, r => by
    cases h with
    | tup hs ha =>
      cases r
      obtain ⟨its, rv, ⟨o, ho, hc, n2, hd⟩, _⟩ := I.tuple hs.sqt
      obtain ⟨as, hr, q⟩ := RpA.readsX I ds _ its ha (by simpa [noL] using n) rv
      exact ⟨_, Reads.tuple ho hc hd hr, q⟩
  | .dict (p :: ps), _, _, h, n, r => by simp [noL] at n
  | .dict [], v, u, h, _, r => by
    generalize e : PyData.dict [] = d at h
    cases h with
    | @dct a kvs ds h1 h2 =>
      have e0 : (kvs.map (keyD ·.1)).zip ds = [] := (PyData.dict.inj e).symm
      have e1 : kvs = [] := by
        cases kvs with
        | nil => rfl
        | cons p kvs => cases ds with
          | nil => cases h2
          | cons d ds => cases e0
      cases r
      have x : a ≠ sysModules ∧ ∃ o n, s.heap.get? a = some o ∧ o.cls = .type "dict" ∧ o.data = .dict #[] n := by
        rcases h1 with h1 | ⟨o, h1⟩
        · exact sysm (I.hok a _ h1) e1
        · exact sysm (show ObjOk X.prog X.w H s.heap a (.dK kvs) from (show s.heap.get? a = some o ∧ _ from I.hok a _ h1).2) e1
      obtain ⟨n1, o, n, g1, g2, g3⟩ := x
      rw [e0]
      exact ⟨_, Reads.dict g1 g2 g3 ReadsAll.nil ReadsAll.nil, by simp [Ne.symm n1]⟩
    | exn h => cases e
    | obj a => cases e
    | cls h => cases e
    | non => cases e
    | bl => cases e
    | int => cases e
    | str => cases e
    | lst => cases e
    | tup => cases e
theorem RpA.readsX (I : Inv X pins σ H s) : ∀ (ds : List PyData) (vs : List V) (us : List Value), RpA X.K H vs ds → noLs ds = true → Vals vs us → ∃ as, ReadsAll s.heap us ds as ∧ sysModules ∉ as
  | [], _, _, h, _, r => by
    cases h; cases r
    exact ⟨_, ReadsAll.nil, by simp⟩
  | d :: ds, _, _, h, n, r => by
    cases h with
    | cons h1 h2 =>
      cases r with
      | cons r1 r2 =>
        simp only [noLs, Bool.and_eq_true] at n
        obtain ⟨as, q1, n1⟩ := Rp.readsX I d _ _ h1 n.1 r1
        obtain ⟨bs, q2, n2⟩ := RpA.readsX I ds _ _ h2 n.2 r2
        exact ⟨_, ReadsAll.cons q1 q2, by simp [n1, n2]⟩
end
end
theorem cr_repr {k : Nat} (hr : RoomG k X.A) (h40 : 40 ≤ k) : CallR X (.builtin "repr") (rRepr X.K) := by
  intro pins s σ H xs us Q I r h
  obtain ⟨v, d, rfl, rd, hd, q⟩ := h
  obtain ⟨u, rfl, rv⟩ := vals1 r
  have hu := hr.room.un
  have atom : ∀ t h' tk, (∀ b o, s.heap.get? b = some o → h'.get? b = some o) → EP X pins σ Q (.str d.shown t) { s with heap := h', toks := tk } := fun t h' tk hk => ⟨.str d.shown, H, I.kept hk, ⟨_, rfl⟩, q⟩
  have big : d.showable = true ∧ d.depth ≤ 64 ∧ d.shown.length ≤ sizeLine ∧ ∃ as, Reads s.heap u d as ∧ (d.hasDict = true → sysModules ∉ as) := by
    rcases Bool.or_eq_true_iff.mp hd with hd | hd
    · unfold rpr at hd
      simp only [Bool.and_eq_true, Bool.not_eq_true', decide_eq_true_eq] at hd
      obtain ⟨⟨⟨h1, h2⟩, h3⟩, h4⟩ := hd
      obtain ⟨as, hr2⟩ := (rd.dp h1).reads I _ _ _ rv
      exact ⟨h2, h3, h4, as, hr2, PyData.noDict_hsm h1⟩
    · unfold rprX at hd
      simp only [Bool.and_eq_true, decide_eq_true_eq] at hd
      obtain ⟨⟨⟨h1, h2⟩, h3⟩, h4⟩ := hd
      obtain ⟨as, hr2, hs⟩ := Rp.readsX I d v u rd h1 rv
      exact ⟨h2, h3, h4, as, hr2, fun _ => hs⟩
  obtain ⟨h2, h3, h4, as, hr2, hs⟩ := big
  cases rd with
  | non => cases rv; exact PySem.P.repr_of_none ⟨.str _, H, I.tok _, ⟨_, rfl⟩, q⟩
  | bl b => cases rv; exact PySem.P.repr_of_bool ⟨.str _, H, I.tok _, ⟨_, rfl⟩, q⟩
  | int i => obtain ⟨t, rfl⟩ := rv; exact PySem.P.repr_of_int (by simpa [PyData.showable] using h2) ⟨.str _, H, I.tok _, ⟨_, rfl⟩, q⟩
  | str x => obtain ⟨t, rfl⟩ := rv; exact PySem.P.repr_of_str ⟨.str _, H, I.tok _, ⟨_, rfl⟩, q⟩ h4
  | lst a b =>
    cases rv
    exact repr_of_reads' hr2 h2 hs (hr.gd h40) (by omega) (fun _ _ e => e) (fun h' u tk hk => atom u h' tk hk) h4
  | tup a b =>
    cases rv
    exact repr_of_reads' hr2 h2 hs (hr.gd h40) (by omega) (fun _ _ e => e) (fun h' u tk hk => atom u h' tk hk) h4
  | dct a b =>
    cases rv
    exact repr_of_reads' hr2 h2 hs (hr.gd h40) (by omega) (fun _ _ e => e) (fun h' u tk hk => atom u h' tk hk) h4
  | exn a =>
    cases rv
    exact repr_of_reads' hr2 h2 hs (hr.gd h40) (by omega) (fun _ _ e => e) (fun h' u tk hk => atom u h' tk hk) h4
  | obj a =>
    cases rv
    exact repr_of_reads' hr2 h2 hs (hr.gd h40) (by omega) (fun _ _ e => e) (fun h' u tk hk => atom u h' tk hk) h4
  | cls a =>
    cases rv
    exact repr_of_reads' hr2 h2 hs (hr.gd h40) (by omega) (fun _ _ e => e) (fun h' u tk hk => atom u h' tk hk) h4
theorem ok_repr : OkRN K (rRepr K) f_repr := by
  intro H0 H vs as res Q s r e q
  unfold f_repr at e
  split at e
  · obtain ⟨c, rfl⟩ := grd_some e
    obtain ⟨v, rfl, r1⟩ := pr1 r
    exact ⟨v, _, rfl, r1.rp s, c, q _ (.str _)⟩
  · cases e
/-- sorted(list of ints) -/
def insI (x : Int) : List Int → List Int
  | [] => [x]
  | y :: r => if x ≤ y then x :: y :: r else y :: insI x r
def srtI : List Int → List Int
  | [] => []
  | x :: r => insI x (srtI r)
theorem insI_perm (x : Int) : ∀ l : List Int, (insI x l).Perm (x :: l)
  | [] => .refl _
  | y :: r => by
    unfold insI
    split
    · exact .refl _
    · exact .trans (.cons y (insI_perm x r)) (.swap x y r)
theorem srtI_perm : ∀ l : List Int, (srtI l).Perm l
  | [] => .refl _
  | x :: r => .trans (insI_perm x _) (.cons x (srtI_perm r))
theorem insI_srt (x : Int) : ∀ l : List Int, l.Pairwise (· ≤ ·) → (insI x l).Pairwise (· ≤ ·)
  | [], _ => List.pairwise_singleton ..
  | y :: r, h => by
    unfold insI
    obtain ⟨h1, h2⟩ := List.pairwise_cons.mp h
    split
    · rename_i hx
      exact List.pairwise_cons.mpr ⟨fun z hz => by rcases List.mem_cons.mp hz with rfl | hz; exact hx; exact Int.le_trans hx (h1 z hz), h⟩
    · rename_i hx
      refine List.pairwise_cons.mpr ⟨fun z hz => ?_, insI_srt x r h2⟩
      rcases List.mem_cons.mp ((insI_perm x r).mem_iff.mp hz) with rfl | hz
      · omega
      · exact h1 z hz
theorem srtI_srt : ∀ l : List Int, (srtI l).Pairwise (· ≤ ·)
  | [] => .nil
  | x :: r => insI_srt x _ (srtI_srt r)
theorem srt_uniq : ∀ {a b : List Int}, a.Perm b → a.Pairwise (· ≤ ·) → b.Pairwise (· ≤ ·) → a = b := fun p h1 h2 => p.eq_of_pairwise (fun a b _ _ h1 h2 => Int.le_antisymm h1 h2) h1 h2
def f_sortedI : List PyData → Option Res
  | [.list xs] => (intsOf xs).bind fun ns => some (.nl ((srtI ns).map .int))
  | _ => none
theorem ok_sortedI : OkRN K (rSortedI K) f_sortedI := by
  intro H0 H vs as res Q s r e q
  unfold f_sortedI at e
  split at e
  · obtain ⟨ns, e1, e2⟩ := Option.bind_eq_some_iff.mp e
    cases e2
    obtain ⟨v, rfl, r1⟩ := pr1 r
    obtain ⟨a, us, rfl, h1, h2⟩ := r1.lst s
    rw [intsOf_eq e1] at h2
    have := rpa_ints h2
    subst this
    refine ⟨a, ns, rfl, h1, fun ns' p h3 h4 hp => ?_⟩
    rw [srt_uniq (h3.trans (srtI_perm ns).symm) h4 (srtI_srt ns)]
    exact q p _ hp (RpA.ints _)
  · cases e
/-! ### isinstance with a built-in class -/
inductive TyN where
  | int | bool | str | tuple | list | dict
def TyN.name : TyN → String
  | .int => "int" | .bool => "bool" | .str => "str" | .tuple => "tuple" | .list => "list" | .dict => "dict"
def isT : TyN → PyData → Bool
  | .int, .int _ => true
  | .int, .bool _ => true
  | .bool, .bool _ => true
  | .str, .str _ => true
  | .tuple, .tuple _ => true
  | .list, .list _ => true
  | .dict, .dict _ => true
  | _, _ => false
def tyD : PyData → String
  | .none => "NoneType" | .bool _ => "bool" | .int _ => "int" | .str _ => "str" | .list _ => "list" | .tuple _ => "tuple" | .dict _ => "dict"
theorem kit_isT (T : TyN) (d : PyData) : kitB (tyD d) T.name = some (isT T d) := by
  cases d with
  | none => exact (by cases T <;> decide +kernel : kitB "NoneType" T.name = some (isT T .none))
  | bool b => exact (show kitB "bool" T.name = some (isT T (.bool true)) by cases T <;> decide +kernel).trans (by cases T <;> rfl)
  | int b => exact (show kitB "int" T.name = some (isT T (.int 0)) by cases T <;> decide +kernel).trans (by cases T <;> rfl)
  | str b => exact (show kitB "str" T.name = some (isT T (.str "")) by cases T <;> decide +kernel).trans (by cases T <;> rfl)
  | list b => exact (show kitB "list" T.name = some (isT T (.list [])) by cases T <;> decide +kernel).trans (by cases T <;> rfl)
  | tuple b => exact (show kitB "tuple" T.name = some (isT T (.tuple [])) by cases T <;> decide +kernel).trans (by cases T <;> rfl)
  | dict b => exact (show kitB "dict" T.name = some (isT T (.dict [])) by cases T <;> decide +kernel).trans (by cases T <;> rfl)
/-- an exception's sign -/
def isExn : PyData → Bool
  | .dict ((.none, _) :: _) => true
  | _ => false
theorem rp_ty {H : Hp} {v : V} {d : PyData} (r : Rp K H v d) (hx : isExn d = false) : TyX K H v (.type (tyD d)) := by
  cases r with
  | non => exact .base .non
  | bl b => exact .base (.bl b)
  | int i => exact .base (.int i)
  | str x => exact .base (.str x)
  | lst h _ =>
    rcases h with (h | ⟨o, h⟩) | ⟨o, its, n, h1, h2, _⟩
    · exact .base (.lst h)
    · exact .base (.frz h)
    · exact .kList h1 h2
  | tup h _ =>
    obtain ⟨o, h, _⟩ := h
    exact .fTuple h
  | dct h _ =>
    rcases h with h | ⟨o, h⟩
    · exact .base (.dK h)
    · exact .fDict h
  | exn h => cases hx
  | obj a => cases hx
  | cls h => cases hx
def f_isi (T : TyN) (d : PyData) : Option Res := match isExn d with
  | true => none
  | false => ok (.bool (isT T d))
def dIsi (T : TyN) (d : M Val) : M Val := dOp1 (f_isi T) d
theorem de_isi {C : Ctx} {x tn : Str} {p pt pos : Pos} {e : Expr} {d : M Val} {T : TyN} (hK : C.K = X.K) (h : DE X C e d) (hx : Gl X x) (hm : X.mg x = none) (hv : bootBuiltins x = some (.builtin "isinstance")) (ht : Gl X tn) (hmt : X.mg tn = none) (hvt : bootBuiltins tn = some (.type T.name))
    (hn : x ≠ "__name__") (hdb : (x == ("__debug__" : Str)) = false) (hn2 : tn ≠ "__name__") (hdb2 : (tn == ("__debug__" : Str)) = false) (he : starEach [e, .Name tn pt] X.env = (false, eval e X.env) :: starEach [.Name tn pt] X.env) (hpl : (backTo pos (starEach [.Name tn pt] X.env)).any (·.1) = false) : DE X C (.Call (.Name x p) [e, .Name tn pt] [] pos) (dIsi T d) := by
  refine .of (PE.imp (pe_callB call_isi hx hm hv (pa_cons h.pe (pa_cons (pe_bltn ht hmt hvt (v := .ty T.name) rfl hn2 hdb2) pa_nil rfl) he) hn hdb he hpl) fun σ H Q ⟨B, H0, ρ, hB, W, h⟩ => ?_) fun _ => rfl
  refine tD_run hB W h fun H1 H' ρ1 x v W1 S1 r1 q => ?_
  cases e : look ρ1 x with
  | none => rw [e] at q; exact q.elim
  | some a =>
    rw [e] at q
    obtain ⟨res, e2, q2⟩ := optOk_some q
    unfold f_isi at e2
    cases hx : isExn a with
    | true => rw [hx] at e2; cases e2
    | false =>
      rw [hx] at e2
      cases e2
      refine ⟨v, .ty T.name, .type (tyD a), .type T.name, _, rfl, .ty _, ?_, kit_ty (kit_isT T a), res_ok W1 q2 _ (.bl _)⟩
      rw [← hK]
      exact rp_ty ((look_rd W1 r1 e).rp W1.s0) hx
end
end DL
end

section
set_option Elab.async false
set_option linter.all false
set_option maxRecDepth 100000
set_option maxHeartbeats 2000000
namespace DL
open PySem PySem.Spec PyProof.Rows L2
/-- what every rule of a running def asks -/
structure XO (X : Cx) (C : Ctx) (k : Nat) (cls : Nat → Value) : Prop where
  hK : C.K = X.K
  nd : X.N.Nodup
  calm : X.calm = true
  rm : RoomG k X.A
  lk : Lnk X C cls
theorem lnk_nox {X : Cx} {C : Ctx} {cls : Nat → Value} (h : ∀ c ρ, ¬ C.wish c ρ) : Lnk X C cls := fun u s' ⟨a, B, sI, pins, σ, H, cv, d, _, _, _, _, _, _, _, _, w⟩ => by
  obtain ⟨_, c, H0, ρ, _, _, z⟩ := w
  exact absurd z (h c ρ)
theorem XO.blk {X : Cx} {C : Ctx} {k : Nat} {cls : Nat → Value} (O : XO X C k cls) (s : Shared) (H : Hp) (scope : Scope) (env : Env) (fp : List Addr) : XO (X.blk s H scope env fp) C.nox k cls :=
  ⟨O.hK, O.nd, O.calm, O.rm, lnk_nox fun _ _ z => z⟩
structure NmOk (x : Str) : Prop where
  d : (x == ("__debug__" : Str)) = false
  c : (x == ("__classdict__" : Str)) = false
  n : x ≠ "__name__"
/-- what is never reached -/
def dStuck : M Val := fun _ => .stuck
def sStuck : SD := fun _ => .stuck
theorem ds_stuck {X : Cx} {C : Ctx} {st : Stmt} : DS X C st sStuck := ⟨⟨fun pins s σ H D I h => by
  obtain ⟨H0, ρ, W, q⟩ := h
  exact q.elim⟩⟩
theorem de_stuck {X : Cx} {C : Ctx} {e : Expr} : DE X C e dStuck := ⟨⟨fun pins s σ H Q I h => by
  obtain ⟨B, H0, ρ, hB, W, q⟩ := h
  exact q.elim⟩, ⟨fun pins s σ H Q I h => by
  obtain ⟨B, H0, ρ, hB, W, q⟩ := h
  exact q.elim⟩⟩
theorem relV_int {i : Int} {t : Tok} : RelV (.int i) (.int i t) := ⟨t, rfl⟩

/-! ### the law's own call -/
section
variable {P : Program} {w : World} {K : PySem.W.Frag} {mg mb : Str → Option Value} {k : Nat} {fa a : Addr} {fd : FuncData} {x : Str} {sp : Sp} {sA : Shared} {us : List Value} {ns : List Int}
theorem ofOnly {b : Addr} {HS : Hp} {e : Prop} (z : HS b ≠ none → e) (h : ¬ e) : HS b = none := Classical.byContradiction fun y => h (z y)
theorem law_run {HS : Hp} (inK : K.In sA.heap) (nsM : sA.heap.Ns mainGlobals mg) (nsB : sA.heap.Ns builtinsNs mb) (boot : ∀ x : Str, x ≠ "__name__" → mb x = bootBuiltins x) (noL : sA.heap.NoLimit) (noG : sA.gens = #[])
    (scr : sA.heap.get? a = some { cls := .type "list", data := .seq us.toArray }) (room : RoomG k callerA)
    (F : ∀ base : Heap, K.In base → base.Ns mainGlobals mg → FnG P w K mg base (L2.CX P w) k fa fd [x] sp) (bnd : ∀ (s : Shared) (u : Value), BindsTo s fd ⟨[u], []⟩ [(x, u)])
    (only : ∀ b, HS b = none ∨ ∃ o xs, HS b = some (.frz o (.lst xs))) (ok : HOk P w HS sA.heap) (just : ∀ b, HS b ≠ none → b = a) (notK : HS a ≠ none → K.lookup a = none)
    (promise : sp [.ref a] HS (fun v _ => v = .bl true) fun _ _ _ => False) :
    codeAny (model P w) callerA (.call (.ref fa) ⟨[.ref a], []⟩) (fun r s' => r = .ok (.ret (.bool true)) ∧ OldK sA.heap s'.heap ∧ s'.os = sA.os ∧ AllBare s'.gens) sA := by
  have free : ∀ {b : Addr} {ob : Obj}, sA.heap.get? b = some ob → (∀ vs : Array Value, ob.data ≠ .seq vs) → HS b = none := fun {b ob} g1 g2 =>
    ofOnly (just b) fun z => by
      rw [z, scr] at g1
      cases g1
      exact g2 _ rfl
  have under : ∀ {b : Addr} {m : Str → Option Value}, sA.heap.Ns b m → (hidT sA.heap HS).Ns b m := fun {b m} ⟨ob, es, ep, g1, g2, g3⟩ =>
    ⟨ob, es, ep, hidT_get g1 (free g1 fun vs z => by rw [g2] at z; cases z), g2, g3⟩
  have inB : K.In (hidT sA.heap HS) := fun b ob g => hidT_get (inK b ob g) (Classical.byContradiction fun z => by
    have eb := just b z
    subst eb
    rw [notK z] at g
    cases g)
  have ground : Mod K mg (hidT sA.heap HS) := ⟨inB, under nsM, ⟨mb, under nsB, boot⟩, noL.elim fun mc g => ⟨mc, under g.1, g.2⟩⟩
  have env0 : Env0 P w K mg (hidT sA.heap HS) callerA [] sA HS :=
    { mod := ground, bs := fun b ob g => of_hidT g, bsz := Nat.le_of_eq (hidT_size _ _), hok := ok, bare := .of_eq noG, frames := rfl, funs := trivial, frf := fun b z => by cases z }
  have go := (F _ inB (under nsM)).run callerA [] sA HS ⟨[.ref a], []⟩ [.ref a] [.ref a] (fun v _ => v = .bl true) (fun _ _ _ => False) room env0 (bnd sA (.ref a)) (.cons rfl .nil) promise
  refine codeAny_mono go fun r s' g => ?_
  match r with
  | .error u =>
    obtain ⟨_, _, _, _, _, _, _, _, _, _, _, _, z⟩ := g
    exact z.elim
  | .ok .next => exact g.elim
  | .ok .brk => exact g.elim
  | .ok .cont => exact g.elim
  | .ok (.ret u) =>
    obtain ⟨v, HE, sameOs, bare, un, okE, rel, z⟩ := g
    have z : v = .bl true := z
    subst z
    have rel : u = Value.bool true := rel
    subst rel
    refine ⟨rfl, OldK.of_keep fun b ob g1 => ?_, sameOs, bare⟩
    rcases only b with g2 | ⟨fz, xs, g2⟩
    · exact un.keep b ob g1 g2 (fun z => by cases z) (by simp)
    · have g3 := (okE b _ (un.frzs b fz _ g2)).1
      have g4 := (ok b _ g2).1
      rw [g1] at g4
      cases g4
      exact g3
theorem law_go (inK : K.In sA.heap) (nsM : sA.heap.Ns mainGlobals mg) (nsB : sA.heap.Ns builtinsNs mb) (boot : ∀ x : Str, x ≠ "__name__" → mb x = bootBuiltins x) (noL : sA.heap.NoLimit) (noG : sA.gens = #[])
    (scr : sA.heap.get? a = some { cls := .type "list", data := .seq us.toArray }) (nums : IntsAre us ns) (few : ns.length ≤ sizeLine) (room : RoomG k callerA)
    (F : ∀ base : Heap, K.In base → base.Ns mainGlobals mg → FnG P w K mg base (L2.CX P w) k fa fd [x] sp) (bnd : ∀ (s : Shared) (u : Value), BindsTo s fd ⟨[u], []⟩ [(x, u)])
    (promise : ∀ HS : Hp, SqL K HS a (ns.map V.int) → sp [.ref a] HS (fun v _ => v = .bl true) fun _ _ _ => False) :
    codeAny (model P w) callerA (.call (.ref fa) ⟨[.ref a], []⟩) (fun r s' => r = .ok (.ret (.bool true)) ∧ OldK sA.heap s'.heap ∧ s'.os = sA.os ∧ AllBare s'.gens) sA := by
  have vals := vals_of_ints nums
  have many := nums.length
  by_cases hk : K.lookup a = none
  · let HS : Hp := fun b => if b = a then some (.frz { cls := .type "list", data := .seq us.toArray } (.lst (ns.map V.int))) else none
    have at_a : HS a = some (.frz { cls := .type "list", data := .seq us.toArray } (.lst (ns.map V.int))) := if_pos rfl
    have off : ∀ {b : Addr}, b ≠ a → HS b = none := fun z => if_neg z
    refine law_run (HS := HS) inK nsM nsB boot noL noG scr room F bnd (fun b => ?_) (fun b u g => ?_) (fun b g => Classical.byContradiction fun z => g (off z)) (fun _ => hk) (promise HS (.inl (.inr ⟨_, at_a⟩)))
    · by_cases z : b = a
      · exact .inr ⟨_, _, by rw [z]; exact at_a⟩
      · exact .inl (off z)
    · by_cases z : b = a
      · subst z
        rw [at_a] at g
        cases g
        refine ⟨scr, ?_⟩
        exact ⟨by rw [List.length_map]; exact few, us, _, vals, scr⟩
      · rw [off z] at g; cases g
  · obtain ⟨ob, hk⟩ := Option.ne_none_iff_exists'.mp hk
    have g := inK a ob hk
    rw [scr] at g
    cases g
    refine law_run (HS := fun _ => none) inK nsM nsB boot noL noG scr room F bnd (fun _ => .inl rfl) (fun b u z => by cases (show (none : Option HO) = some u from z)) (fun b z => absurd rfl z) (fun z => absurd rfl z) (promise _ (.inr ⟨_, us.toArray, _, hk, rfl, rfl, rfl, ?_, by simpa using vals⟩))
    rw [List.size_toArray]
    omega
end
theorem promise_of {K : PySem.W.Frag} {cls : Nat → Value} {Fl : Fn} {HS : Hp} {a : Addr} {ns : List Int} (hs : SqL K HS a (ns.map V.int)) (h : Fl [.sh (.list (ns.map .int))] = .ret (.sh (.bool true)) []) : spF K cls 1 Fl [.ref a] HS (fun v _ => v = .bl true) fun _ _ _ => False := by
  refine ⟨rfl, HS, [.sh (.list (ns.map .int))], Same.refl _, .cons (.lst hs (RpA.ints ns)) .nil, List.nodup_nil, ?_⟩
  rw [h]
  intro H0' H' v _ r
  cases (show Rp K H0' v (.bool true) from r)
  rfl
theorem law_walk {l : PySem.W.OpenLaw} {k : Nat} {q : Program} {loose : List Str} {XP : (Str → Option Value) → Heap → Prop} {YP : World → Heap → Prop} {d : DefRec} {K : Params → PySem.W.Frag} {x : Str} {Fl : Fn}
    (hn : l.most = some 63) (hdf : d.params.defaults = []) (room : RoomG k callerA) (inK : ∀ (w : World) (h : Heap), YP w h → (K w.params).In h)
    (F : ∀ (w : World) (mg : Str → Option Value) (fa : Addr) (h : Heap), (K w.params).In h → h.Ns mainGlobals mg → mg d.name = some (.ref fa) →
      ∃ (fd : FuncData) (cls : Nat → Value), (∀ (s : Shared) (u : Value), BindsTo s fd ⟨[u], []⟩ [(x, u)]) ∧ ∀ base : Heap, (K w.params).In base → base.Ns mainGlobals mg → FnG l.prog w (K w.params) mg base (L2.CX l.prog w) k fa fd [x] (spF (K w.params) cls 1 Fl))
    (keeps : ∀ ns : List Int, ns.length ≤ 63 → (∀ z ∈ ns, Builtin.Int.intBits z ≤ 1048576) → Fl [.sh (.list (ns.map .int))] = .ret (.sh (.bool true)) []) :
    PySem.W.WalkO q loose XP YP l.row.toRowW d [] (fun f vs => PySem.call f vs) :=
  Att.attach_callB hn hdf fun w s0 sA mg mb fa o pm cd doc a us ns G Y _ _ _ hmg scr nums few bits noG => by
    obtain ⟨fd, cls, bnd, FG⟩ := F w mg fa _ (inK w _ Y) G.T.g hmg
    exact law_go (inK w _ Y) G.T.g G.T.b G.T.builtins G.T.nolimit noG scr nums (Nat.le_trans few (by decide)) room FG bnd fun HS hs => promise_of hs (keeps ns few bits)
end DL
end

section
set_option Elab.async false
set_option linter.all false
set_option maxRecDepth 100000
set_option maxHeartbeats 2000000
namespace DL
open PySem PySem.Spec PyProof.Rows L2
/-! ### the rules in short, for printed terms -/
structure BO (X : Cx) (C : Ctx) (op : Operator) (f : PyData → PyData → Option Res) : Prop where
  ex : ∃ r, OpR X (binaryOp op) r ∧ OkR2 C.K r f
structure CO (X : Cx) (C : Ctx) (op : CmpOp) (f : PyData → PyData → Option Res) : Prop where
  ex : ∃ r, OpR X (compareOp op) r ∧ OkR2 C.K r f
structure IO (X : Cx) (C : Ctx) (op : Operator) (f : PyData → PyData → Option Res) : Prop where
  ex : ∃ r, OpR X (inplaceOp op) r ∧ OkR2 C.K r f
structure BF (X : Cx) (C : Ctx) (x : Str) (f : List PyData → Option Res) : Prop where
  ex : ∃ r id, bootBuiltins x = some (.builtin id) ∧ CallR X (.builtin id) r ∧ OkRN C.K r f
structure BT (X : Cx) (C : Ctx) (x : Str) (f : List PyData → Option Res) : Prop where
  ex : ∃ r T, bootBuiltins x = some (.type T) ∧ CallR X (.type T) r ∧ OkRN C.K r f
theorem fn_mk {P : Program} {w : World} {K : PySem.W.Frag} {mg : Str → Option Value} {base : Heap} {x qual : Str} {st : Stmt} {f : Addr} {fd : FuncData} {N ps : List Str} {k n : Nat} {d : SD} {Fx : Fn} {cls : Nat → Value} (F : Fun K x qual st f fd) (S : FnScope N ps (defScope st)) (hn : n = ps.length) (hF : Fx = fnRes d N.length)
    (hbody : ∀ (cdv : Value) (A : Around) (outer : List Env) (s : Shared) (H : Hp) (E : XK) (C : Ctx), XO (cxOf (L2.CX P w) P w K mg base N qual (defScope st) f cdv A outer s H E) C k cls → DSs (cxOf (L2.CX P w) P w K mg base N qual (defScope st) f cdv A outer s H E) C (defBody st) d) :
    FnG P w K mg base (L2.CX P w) (k + 1) f fd ps (spF K cls n Fx) := by
  subst hn hF
  exact fn_den F S fun cdv A outer s H E C hr hK lk => hbody cdv A outer s H E C ⟨hK, S.nd, rfl, hr, lk⟩
theorem fn_mkC {P : Program} {w : World} {K : PySem.W.Frag} {mg : Str → Option Value} {base : Heap} {x qual : Str} {st : Stmt} {f : Addr} {fd : FuncData} {N ps : List Str} {k n : Nat} {d : SD} {Fx : Fn} {cls : Nat → Value} (F : Fun K x qual st f fd) (S : FnScope N ps (defScope st)) (hn : n = ps.length) (hF : Fx = fnRes d N.length)
    (hbody : ∀ (cdv : Value), PySem.W.codeIn K cdv qual = true → ∀ (A : Around) (outer : List Env) (s : Shared) (H : Hp) (E : XK) (C : Ctx), XO (cxOf (L2.CX P w) P w K mg base N qual (defScope st) f cdv A outer s H E) C k cls → DSs (cxOf (L2.CX P w) P w K mg base N qual (defScope st) f cdv A outer s H E) C (defBody st) d) :
    FnG P w K mg base (L2.CX P w) (k + 1) f fd ps (spF K cls n Fx) := by
  subst hn hF
  exact fn_denC F S fun cdv hcd A outer s H E C hr hK lk => hbody cdv hcd A outer s H E C ⟨hK, S.nd, rfl, hr, lk⟩
section
variable {X : Cx} {C : Ctx} {k : Nat} {cls : Nat → Value}
theorem XO.un (O : XO X C k cls) : X.A.units + 64 < cLine := by have := O.rm.room.un; omega
theorem XO.add (O : XO X C k cls) : BO X C .Add f_add := ⟨_, op_Add, O.hK ▸ ok_add⟩
theorem XO.sub (O : XO X C k cls) : BO X C .Sub f_sub := ⟨_, op_sub, ok_sub⟩
theorem XO.mul (O : XO X C k cls) : BO X C .Mult f_mul := ⟨_, op_Mul, O.hK ▸ ok_mul⟩
theorem XO.dvi (O : XO X C k cls) : BO X C .FloorDiv f_div := ⟨_, op_fdivW, ok_div⟩
theorem XO.mod (O : XO X C k cls) : BO X C .Mod f_mod := ⟨_, op_mod, ok_mod⟩
theorem XO.pow (O : XO X C k cls) : BO X C .Pow f_pow := ⟨_, op_powW, ok_pow⟩
theorem XO.addI (O : XO X C k cls) : IO X C .Add f_addI := ⟨_, iop_Add, ok_addI⟩
theorem XO.mulI (O : XO X C k cls) : IO X C .Mult f_mulI := ⟨_, iop_mulW, ok_mulI⟩
theorem XO.subI (O : XO X C k cls) : IO X C .Sub f_sub := ⟨_, iop_sub, ok_sub⟩
theorem XO.lt (O : XO X C k cls) : CO X C .Lt f_lt := ⟨_, op_lt, ok_cmp _⟩
theorem XO.le (O : XO X C k cls) : CO X C .LtE f_le := ⟨_, op_le, ok_cmp _⟩
theorem XO.gt (O : XO X C k cls) : CO X C .Gt f_gt := ⟨_, op_gt, ok_cmp _⟩
theorem XO.ge (O : XO X C k cls) : CO X C .GtE f_ge := ⟨_, op_ge, ok_cmp _⟩
theorem XO.eq (O : XO X C k cls) : CO X C .Eq f_eq := ⟨_, OpR.or op_eq (op_eqD O.un), O.hK ▸ ok_eq⟩
theorem XO.ne (O : XO X C k cls) : CO X C .NotEq f_ne := ⟨_, OpR.or op_ne (op_neD O.un), O.hK ▸ ok_ne⟩
theorem XO.is (O : XO X C k cls) : CO X C .Is f_isN := ⟨_, op_isN, ok_isN⟩
theorem XO.isnt (O : XO X C k cls) : CO X C .IsNot f_notN := ⟨_, op_notN, ok_notN⟩
theorem XO.len (O : XO X C k cls) : BF X C "len" f_len := ⟨_, "len", by decide +kernel, cr_len, O.hK ▸ ok_len⟩
theorem XO.abs (O : XO X C k cls) : BF X C "abs" f_abs := ⟨_, "abs", by decide +kernel, call_abs, ok_abs⟩
theorem XO.max (O : XO X C k cls) : BF X C "max" f_max := ⟨_, "max", by decide +kernel, cr_max' O.calm, O.hK ▸ ok_max⟩
theorem XO.min (O : XO X C k cls) : BF X C "min" f_min := ⟨_, "min", by decide +kernel, cr_min' O.calm, O.hK ▸ ok_min⟩
theorem XO.sum (O : XO X C k cls) : BF X C "sum" f_sum := ⟨_, "sum", by decide +kernel, cr_sum' O.calm, O.hK ▸ ok_sum⟩
theorem XO.all (O : XO X C k cls) : BF X C "all" f_all := ⟨_, "all", by decide +kernel, cr_all O.calm, O.hK ▸ ok_all⟩
theorem XO.any (O : XO X C k cls) : BF X C "any" f_any := ⟨_, "any", by decide +kernel, cr_any O.calm, O.hK ▸ ok_any⟩
theorem XO.repr (O : XO X C k cls) (h : 40 ≤ k) : BF X C "repr" f_repr := ⟨_, "repr", by decide +kernel, cr_repr O.rm h, O.hK ▸ ok_repr⟩
theorem XO.sorted (O : XO X C k cls) : BF X C "sorted" f_sortedI := ⟨_, "sorted", by decide +kernel, cr_sortedI, O.hK ▸ ok_sortedI⟩
theorem XO.list (O : XO X C k cls) : BT X C "list" f_list := ⟨_, "list", by decide +kernel, call_list_of, O.hK ▸ ok_list⟩
theorem XO.tuple (O : XO X C k cls) : BT X C "tuple" f_tuple := ⟨_, "tuple", by decide +kernel, call_tupleN, O.hK ▸ ok_tuple⟩
theorem XO.int (O : XO X C k cls) : BT X C "int" f_int := ⟨_, "int", by decide +kernel, call_int1, ok_int⟩
theorem XO.bool (O : XO X C k cls) : BT X C "bool" f_bool := ⟨_, "bool", by decide +kernel, call_bool1, ok_bool⟩
theorem XO.str (O : XO X C k cls) : BT X C "str" f_str := ⟨_, "str", by decide +kernel, cr_str', ok_str⟩
theorem x_op {a b : Expr} {op : Operator} {f : PyData → PyData → Option Res} {da db : M Val} {pos : Pos} (o : BO X C op f) (ha : DE X C a da) (hb : DE X C b db) : DE X C (.BinOp a op b pos) (dOp2 f da db) :=
  let ⟨_, h1, h2⟩ := o.ex; de_op2 h1 h2 ha hb
theorem x_cmp {a b : Expr} {op : CmpOp} {f : PyData → PyData → Option Res} {da db : M Val} {pos : Pos} (o : CO X C op f) (ha : DE X C a da) (hb : DE X C b db) (hm : behindInMarks op b = false) : DE X C (.Compare a [op] [b] pos) (dOp2 f da db) :=
  let ⟨_, h1, h2⟩ := o.ex; de_cmp h1 h2 ha hb hm
theorem x_chain {a b c : Expr} {op op' : CmpOp} {f f' : PyData → PyData → Option Res} {da db dc : M Val} {pos : Pos} (o : CO X C op f) (o' : CO X C op' f') (ha : DE X C a da) (hb : DE X C b db) (hc : DE X C c dc)
    (hm : lastMarks [op, op'] [b, c] = false) : DE X C (.Compare a [op, op'] [b, c] pos) (dChain f f' da db dc) :=
  let ⟨_, h1, h2⟩ := o.ex; let ⟨_, h3, h4⟩ := o'.ex; de_chain h1 h3 h2 h4 ha hb hc hm
theorem x_neg {a : Expr} {da : M Val} {pos : Pos} (ha : DE X C a da) : DE X C (.UnaryOp .USub a pos) (dOp1 f_neg da) := de_un un_neg ok_neg ha fun _ => rfl
theorem x_aug {i : Nat} {x : Str} {e : Expr} {d : M Val} {op : Operator} {f : PyData → PyData → Option Res} {pos pos' : Pos} (O : XO X C k cls) (o : IO X C op f) (hi : X.N[i]? = some x) (hx : Loc X.env.scope x) (he : DE X C e d) (hf : X.fn x = true ∨ X.env.scope.names.lookup x = some .local) : DS X C (.AugAssign (.Name x pos') op e pos) (sAug i f d) :=
  let ⟨_, h1, h2⟩ := o.ex; ds_aug O.nd hi hx he h1 h2 hf
theorem x_var {i : Nat} {x : Str} {pos : Pos} (n : NmOk x) (hN : X.N[i]? = some x) (hv : Vis X.env.scope x) : DE X C (.Name x pos) (dVar i) := de_var hN hv n.d n.c
theorem x_glob {x : Str} {i : Int} {t : Tok} {pos : Pos} (n : NmOk x) (hm : X.mg x = some (.int i t)) (hg : Gl X x) : DE X C (.Name x pos) (dC (.int i)) := de_glob (v := .int i) hg hm ⟨t, rfl⟩ (fun _ => .int i) n.d
theorem x_globS {x : Str} {i : Str} {t : Tok} {pos : Pos} (n : NmOk x) (hm : X.mg x = some (.str i t)) (hg : Gl X x) : DE X C (.Name x pos) (dC (.str i)) := de_glob (v := .str i) hg hm ⟨t, rfl⟩ (fun _ => .str i) n.d
theorem x_blt {x : Str} {p pos : Pos} {e : Expr} {es : List Expr} {ds : List (M Val)} {f : List PyData → Option Res} (n : NmOk x) (o : BF X C x f) (hm : X.mg x = none) (hg : Gl X x) (ha : PA X (e :: es) (tDL C (evL ds)))
    (he : starEach (e :: es) X.env = (false, eval e X.env) :: starEach es X.env) (hpl : (backTo pos (starEach es X.env)).any (·.1) = false) : DE X C (.Call (.Name x p) (e :: es) [] pos) (dB f ds) :=
  let ⟨_, _, h1, h2, h3⟩ := o.ex; de_callB h2 h3 hg hm h1 ha n.n n.d he hpl
theorem x_typ {x : Str} {p pos : Pos} {e : Expr} {es : List Expr} {ds : List (M Val)} {f : List PyData → Option Res} (n : NmOk x) (o : BT X C x f) (hm : X.mg x = none) (hg : Gl X x) (ha : PA X (e :: es) (tDL C (evL ds)))
    (he : starEach (e :: es) X.env = (false, eval e X.env) :: starEach es X.env) (hpl : (backTo pos (starEach es X.env)).any (·.1) = false) : DE X C (.Call (.Name x p) (e :: es) [] pos) (dB f ds) :=
  let ⟨_, _, h1, h2, h3⟩ := o.ex; de_callTy h2 h3 hg hm h1 ha n.n n.d he hpl
theorem x_isi {tn : Str} {p pt pos : Pos} {e : Expr} {d : M Val} {T : TyN} (O : XO X C k cls) (n1 : NmOk "isinstance") (n2 : NmOk tn) (hm : X.mg "isinstance" = none) (hmt : X.mg tn = none) (hvt : bootBuiltins tn = some (.type T.name)) (h : DE X C e d) (hx : Gl X "isinstance") (ht : Gl X tn)
    (he : starEach [e, .Name tn pt] X.env = (false, eval e X.env) :: starEach [.Name tn pt] X.env) (hpl : (backTo pos (starEach [.Name tn pt] X.env)).any (·.1) = false) : DE X C (.Call (.Name "isinstance" p) [e, .Name tn pt] [] pos) (dIsi T d) :=
  de_isi O.hK h hx hm (by decide +kernel) ht hmt hvt n1.n n1.d n2.n n2.d he hpl
theorem x_call {j n : Nat} {F : Fn} {x : Str} {p pos : Pos} {e : Expr} {es : List Expr} {ms : List (Bool × M Val)} (O : XO X C k cls) (nm : NmOk x) (h : CallOk X.prog X.w X.K X.mg X.base cls j x n F) (hj : j ≤ k) (hg : Gl X x) (ha : PA X (e :: es) (tDAv C (evAV ms))) (hn : ms.length = n)
    (he : starEach (e :: es) X.env = (false, eval e X.env) :: starEach es X.env) (hpl : (backTo pos (starEach es X.env)).any (·.1) = false) : DE X C (.Call (.Name x p) (e :: es) [] pos) (dCall F ms) :=
  de_call (h.mono hj) O.hK O.lk O.rm hg ha hn nm.d he hpl
theorem x_call0 {j : Nat} {F : Fn} {x : Str} {p pos : Pos} (O : XO X C k cls) (nm : NmOk x) (h : CallOk X.prog X.w X.K X.mg X.base cls j x 0 F) (hj : j ≤ k) (hg : Gl X x) : DE X C (.Call (.Name x p) [] [] pos) (dCall F []) :=
  de_call0 (h.mono hj) O.hK O.lk O.rm hg nm.d
theorem x_app {e : Expr} {x : Str} {i : Nat} {d : M Val} {apos cpos px : Pos} (O : XO X C k cls) (n : NmOk x) (hN : X.N[i]? = some x) (hv : Vis X.env.scope x) (he : DE X C e d) (hbase : attributeBase (.Name x px) "append" X.env (eval (.Name x px) X.env) = eval (.Name x px) X.env)
    (hfew : ((backTo cpos (starEach [e] X.env)).all (fun x => !x.1) && (backToKw cpos (keywordEach [] X.env)).all (fun x => x.1.isSome) && decide ([e].length + ([] : List Keyword).length + (if ([] : List Keyword).isEmpty then 0 else 1) < 30)) = true)
    (hline : (apos.endLine == cpos.line) = true) (hs : starEach [e] X.env = (false, eval e X.env) :: starEach [] X.env) : DE X C (.Call (.Attribute (.Name x px) "append" apos) [e] [] cpos) (dMutM i [d] f_append) :=
  de_mut O.hK F.slot_list_append rfl mt_append ok_append (pe_var hN hv n.d n.c) (pas_cons he pas_nil hs) hbase hfew hline hs rfl
theorem x_pop0 {x : Str} {i : Nat} {apos cpos px : Pos} (O : XO X C k cls) (n : NmOk x) (hN : X.N[i]? = some x) (hv : Vis X.env.scope x) (hbase : attributeBase (.Name x px) "pop" X.env (eval (.Name x px) X.env) = eval (.Name x px) X.env)
    (hline : (apos.endLine == cpos.line) = true) : DE X C (.Call (.Attribute (.Name x px) "pop" apos) [] [] cpos) (dMutM i [] f_pop) :=
  de_mut0 O.hK F.slot_list_pop rfl mt_pop ok_pop (pe_var hN hv n.d n.c) hbase hline
theorem x_popAt {e : Expr} {x : Str} {i : Nat} {d : M Val} {apos cpos px : Pos} (O : XO X C k cls) (n : NmOk x) (hN : X.N[i]? = some x) (hv : Vis X.env.scope x) (he : DE X C e d) (hbase : attributeBase (.Name x px) "pop" X.env (eval (.Name x px) X.env) = eval (.Name x px) X.env)
    (hfew : ((backTo cpos (starEach [e] X.env)).all (fun x => !x.1) && (backToKw cpos (keywordEach [] X.env)).all (fun x => x.1.isSome) && decide ([e].length + ([] : List Keyword).length + (if ([] : List Keyword).isEmpty then 0 else 1) < 30)) = true)
    (hline : (apos.endLine == cpos.line) = true) (hs : starEach [e] X.env = (false, eval e X.env) :: starEach [] X.env) : DE X C (.Call (.Attribute (.Name x px) "pop" apos) [e] [] cpos) (dMutM i [d] f_popAt) :=
  de_mut O.hK F.slot_list_pop rfl mt_popAt ok_popAt (pe_var hN hv n.d n.c) (pas_cons he pas_nil hs) hbase hfew hline hs rfl
theorem x_gsub {e : Expr} {x : Str} {i : Nat} {di : M Val} {pos px : Pos} (n : NmOk x) (hN : X.N[i]? = some x) (hv : Vis X.env.scope x) (hi : DE X C e di)
    (ha : ∀ v, assign (.Subscript (.Name x px) e pos) X.env v = (do
      let ov ← holding [v] (eval (.Name x px) X.env)
      let iv ← holding [v, ov] (eval e X.env)
      standAt pos; holding [v, ov, iv] (setItem ov iv v); release [v, ov, iv] [])) : DG X C (.Subscript (.Name x px) e pos) [] (gtSub i di) :=
  dg_sub (pe_var hN hv n.d n.c) hi (pg_sub (pe_var hN hv n.d n.c) hi.pe set_list ha)
end
end DL
end

section
set_option Elab.async false
set_option linter.all false
set_option maxRecDepth 100000
set_option maxHeartbeats 2000000
namespace DL
open PySem PySem.Spec PyProof.Rows L2
/-! ### range(..) as a value: reversed, list, tuple of it -/
def intM (x : Val) : M Int := fun ρ => match look ρ x with
  | some (.int i) => .ok i ρ
  | _ => .stuck
def dRg1 (d : M Val) : M (Int × Int) := mbind d fun x => mbind (intM x) fun j => mpure (0, j)
def dRg2 (d e : M Val) : M (Int × Int) := mbind d fun x => mbind (intM x) fun i => mbind e fun y => mbind (intM y) fun j => mpure (i, j)
def tDR (C : Ctx) (m : M (Int × Int)) : L2.St → Hp → (Int → Int → Hp → Prop) → Prop := fun σ H Q => ∃ B H0 ρ, Same C.Hb B ∧ Wd C B H0 H σ ρ ∧ stG C B H0 σ (fun _ H' _ p => Q p.1 p.2 H') (m ρ)
structure DR (X : Cx) (C : Ctx) (e : Expr) (m : M (Int × Int)) : Prop where
  pr : PRg X e (tDR C m)
theorem PRg.imp {X : Cx} {e : Expr} {t t' : L2.St → Hp → (Int → Int → Hp → Prop) → Prop} (h : PRg X e t) (k : ∀ σ H Q, t' σ H Q → t σ H Q) : PRg X e t' := fun pins s σ H Q I q => h pins s σ H Q I (k σ H Q q)
section
variable {X : Cx} {C : Ctx} {B H0 H : Hp} {σ : L2.St} {ρ : Rho} {tg : Expr} {k : Nat} {cls : Nat → Value}
theorem int_run {α : Type} {P : Hp → Hp → Rho → α → Prop} {x : Val} {v : V} {kk : Int → M α} (W : Wd C B H0 H σ ρ) (r : VlR C.K B H0 H σ ρ v x) (h : stG C B H0 σ P (mbind (intM x) kk ρ)) : ∃ i, v = .int i ∧ stG C B H0 σ P (kk i ρ) := by
  unfold mbind intM at h
  cases e : look ρ x with
  | none => rw [e] at h; exact h.elim
  | some d =>
    rw [e] at h
    cases d with
    | int i => exact ⟨i, (look_rd W r e).int, h⟩
    | _ => exact h.elim
theorem dr_1 {a : Expr} {d : M Val} {p pos : Pos} (hg : Gl X "range") (hm : X.mg "range" = none) (h : DE X C a d) (hs : starEach [a] X.env = (false, eval a X.env) :: starEach [] X.env) : DR X C (.Call (.Name "range" p) [a] [] pos) (dRg1 d) :=
  ⟨PRg.imp (prg_1 hg hm h.pe hs) fun σ H Q ⟨B, H0, ρ, hB, W, q⟩ => tD_run hB W q fun H1 H' ρ1 x v W1 S1 r1 q1 => by
    obtain ⟨i, e, q2⟩ := int_run W1 r1 q1
    exact ⟨i, e, q2 H1 H' W1 (Same.refl _)⟩⟩
theorem dr_2 {a b : Expr} {d e : M Val} {p pos : Pos} (hg : Gl X "range") (hm : X.mg "range" = none) (h : DE X C a d) (h2 : DE X C b e) (hs : starEach [a, b] X.env = (false, eval a X.env) :: starEach [b] X.env) (hs2 : starEach [b] X.env = (false, eval b X.env) :: starEach [] X.env) (hp : (backTo pos (starEach [b] X.env)).any (·.1) = false) :
    DR X C (.Call (.Name "range" p) [a, b] [] pos) (dRg2 d e) :=
  ⟨PRg.imp (prg_2 hg hm h.pe h2.pe hs hs2 hp) fun σ H Q ⟨B, H0, ρ, hB, W, q⟩ => tD_run hB W q fun H1 H' ρ1 x v W1 S1 r1 q1 => by
    obtain ⟨i, e1, q2⟩ := int_run W1 r1 q1
    refine tD_run (hB) W1 q2 fun H2 H'' ρ2 y u W2 S2 r2 q3 => ?_
    obtain ⟨j, e2, q4⟩ := int_run W2 r2 q3
    exact ⟨i, j, e1, e2, q4 H2 H'' W2 (Same.refl _)⟩⟩
def revRg (p : Int × Int) : M (List PyData) := fun ρ => if (i62 p.1 && i62 p.2) = true then .ok (rngL (p.1 + (((p.2 - p.1).toNat : Nat) : Int) - 1) (-1) (p.2 - p.1).toNat) ρ else .stuck
def iRevRg (m : M (Int × Int)) : M (List PyData) := mbind m revRg
theorem di_revRg {e : Expr} {m : M (Int × Int)} {p pos : Pos} (hg : Gl X "reversed") (hm : X.mg "reversed" = none) (h : DR X C e m) (hs : starEach [e] X.env = (false, eval e X.env) :: starEach [] X.env) : DI X C tg (.Call (.Name "reversed" p) [e] [] pos) (iRevRg m) :=
  ⟨PI.imp (L2.pi_revR hg hm h.pr hs) fun σ H R ⟨B, H0, ρ, hB, W, q⟩ => ⟨B, H0, ρ, hB, W, stG_mono (stG_bind q) fun H1 H' ρ1 x W1 S1 q1 => by
    unfold revRg at q1
    split at q1
    · rename_i c
      simp only [Bool.and_eq_true] at c
      obtain ⟨c1, c2⟩ := i62_of c.1
      obtain ⟨c3, c4⟩ := i62_of c.2
      exact ⟨c1, c2, c3, c4, q1 H1 H' W1 (Same.refl _) _ (itd_rngC _ _ _)⟩
    · exact q1.elim⟩⟩
def rgOk (p : Int × Int) : Bool := i62 p.1 && i62 p.2 && decide ((p.2 - p.1).toNat ≤ 2 ^ 24)
theorem rpa_rg {K : PySem.W.Frag} {H : Hp} (a b : Int) : RpA K H (rgV a b) (rngL a 1 (b - a).toNat) := by
  have h := RpA.ints (K := K) (H := H) ((List.range (b - a).toNat).map fun i => a + (i : Nat))
  unfold rgV rngL
  rw [List.map_map, List.map_map] at h
  simpa only [Function.comp_def, Int.mul_one] using h
def lstRg (p : Int × Int) : M Val := fun ρ => if rgOk p = true then .ok (.fr (rngL p.1 1 (p.2 - p.1).toNat)) ρ else .stuck
def tupRg (p : Int × Int) : M Val := fun ρ => if rgOk p = true then .ok (.sh (.tuple (rngL p.1 1 (p.2 - p.1).toNat))) ρ else .stuck
theorem rgOk_of {p : Int × Int} (h : rgOk p = true) : RgOk p.1 p.2 := by
  unfold rgOk at h
  simp only [Bool.and_eq_true, decide_eq_true_eq] at h
  obtain ⟨c1, c2⟩ := i62_of h.1.1
  obtain ⟨c3, c4⟩ := i62_of h.1.2
  exact ⟨c1, c2, c3, c4, h.2⟩
theorem de_listRg {e : Expr} {m : M (Int × Int)} {p pos : Pos} (O : XO X C k cls) (hg : Gl X "list") (hm : X.mg "list" = none) (h : DR X C e m) (hs : starEach [e] X.env = (false, eval e X.env) :: starEach [] X.env) : DE X C (.Call (.Name "list" p) [e] [] pos) (mbind m lstRg) :=
  .of (PE.imp (pe_listRg O.calm hg hm h.pr hs) fun σ H Q ⟨B, H0, ρ, hB, W, q⟩ => ⟨B, H0, ρ, hB, W, stG_mono (stG_bind q) fun H1 H' ρ1 x W1 S1 q1 => by
    unfold lstRg at q1
    split at q1
    · rename_i c
      exact ⟨rgOk_of c, fun a ha => q1 H1 _ (W1.layF ha) (Same.refl _) (.ref a) ⟨a, _, rfl, upd_same, W1.s0.free ha, W1.sb.free ha, W1.notOwn ha, rpa_rg _ _⟩⟩
    · exact q1.elim⟩) fun _ => rfl
end
end DL
end

section
set_option Elab.async false
set_option linter.all false
set_option maxRecDepth 100000
set_option maxHeartbeats 2000000
namespace DL
open PySem PySem.Spec PyProof.Rows L2
/-! ### a if c else b, as a test too -/
section
variable {X : Cx} {C : Ctx} {c a b : Expr} {dc da db : M Val} {pos : Pos}
def tIfT (t ta tb : TT) : TT := fun σ H Q => t σ H fun k H1 => if k = true then ta σ H1 Q else tb σ H1 Q
theorem pt_ifExp {tc ta tb : TT} (hc : PT X c tc) (ha : PT X a ta) (hb : PT X b tb) : PT X (.IfExp c a b pos) (tIfT tc ta tb) := by
  refine ⟨fun pins s σ H Q I h => ?_⟩
  show wpAny _ _ (do if ← isTrue c X.env (eval c X.env) then isTrue a X.env (eval a X.env) else isTrue b X.env (eval b X.env)) _ _ _
  refine wpAny_bind (thn (hc.run pins s σ H _ I h) fun d s1 ⟨H1, I1, q1⟩ => ?_)
  cases d with
  | true => exact ha.run pins s1 σ H1 Q I1 q1
  | false => exact hb.run pins s1 σ H1 Q I1 q1
theorem de_ife (hc : DE X C c dc) (ha : DE X C a da) (hb : DE X C b db) : DE X C (.IfExp c a b pos) (dIf dc da db) :=
  ⟨PE.imp (pe_ifExp hc.pt ha.pe hb.pe) fun σ H Q ⟨B, H0, ρ, hB, W, q⟩ => tDT_run hB W q fun H1 H' ρ1 k W1 S1 q1 => by
    cases k with
    | true => exact iteT ⟨B, H1, ρ1, hB, W1, q1⟩
    | false => exact iteF ⟨B, H1, ρ1, hB, W1, q1⟩,
  PT.imp (pt_ifExp hc.pt ha.pt hb.pt) fun σ H Q ⟨B, H0, ρ, hB, W, q⟩ => by
    have e : tst (dIf dc da db) ρ = mbind (tst dc) (fun k => match k with | true => tst da | false => tst db) ρ := by
      unfold dIf
      show mbind (mbind (tst dc) _) _ ρ = _
      unfold mbind
      cases tst dc ρ with
      | ok k ρ1 => cases k <;> rfl
      | _ => rfl
    rw [e] at q
    refine tDT_run hB W q fun H1 H' ρ1 k W1 S1 q1 => ?_
    cases k with
    | true => exact iteT ⟨B, H1, ρ1, hB, W1, q1⟩
    | false => exact iteF ⟨B, H1, ρ1, hB, W1, q1⟩⟩
end
end DL
end

section
set_option Elab.async false
set_option linter.all false
set_option maxRecDepth 100000
set_option maxHeartbeats 2000000
namespace DL
open PySem PySem.Spec PyProof.Rows L2
/-! ### calls with one keyword-only parameter -/
/-- f(a, .., kn = v): n positional values, one by its name -/
structure CallKw (P : Program) (w : World) (K : PySem.W.Frag) (mg : Str → Option Value) (base : Heap) (cls : Nat → Value) (k : Nat) (x : Str) (n : Nat) (kn : Str) (F : Fn) : Prop where
  ex : ∃ (f : Addr) (fd : FuncData) (ps : List Str), FnG P w K mg base (L2.CX P w) k f fd ps (spF K cls (n + 1) F) ∧ mg x = some (.ref f) ∧ PySem.W.keepIn K (.ref f) = true ∧
    ∀ (s : Shared) (us ws : List Value), us.length = n → ws.length = 1 → BindsTo s fd ⟨us, [kn].zip ws⟩ (ps.zip (us ++ ws))
/-- f(a, ..): the keyword-only parameter lacks, its default is the int j -/
structure CallDf (P : Program) (w : World) (K : PySem.W.Frag) (mg : Str → Option Value) (base : Heap) (cls : Nat → Value) (k : Nat) (x : Str) (n : Nat) (j : Int) (F : Fn) : Prop where
  ex : ∃ (f : Addr) (fd : FuncData) (ps : List Str) (ds : List Value), FnG P w K mg base (L2.CX P w) k f fd ps (spF K cls (n + 1) F) ∧ mg x = some (.ref f) ∧ PySem.W.keepIn K (.ref f) = true ∧ Vals [V.int j] ds ∧ Binds K fd ps ds
section
variable {X : Cx} {C : Ctx} {CX : CXT} {k n : Nat} {f : Addr} {fd : FuncData} {ps ks : List Str} {sp : Sp} {E : L2.St → XK} {x kn : Str} {p pos kpos : Pos} {e ke : Expr} {es : List Expr} {kws : List Keyword} {t tk : TA}
/-- a def whose last parameter is left at its default -/
def withInt (F : Fn) (j : Int) : Fn := fun as => F (as ++ [.sh (.int j)])
def tCallKG (n m : Nat) (sp : Sp) (E : L2.St → XK) (t tk : TA) : TE := fun σ H Q => t σ H fun vs H1 => tk σ H1 fun zs H2 => vs.length = n ∧ zs.length = m ∧ sp (vs ++ zs) H2 Q (E σ)
theorem run_fnKG {pins : List (Addr × Obj)} {σ : L2.St} {H : Hp} {s : Shared} {Q : VK} {us ws : List Value} {vs zs : List V} (F : FnG X.prog X.w X.K X.mg X.base CX k f fd ps sp) (hr : RoomG k X.A)
    (hb : ∀ (s : Shared) (us ws : List Value), us.length = n → ws.length = ks.length → BindsTo s fd ⟨us, ks.zip ws⟩ (ps.zip (us ++ ws))) (hx : PassesAt CX X σ (E σ))
    (I : Inv X pins σ H s) (r : Vals vs us) (rz : Vals zs ws) (l1 : vs.length = n) (l2 : zs.length = ks.length) (h : sp (vs ++ zs) H Q (E σ)) : wpAny (model X.prog X.w) X.A (call (.ref f) us (ks.zip ws)) (EP X pins σ Q) X.xe s := by
  have r2 : Vals (vs ++ zs) (us ++ ws) := r.append rz
  refine wpAny_call (codeAny_mono (F.run X.A X.stack s H ⟨us, ks.zip ws⟩ (us ++ ws) (vs ++ zs) Q (E σ) hr I.env0 (hb s us ws (r.length.symm.trans l1) (rz.length.symm.trans l2)) r2 h) fun r s' hq => ?_)
  cases r with
  | error e => exact hx pins H s e s' I hq
  | ok fl =>
    cases fl with
    | ret u => exact I.after hq
    | next => exact False.elim hq
    | brk => exact False.elim hq
    | cont => exact False.elim hq
theorem pe_callKG (F : FnG X.prog X.w X.K X.mg X.base CX k f fd ps sp) (hr : RoomG k X.A) (hg : Gl X x) (hm : X.mg x = some (.ref f)) (hk : PySem.W.keepIn X.K (.ref f) = true)
    (hb : ∀ (s : Shared) (us ws : List Value), us.length = n → ws.length = ks.length → BindsTo s fd ⟨us, ks.zip ws⟩ (ps.zip (us ++ ws))) (hx : ∀ σ, PassesAt CX X σ (E σ))
    (ha : PA X (e :: es) t) (hkw : PK X kws tk) (hall : (backToKw pos (keywordEach kws X.env)).all (·.1.isSome) = true) (hks : (backToKw pos (keywordEach kws X.env)).filterMap (·.1) = ks)
    (hdb : (x == ("__debug__" : Str)) = false) (he : starEach (e :: es) X.env = (false, eval e X.env) :: starEach es X.env)
    (hpl : ((backTo pos (starEach (e :: es) X.env)).any (·.1) || (backToKw pos (keywordEach kws X.env)).any (·.1.isNone)) = false) :
    PE X (.Call (.Name x p) (e :: es) kws pos) (tCallKG n ks.length sp E t tk) := by
  refine ⟨fun pins s σ H Q I h => ?_⟩
  refine wpAny_Call_Name_kw (ld_glob I hg hm ?_ hdb)
  refine PySem.W.callWith_KW (h₀ := X.base) I.ok.mod.kin hk hall (thn (ha.run pos pins s σ H _ I h) fun us s1 ⟨vs, H1, I1, r, q⟩ => ?_) hpl he
  refine thn (hkw.run pos pins s1 σ H1 _ I1 q) fun ws s2 ⟨zs, H2, I2, rz, l1, l2, q2⟩ => ⟨I2.kIn, ?_⟩
  rw [hks]
  exact run_fnKG F hr hb (hx σ) I2 r rz l1 l2 q2
theorem PK.imp {kws : List Keyword} {t t' : TA} (h : PK X kws t) (k : ∀ σ H Q, t' σ H Q → t σ H Q) : PK X kws t' := ⟨fun pos pins s σ H Q I q => h.run pos pins s σ H Q I (k σ H Q q)⟩
theorem pkv_one {m : Bool} {d : M Val} (h : DE X C ke d) : PK X [⟨some kn, ke, kpos⟩] (tDAv C (evAV [(m, d)])) :=
  PK.imp (pk_cons h.pe pk_nil) fun σ H Q ⟨B, H0, ρ, hB, W, q⟩ => tD_run hB W q fun H1 H' ρ1 x v W1 S1 r1 q1 =>
    toAV_run W1 r1 q1 fun H2 ρ2 a W2 S2 r2 q2 => ((stG_bind q2) H2 H' W2 (Same.refl _)) H2 H' W2 (Same.refl _) [v] (.cons r2 .nil)
theorem evAV_append : ∀ (ms ks : List (Bool × M Val)), evAV (ms ++ ks) = mbind (evAV ms) fun as => mbind (evAV ks) fun bs => mpure (as ++ bs)
  | [], ks => by
    funext ρ
    show evAV ks ρ = mbind (evAV ks) _ ρ
    unfold mbind mpure
    cases evAV ks ρ <;> rfl
  | (m, d) :: ms, ks => by
    funext ρ
    show mbind d (fun x => mbind (toAV m x) fun a => mbind (evAV (ms ++ ks)) fun as => mpure (a :: as)) ρ = mbind (mbind d fun x => mbind (toAV m x) fun a => mbind (evAV ms) fun as => mpure (a :: as)) _ ρ
    rw [evAV_append ms ks]
    unfold mbind mpure
    cases d ρ with
    | ok x ρ1 =>
      simp only
      cases toAV m x ρ1 with
      | ok a ρ2 =>
        simp only
        cases evAV ms ρ2 with
        | ok as ρ3 =>
          simp only
          cases evAV ks ρ3 <;> rfl
        | _ => rfl
      | _ => rfl
    | _ => rfl
theorem avR_mono {H0 H0' : Hp} {σ : L2.St} (s : Same H0 H0') : ∀ {vs : List V} {avs : List AV}, Paired (AvR C.K H0 σ) vs avs → Paired (AvR C.K H0' σ) vs avs
  | _, _, .nil => .nil
  | _, _, .cons (b := a) r t => .cons (match a, r with
      | .dat d, r => Rp.mono s r
      | .slot i, r => r) (avR_mono s t)
theorem pairedApp {α β : Type} {R : α → β → Prop} : ∀ {xs xs' : List α} {ys ys' : List β}, Paired R xs ys → Paired R xs' ys' → Paired R (xs ++ xs') (ys ++ ys')
  | _, _, _, _, .nil, h => h
  | _, _, _, _, .cons r t, h => .cons r (pairedApp t h)
theorem de_callK {cls : Nat → Value} {F : Fn} {ms : List (Bool × M Val)} {m : Bool} {kd : M Val} (h : CallKw X.prog X.w X.K X.mg X.base cls k x n kn F) (hK : C.K = X.K) (lk : Lnk X C cls) (hr : RoomG k X.A) (hg : Gl X x) (ha : PA X (e :: es) (tDAv C (evAV ms))) (hn : ms.length = n) (hkw : DE X C ke kd)
    (hall : (backToKw pos (keywordEach [⟨some kn, ke, kpos⟩] X.env)).all (·.1.isSome) = true) (hks : (backToKw pos (keywordEach [⟨some kn, ke, kpos⟩] X.env)).filterMap (·.1) = [kn])
    (hdb : (x == ("__debug__" : Str)) = false) (he : starEach (e :: es) X.env = (false, eval e X.env) :: starEach es X.env)
    (hpl : ((backTo pos (starEach (e :: es) X.env)).any (·.1) || (backToKw pos (keywordEach [⟨some kn, ke, kpos⟩] X.env)).any (·.1.isNone)) = false) :
    DE X C (.Call (.Name x p) (e :: es) [⟨some kn, ke, kpos⟩] pos) (dCall F (ms ++ [(m, kd)])) := by
  obtain ⟨f, fd, ps, F1, hm, hk, hb⟩ := h.ex
  refine .of (PE.imp (pe_callKG (ks := [kn]) F1 hr hg hm hk hb (fun σ => passAt lk σ) ha (pkv_one (m := m) hkw) hall hks hdb he hpl) fun σ H Q ⟨B, H0, ρ, hB, W, q⟩ => ?_) fun _ => rfl
  refine ⟨B, H0, ρ, hB, W, ?_⟩
  unfold dCall at q
  rw [evAV_append] at q
  have q := stG_bind (stG_bind q)
  cases e1 : evAV ms ρ with
  | stuck => rw [e1] at q; exact q
  | exc c ρ' => rw [e1] at q; exact q
  | ok avs ρ' =>
    rw [e1] at q
    intro H0' H' W' S vs rs
    refine ⟨B, H0', ρ', hB, W', ?_⟩
    have q2 := stG_bind (q H0' H' W' S)
    cases e2 : evAV [(m, kd)] ρ' with
    | stuck => rw [e2] at q2; exact q2
    | exc c ρ2 => rw [e2] at q2; exact q2
    | ok bvs ρ2 =>
      rw [e2] at q2
      intro H2 H'' W2 S2 zs rz
      have lv : vs.length = n := by rw [Paired.length' rs, evAV_len e1, hn]
      have lz : zs.length = 1 := by rw [Paired.length' rz, evAV_len e2]; rfl
      refine ⟨lv, lz, ?_⟩
      have q3 := q2 H2 H'' W2 S2
      have q4 := q3 H2 H'' W2 (Same.refl _)
      have rr := pairedApp (avR_mono S2 rs) rz
      rw [← hK]
      exact callA_ok hB (by rw [List.length_append, lv, lz]) W2 rr q4
theorem boA_app {K : PySem.W.Frag} {H0 H : Hp} {j : Int} : ∀ {vs : List V} {as : List Arg}, Paired (ArgR K H0 H) vs as → boA (vs ++ [V.int j]) (as ++ [.sh (.int j)]) = boA vs as
  | _, _, .nil => rfl
  | v :: vs, a :: as, .cons r t => by
    have ih := boA_app (j := j) t
    cases a with
    | sh d =>
      cases v <;> exact ih
    | bo xs =>
      cases v with
      | ref a => exact congrArg (a :: ·) ih
      | _ => exact ih
    | ob c xs =>
      cases v with
      | ref a => exact congrArg (a :: ·) ih
      | _ => exact ih
theorem spF_app {K : PySem.W.Frag} {cls : Nat → Value} {n : Nat} {F : Fn} {j : Int} {vs : List V} {H : Hp} {Q : VK} {E : XK} (h : spF K cls n (withInt F j) vs H Q E) : spF K cls (n + 1) F (vs ++ [V.int j]) H Q E := by
  obtain ⟨hl, H0, as, s, r, nd, ok⟩ := h
  have e := boA_app (j := j) r
  refine ⟨by rw [List.length_append, hl]; rfl, H0, as ++ [.sh (.int j)], s, pairedApp r (.cons (show ArgR K H0 H (V.int j) (.sh (.int j)) from Rp.int j) .nil), by rw [e]; exact nd, ?_⟩
  rw [e]
  exact ok
theorem de_callD {cls : Nat → Value} {F : Fn} {ms : List (Bool × M Val)} {j : Int} (h : CallDf X.prog X.w X.K X.mg X.base cls k x n j F) (hK : C.K = X.K) (lk : Lnk X C cls) (hr : RoomG k X.A) (hg : Gl X x) (ha : PA X (e :: es) (tDAv C (evAV ms))) (hn : ms.length = n)
    (hdb : (x == ("__debug__" : Str)) = false) (he : starEach (e :: es) X.env = (false, eval e X.env) :: starEach es X.env) (hpl : (backTo pos (starEach es X.env)).any (·.1) = false) : DE X C (.Call (.Name x p) (e :: es) [] pos) (dCall (withInt F j) ms) := by
  obtain ⟨f, fd, ps, ds, F1, hm, hk, hd, hb⟩ := h.ex
  refine .of (PE.imp (pe_callG F1 hr hg hm hk hb hd (fun σ => passAt lk σ) ha hdb he hpl) fun σ H Q ⟨B, H0, ρ, hB, W, q⟩ => ?_) fun _ => rfl
  refine ⟨B, H0, ρ, hB, W, ?_⟩
  have q := stG_bind q
  cases e1 : evAV ms ρ with
  | stuck => rw [e1] at q; exact q
  | exc c ρ' => rw [e1] at q; exact q
  | ok avs ρ' =>
    rw [e1] at q
    intro H0' H' W' S vs rs
    have lv : vs.length = n := by rw [Paired.length' rs, evAV_len e1, hn]
    rw [← hK]
    exact spF_app (callA_ok hB lv W' rs (q H0' H' W' S))
/-! in short -/
theorem CallKw.mono {P : Program} {w : World} {K : PySem.W.Frag} {mg : Str → Option Value} {base : Heap} {cls : Nat → Value} {j k : Nat} {F : Fn} (h : CallKw P w K mg base cls j x n kn F) (l : j ≤ k) : CallKw P w K mg base cls k x n kn F := by
  obtain ⟨f, fd, ps, h1, h2⟩ := h.ex
  exact ⟨f, fd, ps, h1.mono l, h2⟩
theorem CallDf.mono {P : Program} {w : World} {K : PySem.W.Frag} {mg : Str → Option Value} {base : Heap} {cls : Nat → Value} {j k : Nat} {F : Fn} {i : Int} (h : CallDf P w K mg base cls j x n i F) (l : j ≤ k) : CallDf P w K mg base cls k x n i F := by
  obtain ⟨f, fd, ps, ds, h1, h2⟩ := h.ex
  exact ⟨f, fd, ps, ds, h1.mono l, h2⟩
theorem x_callK {cls : Nat → Value} {j : Nat} {F : Fn} {ms : List (Bool × M Val)} {m : Bool} {kd : M Val} (O : XO X C k cls) (nm : NmOk x) (h : CallKw X.prog X.w X.K X.mg X.base cls j x n kn F) (hj : j ≤ k) (hg : Gl X x) (ha : PA X (e :: es) (tDAv C (evAV ms))) (hn : ms.length = n) (hkw : DE X C ke kd)
    (hall : (backToKw pos (keywordEach [⟨some kn, ke, kpos⟩] X.env)).all (·.1.isSome) = true) (hks : (backToKw pos (keywordEach [⟨some kn, ke, kpos⟩] X.env)).filterMap (·.1) = [kn]) (he : starEach (e :: es) X.env = (false, eval e X.env) :: starEach es X.env)
    (hpl : ((backTo pos (starEach (e :: es) X.env)).any (·.1) || (backToKw pos (keywordEach [⟨some kn, ke, kpos⟩] X.env)).any (·.1.isNone)) = false) :
    DE X C (.Call (.Name x p) (e :: es) [⟨some kn, ke, kpos⟩] pos) (dCall F (ms ++ [(m, kd)])) := de_callK (h.mono hj) O.hK O.lk O.rm hg ha hn hkw hall hks nm.d he hpl
theorem x_callD {cls : Nat → Value} {j : Nat} {i : Int} {F : Fn} {ms : List (Bool × M Val)} (O : XO X C k cls) (nm : NmOk x) (h : CallDf X.prog X.w X.K X.mg X.base cls j x n i F) (hj : j ≤ k) (hg : Gl X x) (ha : PA X (e :: es) (tDAv C (evAV ms))) (hn : ms.length = n)
    (he : starEach (e :: es) X.env = (false, eval e X.env) :: starEach es X.env) (hpl : (backTo pos (starEach es X.env)).any (·.1) = false) : DE X C (.Call (.Name x p) (e :: es) [] pos) (dCall (withInt F i) ms) :=
  de_callD (h.mono hj) O.hK O.lk O.rm hg ha hn nm.d he hpl
end
/-! .. and what a def with one keyword-only parameter brings -/
theorem callKw_mk {P : Program} {w : World} {K : PySem.W.Frag} {mg : Str → Option Value} {base : Heap} {cls : Nat → Value} {k : Nat} {x : Str} {n : Nat} {kn : Str} {F : Fn} {f : Addr} {fd : FuncData} {ps : List Str} (h : FnG P w K mg base (L2.CX P w) k f fd ps (spF K cls (n + 1) F)) (hm : mg x = some (.ref f)) (hk : PySem.W.keepIn K (.ref f) = true)
    (hb : ∀ (us ws : List Value), us.length = n → ws.length = 1 → bindArgs fd ⟨us, [kn].zip ws⟩ = pure (ps.zip (us ++ ws))) : CallKw P w K mg base cls k x n kn F :=
  ⟨f, fd, ps, h, hm, hk, fun _ us ws l1 l2 => .of_eq (hb us ws l1 l2)⟩
theorem callDf_mk {P : Program} {w : World} {K : PySem.W.Frag} {mg : Str → Option Value} {base : Heap} {cls : Nat → Value} {k : Nat} {x : Str} {n : Nat} {kn : Str} {j : Int} {F : Fn} {f D : Addr} {fd : FuncData} {ps : List Str} {t : Tok} (h : FnG P w K mg base (L2.CX P w) k f fd ps (spF K cls (n + 1) F)) (hm : mg x = some (.ref f)) (hk : PySem.W.keepIn K (.ref f) = true)
    (hps : ps.length = n + 1) (hq : PySem.W.nsIn K D kn = some (some (.int j t))) (hb : ∀ (us : List Value) (v : Value), us.length = n → KwChain D [(kn, v)] (bindArgs fd ⟨us, []⟩) (ps.zip (us ++ [v]))) : CallDf P w K mg base cls k x n j F :=
  ⟨f, fd, ps, [.int j t], h, hm, hk, .cons ⟨t, rfl⟩ .nil, fun s us X hl => BindsTo.of_looks fun M => KwChain.looks X (fun q hq' => by rw [List.mem_singleton.mp hq']; exact hq) (hb us (.int j t) (by rw [List.length_append] at hl; simp only [List.length_singleton] at hl; omega))⟩
end DL
end

section
set_option Elab.async false
set_option linter.all false
set_option maxRecDepth 100000
set_option maxHeartbeats 2000000
namespace DL
open PySem PySem.Spec PyProof.Rows L2
/-! ### is True, is False -/
def f_isB : PyData → PyData → Option Res
  | .bool a, .bool b => ok (.bool (decide (a = b)))
  | _, _ => none
def f_notB : PyData → PyData → Option Res
  | .bool a, .bool b => ok (.bool (!decide (a = b)))
  | _, _ => none
theorem ok_isB {K : PySem.W.Frag} : OkR2 K (fun x y H Q => ∃ a b, x = .bl a ∧ y = .bl b ∧ Q (.bl (decide (a = b))) H) f_isB := by
  intro H0 H x y dx dy res Q s rx ry e q
  cases dx <;> cases dy <;> try (cases e; done)
  cases e
  exact ⟨_, _, rx.bl, ry.bl, q _ (.bl _)⟩
theorem ok_notB {K : PySem.W.Frag} : OkR2 K (fun x y H Q => ∃ a b, x = .bl a ∧ y = .bl b ∧ Q (.bl (!decide (a = b))) H) f_notB := by
  intro H0 H x y dx dy res Q s rx ry e q
  cases dx <;> cases dy <;> try (cases e; done)
  cases e
  exact ⟨_, _, rx.bl, ry.bl, q _ (.bl _)⟩
section
variable {X : Cx} {C : Ctx} {k : Nat} {cls : Nat → Value}
theorem XO.isB (O : XO X C k cls) : CO X C .Is f_isB := ⟨_, op_is_bl, ok_isB⟩
theorem XO.notB (O : XO X C k cls) : CO X C .IsNot f_notB := ⟨_, op_isnot_bl, ok_notB⟩
end
end DL
end

section
set_option Elab.async false
set_option linter.all false
set_option maxRecDepth 100000
set_option maxHeartbeats 2000000
namespace DL
open PySem PySem.Spec PyProof.Rows L2
/-! ### x in a list, in a tuple -/
def isIn (d : PyData) (ds : List PyData) : Bool := ds.any fun z => PyData.eqv z d
def f_in : PyData → PyData → Option Res
  | d, .list ds => grd (shp d && shp (.list ds)) (.val (.bool (isIn d ds)))
  | d, .tuple ds => grd (shp d && shp (.tuple ds)) (.val (.bool (isIn d ds)))
  | .str x, .str z => match x.cps.toList with
    | [c] => ok (.bool (decide (c ∈ z.cps.toList)))
    | _ => none
  | _, _ => none
def f_notin : PyData → PyData → Option Res
  | d, .list ds => grd (shp d && shp (.list ds)) (.val (.bool (!isIn d ds)))
  | d, .tuple ds => grd (shp d && shp (.tuple ds)) (.val (.bool (!isIn d ds)))
  | .str x, .str z => match x.cps.toList with
    | [c] => ok (.bool (!decide (c ∈ z.cps.toList)))
    | _ => none
  | _, _ => none
section
variable {X : Cx}
def rInT (K : PySem.W.Frag) : R2 := fun x y H Q => ∃ d ds, Dp K H x d ∧ Dp K H y (.tuple ds) ∧ SeqAt.shaped d = true ∧ SeqAt.shaped (.tuple ds) = true ∧ Q (.bl (ds.any fun z => PyData.eqv z d)) H
def rNotInT (K : PySem.W.Frag) : R2 := fun x y H Q => ∃ d ds, Dp K H x d ∧ Dp K H y (.tuple ds) ∧ SeqAt.shaped d = true ∧ SeqAt.shaped (.tuple ds) = true ∧ Q (.bl (!ds.any fun z => PyData.eqv z d)) H
theorem op_inT (hu : X.A.units + 65 < cLine) : OpR X (compareOp .In) (rInT X.K) := by
  intro pins s σ H x y v u Q I rx ry h
  obtain ⟨d, ds, hd, he, sd, se, q⟩ := h
  obtain ⟨as, r1⟩ := Dp.reads I d x v hd rx
  obtain ⟨bs, r2⟩ := Dp.reads I (.tuple ds) y u he ry
  exact SeqAt.in_tuple_reads r2 r1 (SeqAt.canLay_of_shaped se) (SeqAt.canLay_of_shaped sd) (room_in_shaped sd hu) ⟨.bl _, H, I, rfl, q⟩
theorem op_notInT (hu : X.A.units + 65 < cLine) : OpR X (compareOp .NotIn) (rNotInT X.K) := by
  intro pins s σ H x y v u Q I rx ry h
  obtain ⟨d, ds, hd, he, sd, se, q⟩ := h
  obtain ⟨as, r1⟩ := Dp.reads I d x v hd rx
  obtain ⟨bs, r2⟩ := Dp.reads I (.tuple ds) y u he ry
  exact SeqAt.notIn_tuple_reads r2 r1 (SeqAt.canLay_of_shaped se) (SeqAt.canLay_of_shaped sd) (room_in_shaped sd hu) ⟨.bl _, H, I, rfl, q⟩
end
theorem ok_in {K : PySem.W.Frag} : OkR2 K (fun x y H Q => rInD K x y H Q ∨ (rInT K x y H Q ∨ rInS x y H Q)) f_in := by
  intro H0 H x y dx dy res Q s rx ry e q
  unfold f_in at e
  split at e
  · obtain ⟨c, rfl⟩ := grd_some e
    simp only [Bool.and_eq_true] at c
    exact .inl ⟨_, _, (rx.rp s).dp (shp_of c.1).1, (ry.rp s).dp (shp_of c.2).1, (shp_of c.1).2, (shp_of c.2).2, q _ (.bl _)⟩
  · obtain ⟨c, rfl⟩ := grd_some e
    simp only [Bool.and_eq_true] at c
    exact .inr (.inl ⟨_, _, (rx.rp s).dp (shp_of c.1).1, (ry.rp s).dp (shp_of c.2).1, (shp_of c.1).2, (shp_of c.2).2, q _ (.bl _)⟩)
  · rename_i x' z'
    split at e
    · rename_i c hc
      cases e
      have hx : x' = ⟨#[c]⟩ := by
        cases x' with
        | mk cps =>
          have : cps = #[c] := by
            apply Array.ext'
            exact hc
          rw [this]
      subst hx
      exact .inr (.inr ⟨c, _, rx.str, ry.str, q _ (.bl _)⟩)
    · cases e
  · cases e
theorem ok_notin {K : PySem.W.Frag} : OkR2 K (fun x y H Q => rNotInD K x y H Q ∨ (rNotInT K x y H Q ∨ rNotInS x y H Q)) f_notin := by
  intro H0 H x y dx dy res Q s rx ry e q
  unfold f_notin at e
  split at e
  · obtain ⟨c, rfl⟩ := grd_some e
    simp only [Bool.and_eq_true] at c
    exact .inl ⟨_, _, (rx.rp s).dp (shp_of c.1).1, (ry.rp s).dp (shp_of c.2).1, (shp_of c.1).2, (shp_of c.2).2, q _ (.bl _)⟩
  · obtain ⟨c, rfl⟩ := grd_some e
    simp only [Bool.and_eq_true] at c
    exact .inr (.inl ⟨_, _, (rx.rp s).dp (shp_of c.1).1, (ry.rp s).dp (shp_of c.2).1, (shp_of c.1).2, (shp_of c.2).2, q _ (.bl _)⟩)
  · rename_i x' z'
    split at e
    · rename_i c hc
      cases e
      have hx : x' = ⟨#[c]⟩ := by
        cases x' with
        | mk cps =>
          have : cps = #[c] := by
            apply Array.ext'
            exact hc
          rw [this]
      subst hx
      exact .inr (.inr ⟨c, _, rx.str, ry.str, q _ (.bl _)⟩)
    · cases e
  · cases e
/-! ### l.index(x), l.count(x) -/
def isLi : PyData → Bool
  | .list _ => true
  | _ => false
/-- a method of a list that changes nothing, with one argument -/
def dMs (f : PyData → PyData → Option Res) (d e : M Val) : M Val := mbind d fun x ρ1 => match (look ρ1 x).map isLi with
  | some true => mbind e (fun y ρ2 => match look ρ2 x, look ρ2 y with
    | some a, some b => optOk (f a b) ρ2
    | _, _ => .stuck) ρ1
  | _ => .stuck
def OkMs (K : PySem.W.Frag) (r : V → List V → Hp → VK → Prop) (f : PyData → PyData → Option Res) : Prop := ∀ (H0 H : Hp) (x y : V) (dx dy : PyData) (res : Res) (Q : VK), Same H0 H → RdT K H0 H x dx → RdT K H0 H y dy → f dx dy = some res → ResOk K H0 H Q res → r x [y] H Q
section
variable {X : Cx} {C : Ctx}
theorem de_ms {o e : Expr} {d de : M Val} {f : PyData → PyData → Option Res} {name : Str} {apos cpos : Pos} {id : String} {r : V → List V → Hp → VK → Prop} (hK : C.K = X.K) (slot : Slot "list" name id) (hty : typeOf (.builtin id) = pure (.type "method_descriptor")) (hm : MtR X id r) (hr : OkMs C.K r f)
    (ho : DE X C o d) (ha : DE X C e de) (hbase : attributeBase o name X.env (eval o X.env) = eval o X.env)
    (hfew : ((backTo cpos (starEach [e] X.env)).all (fun x => !x.1) && (backToKw cpos (keywordEach [] X.env)).all (fun x => x.1.isSome)
      && decide ([e].length + ([] : List Keyword).length + (if ([] : List Keyword).isEmpty then 0 else 1) < 30)) = true)
    (hline : (apos.endLine == cpos.line) = true) (hs : starEach [e] X.env = (false, eval e X.env) :: starEach [] X.env) (hplain : (backTo cpos (starEach [] X.env)).any (·.1) = false) : DE X C (.Call (.Attribute o name apos) [e] [] cpos) (dMs f d de) :=
  .of (PE.imp (pe_bm PySem.F.plainAttrs_list slot hty hm ho.pe (pa_cons ha.pe pa_nil hs) hbase hfew hline hs hplain) fun σ H Q ⟨B, H0, ρ, hB, W, q⟩ => by
    refine tD_run hB W q fun H1 H' ρ1 x v W1 S1 r1 q => ?_
    cases e1 : look ρ1 x with
    | none => rw [e1] at q; exact q.elim
    | some a =>
      rw [e1] at q
      cases a with
      | list xs =>
        obtain ⟨b, vs, rfl, hb, _⟩ := (look_rd W1 r1 e1).lst W1.s0
        refine ⟨.inl ⟨rfl, vs, hK ▸ hb⟩, ?_⟩
        obtain ⟨H1', S1', W1', r1'⟩ := keep W1 r1
        refine tD_run hB W1' (stG_base q S1') fun H2 H'' ρ2 y u W2 S2 r2 q => ?_
        have r1'' := kept (H' := H'') (ρ' := ρ2) r1' S2
        cases e : look ρ2 x with
        | none => rw [e] at q; exact q.elim
        | some a =>
          rw [e] at q
          cases e2 : look ρ2 y with
          | none => rw [e2] at q; exact q.elim
          | some b =>
            rw [e2] at q
            obtain ⟨res, e3, q3⟩ := optOk_some q
            exact hr H2 H'' _ u a b res Q W2.s0 (look_rd W2 r1'' ((look_kp ρ2 x).trans e)) (look_rd W2 r2 e2) e3 (res_ok W2 q3)
      | _ => exact q.elim) fun _ => rfl
/-- l.index(x): the first place -/
def f_index : PyData → PyData → Option Res
  | .list ds, d => match ds.findIdx? (fun z => PyData.eqv z d) with
    | some j => grd (shp d && shp (.list ds)) (.val (.int (j : Int)))
    | none => none
  | _, _ => none
def f_count : PyData → PyData → Option Res
  | .list ds, d => grd (shp d && shp (.list ds)) (.val (.int ((ds.countP fun z => PyData.eqv z d : Nat) : Int)))
  | _, _ => none
theorem ok_index {K : PySem.W.Frag} : OkMs K (rIndexD K) f_index := by
  intro H0 H x y dx dy res Q s rx ry e q
  unfold f_index at e
  split at e
  · rename_i _ ds
    split at e
    · rename_i j hj
      obtain ⟨c, rfl⟩ := grd_some e
      simp only [Bool.and_eq_true] at c
      obtain ⟨a, vs, rfl, h1, h2⟩ := rx.lst s
      obtain ⟨h3, h4, h5⟩ := List.findIdx?_eq_some_iff_getElem.mp hj
      exact ⟨a, y, dy, ds, j, ds[j], rfl, rfl, (rx.rp s).dp (shp_of c.2).1, (ry.rp s).dp (shp_of c.1).1, (shp_of c.2).2, (shp_of c.1).2, List.getElem?_eq_getElem h3, h4, fun m z' hm hz => by
        have hml : m < ds.length := by omega
        rw [List.getElem?_eq_getElem hml] at hz
        cases hz
        have := h5 m hm
        simpa using this, q _ (.int _)⟩
    · cases e
  · cases e
def rCountD (K : PySem.W.Frag) : V → List V → Hp → VK → Prop := fun x xs H Q => ∃ (a : Addr) (y : V) (d : PyData) (ds : List PyData), x = V.ref a ∧ xs = [y] ∧ Dp K H (V.ref a) (.list ds) ∧ Dp K H y d ∧
  SeqAt.shaped (.list ds) = true ∧ SeqAt.shaped d = true ∧ Q (.int ((ds.countP fun z => PyData.eqv z d : Nat) : Int)) H
theorem mt_countD (hu : X.A.units + 65 < cLine) : MtR X "list.count" (rCountD X.K) := by
  intro pins s σ H x xs v us Q I rx rxs h
  obtain ⟨a, y, d, ds, rfl, rfl, hl, hy, sl, sd, q⟩ := h
  cases rx
  cases rxs with
  | cons ry rt =>
    rename_i uy ut
    cases rt
    obtain ⟨bs, r1⟩ := Dp.reads I d y uy hy ry
    have hxs : PyData.canLayAll0 ds = true := SeqAt.canLay_of_shaped sl
    have hroom : X.A.units + 1 + min (PyData.depthAll ds) d.depth < cLine := room_in_shaped sd hu
    cases hl with
    | lst hs ha =>
      obtain ⟨its, rv, ⟨⟨cls, dd, data, sls⟩, n, ho, hc, hdn, hdt⟩, hlen⟩ := I.list hs
      simp only at hc hdt
      subst hc hdt
      obtain ⟨as, h4⟩ := Dp.readsAll I ds _ its ha rv
      have hmap : its.map (SeqAt.readOf s.heap) = ds := SeqAt.readsAll_map ds its as hxs h4
      refine call_meets PySem.F.slot_list_count ⟨_, ho, rfl⟩ PySem.F.entry_list_count (PySem.F.args_list_count_2 _ _)
        (SeqAt.list_countAt a its.toArray n dd sls uy (fun u => PyData.eqv (SeqAt.readOf s.heap u) d)) ⟨ho, SeqAt.items_eqAt (vs := its.toArray) (show ReadsAll s.heap its.toArray.toList ds as from h4) r1 hxs (SeqAt.canLay_of_shaped sd) hroom, ?_⟩
      refine ⟨.int ((ds.countP fun z => PyData.eqv z d : Nat) : Int), H, I.tok _, ⟨s.toks, ?_⟩, q⟩
      rw [← hmap, List.countP_map]
      rfl
theorem ok_count {K : PySem.W.Frag} : OkMs K (rCountD K) f_count := by
  intro H0 H x y dx dy res Q s rx ry e q
  unfold f_count at e
  split at e
  · obtain ⟨c, rfl⟩ := grd_some e
    simp only [Bool.and_eq_true] at c
    obtain ⟨a, vs, rfl, h1, h2⟩ := rx.lst s
    exact ⟨a, y, _, _, rfl, rfl, (rx.rp s).dp (shp_of c.2).1, (ry.rp s).dp (shp_of c.1).1, (shp_of c.2).2, (shp_of c.1).2, q _ (.int _)⟩
  · cases e
variable {k : Nat} {cls : Nat → Value}
theorem XO.un65 (O : XO X C k cls) : X.A.units + 65 < cLine := by
  have h1 := O.rm.room.un
  have h2 := O.un
  omega
theorem XO.inn (O : XO X C k cls) : CO X C .In f_in := ⟨_, OpR.or (op_inD O.un65) (OpR.or (op_inT O.un65) op_inS), O.hK ▸ ok_in⟩
theorem XO.notin (O : XO X C k cls) : CO X C .NotIn f_notin := ⟨_, OpR.or (op_notInD O.un65) (OpR.or (op_notInT O.un65) op_notInS), O.hK ▸ ok_notin⟩
theorem x_index {o e : Expr} {d de : M Val} {apos cpos : Pos} (O : XO X C k cls) (ho : DE X C o d) (ha : DE X C e de) (hbase : attributeBase o "index" X.env (eval o X.env) = eval o X.env)
    (hfew : ((backTo cpos (starEach [e] X.env)).all (fun x => !x.1) && (backToKw cpos (keywordEach [] X.env)).all (fun x => x.1.isSome) && decide ([e].length + ([] : List Keyword).length + (if ([] : List Keyword).isEmpty then 0 else 1) < 30)) = true)
    (hline : (apos.endLine == cpos.line) = true) (hs : starEach [e] X.env = (false, eval e X.env) :: starEach [] X.env) : DE X C (.Call (.Attribute o "index" apos) [e] [] cpos) (dMs f_index d de) :=
  de_ms O.hK PySem.F.slot_list_index rfl (mt_indexD O.un65) (O.hK ▸ ok_index) ho ha hbase hfew hline hs rfl
theorem x_count {o e : Expr} {d de : M Val} {apos cpos : Pos} (O : XO X C k cls) (ho : DE X C o d) (ha : DE X C e de) (hbase : attributeBase o "count" X.env (eval o X.env) = eval o X.env)
    (hfew : ((backTo cpos (starEach [e] X.env)).all (fun x => !x.1) && (backToKw cpos (keywordEach [] X.env)).all (fun x => x.1.isSome) && decide ([e].length + ([] : List Keyword).length + (if ([] : List Keyword).isEmpty then 0 else 1) < 30)) = true)
    (hline : (apos.endLine == cpos.line) = true) (hs : starEach [e] X.env = (false, eval e X.env) :: starEach [] X.env) : DE X C (.Call (.Attribute o "count" apos) [e] [] cpos) (dMs f_count d de) :=
  de_ms O.hK PySem.F.slot_list_count rfl (mt_countD O.un65) (O.hK ▸ ok_count) ho ha hbase hfew hline hs rfl
end
end DL
end

section
set_option Elab.async false
set_option linter.all false
set_option maxRecDepth 100000
set_option maxHeartbeats 2000000
/-! ### sorted(set(a tuple of ints)), any number of them -/
namespace DL
open PySem PySem.Spec PyProof.Rows L2
section
variable {P : Program} {w : World} {A : Around} {E : Value → Shared → Prop} {s : Shared} {a : Addr}
theorem sortSet {S : Int → Bool} {n : Nat} {Q : Value → Shared → Prop} (R : SetR w s.heap a S n) (hh : A.handled = none) (hn1 : n ≤ 1000)
    (hQ : ∀ s' p (out : Array Value) (c : Nat) (ns : List Int), (∀ b o, s.heap.get? b = some o → s'.heap.get? b = some o) → s'.gens = s.gens → s'.os = s.os → s.heap.objs.size ≤ p → s'.heap.get? p = some (seqObj "list" out c) → IntsAre out.toList ns → ns.Pairwise (· < ·) → (∀ k, k ∈ ns ↔ S k = true) → ns.length = n → Q (.ref p) s') :
    wpAny (model P w) A (call (.builtin "sorted") [.ref a]) Q E s := by
  obtain ⟨o, es, ep, t, ho, hex, hd, g, nd, hm, hb, hf, hn, hr, hl⟩ := R
  refine Calls.call_function_entry kind_sorted plain_sorted entry_sorted (args_sorted1 _) ?_; unfold Builtin.«sorted»
  refine wpAny_bind (m := checkCount "sorted" 1 1 _) (wpAny_pure (wpAny_bind (collect_set (A := A.in1) hh ⟨o, ho, hex.1, hd⟩ hf hb hr hl fun s1 vs k1 hz g1 o1 pm => ?_)))
  have lv : vs.length = n := by rw [← hn, pm.length_eq, List.length_map, Array.length_toList]
  have lz : vs.length ≤ sizeLine := by rw [lv, sizeLine_eq]; omega
  have iv : IntsAre vs (vs.map Builtin.Re.reRawOf) := ints_of vs fun v hv => (by
    obtain ⟨e, he, q⟩ := List.mem_map.mp (pm.mem_iff.mp hv); obtain ⟨k, tk, h1, _⟩ := g e he; exact ⟨k, tk, q ▸ h1⟩)
  have pk : (vs.map Builtin.Re.reRawOf).Perm (es.toList.map keyOf) := (by have q := pm.map Builtin.Re.reRawOf; rw [List.map_map] at q; exact q)
  refine wpAny_bind (wpAny_newList ?_ lz)
  have hL : (s1.heap.push (seqObj "list" vs.toArray 0)).get? s1.heap.objs.size = some (seqObj "list" vs.toArray 0) := Heap.get?_push_size _ rfl
  refine wpAny_bind (wpAny_holding (wpAny_call_entry slot_list_sort ⟨_, hL, rfl⟩ entry_list_sort (SrtO.list_sort_ord SrtO.swo_int hL lz (fun h2 => SrtO.ints_sortable iv h2) fun out h1 h2 => ⟨_, rfl, ?_⟩) (args_list_sort _)))
  obtain ⟨a1, a2, a3⟩ := SrtO.ints_out iv h1 h2
  obtain ⟨c, hc⟩ := sortedHeap_at (vs := vs) (out := out.toArray) hL
  have pn : (out.map SrtO.iv).Perm (es.toList.map keyOf) := a2.trans pk
  refine wpAny_pure ⟨_, rfl, hQ _ s1.heap.objs.size out.toArray c (out.map SrtO.iv) (fun b u e => ?_) g1 o1 hz hc a1 (lt_of_le_nodup _ a3 (pn.nodup_iff.mpr nd)) (fun k => by rw [pn.mem_iff, ← hm k]) (by rw [← hn, pn.length_eq, List.length_map, Array.length_toList])⟩
  have q := k1 b u e; have hlt := Heap.lt_size q
  show (sortedHeap (s1.heap.push (seqObj "list" vs.toArray 0)) s1.heap.objs.size vs out.toArray).get? b = some u
  rw [sortedHeap_old (Nat.ne_of_lt hlt) (by rw [size_push']; exact Nat.lt_succ_of_lt hlt)]; exact Heap.get?_push_of_some _ q
end
section
variable {X : Cx} {C : Ctx}
/-- set(a tuple of ints) -/
def rSetT (K : PySem.W.Frag) (w : World) : List V → Hp → VK → Prop := fun xs H Q => ∃ (p : Addr) (ns : List Int), xs = [.ref p] ∧ SqT K H p (ns.map V.int) ∧ ns.length ≤ 1000 ∧ ∀ a c, H a = none → c ≤ ns.length → Q (.ref a) (upd H a (SetO w a (fun j => decide (j ∈ ns)) c))
theorem cr_setT (hc : X.calm = true) : CallR X (.type "set") (rSetT X.K X.w) := by
  intro pins s σ H xs us Q I r h
  obtain ⟨p, ns, rfl, hq, hl, q⟩ := h
  obtain ⟨its, rv, pt, hz⟩ := I.tuple hq
  rw [Vals.ref1 r]
  refine call_set_tupI ns (I.ok.hd hc) pt (ints_of_vals rv) (by unfold scanBound; omega) fun h' tk c R1 hcn k => ?_
  exact ⟨.ref _, upd H s.heap.objs.size (SetO X.w s.heap.objs.size (fun j => decide (j ∈ ns)) c), I.laid (t' := tk) k (Nat.le_refl _) (setO_new R1), rfl, q _ _ (I.hok.fresh (Nat.le_refl _)) hcn⟩
def rSortSet (w : World) : List V → Hp → VK → Prop := fun vs H Q => ∃ (a : Addr) (S : Int → Bool) (n : Nat), vs = [V.ref a] ∧ H a = some (SetO w a S n) ∧ n ≤ 1000 ∧ ∀ (ns : List Int) (p : Addr), ns.Pairwise (· < ·) → (∀ k : Int, k ∈ ns ↔ S k = true) → H p = none → Q (.ref p) (upd H p (.lst (ns.map V.int)))
theorem cr_sortSet (hc : X.calm = true) : CallR X (.builtin "sorted") (rSortSet X.w) := by
  intro pins s σ H vs us Q I r h
  obtain ⟨a, S, n, rfl, ha, hn1, q⟩ := h
  rw [Vals.ref1 r]
  refine sortSet (setO_get I ha) (I.ok.hd hc) hn1 fun s' p out c ns k g o hp hg hi hs hm hl => ?_
  have hz : (ns.map V.int).length ≤ sizeLine := by rw [List.length_map, hl, sizeLine_eq]; omega
  have hf : H p = none := I.hok.fresh hp
  have J : Inv X pins σ (upd H p (.lst (ns.map V.int))) { s with heap := s'.heap, gens := s'.gens, drawn := s'.drawn, toks := s'.toks } := I.call (ch := []) (Un.laid k hp hf) (I.hok.laid k hp ⟨hz, out.toList, c, vals_of_ints hi, hg⟩) (by rw [g]; exact I.bare) (fun _ z => nomatch z)
  have e : s' = { s with heap := s'.heap, gens := s'.gens, drawn := s'.drawn, toks := s'.toks } := (by cases s'; cases s; cases o; rfl)
  rw [e]; exact ⟨.ref p, _, J, rfl, q ns p hs hm hf⟩
end
/-- the members, rising -/
def insU (x : Int) : List Int → List Int
  | [] => [x]
  | y :: r => if x < y then x :: y :: r else if x = y then y :: r else y :: insU x r
def setI : List Int → List Int
  | [] => []
  | x :: r => insU x (setI r)
theorem insU_mem (x k : Int) : ∀ l : List Int, k ∈ insU x l ↔ k = x ∨ k ∈ l
  | [] => by simp [insU]
  | y :: r => by
    have ih := insU_mem x k r
    unfold insU
    split
    · simp
    · split
      · rename_i h; subst h; simp
      · simp only [List.mem_cons, ih]
        constructor
        · rintro (h | h | h)
          · exact .inr (.inl h)
          · exact .inl h
          · exact .inr (.inr h)
        · rintro (h | h | h)
          · exact .inr (.inl h)
          · exact .inl h
          · exact .inr (.inr h)
theorem setI_mem (k : Int) : ∀ l : List Int, k ∈ setI l ↔ k ∈ l
  | [] => Iff.rfl
  | x :: r => by show k ∈ insU x (setI r) ↔ _; rw [insU_mem, setI_mem k r, List.mem_cons]
theorem insU_srt (x : Int) : ∀ l : List Int, l.Pairwise (· < ·) → (insU x l).Pairwise (· < ·)
  | [], _ => List.pairwise_singleton ..
  | y :: r, h => by
    obtain ⟨h1, h2⟩ := List.pairwise_cons.mp h
    unfold insU
    split
    · rename_i hx
      refine List.pairwise_cons.mpr ⟨fun z hz => ?_, h⟩
      rcases List.mem_cons.mp hz with rfl | hz
      · exact hx
      · exact Int.lt_trans hx (h1 z hz)
    · split
      · exact h
      · refine List.pairwise_cons.mpr ⟨fun z hz => ?_, insU_srt x r h2⟩
        rcases (insU_mem x z r).mp hz with rfl | hz
        · omega
        · exact h1 z hz
theorem setI_srt : ∀ l : List Int, (setI l).Pairwise (· < ·)
  | [] => .nil
  | x :: r => insU_srt x _ (setI_srt r)
theorem srtU_uniq : ∀ {a b : List Int}, a.Pairwise (· < ·) → b.Pairwise (· < ·) → (∀ k, k ∈ a ↔ k ∈ b) → a = b
  | [], [], _, _, _ => rfl
  | [], y :: b, _, _, h => absurd ((h y).mpr List.mem_cons_self) (by simp)
  | x :: a, [], _, _, h => absurd ((h x).mp List.mem_cons_self) (by simp)
  | x :: a, y :: b, ha, hb, h => by
    obtain ⟨a1, a2⟩ := List.pairwise_cons.mp ha
    obtain ⟨b1, b2⟩ := List.pairwise_cons.mp hb
    have e : x = y := by
      rcases List.mem_cons.mp ((h x).mp List.mem_cons_self) with e | e
      · exact e
      · rcases List.mem_cons.mp ((h y).mpr List.mem_cons_self) with f | f
        · exact f.symm
        · have := b1 x e; have := a1 y f; omega
    subst e
    rw [srtU_uniq a2 b2 fun k => ⟨fun hk => ?_, fun hk => ?_⟩]
    · rcases List.mem_cons.mp ((h k).mp (List.mem_cons_of_mem _ hk)) with e | e
      · subst e; have := a1 k hk; omega
      · exact e
    · rcases List.mem_cons.mp ((h k).mpr (List.mem_cons_of_mem _ hk)) with e | e
      · subst e; have := b1 k hk; omega
      · exact e
def f_sset : List PyData → Option Res
  | [.tuple xs] => (intsOf xs).bind fun ns => grd (decide (ns.length ≤ 1000)) (.nl ((setI ns).map .int))
  | _ => none
section
variable {X : Cx} {C : Ctx}
theorem de_sset {p p' pos pos' : Pos} {e : Expr} {d : M Val} (hK : C.K = X.K) (hc : X.calm = true) (hg : Gl X "sorted") (hm : X.mg "sorted" = none) (hg2 : Gl X "set") (hm2 : X.mg "set" = none) (ha : PA X [e] (tDL C (evL [d])))
    (he : starEach [e] X.env = (false, eval e X.env) :: starEach [] X.env) (hpl : (backTo pos' (starEach [] X.env)).any (·.1) = false)
    (he2 : starEach [.Call (.Name "set" p') [e] [] pos'] X.env = (false, eval (.Call (.Name "set" p') [e] [] pos') X.env) :: starEach [] X.env) (hpl2 : (backTo pos (starEach [] X.env)).any (·.1) = false) :
    DE X C (.Call (.Name "sorted" p) [.Call (.Name "set" p') [e] [] pos'] [] pos) (dB f_sset [d]) :=
  .of (PE.imp (pe_callB (cr_sortSet hc) hg hm (by decide +kernel) (pa_cons (pe_callTy (cr_setT hc) hg2 hm2 PyProof.Rows.boot_set ha (by decide) (by decide) he hpl) pa_nil he2) (by decide) (by decide) he2 hpl2) fun σ H Q h => by
    obtain ⟨B, H0, ρ, hB, W, q⟩ := h
    refine ⟨B, H0, ρ, hB, W, stG_mono (stG_bind q) fun H1 H' ρ1 xs W1 S1 q1 vs rs => ?_⟩
    cases e1 : lookL ρ1 xs with
    | none => rw [e1] at q1; exact q1.elim
    | some as =>
      rw [e1] at q1
      obtain ⟨res, e2, q2⟩ := optOk_some q1
      unfold f_sset at e2
      split at e2
      · rename_i _ ds
        obtain ⟨ns, e3, e4⟩ := Option.bind_eq_some_iff.mp e2
        obtain ⟨c, e5⟩ := grd_some e4
        subst e5
        obtain ⟨v, rfl, r1⟩ := pr1 (lookL_ok W1 rs e1)
        obtain ⟨t, us, rfl, h1, h2⟩ := r1.tup
        rw [intsOf_eq e3] at h2
        have := rpa_ints h2
        subst this
        have hl := of_decide_eq_true c
        refine ⟨t, ns, rfl, hK ▸ same_seqT W1.s0 h1, hl, fun a c hf hcl => ⟨a, _, c, rfl, upd_same, Nat.le_trans hcl hl, fun ns' p' k1 k2 k3 => ?_⟩⟩
        have W2 := W1.lay (o := SetO X.w a (fun j => decide (j ∈ ns)) c) hf
        have q3 := res_ok W2 (stG_base q2 (same_upd (W1.s0.free hf)))
        have e6 : ns' = setI ns := srtU_uniq k1 (setI_srt ns) fun k => by rw [k2, setI_mem, decide_eq_true_eq]
        rw [e6]
        exact q3 p' _ k3 (RpA.ints _)
      · cases e2) fun _ => rfl
theorem x_sset {k : Nat} {cls : Nat → Value} {p p' pos pos' : Pos} {e : Expr} {d : M Val} (O : XO X C k cls) (hm : X.mg "sorted" = none) (hg : Gl X "sorted") (hm2 : X.mg "set" = none) (hg2 : Gl X "set") (ha : PA X [e] (tDL C (evL [d])))
    (he : starEach [e] X.env = (false, eval e X.env) :: starEach [] X.env) (hpl : (backTo pos' (starEach [] X.env)).any (·.1) = false)
    (he2 : starEach [.Call (.Name "set" p') [e] [] pos'] X.env = (false, eval (.Call (.Name "set" p') [e] [] pos') X.env) :: starEach [] X.env) (hpl2 : (backTo pos (starEach [] X.env)).any (·.1) = false) :
    DE X C (.Call (.Name "sorted" p) [.Call (.Name "set" p') [e] [] pos'] [] pos) (dB f_sset [d]) := de_sset O.hK O.calm hg hm hg2 hm2 ha he hpl he2 hpl2
end
end DL
end

section
set_option Elab.async false
set_option linter.all false
set_option maxRecDepth 100000
set_option maxHeartbeats 2000000
namespace DL
open PySem PySem.Spec PyProof.Rows L2
/-! ### divmod -/
section
variable {X : Cx}
theorem call_divmodW : CallR X (.builtin "divmod") (fun xs H Q => ∃ i j, xs = [.int i, .int j] ∧ CDivW i j ∧ NewT H Q [.int (i / j), .int (i % j)]) := by
  intro pins s σ H xs us Q I r h
  obtain ⟨i, j, rfl, ⟨h1, h2⟩, q⟩ := h
  obtain ⟨u, w', rfl, ⟨t, rfl⟩, ⟨t', rfl⟩⟩ := vals2 r
  refine divmod_int (by omega) ?_ (.inl (PyProof.noPylong_of_log2 h2)); rw [Int.fdiv_eq_ediv_of_nonneg i (by omega), Int.fmod_eq_emod_of_nonneg i (by omega)]
  exact new_tup I (us := [.int (i / j) s.toks, .int (i % j) (s.toks + 1)]) (xs := [.int (i / j), .int (i % j)]) (.cons ⟨_, rfl⟩ (.cons ⟨_, rfl⟩ .nil)) (by show (2 : Nat) ≤ sizeLine; rw [sizeLine_eq]; decide) q _
end
def f_divmod : List PyData → Option Res
  | [.int i, .int j] => grd (decide (0 < j) && decide (j.natAbs.log2 < 9000)) (.nt [.int (i / j), .int (i % j)])
  | _ => none
theorem ok_divmod {K : PySem.W.Frag} : OkRN K (fun xs H Q => ∃ i j, xs = [.int i, .int j] ∧ CDivW i j ∧ NewT H Q [.int (i / j), .int (i % j)]) f_divmod := by
  intro H0 H vs as res Q s r e q
  unfold f_divmod at e
  split at e
  · obtain ⟨c, rfl⟩ := grd_some e
    simp only [Bool.and_eq_true, decide_eq_true_eq] at c
    obtain ⟨v, u, rfl, r1, r2⟩ := pr2 r
    cases r1.int
    cases r2.int
    exact ⟨_, _, rfl, c, fun p o ho hp => q.2 p _ o ho hp (.cons (.int _) (.cons (.int _) .nil))⟩
  · cases e
/-! ### displays with starred items -/
def evX : List (Bool × M Val) → M (List PyData)
  | [] => mpure []
  | (false, d) :: r => mbind d fun x => mbind (shr x) fun a => mbind (evX r) fun as => mpure (a :: as)
  | (true, d) :: r => mbind d fun x => mbind (shr x) fun a => match a with
    | .list ds => mbind (evX r) fun as => mpure (ds ++ as)
    | .tuple ds => mbind (evX r) fun as => mpure (ds ++ as)
    | _ => fun _ => .stuck
theorem RpA.app {K : PySem.W.Frag} {H : Hp} : ∀ {vs : List V} {ds : List PyData} {vs' : List V} {ds' : List PyData}, RpA K H vs ds → RpA K H vs' ds' → RpA K H (vs ++ vs') (ds ++ ds')
  | _, _, _, _, .nil, r => r
  | _, _, _, _, .cons h r, r' => .cons h (RpA.app r r')
section
variable {X : Cx} {C : Ctx}
theorem pax_nil : PA X [] (tDAs C (evX [])) := PA.imp pa_nil fun σ H Q ⟨B, H0, ρ, hB, W, h⟩ => h H0 H W (Same.refl _) [] .nil
theorem pax_cons {e : Expr} {es : List Expr} {d : M Val} {ds : List (Bool × M Val)} (h : DE X C e d) (hr : PA X es (tDAs C (evX ds))) (hs : starEach (e :: es) X.env = (false, eval e X.env) :: starEach es X.env) : PA X (e :: es) (tDAs C (evX ((false, d) :: ds))) :=
  PA.imp (pa_cons h.pe hr hs) fun σ H Q ⟨B, H0, ρ, hB, W, q⟩ => tD_run hB W q fun H1 H' ρ1 x v W1 S1 r1 q1 =>
    shr_run W1 r1 q1 fun H2 ρ2 a W2 S2 r2 q2 => ⟨B, H2, ρ2, hB, W2, stG_mono (stG_bind q2) fun H3 H'' ρ3 as W3 S3 q3 vs rs => q3 H3 H'' W3 (Same.refl _) (v :: vs) (.cons (r2.mono S3) rs)⟩
theorem pax_star {e : Expr} {es : List Expr} {p : Pos} {d : M Val} {ds : List (Bool × M Val)} (hK : C.K = X.K) (h : DE X C e d) (hr : PA X es (tDAs C (evX ds))) (hs : starEach (.Starred e p :: es) X.env = (true, eval e X.env) :: starEach es X.env) : PA X (.Starred e p :: es) (tDAs C (evX ((true, d) :: ds))) :=
  PA.imp (StX.pa_star h.pe hr hs) fun σ H Q ⟨B, H0, ρ, hB, W, q⟩ => tD_run hB W q fun H1 H' ρ1 x v W1 S1 r1 q1 =>
    shr_run W1 r1 q1 fun H2 ρ2 a W2 S2 r2 q2 => by
      cases a with
      | list xs =>
        cases r2 with
        | @lst b vs _ hl ra => exact ⟨b, vs, rfl, .inr (hK ▸ W2.s0.seq hl), B, H2, ρ2, hB, W2, stG_mono (stG_bind q2) fun H3 H'' ρ3 as W3 S3 q3 ws rs => q3 H3 H'' W3 (Same.refl _) (vs ++ ws) ((ra.mono S3).app rs)⟩
      | tuple xs =>
        cases r2 with
        | @tup b vs _ hl ra => exact ⟨b, vs, rfl, .inl (hK ▸ (same_sqn W2.s0 hl).sqt), B, H2, ρ2, hB, W2, stG_mono (stG_bind q2) fun H3 H'' ρ3 as W3 S3 q3 ws rs => q3 H3 H'' W3 (Same.refl _) (vs ++ ws) ((ra.mono S3).app rs)⟩
      | _ => exact q2.elim
def dTupX (ds : List (Bool × M Val)) : M Val := mbind (evX ds) fun as ρ => if as.length ≤ 100000 then .ok (.sh (.tuple as)) ρ else .stuck
def dLstX (ds : List (Bool × M Val)) : M Val := mbind (evX ds) fun as ρ => if as.length ≤ 100000 then .ok (.fr as) ρ else .stuck
theorem de_tupX {es : List Expr} {ds : List (Bool × M Val)} {k : Nat} {pos : Pos} (h : PA X es (tDAs C (evX ds))) (he : ∀ whole, isTrue (.Tuple es k pos) X.env whole = (do let v ← whole; standAt (Expr.Tuple es k pos).pos; holding [v] (truthy v))) : DE X C (.Tuple es k pos) (dTupX ds) :=
  .of (PE.imp (pe_tupN h) fun σ H Q ⟨B, H0, ρ, hB, W, q⟩ => ⟨B, H0, ρ, hB, W, stG_mono (stG_bind q) fun H1 H' ρ1 as W1 S1 q1 vs rs => by
    split at q1
    · rename_i hl
      refine ⟨by rw [rs.length]; exact sz5 hl, fun p o ho hp => ?_⟩
      have S := same_upd (o := .frz o (.tup vs)) (W1.s0.free hp)
      exact q1 _ _ (W1.lay hp) S (.ref p) (.tup (.of upd_same ho) (rs.mono S))
    · exact q1.elim⟩) he
theorem de_lstX {es : List Expr} {ds : List (Bool × M Val)} {pos : Pos} (h : PA X es (tDAs C (evX ds))) : DE X C (.List es pos) (dLstX ds) :=
  .of (PE.imp (pe_lst h) fun σ H Q ⟨B, H0, ρ, hB, W, q⟩ => ⟨B, H0, ρ, hB, W, stG_mono (stG_bind q) fun H1 H' ρ1 as W1 S1 q1 vs rs => by
    split at q1
    · rename_i hl
      refine ⟨by rw [rs.length]; exact sz5 hl, fun p hp => ?_⟩
      exact q1 _ _ (W1.layF hp) (Same.refl _) (.ref p) ⟨p, vs, rfl, upd_same, W1.s0.free hp, W1.sb.free hp, W1.notOwn hp, rs⟩
    · exact q1.elim⟩) fun _ => rfl
/-! ### f-strings of texts and ints -/
/-- {x} -/
def dFmt (d : M Val) : M Val := mbind d fun x ρ => match look ρ x with
  | some (.str y) => if y.length ≤ 100000 then .ok (.sh (.str y)) ρ else .stuck
  | some (.int i) => if i.natAbs.log2 < 1920 then .ok (.sh (.str (toString i))) ρ else .stuck
  | _ => .stuck
/-- the parts one behind the other -/
def dFs : Str → List (M Val) → M Val
  | acc, [] => mpure (.sh (.str acc))
  | acc, d :: r => mbind d fun x ρ => match look ρ x with
    | some (.str y) => if (acc ++ y).length ≤ 100000 then dFs (acc ++ y) r ρ else .stuck
    | _ => .stuck
theorem pe_fmtD {e : Expr} {d : M Val} {pos : Pos} (h : DE X C e d) : PE X (.FormattedValue e (-1) none pos) (tD C (dFmt d)) :=
  PE.imp (pe_fmt h.pe) fun σ H Q ⟨B, H0, ρ, hB, W, q⟩ => tD_run hB W q fun H1 H' ρ1 x v W1 S1 r1 q1 => by
    cases e1 : look ρ1 x with
    | none => rw [e1] at q1; exact q1.elim
    | some a =>
      rw [e1] at q1
      have rd := look_rd W1 r1 e1
      cases a with
      | str y =>
        have := rd.str
        subst this
        dsimp only at q1
        split at q1
        · rename_i hl; exact .inl ⟨y, rfl, sz5 hl, q1 H1 H' W1 (Same.refl _) _ (.str _)⟩
        · exact q1.elim
      | int i =>
        have := rd.int
        subst this
        dsimp only at q1
        split at q1
        · rename_i hl; exact .inr ⟨i, rfl, hl, q1 H1 H' W1 (Same.refl _) _ (.str _)⟩
        · exact q1.elim
      | _ => exact q1.elim
inductive PJd (X : Cx) (C : Ctx) : List Expr → List (M Val) → Prop where
  | nil : PJd X C [] []
  | con {e : Expr} {d : M Val} {es : List Expr} {ds : List (M Val)} (h : DE X C e d) (r : PJd X C es ds) : PJd X C (e :: es) (d :: ds)
  | fmt {e : Expr} {d : M Val} {pos : Pos} {es : List Expr} {ds : List (M Val)} (h : DE X C e d) (r : PJd X C es ds) : PJd X C (.FormattedValue e (-1) none pos :: es) (dFmt d :: ds)
theorem PJd.pj {es : List Expr} {ds : List (M Val)} (h : PJd X C es ds) : PJ X es (ds.map (tD C)) := by
  induction h with
  | nil => exact .nil
  | con h r ih => exact .cons h.pe ih
  | fmt h r ih => exact .cons (pe_fmtD h) ih
theorem tJs_run {σ : L2.St} : ∀ (ds : List (M Val)) (acc : Str) (H : Hp) (Q : VK), tD C (dFs acc ds) σ H Q → tJs (ds.map (tD C)) acc σ H fun out H1 => Q (.str out) H1
  | [], acc, H, Q, ⟨B, H0, ρ, hB, W, q⟩ => q H0 H W (Same.refl _) _ (.str _)
  | d :: r, acc, H, Q, ⟨B, H0, ρ, hB, W, q⟩ => tD_run hB W q fun H1 H' ρ1 x v W1 S1 r1 q1 => by
    cases e1 : look ρ1 x with
    | none => rw [e1] at q1; exact q1.elim
    | some a =>
      rw [e1] at q1
      have rd := look_rd W1 r1 e1
      cases a with
      | str y =>
        have := rd.str
        subst this
        dsimp only at q1
        split at q1
        · rename_i hl
          exact ⟨y, rfl, sz5 hl, tJs_run r (acc ++ y) H' Q ⟨B, H1, ρ1, hB, W1, q1⟩⟩
        · exact q1.elim
      | _ => exact q1.elim
theorem de_fstr {v1 v2 : Expr} {rest : List Expr} {ds : List (M Val)} {pos : Pos} (h : PJd X C (v1 :: v2 :: rest) ds) (he : ∀ whole, isTrue (.JoinedStr (v1 :: v2 :: rest) pos) X.env whole = (do let v ← whole; standAt (Expr.JoinedStr (v1 :: v2 :: rest) pos).pos; holding [v] (truthy v))) : DE X C (.JoinedStr (v1 :: v2 :: rest) pos) (dFs Str.empty ds) :=
  .of (PE.imp (pe_joined h.pj) fun σ H Q q => tJs_run ds Str.empty H Q q) he
/-! ### sep.join(a list or tuple of texts) -/
def strsOf : List PyData → Option (List Str)
  | [] => some []
  | .str y :: r => (strsOf r).map (y :: ·)
  | _ :: _ => none
theorem strsOf_map : ∀ ys : List Str, strsOf (ys.map .str) = some ys
  | [] => rfl
  | y :: ys => by show (strsOf (ys.map .str)).map _ = _; rw [strsOf_map ys]; rfl
theorem rpa_strs {K : PySem.W.Frag} {H : Hp} : ∀ {vs : List V} {ds : List PyData} {ys : List Str}, strsOf ds = some ys → RpA K H vs ds → vs = ys.map V.str
  | _, [], ys, e, .nil => by cases e; rfl
  | _, .str y :: r, ys, e, .cons h t => by
    obtain ⟨zs, e1, e2⟩ := Option.map_eq_some_iff.mp e
    subst e2
    cases h
    rw [rpa_strs e1 t]
    rfl
def f_join : PyData → PyData → Option Res
  | .str a, .list ds => (strsOf ds).bind fun ys => grd (decide ((ys.map (·.length)).sum + ys.length * a.length ≤ 16777216)) (.val (.str (Txt.join a ys)))
  | .str a, .tuple ds => (strsOf ds).bind fun ys => grd (decide ((ys.map (·.length)).sum + ys.length * a.length ≤ 16777216)) (.val (.str (Txt.join a ys)))
  | _, _ => none
/-- a method of a text that changes nothing, with one argument -/
def dSm (f : PyData → PyData → Option Res) (d e : M Val) : M Val := mbind d fun x ρ1 => match look ρ1 x with
  | some (.str a) => mbind e (fun y ρ2 => match look ρ2 y with
    | some b => optOk (f (.str a) b) ρ2
    | none => .stuck) ρ1
  | _ => .stuck
def OkSm (K : PySem.W.Frag) (r : V → List V → Hp → VK → Prop) (f : PyData → PyData → Option Res) : Prop := ∀ (H0 H : Hp) (a : Str) (y : V) (dy : PyData) (res : Res) (Q : VK), Same H0 H → RdT K H0 H y dy → f (.str a) dy = some res → ResOk K H0 H Q res → r (.str a) [y] H Q
theorem ok_join {K : PySem.W.Frag} : OkSm K (fun x xs H Q => ∃ a p, ∃ ys : List Str, x = .str a ∧ xs = [.ref p] ∧ (SqL K H p (ys.map V.str) ∨ SqT K H p (ys.map V.str)) ∧ (ys.map (·.length)).sum + ys.length * a.length ≤ 16777216 ∧ Q (.str (Txt.join a ys)) H) f_join := by
  intro H0 H a y dy res Q s rx e q
  unfold f_join at e
  split at e
  · rename_i h1; cases h1
    obtain ⟨ys, e1, e2⟩ := Option.bind_eq_some_iff.mp e
    obtain ⟨c, rfl⟩ := grd_some e2
    obtain ⟨b, vs, rfl, h1, h2⟩ := rx.lst s
    rw [rpa_strs e1 h2] at h1
    exact ⟨_, b, ys, rfl, rfl, .inl h1, of_decide_eq_true c, q _ (.str _)⟩
  · rename_i h1; cases h1
    obtain ⟨ys, e1, e2⟩ := Option.bind_eq_some_iff.mp e
    obtain ⟨c, rfl⟩ := grd_some e2
    obtain ⟨b, vs, rfl, h1, h2⟩ := rx.tup
    rw [rpa_strs e1 h2] at h1
    exact ⟨_, b, ys, rfl, rfl, .inr (same_seqT s h1), of_decide_eq_true c, q _ (.str _)⟩
  · cases e
theorem de_sm {o e : Expr} {d de : M Val} {f : PyData → PyData → Option Res} {name : Str} {apos cpos : Pos} {id : String} {r : V → List V → Hp → VK → Prop} (slot : Slot "str" name id) (hty : typeOf (.builtin id) = pure (.type "method_descriptor")) (hm : MtR X id r) (hr : OkSm C.K r f)
    (ho : DE X C o d) (ha : DE X C e de) (hbase : attributeBase o name X.env (eval o X.env) = eval o X.env) (hline : (apos.endLine == cpos.line) = true) (hs : starEach [e] X.env = [(false, eval e X.env)]) : DE X C (.Call (.Attribute o name apos) [e] [] cpos) (dSm f d de) :=
  .of (PE.imp (pe_m1 slot hty hm ho.pe ha.pe hs hbase hline) fun σ H Q ⟨B, H0, ρ, hB, W, q⟩ => by
    refine tD_run hB W q fun H1 H' ρ1 x v W1 S1 r1 q => ?_
    cases e1 : look ρ1 x with
    | none => rw [e1] at q; exact q.elim
    | some a =>
      rw [e1] at q
      have rd := look_rd W1 r1 e1
      cases a with
      | str z =>
        have := rd.str
        subst this
        refine ⟨⟨z, rfl⟩, tD_run hB W1 q fun H2 H'' ρ2 y u W2 S2 r2 q => ?_⟩
        cases e2 : look ρ2 y with
        | none => rw [e2] at q; exact q.elim
        | some b =>
          rw [e2] at q
          obtain ⟨res, e3, q3⟩ := optOk_some q
          exact hr H2 H'' z u b res Q W2.s0 (look_rd W2 r2 e2) e3 (res_ok W2 q3)
      | _ => exact q.elim) fun _ => rfl
variable {k : Nat} {cls : Nat → Value}
theorem XO.divmod (O : XO X C k cls) : BF X C "divmod" f_divmod := ⟨_, "divmod", by decide +kernel, call_divmodW, ok_divmod⟩
theorem x_join {o e : Expr} {d de : M Val} {apos cpos : Pos} (O : XO X C k cls) (ho : DE X C o d) (ha : DE X C e de) (hbase : attributeBase o "join" X.env (eval o X.env) = eval o X.env) (hline : (apos.endLine == cpos.line) = true) (hs : starEach [e] X.env = [(false, eval e X.env)]) : DE X C (.Call (.Attribute o "join" apos) [e] [] cpos) (dSm f_join d de) :=
  de_sm PySem.F.slot_str_join PySem.F.type_str_join (mt_join (X := X)) (O.hK ▸ ok_join) ho ha hbase hline hs
theorem x_star {e : Expr} {es : List Expr} {p : Pos} {d : M Val} {ds : List (Bool × M Val)} (O : XO X C k cls) (h : DE X C e d) (hr : PA X es (tDAs C (evX ds))) (hs : starEach (.Starred e p :: es) X.env = (true, eval e X.env) :: starEach es X.env) : PA X (.Starred e p :: es) (tDAs C (evX ((true, d) :: ds))) := pax_star O.hK h hr hs
theorem dss_stuck {X : Cx} {C : Ctx} {st : List Stmt} : DSs X C st sStuck := ⟨⟨fun pins s σ H D I h => by
  obtain ⟨H0, ρ, W, q⟩ := h
  exact q.elim⟩⟩
end
end DL
end

section
set_option Elab.async false
set_option linter.all false
set_option maxRecDepth 100000
set_option maxHeartbeats 2000000
namespace DL
open PySem PySem.Spec PyProof.Rows L2
/-! ### t.count(x), t a tuple -/
def isTu : PyData → Bool
  | .tuple _ => true
  | _ => false
def dMt (f : PyData → PyData → Option Res) (d e : M Val) : M Val := mbind d fun x ρ1 => match (look ρ1 x).map isTu with
  | some true => mbind e (fun y ρ2 => match look ρ2 x, look ρ2 y with
    | some a, some b => optOk (f a b) ρ2
    | _, _ => .stuck) ρ1
  | _ => .stuck
def f_tcount : PyData → PyData → Option Res
  | .tuple ds, d => grd (shp d && shp (.tuple ds)) (.val (.int ((ds.countP fun z => PyData.eqv z d : Nat) : Int)))
  | _, _ => none
def rCountT (K : PySem.W.Frag) : V → List V → Hp → VK → Prop := fun x xs H Q => ∃ (a : Addr) (y : V) (d : PyData) (ds : List PyData), x = V.ref a ∧ xs = [y] ∧ Dp K H (V.ref a) (.tuple ds) ∧ Dp K H y d ∧
  SeqAt.shaped (.tuple ds) = true ∧ SeqAt.shaped d = true ∧ Q (.int ((ds.countP fun z => PyData.eqv z d : Nat) : Int)) H
section
variable {X : Cx} {C : Ctx} {k : Nat} {cls : Nat → Value}
theorem mt_countT (hu : X.A.units + 65 < cLine) : MtR X "tuple.count" (rCountT X.K) := by
  intro pins s σ H x xs v us Q I rx rxs ⟨a, y, d, ds, ex, exs, ht, hy, st, sd, q⟩
  subst ex exs
  obtain rfl : v = Value.ref a := rx
  obtain ⟨u, rfl, ru⟩ := Vals.one rxs
  obtain ⟨bs, ry⟩ := Dp.reads I d y u hy ru
  have lay : PyData.canLayAll0 ds = true := SeqAt.canLay_of_shaped st
  have deep : X.A.units + 1 + min (PyData.depthAll ds) d.depth < cLine := room_in_shaped sd hu
  cases ht with
  | tup hs ha =>
    obtain ⟨its, rv, ⟨⟨oc, od, odt, osl⟩, ho, hc, n, hd⟩, _⟩ := I.tuple hs
    have hc : oc = .type "tuple" := hc
    have hd : odt = .seq its.toArray n := hd
    subst hc hd
    obtain ⟨as, rs⟩ := Dp.readsAll I ds _ its ha rv
    have back : its.map (SeqAt.readOf s.heap) = ds := SeqAt.readsAll_map ds its as lay rs
    have eq := SeqAt.items_eqAt (A := X.A) (vs := its.toArray) (show ReadsAll s.heap its.toArray.toList ds as from rs) ry lay (SeqAt.canLay_of_shaped sd) deep
    refine call_meets PySem.F.slot_tuple_count ⟨_, ho, rfl⟩ PySem.F.entry_tuple_count (PySem.F.args_tuple_count_2 _ _) (SeqAt.tuple_countAt a its.toArray n od osl u (fun u => PyData.eqv (SeqAt.readOf s.heap u) d)) ⟨ho, eq, ?_⟩
    refine ⟨.int _, H, I.tok _, ⟨s.toks, ?_⟩, q⟩
    rw [← back, List.countP_map]
    rfl
theorem ok_tcount {K : PySem.W.Frag} : OkMs K (rCountT K) f_tcount := by
  intro H0 H x y dx dy res Q s rx ry e q
  unfold f_tcount at e
  split at e
  · obtain ⟨c, rfl⟩ := grd_some e
    simp only [Bool.and_eq_true] at c
    obtain ⟨a, vs, rfl, h1, h2⟩ := rx.tup
    exact ⟨a, y, _, _, rfl, rfl, (rx.rp s).dp (shp_of c.2).1, (ry.rp s).dp (shp_of c.1).1, (shp_of c.2).2, (shp_of c.1).2, q _ (.int _)⟩
  · cases e
def tTc (K : PySem.W.Frag) (to : TE) (t : TA) : TE := fun σ H Q => to σ H fun x H1 => ∃ a xs, x = .ref a ∧ SqN H1 a xs ∧ t σ H1 fun ys H2 => rCountT K x ys H2 Q
theorem pe_tcount {o e : Expr} {to : TE} {t : TA} {apos cpos : Pos} (hu : X.A.units + 65 < cLine) (ho : PE X o to) (ha : PA X [e] t) (hbase : attributeBase o "count" X.env (eval o X.env) = eval o X.env)
    (hfew : ((backTo cpos (starEach [e] X.env)).all (fun x => !x.1) && (backToKw cpos (keywordEach [] X.env)).all (fun x => x.1.isSome) && decide ([e].length + ([] : List Keyword).length + (if ([] : List Keyword).isEmpty then 0 else 1) < 30)) = true)
    (hline : (apos.endLine == cpos.line) = true) (hs : starEach [e] X.env = (false, eval e X.env) :: starEach [] X.env) (hplain : (backTo cpos (starEach [] X.env)).any (·.1) = false) : PE X (.Call (.Attribute o "count" apos) [e] [] cpos) (tTc X.K to t) := by
  refine ⟨fun pins s σ H Q I h => wpAny_Call_method_late hbase hfew hline rfl (thn (ho.run pins s σ H _ I h) fun v s1 ⟨x, H1, I1, r1, a, xs, ex, ⟨ob, eo, nd⟩, q1⟩ => ?_)⟩
  subst ex
  obtain rfl : v = Value.ref a := r1
  obtain ⟨at_, _, its, _, o2, at2, hc, _⟩ := (show ObjOk X.prog X.w H1 s1.heap a (.frz ob (.tup xs)) from I1.hok a _ eo)
  have same : o2 = ob := Option.some.inj (at2.symm.trans at_)
  subst same
  refine ⟨"tuple", "tuple.count", PySem.F.plainAttrs_tuple, PySem.F.slot_tuple_count, rfl, ⟨o2, at_, hc⟩, fun b e => ⟨o2, by cases e; exact at_, nd⟩, ?_⟩
  have hA := ha.run cpos pins s1 σ H1 _ I1 q1
  rw [hs] at hA ⊢
  refine Calls.callWith_builtin (by show (false || (backTo cpos (starEach [] X.env)).any (·.1)) = false; rw [hplain] <;> rfl) (Calls.evalArgs_plain ?_)
  exact thn hA fun us s2 ⟨vs, H2, I2, r2, q2⟩ => mt_countT hu pins s2 σ H2 (.ref a) vs (.ref a) us Q I2 rfl r2 q2
theorem x_tcount {o e : Expr} {d de : M Val} {apos cpos : Pos} (O : XO X C k cls) (ho : DE X C o d) (ha : DE X C e de) (hbase : attributeBase o "count" X.env (eval o X.env) = eval o X.env)
    (hfew : ((backTo cpos (starEach [e] X.env)).all (fun x => !x.1) && (backToKw cpos (keywordEach [] X.env)).all (fun x => x.1.isSome) && decide ([e].length + ([] : List Keyword).length + (if ([] : List Keyword).isEmpty then 0 else 1) < 30)) = true)
    (hline : (apos.endLine == cpos.line) = true) (hs : starEach [e] X.env = (false, eval e X.env) :: starEach [] X.env) : DE X C (.Call (.Attribute o "count" apos) [e] [] cpos) (dMt f_tcount d de) :=
  .of (PE.imp (pe_tcount O.un65 ho.pe (pa_cons ha.pe pa_nil hs) hbase hfew hline hs rfl) fun σ H Q ⟨B, H0, ρ, hB, W, q⟩ => by
    refine tD_run hB W q fun H1 H' ρ1 x v W1 S1 r1 q => ?_
    cases e1 : look ρ1 x with
    | none => rw [e1] at q; exact q.elim
    | some a =>
      rw [e1] at q
      cases a with
      | tuple xs =>
        obtain ⟨b, vs, rfl, hb, _⟩ := (look_rd W1 r1 e1).tupN
        refine ⟨b, vs, rfl, same_sqn W1.s0 hb, ?_⟩
        obtain ⟨H1', S1', W1', r1'⟩ := keep W1 r1
        refine tD_run hB W1' (stG_base q S1') fun H2 H'' ρ2 y u W2 S2 r2 q => ?_
        have r3 := kept (H' := H'') (ρ' := ρ2) r1' S2
        cases e3 : look ρ2 x with
        | none => rw [e3] at q; exact q.elim
        | some a2 =>
          rw [e3] at q
          cases e4 : look ρ2 y with
          | none => rw [e4] at q; exact q.elim
          | some b2 =>
            rw [e4] at q
            obtain ⟨res, e5, q3⟩ := optOk_some q
            rw [← O.hK]
            exact ok_tcount H2 H'' _ u a2 b2 res Q W2.s0 (look_rd W2 r3 ((look_kp ρ2 x).trans e3)) (look_rd W2 r2 e4) e5 (res_ok W2 q3)
      | _ => exact q.elim) fun _ => rfl
end
/-! ### in a walk -/
theorem w_mt {f : PyData → PyData → Option Res} {d e : M Val} {ρ ρ1 ρ2 : Rho} {x y : Val} {a b a0 : PyData} {z : Val} (h1 : d ρ = .ok x ρ1) (h2 : look ρ1 x = some a0) (ht : isTu a0 = true) (h3 : e ρ1 = .ok y ρ2) (h4 : look ρ2 x = some a) (h5 : look ρ2 y = some b) {r : Res} (h6 : f a b = some r) (h7 : resV r = z) : dMt f d e ρ = .ok z ρ2 := by
  unfold dMt
  show mbind d _ ρ = _
  unfold mbind
  rw [h1]
  simp only [h2, Option.map_some, ht]
  show mbind e _ ρ1 = _
  unfold mbind
  rw [h3]
  simp only [h4, h5, h6]
  show Out.ok (resV r) ρ2 = _
  rw [h7]
end DL
end

section
set_option Elab.async false
set_option linter.all false
set_option maxRecDepth 100000
set_option maxHeartbeats 2000000
namespace DL
open PySem PySem.Spec PyProof.Rows L2
/-! ### an exception is caught and kept -/
section
variable {X : Cx} {pins : List (Addr × Obj)} {σ : L2.St} {H : Hp} {s sI : Shared} {B : Heap}
/-- the pin of an exception, behind its suite -/
theorem inv_outP {a : Addr} {q : Addr × Obj} {pn' : List (Addr × Obj)} (I : Inv (X.suite a (q :: (X.pn ++ pins))) pn' σ H s) (ok : X.Ok) : Inv X (q :: pins) σ H s where
  ok := ok
  os := I.os
  bare := I.bare
  base := I.base
  loc := I.loc
  cell := I.cell
  free := I.free
  freeC := I.freeC
  pin := fun p hp => I.pin p (List.mem_append_left _ (by
    rcases List.mem_append.mp hp with h | h
    · exact List.mem_cons_of_mem _ (List.mem_append_left _ h)
    · rcases List.mem_cons.mp h with h | h
      · rw [h]; exact List.mem_cons_self ..
      · exact List.mem_cons_of_mem _ (List.mem_append_right _ h)))
  hok := I.hok
  len := I.len
/-- a pinned object that is newer than the frame is tracked -/
theorem inv_track {a : Addr} {oe : Obj} {vs : Array Value} {cls : Value} (I : Inv X ((a, oe) :: pins) σ H s) (hex : X.ex = []) (n0 : X.s_0.heap.get? a = none) (np : ∀ p ∈ X.pn ++ pins, p.1 ≠ a) (nc : ∀ x c, X.env.cells.lookup x = some c → c ≠ a)
    (hc : oe.cls = cls) (hd : oe.dict = none) (hv : oe.data = .fields vs) : Inv X pins σ (upd H a (ExH cls a)) s := by
  obtain ⟨g1, g2, g3, g4, _⟩ := I.pin (a, oe) (List.mem_append_right _ (List.mem_cons_self ..))
  have ne : ∀ {b : Addr} {o : HO}, H b = some o → b ≠ a := fun h z => by
    subst z
    exact absurd (h.symm.trans g2) (fun z => nomatch z)
  have up : ∀ {b : Addr} {o : HO}, H b = some o → upd H a (ExH cls a) b = some o := fun h => (upd_ne (ne h)).trans h
  refine { ok := I.ok, os := I.os, bare := I.bare, base := ?_, loc := I.loc, cell := I.cell, free := ?_, freeC := fun x c e => ?_, pin := fun p hp => ?_, hok := fun b o e => ?_, len := I.len }
  · refine { keep := I.base.keep, slot := I.base.slot, free := fun b o e n hb => ?_, there := I.base.there, tups := fun b xs e => up (I.base.tups b xs e), frzs := fun b o u e => up (I.base.frzs b o u e), tbls := fun b ps e => ?_ }
    · rw [upd_ne (fun z => by rw [z, n0] at e; cases e)]
      exact I.base.free b o e n hb
    · obtain ⟨more, q⟩ := I.base.tbls b ps e
      exact ⟨more, up q⟩
  · rw [upd_ne (Ne.symm g3)]; exact I.free
  · rw [upd_ne (nc x c e)]; exact I.freeC x c e
  · obtain ⟨q1, q2, q3⟩ := I.pin p (by
      rcases List.mem_append.mp hp with h | h
      · exact List.mem_append_left _ h
      · exact List.mem_append_right _ (List.mem_cons_of_mem _ h))
    exact ⟨q1, (upd_ne (np p hp)).trans q2, q3⟩
  · by_cases hb : b = a
    · subst hb
      rw [upd_same] at e
      cases e
      exact ⟨⟨oe, vs, g1, hc, hd, hv⟩, ⟨oe, g1⟩, fun h1 h2 ⟨o', v', e1, e2⟩ k => ⟨o', v', k o' e1, e2⟩⟩
    · rw [upd_ne hb] at e
      exact (I.hok b o e).stay (fun _ _ _ h => h) (fun c h => up h) fun c ys h => up h
/-- what 'except x as n: m = n' wishes of its body's exceptions -/
def wKeep (K : PySem.W.Frag) (c : Value) (i j : Nat) (Wout : WX) (D : Ends) : WX := fun cls d σ H =>
  d = none ∧ ∃ b, PySem.W.exmOne K cls c = some b ∧ (b = true → ∀ a, H a = none → D.nx (((σ.set j (some (.ref a))).set i (some (.ref a))).set j none) (upd H a (ExH cls a))) ∧ (b = false → Wout cls d σ H)
end
section
variable {X : Cx} {x n m : Str} {c : Value} {i j : Nat} {body : List Stmt} {np mp np2 ap pos pos' : Pos} {tb : WX → TS} {Wout : WX}
theorem ps_keep_suite {a : Addr} {oe : Obj} {pn : List (Addr × Obj)} (hN : X.N.Nodup) (hj : X.N[j]? = some n) (hi : X.N[i]? = some m) (hln : X.env.kindOf n = some .local) (hlm : X.env.kindOf m = some .local) (hd1 : (n == ("__debug__" : Str)) = false) (hd2 : (n == ("__classdict__" : Str)) = false)
    (hsw : swapsWithSole [.Name m mp] (.Name n np2) ap.line X.env = pure false) (hsp : swappedStores [.Name m mp] (.Name n np2) X.env = pure none) :
    PSs (X.suite a ((a, oe) :: pn)) [.Assign [.Name m mp] (.Name n np2) ap] (fun D σ H => ∃ v, σ[j]? = some (some v) ∧ D.nx (σ.set i (some v)) H) := by
  have pv : PE (X.suite a ((a, oe) :: pn)) (.Name n np2) (tVar j) := pe_var hj (.inl hln) hd1 hd2
  have pg : PG (X.suite a ((a, oe) :: pn)) (.Name m mp) (gName i) := pg_name hN hi (.inl hlm) (.inr hlm)
  exact PSs.imp (pss_one (ps_asg pv pg hsw hsp rfl)) fun D σ H h => h
theorem ps_try_keep (hs : X.stack = X.env :: X.outer) (hf : X.env.frame = some X.env.locals) (hex : X.ex = []) (hN : X.N.Nodup) (hj : X.N[j]? = some n) (hi : X.N[i]? = some m) (hln : X.env.kindOf n = some .local) (hlm : X.env.kindOf m = some .local)
    (hd1 : (n == ("__debug__" : Str)) = false) (hd2 : (n == ("__classdict__" : Str)) = false) (hsw : swapsWithSole [.Name m mp] (.Name n np2) ap.line X.env = pure false) (hsp : swappedStores [.Name m mp] (.Name n np2) X.env = pure none)
    (hc : Names X x c) (tk : Takes X Wout) (hb : ∀ (W : WX) (pn : List (Addr × Obj)) (xe : Value → Shared → Prop), Takes (X.tr pn xe) W → PSs (X.tr pn xe) body (tb W)) :
    PS X (.Try body [.ExceptHandler (some (.Name x np)) (some n) [.Assign [.Name m mp] (.Name n np2) ap] pos'] [] [] pos) (fun D σ H => tb (wKeep X.K c i j Wout D) D σ H) := by
  refine ⟨fun pins s σ H D I h => ?_⟩
  have ok := I.ok
  have frA : X.A.frames = some (X.env :: X.outer) := ok.frames.trans (by rw [hs])
  refine wpAny_Try_except (wpAny_mono ((hb (wKeep X.K c i j Wout D) (X.pn ++ pins) _ (fun u s1 x1 => ?_)).run [] s σ H D (I.toTry (fun e s1 => wpAny (model X.prog X.w) X.A (noteFrame e X.env)
      (fun _ s2 => wpAny (model X.prog X.w) X.A (setFlight e none) (fun _ s3 => wpAny (model X.prog X.w) X.A (handleBy e X.env [.ExceptHandler (some (.Name x np)) (some n) [.Assign [.Name m mp] (.Name n np2) ap] pos']) (SP X pins D) X.xe s3) X.xe s2) X.xe s1)) h) (fun f s1 q => ?_) fun e s1 he => he)
  · obtain ⟨a, B, sI, pins1, σ1, H1, cls, d, rfl, I1, nb, up, sky, na, os, ag, hd0, b, hb1, hyes, hno⟩ := x1
    subst hd0
    have I2 : Inv X pins σ1 H1 sI := I1.ofTry ok
    have sky2 : Sky B (X.env :: X.outer) a (Zc cls none) X.env.locals s1.heap := by
      rw [← hs]; exact sky
    show wpAny (model X.prog X.w) X.A (noteFrame (.ref a) X.env) _ _ s1
    refine Sky.land Zc.steady frA hf sky2 fun h3 fl3 up3 => ?_
    have I3 : Inv X pins σ1 H1 { s1 with heap := h3 } := I2.landed nb fl3.1 (up.trans up3) os ag
    obtain ⟨oe, vs, g1, g2, g3⟩ := fl3.there
    -- it is no frame
    have noF : a ∉ frs (X.env :: X.outer) := fun hm => by
      obtain ⟨_, o', e', hnf⟩ := fl3.2.2.1.mem hm
      exact hnf _ ((Option.some.inj (g1.symm.trans e')) ▸ g3)
    have noL : a ≠ X.env.locals := fun z => noF (List.mem_filterMap.mpr ⟨X.env, List.mem_cons_self .., hf.trans (by rw [z])⟩)
    have noX : a ∉ X.fs := fun hm => by
      obtain ⟨e, he, q⟩ := List.mem_filterMap.mp hm
      exact noF (List.mem_filterMap.mpr ⟨e, List.mem_cons_of_mem _ he, q⟩)
    -- it is new
    have fresh : sI.heap.get? a = none := by
      cases e : sI.heap.get? a with
      | none => rfl
      | some o =>
        have z := nb a o e (by rw [hs]; exact noF)
        rw [fl3.2.1] at z
        cases z
    have n0 : X.s_0.heap.get? a = none := by
      cases e : X.s_0.heap.get? a with
      | none => rfl
      | some o =>
        obtain ⟨o', q⟩ := I2.base.there a o e (by rw [hex]; exact fun z => nomatch z)
        rw [fresh] at q
        cases q
    have np' : ∀ p ∈ X.pn ++ pins, p.1 ≠ a := fun p hp z => by
      obtain ⟨q, _⟩ := I2.pin p hp
      rw [z, fresh] at q
      cases q
    have nc : ∀ y l, X.env.cells.lookup y = some l → l ≠ a := fun y l e z => by
      obtain ⟨v, o, q, _⟩ := I2.cell y l e
      rw [z, fresh] at q
      cases q
    have K3 := I3.suite g1 g3 na noL noX
    refine wpAny_handleBy_cons (codeAny_handlers_test ?_) (fun q => nomatch q)
    have LT : PySem.W.Looks (model X.prog X.w) h3 (typeOf (.ref a)) cls := fun A Q E s k q => wpAny_typeOf_ref (k _ _ g1) (g2.1 ▸ q)
    have LM := PySem.W.exm_one (M := model X.prog X.w) I3.kIn LT hb1
    have look : ∀ {Q E : Value → Shared → Prop}, Q c { s1 with heap := h3 } → wpAny (model X.prog X.w) (X.A.mark (some (.ref a))) (eval (.Name x np) X.env) Q E { s1 with heap := h3 } := fun q => by
      obtain ⟨c1, c2, c3 | ⟨c3, c4, c5⟩⟩ := hc
      · exact ld_glob (X := X.suite a ((a, oe) :: (X.pn ++ pins))) K3 c1 c3 q c2
      · exact ld_blt (X := X.suite a ((a, oe) :: (X.pn ++ pins))) K3 c1 c3 c4 q c5 c2
    refine look (LM.here ?_)
    cases b with
    | true =>
      refine codeAny_handlers_suite_as (HandSPX.lands_againZ fl3 fun h4 fl4 up4 => ?_)
      have I4 : Inv X pins σ1 H1 { s1 with heap := h4 } := I2.landed nb fl4.1 ((up.trans up3).trans up4) os ag
      obtain ⟨oe4, vs4, k1, k2, k3⟩ := fl4.there
      refine store_ok (X := X.suite a ((a, oe4) :: (X.pn ++ pins))) (v := .ref a) (I4.suite k1 k3 na noL noX) hN hj (.inl hln) rfl (fun s5 K5 => ?_) (.inr hln)
      have hlj : j < σ1.length := by rw [I4.len]; exact (List.getElem?_eq_some_iff.mp hj).1
      refine wpAny_mono ((ps_keep_suite hN hj hi hln hlm hd1 hd2 hsw hsp).run [] s5 _ H1 { nx := fun σ' H' => σ' = (σ1.set j (some (.ref a))).set i (some (.ref a)) ∧ H' = H1, rt := fun _ _ => False } K5 ⟨.ref a, List.getElem?_set_self hlj, rfl, rfl⟩) (fun f s6 q6 => ?_) fun _ _ z => z.elim
      cases f with
      | next =>
        obtain ⟨σ6, H6, K6, rfl, rfl⟩ := q6
        refine gone_ok (inv_outP (X := X) (pins := pins) K6 ok) hN hj hln fun s7 I7 => ?_
        exact ⟨_, _, inv_track I7 hex n0 np' nc k2.1 k2.2 k3, hyes rfl a na⟩
      | ret u => obtain ⟨_, _, _, _, _, z⟩ := q6; exact z.elim
      | brk => obtain ⟨_, _, _, z⟩ := q6; exact z.elim
      | cont => obtain ⟨_, _, _, z⟩ := q6; exact z.elim
    | false =>
      show wpAny _ X.A (handleBy (.ref a) X.env []) _ _ _
      refine wpAny_handleBy_nil ?_
      obtain ⟨f1, f2, f3, oe', vs', T, oT, ts', g1', g2', g3', g4', g5'⟩ := id fl3
      unfold PySem.passOn
      refine wpAny_bind (wpAny_field g1' g3' g4' ?_)
      rw [if_neg (show ¬ ((Value.ref T == Value.none) = true) from by simp)]
      have fin : wpAny (model X.prog X.w) X.A (setFlight (.ref a) X.env.frame) (fun _ s4 => wpAny (model X.prog X.w) X.A (throw (.ref a) : Sem Flow) (SP X pins D) X.xe s4) X.xe { s1 with heap := h3 } := by
        rw [hf]
        exact HandSPX.setFlight_upZ fl3 fun h4 hh4 up4 => wpAny_throw (tk _ _ ⟨a, B, sI, pins, σ1, H1, cls, none, rfl, I2, nb, (up.trans up3).trans up4, .inr (.inr (hs ▸ hh4)), na, os, ag, hno rfl⟩)
      first
        | exact wpAny_bind (wpAny_pure (wpAny_bind fin))
        | exact wpAny_bind fin
  · cases f with
    | next =>
      obtain ⟨σ', H', J, q⟩ := q
      exact wpAny_execs_nil ⟨σ', H', J.ofTry ok, q⟩
    | ret u =>
      obtain ⟨v, σ', H', J, r, q⟩ := q
      exact ⟨v, σ', H', J.ofTry ok, r, q⟩
    | brk =>
      obtain ⟨σ', H', J, q⟩ := q
      exact ⟨σ', H', J.ofTry ok, q⟩
    | cont =>
      obtain ⟨σ', H', J, q⟩ := q
      exact ⟨σ', H', J.ofTry ok, q⟩
end
end DL
end

section
set_option Elab.async false
set_option linter.all false
set_option maxRecDepth 100000
set_option maxHeartbeats 2000000
namespace DL
open PySem PySem.Spec PyProof.Rows L2
/-! ### raise -/
def bmV : List Value := [.type "ValueError", .type "Exception", .type "BaseException", .type "object"]
/-- a class of the program's exceptions -/
structure ExcOk (K : PySem.W.Frag) (C : Addr) : Prop where
  x : PySem.W.excIn K C bmV "ValueError.__new__" = true
  k : PySem.W.keepIn K (.ref C) = true
  b : PySem.W.subIn K (.ref C) (.type "BaseException") = some true
  t : PySem.W.typeIn K (.ref C) = some (.type "type")
def sRaise (c : Nat) : SD := fun ρ => .exc c ρ
section
variable {X : Cx} {C : Ctx} {k : Nat} {cls : Nat → Value}
theorem ds_raise {x m : Str} {u : Nat} {p p2 pos pos' : Pos} {D : Addr} {c : Nat} (O : XO X C k cls) (nm : NmOk x) (hg : Gl X x) (gC : X.mg x = some (.ref D)) (E : ExcOk X.K D) (hc : cls c = .ref D) : DS X C (.Raise (some (.Call (.Name x p) [.Constant (.str m) u p2] [] pos)) none pos') (sRaise c) :=
  ⟨PS.imp (ps_raise O.calm O.lk (pmk_own PySem.F.excBase_ValueError E.x gC E.k (raises_own E.b E.t) hg nm.d)) fun D σ H ⟨H0, ρ, W, q⟩ => ⟨rfl, c, H0, ρ, hc.symm, W, q⟩⟩
end
/-! ### try: body, except x as n: m = n -/
def hdl (i j : Nat) (hd : Nat → Option Bool) (k : Nat) (ρ : Rho) : SOut := match hd k with
  | some true => if notBo ρ[i]? = true ∧ notBo ρ[j]? = true then .nx ((ρ.set i (.sh (exD k))).set j .no) else .stuck
  | some false => .exc k ρ
  | none => .stuck
def sTry (i j : Nat) (hd : Nat → Option Bool) (db : SD) : SD := fun ρ => match db ρ with
  | .exc k ρ' => hdl i j hd k ρ'
  | o => o
theorem Wd.unset {C : Ctx} {B H0 H : Hp} {σ : L2.St} {ρ : Rho} (W : Wd C B H0 H σ ρ) {j : Nat} (hnb : bK ρ[j]? = none) : Wd C B H0 H (σ.set j none) (ρ.set j .no) := by
  have W1 : Wd C B H0 H σ (ρ.set j .no) := W.disown hnb no_own trivial
  have oj : ∀ i, Own (ρ.set j .no) i → i ≠ j := fun i h => (Own.set_no no_own h).1
  refine ⟨W1.s0, W1.sb, W1.s00, W1.nf, fun i s e => ?_, fun i l a o1 o2 e1 e2 => ?_, by rw [List.length_set]; exact W1.len, fun p hp => ?_⟩
  · rcases Rho.get_set e with ⟨rfl, rfl⟩ | ⟨n, _⟩
    · trivial
    · exact (W1.slot i s e).move (Same.refl _) (List.getElem?_set_ne (Ne.symm n)) fun a _ _ h3 h4 => ⟨rfl, h3, h4⟩
  · rw [List.getElem?_set_ne (Ne.symm (oj i o1))] at e1
    rw [List.getElem?_set_ne (Ne.symm (oj l o2))] at e2
    exact W1.inj i l a o1 o2 e1 e2
  · obtain ⟨h1, h2⟩ := W1.bo p hp
    exact ⟨(List.getElem?_set_ne (Ne.symm (oj _ (W1.boc hp).1))).trans h1, h2⟩
/-- a frame within the frame: what was data at the start stays data -/
def Ctx.at' (C : Ctx) (H0 : Hp) (wish : Nat → Rho → Prop) : Ctx := { C with Hb0 := H0, wish := wish }
section
variable {C : Ctx} {B H0 H H0' H' : Hp} {σ σ' : L2.St} {ρ ρ' : Rho} {w : Nat → Rho → Prop}
theorem Wd.goIn (W : Wd C B H0 H σ ρ) : Wd (C.at' H0 w) B H0 H σ ρ := ⟨W.s0, W.sb, Same.refl _, fun _ z _ => z, W.slot, W.inj, W.len, W.bo⟩
theorem Wd.goOut (W : Wd C B H0 H σ ρ) (W' : Wd (C.at' H0 w) B H0' H' σ' ρ') : Wd C B H0' H' σ' ρ' :=
  ⟨W'.s0, W'.sb, W.s00.trans W'.s00, fun a h1 h2 => W'.nf a (W.nf a h1 h2) h2, W'.slot, W'.inj, W'.len, W'.bo⟩
end
section
variable {X : Cx} {C : Ctx} {k : Nat} {cls : Nat → Value} {x n m : Str} {c : Value} {i j : Nat} {body : List Stmt} {np mp np2 ap pos pos' : Pos} {hd : Nat → Option Bool} {db : SD}
theorem ds_try (O : XO X C k cls) (hs : X.stack = X.env :: X.outer) (hf : X.env.frame = some X.env.locals) (hex : X.ex = []) (hj : X.N[j]? = some n) (hi : X.N[i]? = some m) (hij : i ≠ j) (hln : X.env.kindOf n = some .local) (hlm : X.env.kindOf m = some .local)
    (nn : NmOk n) (hsw : swapsWithSole [.Name m mp] (.Name n np2) ap.line X.env = pure false) (hsp : swappedStores [.Name m mp] (.Name n np2) X.env = pure none)
    (hc : Names X x c) (hcls : ∀ k, cls k = excV X.K k) (hh : ∀ k b, hd k = some b → PySem.W.exmOne X.K (cls k) c = some b) (hb : ∀ pn xe C', XO (X.tr pn xe) C' k cls → DSs (X.tr pn xe) C' body db) :
    DS X C (.Try body [.ExceptHandler (some (.Name x np)) (some n) [.Assign [.Name m mp] (.Name n np2) ap] pos'] [] [] pos) (sTry i j hd db) := by
  refine ⟨PS.imp (ps_try_keep (c := c) (tb := fun W D σ H => ∃ C', C'.K = C.K ∧ (∀ cv d σ H, (d = none ∧ ∃ k H0 ρ, cv = cls k ∧ Wd C' C'.Hb H0 H σ ρ ∧ C'.wish k ρ) → W cv d σ H) ∧ tDS C' db D σ H) hs hf hex O.nd hj hi hln hlm nn.d nn.c hsw hsp hc O.lk fun W pn xe tk => ?_) fun D σ H ⟨H0, ρ, W, q⟩ => ?_⟩
  · refine ⟨fun pins s σ H D I ⟨C', e1, e2, h⟩ => ?_⟩
    exact (hb pn xe C' ⟨e1.trans O.hK, O.nd, O.calm, O.rm, Takes.imp tk e2⟩).ps.run pins s σ H D I h
  · refine ⟨C.at' H0 fun k ρ' => stS C H0 D (hdl i j hd k ρ'), rfl, fun cv d σ1 H1 hw => ?_, H0, ρ, W.goIn, ?_⟩
    · obtain ⟨rfl, kk, H0', ρ', rfl, W', wh⟩ := hw
      have W2 : Wd C C.Hb H0' H1 σ1 ρ' := W.goOut W'
      have S : Same H0 H0' := W'.s00
      have wh : stS C H0 D (hdl i j hd kk ρ') := wh
      unfold hdl at wh
      cases e : hd kk with
      | none => rw [e] at wh; exact wh.elim
      | some b =>
        rw [e] at wh
        refine ⟨rfl, b, hh kk b e, fun hb1 a na => ?_, fun hb1 => ?_⟩
        · subst hb1
          simp only at wh
          split at wh
          · rename_i hnb
            obtain ⟨nb1, l1⟩ := notBo_of hnb.1
            obtain ⟨nb2, l2⟩ := notBo_of hnb.2
            have W3 := W2.lay (o := ExH (cls kk) a) na
            have R : Rp C.K (upd H0' a (ExH (cls kk) a)) (.ref a) (exD kk) := .exn (by rw [O.hK, ← hcls kk]; exact upd_same)
            have W4 := W3.storeSh nb2 l2 R
            have W5 := W4.storeSh (i := i) (by rw [List.getElem?_set_ne hij.symm]; exact nb1) (by rw [List.length_set]; exact l1) R
            have W6 := W5.unset (j := j) (by
              rw [List.getElem?_set_ne hij, List.getElem?_set_self l2]
              rfl)
            have eρ : (((ρ'.set j (.sh (exD kk))).set i (.sh (exD kk))).set j .no) = (ρ'.set i (.sh (exD kk))).set j .no := by
              rw [List.set_comm _ _ hij.symm, List.set_set]
            rw [eρ] at W6
            exact wh _ _ _ W6 (S.trans (same_upd (W2.s0.free na)))
          · exact wh.elim
        · subst hb1
          exact ⟨rfl, kk, H0', ρ', rfl, W2, wh⟩
    · have q : stS C H0 D (match db ρ with
        | .exc k ρ' => hdl i j hd k ρ'
        | o => o) := q
      cases e : db ρ with
      | stuck => rw [e] at q; exact q
      | nx ρ' => rw [e] at q; exact fun H0' H' σ' W' S => q H0' H' σ' (W.goOut W') S
      | bk ρ' => rw [e] at q; exact fun H0' H' σ' W' S => q H0' H' σ' (W.goOut W') S
      | ct ρ' => rw [e] at q; exact fun H0' H' σ' W' S => q H0' H' σ' (W.goOut W') S
      | rt r ρ' =>
        rw [e] at q
        refine fun H0' H' σ' v W' S r' => q H0' H' σ' v (W.goOut W') S ?_
        cases r with
        | sh d => exact r'
        | fr xs => exact r'
        | fo c xs => exact r'
      | exc kk ρ' => rw [e] at q; exact q
end
end DL
end

section
set_option Elab.async false
set_option linter.all false
set_option maxRecDepth 100000
set_option maxHeartbeats 2000000
namespace DL
open PySem PySem.Spec PyProof.Rows L2
/-! ### the program's classes of exceptions, by one look -/
def okB (o : Option Value) (v : Value) : Bool := o == some v
/-- one class that is raised and asked -/
def excOne (K : PySem.W.Frag) (v : Value) : Bool := match v with
  | .ref C => PySem.W.excIn K C bmV "ValueError.__new__" && PySem.W.keepIn K (.ref C) && PySem.W.subIn K (.ref C) (.type "BaseException") == some true && PySem.W.typeIn K (.ref C) == some (.type "type")
      && PySem.W.findIn K (.ref C) "__getattribute__" == some (some (.builtin "BaseException.__getattribute__")) && PySem.W.findIn K (.ref C) "__getattr__" == some none && PySem.W.hasDictIn K C && PySem.W.findIn K (.ref C) "__class__" == some (some (.builtin "object.__class__"))
      && PySem.W.mroIn K C (.type "object") == some true && PySem.W.kitOne K (.ref C) (.type "ValueError") == some true
  | _ => false
def relB (k j : Nat) : Bool := j == 0 || k == j
def excTab (K : PySem.W.Frag) (ks js : List Nat) : Bool :=
  PySem.W.specialIn K (.builtin "object.__class__") "__get__" == some (some (.builtin "getset_descriptor.__get__")) && PySem.W.takesIn K (.builtin "object.__class__") == some true
  && ks.all (fun k => js.contains k && excOne K (excV K k) && js.all fun j => PySem.W.kitOne K (excV K k) (excV K j) == some (relB k j) && PySem.W.exmOne K (excV K k) (excV K j) == some (relB k j))
  && js.all (fun j => match excV K j with | .ref _ => true | _ => false)
structure XTab (K : PySem.W.Frag) (mg : Str → Option Value) (ks js : List Nat) : Prop where
  ok : excTab K ks js = true
  mg : ∀ j C, excV K j = .ref C → mg (EXN.getD j "") = some (.ref C)
theorem excV_ref {K : PySem.W.Frag} {j : Nat} {C : Addr} (h : excV K j = .ref C) : PySem.W.nsIn K mainGlobals (EXN.getD j "") = some (some (.ref C)) := by
  unfold excV at h
  split at h
  · rename_i v e; rw [e, h]
  · cases h
theorem xtab_mk {K : PySem.W.Frag} {h : Heap} {mg : Str → Option Value} {ks js : List Nat} (X : K.In h) (G : h.Ns mainGlobals mg) (e : excTab K ks js = true) : XTab K mg ks js := ⟨e, fun j C h => PySem.W.mg_of X G (excV_ref h)⟩
section
variable {K : PySem.W.Frag} {mg : Str → Option Value} {ks js : List Nat} {k j : Nat}
theorem XTab.ref (T : XTab K mg ks js) (hj : j ∈ js) : ∃ C, excV K j = .ref C ∧ mg (EXN.getD j "") = some (.ref C) := by
  have h := T.ok
  unfold excTab at h
  simp only [Bool.and_eq_true] at h
  have q := List.all_eq_true.mp h.2 j hj
  split at q
  · rename_i C e; exact ⟨C, e, T.mg j C e⟩
  · cases q
theorem XTab.row (T : XTab K mg ks js) (hk : k ∈ ks) : k ∈ js ∧ excOne K (excV K k) = true ∧ ∀ j ∈ js, PySem.W.kitOne K (excV K k) (excV K j) = some (relB k j) ∧ PySem.W.exmOne K (excV K k) (excV K j) = some (relB k j) := by
  have h := T.ok
  unfold excTab at h
  simp only [Bool.and_eq_true] at h
  have q := List.all_eq_true.mp h.1.2 k hk
  simp only [Bool.and_eq_true] at q
  refine ⟨by simpa using q.1.1, q.1.2, fun j hj => ?_⟩
  have z := List.all_eq_true.mp q.2 j hj
  simp only [Bool.and_eq_true, beq_iff_eq] at z
  exact z
theorem XTab.one (T : XTab K mg ks js) (hk : k ∈ ks) : ∃ C, excV K k = .ref C ∧ mg (EXN.getD k "") = some (.ref C) ∧ ExcOk K C ∧ L2.ExcC K C ∧ PySem.W.kitOne K (.ref C) (.type "ValueError") = some true := by
  obtain ⟨h1, h2, _⟩ := T.row hk
  obtain ⟨C, e, m⟩ := T.ref h1
  have h := T.ok
  unfold excTab at h
  simp only [Bool.and_eq_true, beq_iff_eq] at h
  rw [e] at h2
  unfold excOne at h2
  simp only [Bool.and_eq_true, beq_iff_eq] at h2
  obtain ⟨⟨⟨⟨⟨⟨⟨⟨⟨a1, a2⟩, a3⟩, a4⟩, a5⟩, a6⟩, a7⟩, a8⟩, a9⟩, a10⟩ := h2
  exact ⟨C, e, m, ⟨a1, a2, a3, a4⟩, ⟨a5, a6, a3, a7, a8, h.1.1.1, h.1.1.2, a9⟩, a10⟩
end
/-! ### isinstance -/
def rIsX (K : PySem.W.Frag) : List V → Hp → VK → Prop := fun xs H Q => ∃ (a D : Addr) (c : V) (cv : Value) (b : Bool), xs = [.ref a, c] ∧ H a = some (ExH (.ref D) a) ∧ L2.ExcC K D ∧ (∀ u, RelV c u → u = cv) ∧ PySem.W.kitOne K (.ref D) cv = some b ∧ Q (.bl b) H
def rIsXT (K : PySem.W.Frag) : List V → Hp → VK → Prop := fun xs H Q => ∃ (a D tp : Addr) (cs : List V) (us : List Value) (b : Bool), xs = [.ref a, .ref tp] ∧ H a = some (ExH (.ref D) a) ∧ L2.ExcC K D ∧ H tp = some (.tup cs) ∧ Paired ClsV cs us ∧ PySem.W.kitAny K (.ref D) us = some b ∧ Q (.bl b) H
section
variable {X : Cx} {C : Ctx} {lv : Nat} {cls : Nat → Value}
theorem inst_of {pins : List (Addr × Obj)} {σ : L2.St} {H : Hp} {s : Shared} {a D : Addr} (I : Inv X pins σ H s) (h : H a = some (ExH (.ref D) a)) : ∃ oe, PySem.W.InstAt s.heap a oe D none := by
  obtain ⟨⟨oe, vs, h1, h2, h3, h4⟩, _⟩ := (show ObjOk X.prog X.w H s.heap a (ExH (.ref D) a) from I.hok a _ h)
  obtain ⟨oc, od, oda, osl⟩ := oe
  dsimp only at h2 h3 h4
  subst h2 h3 h4
  exact ⟨_, h1, rfl, rfl, trivial⟩
theorem call_isX : CallR X (.builtin "isinstance") (rIsX X.K) := by
  intro pins s σ H xs us Q I r h
  obtain ⟨a, D, c, cv, b, rfl, hH, E, hcv, e, q⟩ := h
  obtain ⟨u1, u2, rfl, r1, r2⟩ := vals2 r
  cases (show u1 = Value.ref a from r1)
  cases hcv _ r2
  obtain ⟨oe, J⟩ := inst_of I hH
  exact PySem.W.kia_one (PySem.W.handS_kitx_exc E.hg E.hk E.hs E.hd E.ha E.hn E.ht E.hm) I.kIn J e (fun z => nomatch z) fun tk => ⟨.bl b, H, I.tok tk, rfl, q⟩
theorem call_isXT : CallR X (.builtin "isinstance") (rIsXT X.K) := by
  intro pins s σ H xs us Q I r h
  obtain ⟨a, D, tp, cs, ws, b, rfl, hH, E, hT, k, e, q⟩ := h
  obtain ⟨u1, u2, rfl, r1, r2⟩ := vals2 r
  cases (show u1 = Value.ref a from r1)
  cases (show u2 = Value.ref tp from r2)
  obtain ⟨oe, J⟩ := inst_of I hH
  obtain ⟨_, its, rv, o, h1, h2, n, h3⟩ := (show ObjOk X.prog X.w H s.heap tp (.tup cs) from I.hok tp _ hT)
  cases ClsV.all k rv
  obtain ⟨oc, od, dt, sl⟩ := o
  simp only at h2 h3
  subst h2 h3
  exact PySem.W.kia_tup (PySem.W.handS_kitx_exc E.hg E.hk E.hs E.hd E.ha E.hn E.ht E.hm) I.kIn J h1 e (fun z => nomatch z) fun tk => ⟨.bl b, H, I.tok tk, rfl, q⟩
/-- isinstance(d, one of the classes js); none: ValueError -/
def f_isE (ks : List Nat) (js : List Nat) : PyData → Option Res
  | .dict [(.none, .int (.ofNat k))] => if ks.contains k = true then ok (.bool (js.any fun j => relB k j)) else none
  | _ => none
theorem f_isE_some {ks js : List Nat} {d : PyData} {res : Res} (h : f_isE ks js d = some res) : ∃ k, d = exD k ∧ k ∈ ks ∧ res = .val (.bool (js.any fun j => relB k j)) := by
  unfold f_isE at h
  split at h
  · rename_i k
    split at h
    · rename_i hk
      cases h
      exact ⟨k, rfl, by simpa using hk, rfl⟩
    · cases h
  · cases h
theorem rp_exn {K : PySem.W.Frag} {H : Hp} {v : V} {k : Nat} (r : Rp K H v (exD k)) : ∃ a, v = .ref a ∧ H a = some (ExH (excV K k) a) := by
  generalize e : exD k = d at r
  cases r with
  | exn h =>
    have := PyData.dict.inj e
    simp only [List.cons.injEq, Prod.mk.injEq, PyData.int.injEq, and_true, true_and] at this
    have := Int.ofNat.inj this
    subst this
    exact ⟨_, rfl, h⟩
  | obj a => exact absurd (congrArg List.length (PyData.dict.inj e)) (fun h => by simp at h)
  | cls h => exact absurd (congrArg List.length (PyData.dict.inj e)) (fun h => by simp at h)
  | @dct a kvs ds h1 h2 =>
    exfalso
    have e := PyData.dict.inj e
    cases kvs with
    | nil => cases e
    | cons p kvs =>
      cases ds with
      | nil => cases h2
      | cons d ds =>
        have := (List.cons.inj e).1
        have := congrArg Prod.fst this
        obtain ⟨key, v⟩ := p
        cases key <;> cases this
  | non => cases e
  | bl => cases e
  | int => cases e
  | str => cases e
  | lst => cases e
  | tup => cases e
theorem look_exn {B H0 H : Hp} {σ : L2.St} {ρ : Rho} {x : Val} {v : V} {k : Nat} (W : Wd C B H0 H σ ρ) (r : VlR C.K B H0 H σ ρ v x) (e : look ρ x = some (exD k)) : ∃ a, v = .ref a ∧ H a = some (ExH (excV C.K k) a) := rp_exn ((look_rd W r e).rp W.s0)
/-- isinstance(e, X), X an own class -/
theorem x_isE1 {ks js : List Nat} {xn : Str} {j : Nat} {p px pos : Pos} {e : Expr} {d : M Val} (O : XO X C lv cls) (T : XTab X.K X.mg ks js) (hj : j ∈ js) (hx : EXN.getD j "" = xn) (n1 : NmOk "isinstance") (n2 : NmOk xn) (hm : X.mg "isinstance" = none) (h : DE X C e d) (g1 : Gl X "isinstance") (g2 : Gl X xn)
    (he : starEach [e, .Name xn px] X.env = (false, eval e X.env) :: starEach [.Name xn px] X.env) (hpl : (backTo pos (starEach [.Name xn px] X.env)).any (·.1) = false) : DE X C (.Call (.Name "isinstance" p) [e, .Name xn px] [] pos) (dOp1 (f_isE ks [j]) d) := by
  obtain ⟨D, e1, m1⟩ := T.ref hj
  rw [hx] at m1
  refine .of (PE.imp (pe_callB call_isX g1 hm (by decide +kernel) (pa_cons h.pe (pa_cons (pe_glob g2 m1 (v := .ref D) rfl n2.d) pa_nil rfl) he) n1.n n1.d he hpl) fun σ H Q ⟨B, H0, ρ, hB, W, q⟩ => ?_) fun _ => rfl
  refine tD_run hB W q fun H1 H' ρ1 x v W1 S1 r1 q => ?_
  cases e2 : look ρ1 x with
  | none => rw [e2] at q; exact q.elim
  | some a =>
    rw [e2] at q
    obtain ⟨res, e3, q3⟩ := optOk_some q
    obtain ⟨k, rfl, hk, rfl⟩ := f_isE_some e3
    obtain ⟨E1, e4, _, _, E2, _⟩ := T.one hk
    obtain ⟨b, rfl, hb⟩ := look_exn W1 r1 e2
    rw [O.hK, e4] at hb
    have kk := ((T.row hk).2.2 j hj).1
    rw [e4, e1] at kk
    refine ⟨b, E1, .ref D, .ref D, _, rfl, hb, E2, fun u r => r, kk, ?_⟩
    have := res_ok W1 q3 (.bl (relB k j)) (by
      have : (List.any [j] fun j => relB k j) = relB k j := by simp
      rw [this]; exact .bl _)
    exact this
/-- isinstance(e, ValueError) -/
theorem x_isE0 {ks js : List Nat} {p px pos : Pos} {e : Expr} {d : M Val} (O : XO X C lv cls) (T : XTab X.K X.mg ks js) (n1 : NmOk "isinstance") (n2 : NmOk "ValueError") (hm : X.mg "isinstance" = none) (hm2 : X.mg "ValueError" = none) (h : DE X C e d) (g1 : Gl X "isinstance") (g2 : Gl X "ValueError")
    (he : starEach [e, .Name "ValueError" px] X.env = (false, eval e X.env) :: starEach [.Name "ValueError" px] X.env) (hpl : (backTo pos (starEach [.Name "ValueError" px] X.env)).any (·.1) = false) : DE X C (.Call (.Name "isinstance" p) [e, .Name "ValueError" px] [] pos) (dOp1 (f_isE ks [0]) d) := by
  refine .of (PE.imp (pe_callB call_isX g1 hm (by decide +kernel) (pa_cons h.pe (pa_cons (pe_bltn g2 hm2 (by decide +kernel : bootBuiltins "ValueError" = some (.type "ValueError")) (v := .ty "ValueError") rfl n2.n n2.d) pa_nil rfl) he) n1.n n1.d he hpl) fun σ H Q ⟨B, H0, ρ, hB, W, q⟩ => ?_) fun _ => rfl
  refine tD_run hB W q fun H1 H' ρ1 x v W1 S1 r1 q => ?_
  cases e2 : look ρ1 x with
  | none => rw [e2] at q; exact q.elim
  | some a =>
    rw [e2] at q
    obtain ⟨res, e3, q3⟩ := optOk_some q
    obtain ⟨k, rfl, hk, rfl⟩ := f_isE_some e3
    obtain ⟨E1, e4, _, _, E2, e5⟩ := T.one hk
    obtain ⟨b, rfl, hb⟩ := look_exn W1 r1 e2
    rw [O.hK, e4] at hb
    exact ⟨b, E1, .ty "ValueError", .type "ValueError", _, rfl, hb, E2, fun u r => r, e5, res_ok W1 q3 (.bl true) (.bl true)⟩
end
/-- a tuple of own classes -/
def clsVs (K : PySem.W.Frag) (js : List Nat) : List Value := js.map (excV K)
theorem kitAny_all {K : PySem.W.Frag} {mg : Str → Option Value} {ks js : List Nat} {k : Nat} (T : XTab K mg ks js) (hk : k ∈ ks) : ∀ {is : List Nat}, (∀ i ∈ is, i ∈ js) → PySem.W.kitAny K (excV K k) (clsVs K is) = some (is.any fun j => relB k j)
  | [], _ => rfl
  | i :: is, h => by
    have h1 := ((T.row hk).2.2 i (h i (List.mem_cons_self ..))).1
    have h2 := kitAny_all T hk fun j hj => h j (List.mem_cons_of_mem i hj)
    show PySem.W.kitAny K (excV K k) (excV K i :: clsVs K is) = _
    unfold PySem.W.kitAny
    rw [h1, h2, List.any_cons]
    cases relB k i <;> rfl
section
variable {X : Cx} {C : Ctx} {lv : Nat} {cls : Nat → Value}
/-- the names of own classes as a list of expressions -/
inductive Nms (X : Cx) (js : List Nat) : List Expr → List Nat → Prop
  | nil : Nms X js [] []
  | cons {x : Str} {px : Pos} {j : Nat} {es : List Expr} {is : List Nat} : j ∈ js → EXN.getD j "" = x → NmOk x → Gl X x → starEach (.Name x px :: es) X.env = (false, eval (.Name x px) X.env) :: starEach es X.env → Nms X js es is → Nms X js (.Name x px :: es) (j :: is)
theorem Nms.pa {ks js : List Nat} {es : List Expr} {is : List Nat} (T : XTab X.K X.mg ks js) (h : Nms X js es is) : ∃ vs : List V, PA X es (fun σ H Q => Q vs H) ∧ Paired ClsV vs (clsVs X.K is) ∧ (∀ i ∈ is, i ∈ js) := by
  induction h with
  | nil => exact ⟨[], PA.imp pa_nil fun σ H Q q => q, .nil, fun i hi => nomatch hi⟩
  | @cons x px j es is h1 h2 h3 h4 h5 h6 ih =>
    obtain ⟨vs, p1, p2, p3⟩ := ih
    obtain ⟨D, e1, m1⟩ := T.ref h1
    rw [h2] at m1
    refine ⟨.ref D :: vs, PA.imp (pa_cons (pe_glob h4 m1 (v := .ref D) rfl h3.d) p1 h5) fun σ H Q q => q, ?_, fun i hi => ?_⟩
    · show Paired ClsV _ (excV X.K j :: clsVs X.K is)
      rw [e1]
      exact .cons (.own D) p2
    · rcases List.mem_cons.mp hi with rfl | hi
      · exact h1
      · exact p3 i hi
/-- isinstance(e, (X, Y, ..)) -/
theorem x_isEs {ks js is : List Nat} {u : Nat} {es : List Expr} {p pt pos : Pos} {e : Expr} {d : M Val} (O : XO X C lv cls) (T : XTab X.K X.mg ks js) (N : Nms X js es is) (n1 : NmOk "isinstance") (hm : X.mg "isinstance" = none) (h : DE X C e d) (g1 : Gl X "isinstance") (hl : is.length ≤ 1000)
    (he : starEach [e, .Tuple es u pt] X.env = (false, eval e X.env) :: starEach [.Tuple es u pt] X.env) (hpl : (backTo pos (starEach [.Tuple es u pt] X.env)).any (·.1) = false) : DE X C (.Call (.Name "isinstance" p) [e, .Tuple es u pt] [] pos) (dOp1 (f_isE ks is) d) := by
  obtain ⟨vs, p1, p2, p3⟩ := N.pa T
  have hlen : vs.length = is.length := by rw [p2.length]; exact List.length_map ..
  refine .of (PE.imp (pe_callB call_isXT g1 hm (by decide +kernel) (pa_cons h.pe (pa_cons (pe_tup p1) pa_nil rfl) he) n1.n n1.d he hpl) fun σ H Q ⟨B, H0, ρ, hB, W, q⟩ => ?_) fun _ => rfl
  refine tD_run hB W q fun H1 H' ρ1 x v W1 S1 r1 q => ?_
  cases e2 : look ρ1 x with
  | none => rw [e2] at q; exact q.elim
  | some a =>
    rw [e2] at q
    obtain ⟨res, e3, q3⟩ := optOk_some q
    obtain ⟨k, rfl, hk, rfl⟩ := f_isE_some e3
    obtain ⟨E1, e4, _, _, E2, _⟩ := T.one hk
    obtain ⟨b, rfl, hb⟩ := look_exn W1 r1 e2
    rw [O.hK, e4] at hb
    have ka := kitAny_all T hk p3
    rw [e4] at ka
    refine ⟨Nat.le_trans (by omega) (show 1000 ≤ sizeLine by rw [sizeLine_eq]; omega), fun tp hp => ⟨b, E1, tp, vs, _, _, rfl, ?_, E2, upd_same, p2, ka, ?_⟩⟩
    · rw [upd_ne (ne_of_none hb hp)]; exact hb
    · have W2 := W1.lay (o := .tup vs) hp
      exact q3 _ _ W2 (same_upd (W1.s0.free hp)) _ (.bl _)
end
section
variable {X : Cx} {C : Ctx} {lv : Nat} {cls : Nat → Value}
theorem x_raise {ks js : List Nat} {x m : Str} {u c : Nat} {p p2 pos pos' : Pos} (O : XO X C lv cls) (T : XTab X.K X.mg ks js) (hcls : cls = excV X.K) (hk : c ∈ ks) (hx : EXN.getD c "" = x) (nm : NmOk x) (hg : Gl X x) : DS X C (.Raise (some (.Call (.Name x p) [.Constant (.str m) u p2] [] pos)) none pos') (sRaise c) := by
  obtain ⟨D, e1, m1, E, _⟩ := T.one hk
  rw [hx] at m1
  exact ds_raise O nm hg m1 E (by rw [hcls]; exact e1)
def hdO (ks : List Nat) (j : Nat) (k : Nat) : Option Bool := if ks.contains k = true then some (relB k j) else none
theorem x_try {ks js : List Nat} {jc : Nat} {x n m : Str} {i j : Nat} {body : List Stmt} {np mp np2 ap pos pos' : Pos} {db : SD} (O : XO X C lv cls) (T : XTab X.K X.mg ks js) (hcls : cls = excV X.K) (hs : X.stack = X.env :: X.outer) (hf : X.env.frame = some X.env.locals) (hex : X.ex = []) (hjc : jc ∈ js) (hx : EXN.getD jc "" = x) (hg : Gl X x) (nx : NmOk x)
    (hj : X.N[j]? = some n) (hi : X.N[i]? = some m) (hij : i ≠ j) (hln : X.env.kindOf n = some .local) (hlm : X.env.kindOf m = some .local)
    (nn : NmOk n) (hsw : swapsWithSole [.Name m mp] (.Name n np2) ap.line X.env = pure false) (hsp : swappedStores [.Name m mp] (.Name n np2) X.env = pure none)
    (hb : ∀ pn xe C', XO (X.tr pn xe) C' lv cls → DSs (X.tr pn xe) C' body db) :
    DS X C (.Try body [.ExceptHandler (some (.Name x np)) (some n) [.Assign [.Name m mp] (.Name n np2) ap] pos'] [] [] pos) (sTry i j (hdO ks jc) db) := by
  obtain ⟨D, e1, m1⟩ := T.ref hjc
  rw [hx] at m1
  refine ds_try (c := .ref D) O hs hf hex hj hi hij hln hlm nn hsw hsp ⟨hg, nx.d, .inl m1⟩ (fun k => by rw [hcls]) (fun k b h => ?_) hb
  unfold hdO at h
  split at h
  · rename_i hk
    cases h
    have := ((T.row (by simpa using hk)).2.2 jc hjc).2
    rw [hcls, ← e1]
    exact this
  · cases h
end
end DL
end

section
set_option Elab.async false
set_option linter.all false
set_option maxRecDepth 100000
set_option maxHeartbeats 2000000
namespace DL
open PySem PySem.Spec PyProof.Rows L2
/-! ### {} -/
def dDct0 : M Val := mpure (.sh (.dict []))
section
variable {X : Cx} {C : Ctx} {lv : Nat} {cls : Nat → Value}
theorem de_dct0 {pos : Pos} : DE X C (.Dict [] [] pos) dDct0 :=
  .of (PE.imp pe_dnewK fun σ H Q ⟨B, H0, ρ, hB, W, q⟩ p hp => q _ _ (W.lay hp) (same_upd (W.s0.free hp)) _ (.dct (kvs := []) (ds := []) (.inl upd_same) .nil)) fun _ => rfl
/-! ### xs.extend(a new list) -/
def dExt (i : Nat) (d : M Val) : M Val := fun ρ => match lsOf ρ[i]? with
  | some _ => mbind d (fun y ρ2 => match y, lsOf ρ2[i]? with
    | .fr ys, some (k, xs) => if xs.length + ys.length < 100000 then .ok (.sh .none) (ρ2.set i (setSl k (xs ++ ys))) else .stuck
    | _, _ => .stuck) ρ
  | none => .stuck
theorem de_ext {o e : Expr} {i : Nat} {d : M Val} {apos cpos : Pos} (hK : C.K = X.K) (ho : PE X o (tVar i)) (ha : DE X C e d) (hbase : attributeBase o "extend" X.env (eval o X.env) = eval o X.env)
    (hfew : ((backTo cpos (starEach [e] X.env)).all (fun x => !x.1) && (backToKw cpos (keywordEach [] X.env)).all (fun x => x.1.isSome)
      && decide ([e].length + ([] : List Keyword).length + (if ([] : List Keyword).isEmpty then 0 else 1) < 30)) = true)
    (hline : (apos.endLine == cpos.line) = true) (hs : starEach [e] X.env = (false, eval e X.env) :: starEach [] X.env) (hplain : (backTo cpos (starEach [] X.env)).any (·.1) = false) : DE X C (.Call (.Attribute o "extend" apos) [e] [] cpos) (dExt i d) :=
  .of (PE.imp (pe_bm PySem.F.plainAttrs_list PySem.F.slot_list_extend rfl mt_extend ho (pa_cons ha.pe pa_nil hs) hbase hfew hline hs hplain) fun σ H Q ⟨B, H0, ρ, hB, W, q⟩ => by
    unfold dExt at q
    cases e1 : lsOf ρ[i]? with
    | none => rw [e1] at q; exact q.elim
    | some p =>
      rw [e1] at q
      simp only at q
      obtain ⟨k, xs⟩ := p
      obtain ⟨b, ws, h1, h2, _⟩ := ls_slot W (lsOf_some e1)
      refine ⟨_, h1, hK ▸ tyV_slot W h1 ⟨_, e1⟩, tD_run hB W q fun H1 H' ρ1 y u W1 S1 r1 q1 => ?_⟩
      cases y with
      | sh d => exact q1.elim
      | sl j => exact q1.elim
      | fo c ys => exact q1.elim
      | gone => exact q1.elim
      | fr ys =>
        cases e2 : lsOf ρ1[i]? with
        | none => rw [e2] at q1; exact q1.elim
        | some p =>
          rw [e2] at q1
          obtain ⟨k2, xs2⟩ := p
          simp only at q1
          split at q1
          · rename_i hl
            have e2' := lsOf_some e2
            obtain ⟨b2, us, g1, g2, g3, g4, g5⟩ := ls_slot W1 e2'
            rw [h1] at g1
            cases g1
            obtain ⟨c, vs, rfl, c1, c2, c3, c4, c5⟩ := r1
            exact ⟨b, c, us, vs, rfl, rfl, g2, c1, by rw [g5.length, c5.length]; exact Nat.le_trans (Nat.le_of_lt hl) (by decide), q1 H1 _ (W1.mutate e2' h1 g2 (g5.append c5)) (Same.refl _) _ .non⟩
          · exact q1.elim) fun _ => rfl
theorem x_ext {e : Expr} {x : Str} {i : Nat} {d : M Val} {apos cpos px : Pos} (O : XO X C lv cls) (n : NmOk x) (hN : X.N[i]? = some x) (hv : Vis X.env.scope x) (he : DE X C e d) (hbase : attributeBase (.Name x px) "extend" X.env (eval (.Name x px) X.env) = eval (.Name x px) X.env)
    (hfew : ((backTo cpos (starEach [e] X.env)).all (fun x => !x.1) && (backToKw cpos (keywordEach [] X.env)).all (fun x => x.1.isSome) && decide ([e].length + ([] : List Keyword).length + (if ([] : List Keyword).isEmpty then 0 else 1) < 30)) = true)
    (hline : (apos.endLine == cpos.line) = true) (hs : starEach [e] X.env = (false, eval e X.env) :: starEach [] X.env) : DE X C (.Call (.Attribute (.Name x px) "extend" apos) [e] [] cpos) (dExt i d) :=
  de_ext O.hK (pe_var hN hv n.d n.c) he hbase hfew hline hs rfl
/-! ### methods of texts -/
def f_strip : PyData → PyData → Option Res
  | .str a, .str b => grd (decide (a.length ≤ sizeLine)) (.val (.str (Txt.stripChars a b)))
  | _, _ => none
theorem ok_strip {K : PySem.W.Frag} : OkSm K (fun x xs H Q => ∃ a b, x = .str a ∧ xs = [.str b] ∧ a.length ≤ sizeLine ∧ Q (.str (Txt.stripChars a b)) H) f_strip := by
  intro H0 H a y dy res Q s rx e q
  unfold f_strip at e
  split at e
  · rename_i h1; cases h1
    obtain ⟨c, rfl⟩ := grd_some e
    exact ⟨_, _, rfl, by rw [rx.str], of_decide_eq_true c, q _ (.str _)⟩
  · cases e
theorem x_strip {o e : Expr} {d de : M Val} {apos cpos : Pos} (O : XO X C lv cls) (ho : DE X C o d) (ha : DE X C e de) (hbase : attributeBase o "strip" X.env (eval o X.env) = eval o X.env) (hline : (apos.endLine == cpos.line) = true) (hs : starEach [e] X.env = [(false, eval e X.env)]) : DE X C (.Call (.Attribute o "strip" apos) [e] [] cpos) (dSm f_strip d de) :=
  de_sm PySem.F.slot_str_strip PySem.F.type_str_strip (mt_stripChars (X := X)) ok_strip ho ha hbase hline hs
end
end DL
end

section
set_option Elab.async false
set_option linter.all false
set_option maxRecDepth 100000
set_option maxHeartbeats 2000000
namespace DL
open PySem PySem.Spec PyProof.Rows L2
/-! ### [e for g in m for g1 in m1] -/
def lcL2 (g : Tg) (m1 : M (List PyData)) (g1 : Tg) (e : M Val) (vs vs1 : List Nat) : List PyData → List PyData → Rho → Out (List PyData)
  | [], acc, ρ => .ok acc ρ
  | d :: r, acc, ρ => match g (.sh d) ρ with
    | none => .stuck
    | some ρ1 => match m1 ρ1 with
      | .ok items1 ρ2 => (match lcL g1 dYes e vs1 items1 acc (wipeR ρ2 vs1) with
        | .ok acc' ρ3 => lcL2 g m1 g1 e vs vs1 r acc' (wipeR ρ3 vs)
        | _ => .stuck)
      | _ => .stuck
def dLC2 (m : M (List PyData)) (g : Tg) (m1 : M (List PyData)) (g1 : Tg) (e : M Val) (vs vs1 : List Nat) : M Val := mbind m fun items ρ1 =>
  if vs.all (fun i => isPlain ρ1[i]?) = true then lcO ρ1 vs (lcL2 g m1 g1 e vs vs1 items [] (wipeR ρ1 vs)) else .stuck
section
variable {C : Ctx} {B H0 H H0' H' : Hp} {σ : L2.St} {ρ ρ' : Rho}
theorem wipe_sub {vs vs1 : List Nat} {σ : L2.St} (h : ∀ i ∈ vs1, i ∈ vs) : L2.wipe (L2.wipe σ vs1) vs = L2.wipe σ vs :=
  wipe_agr ⟨wipe_length _ _, fun j hj => wipe_get fun z => hj (h j z)⟩
theorem Wd.unwish (W : Wd C.nox B H0 H σ ρ) : Wd C B H0 H σ ρ := ⟨W.s0, W.sb, W.s00, W.nf, W.slot, W.inj, W.len, W.bo⟩
theorem Wd.nox (W : Wd C B H0 H σ ρ) : Wd C.nox B H0 H σ ρ := ⟨W.s0, W.sb, W.s00, W.nf, W.slot, W.inj, W.len, W.bo⟩
theorem notOwn_wipe {D : Addr} {vs : List Nat} (h : ¬ OwnAt ρ σ D) : ¬ OwnAt (wipeR ρ vs) (L2.wipe σ vs) D := fun z => by
  obtain ⟨i', ho, e'⟩ := z
  obtain ⟨hm, ho⟩ := wipeR_own ho
  rw [wipe_get hm] at e'
  exact h ⟨i', ho, e'⟩
theorem upd_self {D : Addr} {o : HO} (h : H D = some o) : upd H D o = H := by
  funext b
  by_cases hb : b = D
  · subst hb; rw [upd_same, h]
  · rw [upd_ne hb]
/-- the new list is let go, changed, the block's names forgotten -/
theorem Wd.free' {D : Addr} {us us' : List V} {vs : List Nat} (hBD : B D = none) (hC0 : C.Hb0 D = none) (hbos : ∀ p ∈ C.bos, p.1 ∉ vs) (W : Wd C.nox (upd B D (.lst us)) H0 H σ ρ) :
    Wd C B H0 (upd H D (.lst us')) (L2.wipe σ vs) (wipeR ρ vs) ∧ H D = some (.lst us) ∧ H0 D = none ∧ ¬ OwnAt (wipeR ρ vs) (L2.wipe σ vs) D := by
  obtain ⟨W7, u1, u2, u3⟩ := W.unwish.unhold hBD hC0
  exact ⟨(W7.change (o := .lst us') u2 hBD u3).wipe hbos, u1, u2, notOwn_wipe u3⟩
end
theorem dLC2_ok {C : Ctx} {m m1 : M (List PyData)} {g g1 : Tg} {e : M Val} {vs vs1 : List Nat} (hsub : ∀ i ∈ vs1, i ∈ vs) (σ : L2.St) (H : Hp) (Q : VK) (h : tD C (dLC2 m g m1 g1 e vs vs1) σ H Q) :
    tLc2 (tDI C m) (tG C.nox vs g) (tDT C.nox dYes) (tDI C.nox m1) (tG C.nox vs1 g1) (tDT C.nox dYes) (tD C.nox e) vs vs1 σ H Q := by
  obtain ⟨B, H0, ρ, hB, W, q⟩ := h
  refine ⟨B, H0, ρ, hB, W, stG_mono (stG_bind q) fun H1 H' ρ1 items W1 S1 q1 J hj D hD => ?_⟩
  split at q1
  · rename_i hp
    have hp' : ∀ i ∈ vs, isPlain ρ1[i]? = true := fun i hi => List.all_eq_true.mp hp i hi
    have hbos : ∀ p ∈ C.bos, p.1 ∉ vs := fun p hp2 z => by
      obtain ⟨_, h2⟩ := W1.bo p hp2
      rw [plain_bo (hp' _ z)] at h2
      cases h2
    have hbos1 : ∀ p ∈ C.bos, p.1 ∉ vs1 := fun p hp2 z => hbos p hp2 (hsub _ z)
    have hC0 : C.Hb0 D = none := Same.free W1.s00 (W1.s0.free hD)
    have hBD : B D = none := W1.sb.free hD
    refine ⟨fun i mm H => mm = items.length - i ∧ i ≤ items.length ∧ ∃ H0 ρ us acc, Wd C B H0 H (wipe σ vs) ρ ∧ H D = some (.lst us) ∧ H0 D = none ∧ ¬ OwnAt ρ (wipe σ vs) D ∧ RpA C.K H0 us acc ∧ Same H1 H0 ∧
      stG C B H1 σ (PV C B σ Q) (lcO ρ1 vs (lcL2 g m1 g1 e vs vs1 (items.drop i) acc ρ)), ⟨items.length, by simp, Nat.zero_le _, H1, wipeR ρ1 vs, [], [], (W1.layF hD).wipe hbos, upd_same, W1.s0.free hD, ((W1.wipe hbos).notOwn hD), .nil, Same.refl _, q1⟩, fun i mm H hW => ?_⟩
    obtain ⟨rfl, hi, H0, ρ, us, acc, W2, e1, e2, e3, r2, S2, q2⟩ := hW
    by_cases hlt : i < items.length
    · rw [drop_cons hlt] at q2
      refine .inr ⟨hj.go i H0 H S2 W2.s0 hlt, fun H => ∃ H0 ρ us acc, Wd C B H0 H (wipe σ vs) ρ ∧ H D = some (.lst us) ∧ H0 D = none ∧ ¬ OwnAt ρ (wipe σ vs) D ∧ RpA C.K H0 us acc ∧ Same H1 H0 ∧
        stG C B H1 σ (PV C B σ Q) (lcO ρ1 vs (lcL2 g m1 g1 e vs vs1 (items.drop (i + 1)) acc ρ)), fun H' hN => ⟨items.length - (i + 1), by omega, rfl, hlt, hN⟩, fun x H'' y => ?_⟩
      have W3 := W2.hold e1 e2 e3
      obtain ⟨H3, S3, W4, r4⟩ := yld_world W3 hj S2 (List.getElem?_eq_getElem hlt) y
      unfold lcL2 at q2
      cases eg : g (.sh items[i]) ρ with
      | none => rw [eg] at q2; exact q2.elim
      | some ρ4 =>
        rw [eg] at q2
        simp only at q2
        have hB' : Same C.nox.Hb (upd B D (.lst us)) := fun b u z => by
          rw [upd_ne (ne_of_none (hB b u z) hBD)]
          exact hB b u z
        refine ⟨_, H3, ρ, .sh items[i], hB', W4.nox, r4, ρ4, eg, fun H5 H5' σ5 W5 S5 A5 => ?_⟩
        have ew : wipe σ5 vs = wipe σ vs := (wipe_agr A5).trans wipe_wipe
        refine ⟨ew, ?_⟩
        refine ⟨_, H5, ρ4, hB', W5, ?_⟩
        intro H6 H6' W6 S6
        refine iteT ?_
        refine ⟨_, H6, ρ4, hB', W6, ?_⟩
        cases em : m1 ρ4 with
        | stuck => rw [em] at q2; exact q2.elim
        | exc c ρ5 => rw [em] at q2; exact q2.elim
        | ok items1 ρ5 =>
          rw [em] at q2
          simp only at q2
          intro H7 H7' W7 S7 J1 hj1
          have S17 : Same H1 H7 := (((S2.trans S3).trans S5).trans S6).trans S7
          have r7 : RpA C.K H7 us acc := r2.mono (((S3.trans S5).trans S6).trans S7)
          obtain ⟨W8, v1, v2, v3⟩ := Wd.free' (us' := us) hBD hC0 hbos1 W7
          rw [upd_self v1] at W8
          refine ⟨fun j mm H => mm = items1.length - j ∧ j ≤ items1.length ∧ ∃ H0 ρ us acc, Wd C B H0 H (wipe σ5 vs1) ρ ∧ H D = some (.lst us) ∧ H0 D = none ∧ ¬ OwnAt ρ (wipe σ5 vs1) D ∧ RpA C.K H0 us acc ∧ Same H7 H0 ∧
            stG C B H1 σ (PV C B σ Q) (lcO ρ1 vs (match lcL g1 dYes e vs1 (items1.drop j) acc ρ with
              | .ok acc' ρ3 => lcL2 g m1 g1 e vs vs1 (items.drop (i + 1)) acc' (wipeR ρ3 vs)
              | _ => .stuck)), ⟨items1.length, by simp, Nat.zero_le _, H7, wipeR ρ5 vs1, us, acc, W8, v1, v2, v3, r7, Same.refl _, q2⟩, fun j mm H hW => ?_⟩
          obtain ⟨rfl, hjl, Ha, ρa, usa, acca, Wa, a1, a2, a3, ra, Sa, qa⟩ := hW
          by_cases hlt1 : j < items1.length
          · rw [drop_cons hlt1] at qa
            refine .inr ⟨hj1.go j Ha H Sa Wa.s0 hlt1, fun H => ∃ H0 ρ us acc, Wd C B H0 H (wipe σ5 vs1) ρ ∧ H D = some (.lst us) ∧ H0 D = none ∧ ¬ OwnAt ρ (wipe σ5 vs1) D ∧ RpA C.K H0 us acc ∧ Same H7 H0 ∧
              stG C B H1 σ (PV C B σ Q) (lcO ρ1 vs (match lcL g1 dYes e vs1 (items1.drop (j + 1)) acc ρ with
                | .ok acc' ρ3 => lcL2 g m1 g1 e vs vs1 (items.drop (i + 1)) acc' (wipeR ρ3 vs)
                | _ => .stuck)), fun H' hN => ⟨items1.length - (j + 1), by omega, rfl, hlt1, hN⟩, fun x H'' y => ?_⟩
            have Wb := Wa.hold a1 a2 a3
            obtain ⟨H3b, S3b, W4b, r4b⟩ := yld_world Wb hj1 Sa (List.getElem?_eq_getElem hlt1) y
            unfold lcL at qa
            cases eg1 : g1 (.sh items1[j]) ρa with
            | none => rw [eg1] at qa; exact qa.elim
            | some ρb =>
              rw [eg1] at qa
              simp only at qa
              have hBb : Same C.nox.Hb (upd B D (.lst usa)) := fun b u z => by
                rw [upd_ne (ne_of_none (hB b u z) hBD)]
                exact hB b u z
              refine ⟨_, H3b, ρa, .sh items1[j], hBb, W4b.nox, r4b, ρb, eg1, fun H5b H5b' σ6 W5b S5b A5b => ?_⟩
              have ew1 : wipe σ6 vs1 = wipe σ5 vs1 := (wipe_agr A5b).trans wipe_wipe
              refine ⟨ew1, ?_⟩
              refine ⟨_, H5b, ρb, hBb, W5b, ?_⟩
              intro H6b H6b' W6b S6b
              refine iteT ?_
              refine ⟨_, H6b, ρb, hBb, W6b, ?_⟩
              have q3 : stG C B H1 σ (PV C B σ Q) (lcO ρ1 vs (match (match mbind e shr ρb with
                | .ok y ρ3 => if acca.length < 100000 then lcL g1 dYes e vs1 (items1.drop (j + 1)) (acca ++ [y]) (wipeR ρ3 vs1) else .stuck
                | _ => .stuck) with
                | .ok acc' ρ3 => lcL2 g m1 g1 e vs vs1 (items.drop (i + 1)) acc' (wipeR ρ3 vs)
                | _ => .stuck)) := qa
              unfold mbind at q3
              cases ee : e ρb with
              | stuck => rw [ee] at q3; exact q3.elim
              | exc c ρ6 => rw [ee] at q3; exact q3.elim
              | ok z ρ6 =>
                rw [ee] at q3
                simp only at q3
                intro H8 H8' W8b S8 yv ry
                cases es : shr z ρ6 with
                | stuck => rw [es] at q3; exact q3.elim
                | exc c ρ7 => exact (shr_exc es).elim
                | ok yd ρ7 =>
                  rw [es] at q3
                  simp only at q3
                  obtain ⟨H9, S9, W9, r9⟩ := shr_ok W8b ry es
                  by_cases hlen : acca.length < 100000
                  · rw [if_pos hlen] at q3
                    have Sb : Same Ha H9 := ((((S3b.trans S5b).trans S6b).trans S8).trans S9)
                    obtain ⟨W10, w1, w2, w3⟩ := Wd.free' (us' := usa ++ [yv]) hBD hC0 hbos1 W9
                    rw [ew1] at W10 w3
                    refine ⟨usa, w1, ?_, H9, wipeR ρ7 vs1, usa ++ [yv], acca ++ [yd], W10, upd_same, w2, w3, (ra.mono Sb).append (.cons r9 .nil), Sa.trans Sb, q3⟩
                    rw [ra.length]
                    exact Nat.lt_of_lt_of_le hlen (by decide)
                  · rw [if_neg hlen] at q3
                    exact q3.elim
          · have e0 : j = items1.length := by omega
            subst e0
            rw [List.drop_length] at qa
            have Wz := Wa.wipe hbos
            have n3 := notOwn_wipe (vs := vs) a3
            rw [wipe_sub hsub, ew] at Wz n3
            exact .inl ⟨hj1.stop Ha H Sa Wa.s0, Ha, wipeR ρa vs, usa, acca, Wz, a1, a2, n3, ra, S17.trans Sa, qa⟩
    · have e : i = items.length := by omega
      subst e
      rw [List.drop_length] at q2
      have W3 := Wd.restore (vs := vs) W1 W2 S2 hp'
      have n3 : ¬ OwnAt (restR ρ1 ρ vs) σ D := fun z => by
        obtain ⟨i', ho, e'⟩ := z
        obtain ⟨hm, ho⟩ := restR_own (by rw [← W1.len, ← W2.len, wipe_length]) hp' ho
        exact e3 ⟨i', ho, by rw [wipe_get hm]; exact e'⟩
      exact .inl ⟨hj.stop H0 H S2 W2.s0, q2 H0 H W3 S2 (.ref D) ⟨D, us, rfl, e1, e2, hBD, n3, r2⟩⟩
  · exact q1.elim
section
variable {X : Cx} {C : Ctx}
theorem de_lc2 {elt tg iter tg1 iter1 : Expr} {scope : Scope} {own : List (Str × Nat)} {vs1 : List Nat} {pos : Pos} {m m1 : M (List PyData)} {g g1 : Tg} {e : M Val} (hc : X.calm = true) (hN : X.N.Nodup) (hi : DI X C tg iter m) (ok : BlkOk X.N X.env.scope scope own) (hv : ∀ i ∈ vs1, i ∈ own.map (·.2))
    (hg : ∀ (s : Shared) (H : Hp) (Cc : Addr) (cl : List (Str × Addr)) (fp : List Addr), DG (X.blk s H scope (compEnvC scope cl Cc X.env) fp) C.nox tg (own.map (·.2)) g)
    (hi1 : ∀ (s : Shared) (H : Hp) (Cc : Addr) (cl : List (Str × Addr)) (fp : List Addr), DI (X.blk s H scope (compEnvC scope cl Cc X.env) fp) C.nox tg1 iter1 m1)
    (hg1 : ∀ (s : Shared) (H : Hp) (Cc : Addr) (cl : List (Str × Addr)) (fp : List Addr), DG (X.blk s H scope (compEnvC scope cl Cc X.env) fp) C.nox tg1 vs1 g1)
    (he : ∀ (s : Shared) (H : Hp) (Cc : Addr) (cl : List (Str × Addr)) (fp : List Addr), DE (X.blk s H scope (compEnvC scope cl Cc X.env) fp) C.nox elt e) (hs : ∀ x, foldedSetIterable iter X.env x = pure x) (hs1 : ∀ env x, foldedSetIterable iter1 env x = pure x) :
    DE X C (.ListComp elt [⟨tg, iter, [], 0⟩, ⟨tg1, iter1, [], 0⟩] scope pos) (dLC2 m g m1 g1 e (own.map (·.2)) vs1) :=
  .of (PE.imp (pe_lc2 hc hN hi.pi ok hv (fun s H Cc cl fp => (hg s H Cc cl fp).pg) (fun s H Cc cl fp => dt_nil.pts) (fun s H Cc cl fp => (hi1 s H Cc cl fp).pi) (fun s H Cc cl fp => (hg1 s H Cc cl fp).pg) (fun s H Cc cl fp => dt_nil.pts) (fun s H Cc cl fp => (he s H Cc cl fp).pe) hs hs1) fun σ H Q q => dLC2_ok hv σ H Q q) fun _ => rfl
end
end DL
end

section
set_option Elab.async false
set_option linter.all false
set_option maxRecDepth 100000
set_option maxHeartbeats 2000000
namespace DL
open PySem PySem.Spec PyProof.Rows L2
/-! ### sorted(list of pairs of ints) -/
abbrev II := Int × Int
def pII (p : II) : PyData := .tuple [.int p.1, .int p.2]
def prsOf : List PyData → Option (List II)
  | [] => some []
  | .tuple [.int i, .int j] :: r => (prsOf r).map ((i, j) :: ·)
  | _ => none
theorem prsOf_eq : ∀ {ds : List PyData} {ps : List II}, prsOf ds = some ps → ds = ps.map pII
  | [], ps, h => by cases h; rfl
  | d :: r, ps, h => by
    unfold prsOf at h
    split at h
    · rename_i e; cases e
    · rename_i i j r' e
      cases e
      obtain ⟨qs, h1, rfl⟩ := Option.map_eq_some_iff.mp h
      rw [prsOf_eq h1]; rfl
    · cases h
theorem prsOf_map : ∀ ps : List II, prsOf (ps.map pII) = some ps
  | [] => rfl
  | p :: r => by
    show (prsOf (r.map pII)).map _ = _
    rw [prsOf_map r]; rfl
def leP (p q : II) : Prop := SrtO.lexB q p = false
theorem leP_iff {p q : II} : leP p q ↔ p.1 < q.1 ∨ (p.1 = q.1 ∧ p.2 ≤ q.2) := by
  unfold leP
  rw [SrtO.lexB_no]
  omega
instance (p q : II) : Decidable (leP p q) := inferInstanceAs (Decidable (_ = _))
def insP (x : II) : List II → List II
  | [] => [x]
  | y :: r => if leP x y then x :: y :: r else y :: insP x r
def srtP : List II → List II
  | [] => []
  | x :: r => insP x (srtP r)
theorem insP_perm (x : II) : ∀ l : List II, (insP x l).Perm (x :: l)
  | [] => .refl _
  | y :: r => by
    unfold insP
    split
    · exact .refl _
    · exact .trans (.cons y (insP_perm x r)) (.swap x y r)
theorem srtP_perm : ∀ l : List II, (srtP l).Perm l
  | [] => .refl _
  | x :: r => .trans (insP_perm x _) (.cons x (srtP_perm r))
theorem leP_tr {a b c : II} (h1 : leP a b) (h2 : leP b c) : leP a c := by rw [leP_iff] at *; omega
theorem leP_tot {a b : II} (h : ¬ leP a b) : leP b a := by rw [leP_iff] at *; omega
theorem leP_as {a b : II} (h1 : leP a b) (h2 : leP b a) : a = b := by
  rw [leP_iff] at *
  cases a; cases b
  simp only [Prod.mk.injEq] at *
  omega
theorem insP_srt (x : II) : ∀ l : List II, l.Pairwise leP → (insP x l).Pairwise leP
  | [], _ => List.pairwise_singleton ..
  | y :: r, h => by
    unfold insP
    obtain ⟨h1, h2⟩ := List.pairwise_cons.mp h
    split
    · rename_i hx
      exact List.pairwise_cons.mpr ⟨fun z hz => by rcases List.mem_cons.mp hz with rfl | hz; exact hx; exact leP_tr hx (h1 z hz), h⟩
    · rename_i hx
      refine List.pairwise_cons.mpr ⟨fun z hz => ?_, insP_srt x r h2⟩
      rcases List.mem_cons.mp ((insP_perm x r).mem_iff.mp hz) with rfl | hz
      · exact leP_tot hx
      · exact h1 z hz
theorem srtP_srt : ∀ l : List II, (srtP l).Pairwise leP
  | [] => .nil
  | x :: r => insP_srt x _ (srtP_srt r)
theorem srtP_uniq : ∀ {a b : List II}, a.Perm b → a.Pairwise leP → b.Pairwise leP → a = b := fun p h1 h2 => p.eq_of_pairwise (fun a b _ _ h1 h2 => leP_as h1 h2) h1 h2
def rSortedPT (K : PySem.W.Frag) : List V → Hp → VK → Prop := fun vs H Q => ∃ (a : Addr) (xs : List V) (ps : List II) (H0 : Hp), vs = [V.ref a] ∧ Same H0 H ∧ SqL K H a xs ∧ RpA K H0 xs (ps.map pII) ∧
  ∀ ys p, RpA K H0 ys ((srtP ps).map pII) → H p = none → Q (.ref p) (upd H p (.lst ys))
noncomputable def pairIn (h : Heap) (v : Value) : II := open Classical in if e : ∃ p : II, Srt.IsPair h v p.1 p.2 then Classical.choose e else (0, 0)
theorem pairIn_eq {h : Heap} {v : Value} {p : II} (e : Srt.IsPair h v p.1 p.2) : pairIn h v = p := by
  have ex : ∃ p : II, Srt.IsPair h v p.1 p.2 := ⟨p, e⟩
  unfold pairIn
  rw [dif_pos ex]
  obtain ⟨a, o, t, u, n, rfl, ho, _, hd⟩ := Classical.choose_spec ex
  obtain ⟨a', o', t', u', n', e2, ho', _, hd'⟩ := e
  cases e2
  rw [ho] at ho'
  cases ho'
  rw [hd] at hd'
  injection hd' with h1 h2
  have h3 : Value.int (Classical.choose ex).1 t = .int p.1 t' := by
    have := congrArg (fun z : Array Value => z[0]?) h1
    simpa using this
  have h4 : Value.int (Classical.choose ex).2 u = .int p.2 u' := by
    have := congrArg (fun z : Array Value => z[1]?) h1
    simpa using this
  injection h3 with h3 _
  injection h4 with h4 _
  exact Prod.ext h3 h4
section
variable {X : Cx}
theorem pairs_of {pins : List (Addr × Obj)} {σ : L2.St} {H H0 : Hp} {s : Shared} (I : Inv X pins σ H s) (S : Same H0 H) : ∀ {xs : List V} {us : List Value} {ps : List II}, Vals xs us → RpA X.K H0 xs (ps.map pII) →
    (∀ x ∈ xs, ∃ a, x = V.ref a) ∧ us.map (pairIn s.heap) = ps ∧ ∀ u ∈ us, Srt.IsPair s.heap u (pairIn s.heap u).1 (pairIn s.heap u).2 ∧ Rp X.K H0 (backV u) (pII (pairIn s.heap u))
  | [], [], [], .nil, _ => ⟨fun _ h => (by cases h), rfl, fun _ h => (by cases h)⟩
  | x :: xs, u :: us, p :: ps, .cons r t, h => by
    have h : RpA X.K H0 (x :: xs) (pII p :: ps.map pII) := h
    cases h with
    | cons h1 h2 =>
      obtain ⟨k1, k2, k3⟩ := pairs_of I S t h2
      have h0 := h1
      unfold pII at h1
      cases h1 with
      | tup g1 g2 =>
        rename_i a vs
        have gs : SqT X.K H a vs := same_seqT S g1.sqt
        obtain ⟨its, r2, ⟨o, ho, hc, n, hd⟩, _⟩ := I.tuple gs
        cases g2 with
        | cons w1 g2 =>
          cases g2 with
          | cons w2 g2 =>
            cases g2
            cases w1
            cases w2
            obtain ⟨u1, u2, rfl, ri, rj⟩ := vals2 r2
            obtain ⟨t1, rfl⟩ := ri
            obtain ⟨t2, rfl⟩ := rj
            obtain rfl : u = Value.ref a := r
            have ip : Srt.IsPair s.heap (.ref a) p.1 p.2 := ⟨a, o, t1, t2, n, rfl, ho, hc, hd⟩
            have e1 := pairIn_eq ip
            refine ⟨fun y hy => ?_, ?_, fun v hv => ?_⟩
            · rcases List.mem_cons.mp hy with rfl | hy
              · exact ⟨_, rfl⟩
              · exact k1 y hy
            · rw [List.map_cons, e1, k2]
            · rcases List.mem_cons.mp hv with rfl | hv
              · rw [e1]; exact ⟨ip, h0⟩
              · exact k3 v hv
  | [], [], _ :: _, .nil, h => (by cases h)
  | _ :: _, _ :: _, [], .cons _ _, h => (by cases h)
theorem cr_sortedPT : CallR X (.builtin "sorted") (rSortedPT X.K) := by
  intro pins s σ H vs us Q I r h
  obtain ⟨a, xs, ps, H0, rfl, S, hs, hx, q⟩ := h
  obtain ⟨its, rv, hl, hz⟩ := I.list hs
  obtain ⟨u, rfl, ru⟩ := vals1 r
  obtain rfl : u = Value.ref a := ru
  obtain ⟨k1, k2, k3⟩ := pairs_of I S rv hx
  obtain ⟨e1, e2⟩ := refs_back rv k1
  refine SrtO.sorted_pairsO (k := pairIn s.heap) hl.isList (by rw [← rv.length]; exact hz) (fun v hv => (k3 v hv).1) fun h' d out h1 h2 kp hd hn => ?_
  have h3 : ∀ u ∈ out, ∃ a, u = Value.ref a := fun u hu => e2 u (h2.perm.mem_iff.mp hu)
  obtain ⟨n, hn⟩ := hn
  have hsrt : out.map (pairIn s.heap) = srtP ps := by
    refine srtP_uniq ?_ ?_ (srtP_srt ps)
    · have := h2.perm.map (pairIn s.heap)
      rw [k2] at this
      exact this.trans (srtP_perm ps).symm
    · exact List.pairwise_map.mpr h1
  have hrp : RpA X.K H0 (out.map backV) ((srtP ps).map pII) := by
    rw [← hsrt]
    have hall : ∀ u ∈ out, Rp X.K H0 (backV u) (pII (pairIn s.heap u)) := fun u hu => (k3 u (h2.perm.mem_iff.mp hu)).2
    clear hsrt h1 h2 hn h3
    induction out with
    | nil => exact .nil
    | cons u r ih => exact .cons (hall u List.mem_cons_self) (ih fun v hv => hall v (List.mem_cons_of_mem _ hv))
  refine ⟨.ref d, upd H d (.lst (out.map backV)), I.laid (t' := s.toks) kp hd ⟨?_, out, n, vals_back h3, hn⟩, rfl, q _ d hrp (I.hok.fresh hd)⟩
  rw [List.length_map, h2.perm.length_eq, ← rv.length]
  exact hz
end
def f_sorted2 : List PyData → Option Res
  | [.list xs] => match intsOf xs with
    | some ns => some (.nl ((srtI ns).map .int))
    | none => (prsOf xs).map fun ps => .nl ((srtP ps).map pII)
  | _ => none
theorem ok_sorted2 {K : PySem.W.Frag} : OkRN K (fun vs H Q => rSortedI K vs H Q ∨ rSortedPT K vs H Q) f_sorted2 := by
  intro H0 H vs as res Q s r e q
  unfold f_sorted2 at e
  split at e
  · rename_i xs
    split at e
    · rename_i ns hns
      exact .inl (ok_sortedI H0 H vs _ res Q s r (by show (intsOf xs).bind _ = _; rw [hns]; exact e) q)
    · obtain ⟨ps, hps, rfl⟩ := Option.map_eq_some_iff.mp e
      obtain ⟨v, rfl, r1⟩ := pr1 r
      obtain ⟨a, us, rfl, h1, h2⟩ := r1.lst s
      rw [prsOf_eq hps] at h2
      exact .inr ⟨a, us, ps, H0, rfl, s, h1, h2, fun ys p hy hp => q p _ hp hy⟩
  · cases e
section
variable {X : Cx} {C : Ctx} {k : Nat} {cls : Nat → Value}
theorem XO.sorted2 (O : XO X C k cls) : BF X C "sorted" f_sorted2 := ⟨_, "sorted", by decide +kernel, CallR.or cr_sortedI cr_sortedPT, O.hK ▸ ok_sorted2⟩
end
end DL
namespace DL
open PySem PySem.Spec PyProof.Rows L2
theorem dg_mono {X : Cx} {C : Ctx} {tg : Expr} {vs vs' : List Nat} {g : Tg} (h : DG X C tg vs g) (hs : ∀ i ∈ vs, i ∈ vs') : DG X C tg vs' g :=
  ⟨PG.imp h.pg fun v σ H Q ⟨B, H0, ρ, x, hB, W, r, ρ', e, q⟩ => ⟨B, H0, ρ, x, hB, W, r, ρ', e, fun H0' H' σ' W' S A => q H0' H' σ' W' S ⟨A.1, fun j hj => A.2 j fun z => hj (hs j z)⟩⟩⟩
end DL
end

section
set_option Elab.async false
set_option linter.all false
set_option maxRecDepth 100000
set_option maxHeartbeats 2000000
namespace DL
open PySem PySem.Spec PyProof.Rows L2
/-! ### sorted(list of tuples of ints), none empty -/
abbrev Row := List Int
def tII (r : Row) : PyData := .tuple (r.map .int)
def kyI (r : Row) : List (Int ⊕ List Nat) := r.map Sum.inl
theorem kyI_inj : ∀ {p q : Row}, kyI p = kyI q → p = q
  | [], [], _ => rfl
  | [], _ :: _, h => by cases h
  | _ :: _, [], h => by cases h
  | a :: p, b :: q, h => by
    have h : Sum.inl a :: kyI p = Sum.inl b :: kyI q := h
    injection h with h1 h2
    injection h1 with h1
    rw [h1, kyI_inj h2]
abbrev oR : KeyOrd := listOrd itemOrd
def lexI (p q : Row) : Bool := oR.blt (kyI p) (kyI q)
def leR (p q : Row) : Prop := lexI q p = false
instance (p q : Row) : Decidable (leR p q) := inferInstanceAs (Decidable (_ = _))
def insR (x : Row) : List Row → List Row
  | [] => [x]
  | y :: r => if leR x y then x :: y :: r else y :: insR x r
def srtR : List Row → List Row
  | [] => []
  | x :: r => insR x (srtR r)
theorem insR_perm (x : Row) : ∀ l : List Row, (insR x l).Perm (x :: l)
  | [] => .refl _
  | y :: r => by
    unfold insR
    by_cases c : leR x y
    · rw [if_pos c]
    · rw [if_neg c]
      exact .trans (.cons y (insR_perm x r)) (.swap x y r)
theorem srtR_perm : ∀ l : List Row, (srtR l).Perm l
  | [] => .refl _
  | x :: r => .trans (insR_perm x _) (.cons x (srtR_perm r))
theorem leR_tr {a b c : Row} (h1 : leR a b) (h2 : leR b c) : leR a c := by
  cases e : lexI c a with
  | false => exact e
  | true =>
    rcases oR.negTrans (kyI c) (kyI b) (kyI a) e with h | h
    · exact absurd h (by rw [show oR.blt (kyI c) (kyI b) = false from h2]; exact Bool.false_ne_true)
    · exact absurd h (by rw [show oR.blt (kyI b) (kyI a) = false from h1]; exact Bool.false_ne_true)
theorem leR_tot {a b : Row} (h : ¬ leR a b) : leR b a := by
  cases e : lexI a b with
  | false => exact e
  | true =>
    have h2 : lexI b a = true := by
      cases e2 : lexI b a with
      | false => exact absurd e2 h
      | true => rfl
    have := oR.trans _ _ _ e h2
    rw [oR.irrefl] at this
    cases this
theorem leR_as {a b : Row} (h1 : leR a b) (h2 : leR b a) : a = b := kyI_inj (oR.total _ _ h2 h1)
theorem insR_srt (x : Row) : ∀ l : List Row, l.Pairwise leR → (insR x l).Pairwise leR
  | [], _ => List.pairwise_singleton ..
  | y :: r, h => by
    obtain ⟨h1, h2⟩ := List.pairwise_cons.mp h
    unfold insR
    by_cases c : leR x y
    · rw [if_pos c]
      exact List.pairwise_cons.mpr ⟨fun z hz => (List.mem_cons.mp hz).elim (fun e => e ▸ c) fun hz => leR_tr c (h1 z hz), h⟩
    · rw [if_neg c]
      exact List.pairwise_cons.mpr ⟨fun z hz => (List.mem_cons.mp ((insR_perm x r).mem_iff.mp hz)).elim (fun e => e ▸ leR_tot c) (h1 z), insR_srt x r h2⟩
theorem srtR_srt : ∀ l : List Row, (srtR l).Pairwise leR
  | [] => .nil
  | x :: r => insR_srt x _ (srtR_srt r)
theorem srtR_uniq {a b : List Row} (p : a.Perm b) (h1 : a.Pairwise leR) (h2 : b.Pairwise leR) : a = b := p.eq_of_pairwise (fun _ _ _ _ h1 h2 => leR_as h1 h2) h1 h2
def shF : Nat → Bool := fun _ => false
noncomputable def rowIn (h : Heap) (v : Value) : Row := open Classical in if e : ∃ r : Row, G.tupKeyC h shF v = some (kyI r) then Classical.choose e else []
theorem rowIn_eq {h : Heap} {v : Value} {r : Row} (e : G.tupKeyC h shF v = some (kyI r)) : rowIn h v = r := by
  have ex : ∃ r : Row, G.tupKeyC h shF v = some (kyI r) := ⟨r, e⟩
  unfold rowIn
  rw [dif_pos ex]
  have q := Classical.choose_spec ex
  exact (kyI_inj (Option.some.inj (e.symm.trans q))).symm
def rSortedTT (K : PySem.W.Frag) : List V → Hp → VK → Prop := fun vs H Q => ∃ (a : Addr) (xs : List V) (rs : List Row) (H0 : Hp), vs = [V.ref a] ∧ Same H0 H ∧ SqL K H a xs ∧ RpA K H0 xs (rs.map tII) ∧ (∀ r ∈ rs, r ≠ []) ∧
  ∀ ys p, RpA K H0 ys ((srtR rs).map tII) → H p = none → Q (.ref p) (upd H p (.lst ys))
section
variable {X : Cx}
theorem items_ints {K : PySem.W.Frag} {H : Hp} : ∀ {r : Row} {vs : List V} {its : List Value} (i : Nat), RpA K H vs (r.map .int) → Vals vs its → tupItems shF i its = some (kyI r) ∧ (∀ f, its[0]? = some f → ∃ k t, f = .int k t) ∧ its.length = r.length
  | [], [], [], _, .nil, .nil => ⟨rfl, fun f h => (by cases h), rfl⟩
  | a :: r, v :: vs, u :: us, i, h, .cons h1 h2 => by
    have h : RpA K H (v :: vs) (.int a :: r.map .int) := h
    cases h with
    | cons g1 g2 =>
      cases g1
      obtain ⟨t, rfl⟩ := h1
      obtain ⟨q1, _, q3⟩ := items_ints (i + 1) g2 h2
      refine ⟨?_, fun f hf => ?_, by rw [List.length_cons, q3]; rfl⟩
      · show (if shF i = true then none else (tupItems shF (i + 1) us).map (Sum.inl a :: ·)) = _
        rw [if_neg (by simp [shF]), q1]; rfl
      · have hf : some (Value.int a t) = some f := hf
        cases hf
        exact ⟨a, t, rfl⟩
  | [], v :: vs, _, _, h, _ => by
    have h : RpA K H (v :: vs) [] := h
    cases h
  | a :: r, [], _, _, h, _ => by
    have h : RpA K H [] (.int a :: r.map .int) := h
    cases h
theorem rows_of {pins : List (Addr × Obj)} {σ : L2.St} {H H0 : Hp} {s : Shared} (I : Inv X pins σ H s) (S : Same H0 H) : ∀ {xs : List V} {us : List Value} {rs : List Row}, Vals xs us → RpA X.K H0 xs (rs.map tII) → (∀ r ∈ rs, r ≠ []) →
    (∀ x ∈ xs, ∃ a, x = V.ref a) ∧ us.map (rowIn s.heap) = rs ∧ (∀ u ∈ us, G.tupKeyC s.heap shF u = some (kyI (rowIn s.heap u)) ∧ Rp X.K H0 (backV u) (tII (rowIn s.heap u))) ∧ ∃ fs, TupsOf s.heap shF us fs
  | [], [], [], .nil, _, _ => ⟨fun _ h => (by cases h), rfl, fun _ h => (by cases h), [], .nil⟩
  | x :: xs, u :: us, p :: ps, .cons r t, h, hne => by
    have h : RpA X.K H0 (x :: xs) (tII p :: ps.map tII) := h
    cases h with
    | cons h1 h2 =>
      obtain ⟨k1, k2, k3, fs, k4⟩ := rows_of I S t h2 fun r hr => hne r (List.mem_cons_of_mem _ hr)
      have h0 := h1
      unfold tII at h1
      cases h1 with
      | tup g1 g2 =>
        rename_i a vs
        have gs : SqT X.K H a vs := same_seqT S g1.sqt
        obtain ⟨its, r2, ⟨o, ho, hc, n, hd⟩, _⟩ := I.tuple gs
        obtain ⟨j1, j2, j3⟩ := items_ints 0 g2 r2
        obtain rfl : u = Value.ref a := r
        have hb : G.isTupObj s.heap (.ref a) = true := by
          unfold G.isTupObj
          simp [ho, hc]
        have ky : G.tupKeyC s.heap shF (.ref a) = some (kyI p) := by
          unfold G.tupKeyC
          rw [if_pos hb]
          unfold tupKey
          simp only [ho, hd]
          exact j1
        have e1 := rowIn_eq ky
        have hp : p ≠ [] := hne p List.mem_cons_self
        have hl : 0 < its.length := by rw [j3]; exact List.length_pos_iff.mpr hp
        refine ⟨fun y hy => ?_, by rw [List.map_cons, e1, k2], fun v hv => ?_, its[0] :: fs, .cons ⟨a, o, its.toArray, n, rfl, ho, hc, hd, ?_, fun _ => j2 _ (List.getElem?_eq_getElem hl), fun z => absurd z (by simp [shF])⟩ k4⟩
        · rcases List.mem_cons.mp hy with rfl | hy
          · exact ⟨_, rfl⟩
          · exact k1 y hy
        · rcases List.mem_cons.mp hv with rfl | hv
          · rw [e1]; exact ⟨ky, h0⟩
          · exact k3 v hv
        · simp [hl]
  | [], [], _ :: _, .nil, h, _ => (by cases h)
  | _ :: _, _ :: _, [], .cons _ _, h, _ => (by cases h)
theorem zip_self_map {α : Type} : ∀ l : List α, l.zip l = l.map fun v => (v, v)
  | [] => rfl
  | x :: r => by rw [List.zip_cons_cons, zip_self_map r]; rfl
theorem cr_sortedTT : CallR X (.builtin "sorted") (rSortedTT X.K) := by
  intro pins s σ H vs us Q I r h
  obtain ⟨a, xs, rs, H0, rfl, S, hs, hx, hne, q⟩ := h
  obtain ⟨its, rv, hl, hz⟩ := I.list hs
  obtain ⟨u, rfl, ru⟩ := vals1 r
  obtain rfl : u = Value.ref a := ru
  obtain ⟨k1, k2, k3, fs, k4⟩ := rows_of I S rv hx hne
  obtain ⟨e1, e2⟩ := refs_back rv k1
  refine G.sorted_tups (shape := shF) (vs := its) hl.isList k4 (fun v hv => ⟨_, (k3 v hv).1⟩) (by rw [← rv.length]; exact hz) fun st' hp hso _ => ?_
  obtain ⟨out, hout⟩ : ∃ out, out = ((arrOf st').map (·.2)).toList := ⟨_, rfl⟩
  have ha : (arrOf st').map (·.2) = out.toArray := by rw [hout]
  have hpl : (arrOf st').toList.Perm (its.map fun v => (v, v)) := by
    have e := Array.perm_iff_toList_perm.mp hp
    rw [pairsOf_toList, zip_self_map] at e
    exact e
  have hpo : out.Perm its := by
    have e := hpl.map (fun p : Keyed => p.2)
    rw [List.map_map] at e
    have e2 : its.map ((fun p : Keyed => p.2) ∘ fun v => (v, v)) = its := List.map_id' its
    rw [e2] at e
    rw [hout, Array.toList_map]
    exact e
  have hself : ∀ p ∈ (arrOf st').toList, p.1 = p.2 ∧ p.2 ∈ its := fun p hm => by
    obtain ⟨v, hv, rfl⟩ := List.mem_map.mp (hpl.mem_iff.mp hm)
    exact ⟨rfl, hv⟩
  have hsrt : out.map (rowIn s.heap) = srtR rs := by
    refine srtR_uniq ?_ ?_ (srtR_srt rs)
    · have := hpo.map (rowIn s.heap)
      rw [k2] at this
      exact this.trans (srtR_perm rs).symm
    · rw [hout, Array.toList_map, List.map_map, List.pairwise_map, List.pairwise_iff_getElem]
      intro i j hi hj hij
      have hsz : (pairsOf its).size = (arrOf st').toList.length := by rw [pairsOf_size, hpl.length_eq, List.length_map]
      have hk := hso i j (Nat.le_of_lt hij) (by rw [hsz]; exact hj)
      have kk : ∀ i (hi : i < (arrOf st').toList.length), KK (G.tupKindC s.heap shF) (arrOf st') i = kyI (rowIn s.heap ((arrOf st').toList[i]).2) := fun i hi => by
        have hm := hself _ (List.getElem_mem hi)
        unfold KK
        have : (arrOf st')[i]? = some ((arrOf st').toList[i]) := by rw [← Array.getElem?_toList, List.getElem?_eq_getElem hi]
        rw [this]
        show (G.tupKeyC s.heap shF ((arrOf st').toList[i]).1).getD [] = _
        rw [hm.1, (k3 _ hm.2).1]; rfl
      have hk : oR.blt (KK (G.tupKindC s.heap shF) (arrOf st') j) (KK (G.tupKindC s.heap shF) (arrOf st') i) = false := hk
      rw [kk i hi, kk j hj] at hk
      exact hk
  have h3 : ∀ u ∈ out, ∃ a, u = Value.ref a := fun u hu => e2 u (hpo.mem_iff.mp hu)
  have hrp : RpA X.K H0 (out.map backV) ((srtR rs).map tII) := by
    rw [← hsrt]
    have hall : ∀ u ∈ out, Rp X.K H0 (backV u) (tII (rowIn s.heap u)) := fun u hu => (k3 u (hpo.mem_iff.mp hu)).2
    clear hsrt hout ha hpo h3
    induction out with
    | nil => exact .nil
    | cons u r ih => exact .cons (hall u List.mem_cons_self) (ih fun v hv => hall v (List.mem_cons_of_mem _ hv))
  rw [ha]
  obtain ⟨n, hn⟩ := sortedAll_at s.heap its out.toArray
  refine ⟨.ref (s.heap.objs.size + 1), upd H (s.heap.objs.size + 1) (.lst (out.map backV)), I.laid (t' := s.toks) (fun b o e => sortedAll_old e) (Nat.le_succ _) ⟨?_, out, n, vals_back h3, hn⟩, rfl, q _ _ hrp (I.hok.fresh (Nat.le_succ _))⟩
  rw [List.length_map, hpo.length_eq, ← rv.length]
  exact hz
end
def rwsOf : List PyData → Option (List Row)
  | [] => some []
  | .tuple ds :: r => match intsOf ds with
    | some ns => if ns = [] then none else (rwsOf r).map (ns :: ·)
    | none => none
  | _ => none
theorem rwsOf_eq : ∀ {ds : List PyData} {rs : List Row}, rwsOf ds = some rs → ds = rs.map tII ∧ ∀ r ∈ rs, r ≠ []
  | [], rs, h => by cases h; exact ⟨rfl, fun _ h => by cases h⟩
  | d :: r, rs, h => by
    unfold rwsOf at h
    split at h
    · rename_i e; cases e
    · rename_i ds r' e
      cases e
      split at h
      · rename_i ns hns
        by_cases c : ns = []
        · rw [if_pos c] at h; cases h
        · rw [if_neg c] at h
          obtain ⟨qs, h1, rfl⟩ := Option.map_eq_some_iff.mp h
          obtain ⟨e1, e2⟩ := rwsOf_eq h1
          refine ⟨by rw [e1, intsOf_eq hns]; rfl, fun x hx => ?_⟩
          rcases List.mem_cons.mp hx with rfl | hx
          · exact c
          · exact e2 x hx
      · cases h
    · cases h
def f_sorted3 : List PyData → Option Res
  | [.list xs] => match intsOf xs with
    | some ns => some (.nl ((srtI ns).map .int))
    | none => (rwsOf xs).map fun rs => .nl ((srtR rs).map tII)
  | _ => none
theorem ok_sorted3 {K : PySem.W.Frag} : OkRN K (fun vs H Q => rSortedI K vs H Q ∨ rSortedTT K vs H Q) f_sorted3 := by
  intro H0 H vs as res Q s r e q
  unfold f_sorted3 at e
  split at e
  · rename_i xs
    split at e
    · rename_i ns hns
      exact .inl (ok_sortedI H0 H vs _ res Q s r (by show (intsOf xs).bind _ = _; rw [hns]; exact e) q)
    · obtain ⟨rs, hrs, rfl⟩ := Option.map_eq_some_iff.mp e
      obtain ⟨v, rfl, r1⟩ := pr1 r
      obtain ⟨a, us, rfl, h1, h2⟩ := r1.lst s
      obtain ⟨e1, e2⟩ := rwsOf_eq hrs
      rw [e1] at h2
      exact .inr ⟨a, us, rs, H0, rfl, s, h1, h2, e2, fun ys p hy hp => q p _ hp hy⟩
  · cases e
section
variable {X : Cx} {C : Ctx} {k : Nat} {cls : Nat → Value}
theorem XO.sorted3 (O : XO X C k cls) : BF X C "sorted" f_sorted3 := ⟨_, "sorted", by decide +kernel, CallR.or cr_sortedI cr_sortedTT, O.hK ▸ ok_sorted3⟩
end
end DL
end

section
set_option Elab.async false
set_option linter.all false
set_option maxRecDepth 100000
set_option maxHeartbeats 2000000
namespace DL
open PySem PySem.Spec PyProof.Rows L2
/-! ### dict(enumerate(a tuple)) -/
section
variable {prog : Program} {w : World} {A : Around} {E : Value → Shared → Prop} {s : Shared}
theorem enT_held {e it l T : Addr} {i : Nat} {xs : Array Value} {x old : Value} {f : Bool} {oT : Obj} {Q : Option Value → Shared → Prop}
    (he : IsEnumHeld s.heap e it i old T f) (hT : s.heap.get? T = some oT) (te : T ≠ e) (ti : T ≠ it) (hit : s.heap.IsTupleIter it l i) (hl : s.heap.IsTuple l xs) (hx : xs[i]? = some x) (ne : e ≠ it)
    (hQ : ∀ h', IsEnumHeld h' e it ((i : Int) + 1) old T true → h'.IsTupleIter it l (i + 1) → h'.get? s.heap.objs.size = some { cls := .type "tuple", data := .seq #[.int i s.toks, x] } →
      (∀ b o, b ≠ e → b ≠ it → s.heap.get? b = some o → h'.get? b = some o) → Q (some (.ref s.heap.objs.size)) { s with heap := h', toks := s.toks + 1 }) :
    wpAny (model prog w) A (pyNext (.ref e)) Q E s := by
  have ty : s.TypeIs (.ref e) "enumerate" := ⟨_, he, rfl⟩
  unfold pyNext
  refine wpAny_bind (wpAny_attempt (wpAny_callSpecial?_slot (name := Str.ofString "__next__") ty F.slot_enumerate_next (wpAny_call_entry F.slot_enumerate_next ty F.entry_enumerate_next ?_ (F.args_enumerate_next_1 _))))
  clear ty
  obtain ⟨hp, gl, dd, tk, os⟩ := s
  change wpAny _ _ (field (.ref e) 2 >>= _) _ _ _
  refine wpAny_bind (wpAny_field he rfl (x := .ref it) rfl (wpAny_bind (wpAny_nextOf_tuple_item hit hl hx fun h1 k1 s1 => ?_)))
  replace s1 : Heap.SameBut it hp h1 := s1
  have e1 : IsEnumHeld h1 e it i old T f := (s1.2 e ne).trans he
  change wpAny _ _ (field (.ref e) 3 >>= _) _ _ ⟨h1, gl, dd, tk, os⟩
  refine wpAny_bind (wpAny_field e1 rfl (x := rawInt i) rfl ?_)
  change wpAny _ _ (field (.ref e) 4 >>= _) _ _ ⟨h1, gl, dd, tk, os⟩
  refine wpAny_bind (wpAny_field e1 rfl (x := .none) rfl ?_)
  change wpAny _ _ (mkInt i >>= _) _ _ ⟨h1, gl, dd, tk, os⟩
  refine wpAny_bind (wpAny_mkInt (?_))
  change wpAny _ _ (setField (.ref e) 3 (rawInt ((i : Int) + 1)) >>= _) _ _ ⟨h1, gl, dd, tk + 1, os⟩
  refine wpAny_bind (wpAny_setField_rec e1 (by simp) fun h2 e2 s2 => ?_)
  replace s2 : Heap.SameBut e h1 h2 := s2
  replace e2 : IsEnumHeld h2 e it ((i : Int) + 1) old T f := e2
  change wpAny _ _ (setField (.ref e) 4 .none >>= _) _ _ ⟨h2, gl, dd, tk + 1, os⟩
  refine wpAny_bind (wpAny_setField_rec e2 (by simp) fun h3 e3 s3 => ?_)
  replace s3 : Heap.SameBut e h2 h3 := s3
  replace e3 : IsEnumHeld h3 e it ((i : Int) + 1) old T f := e3
  change wpAny _ _ (newTuple [.int i tk, x] >>= _) _ _ ⟨h3, gl, dd, tk + 1, os⟩
  refine wpAny_bind (wpAny_newTuple (?_))
  have z3 : h3.objs.size = hp.objs.size := by rw [s3.1, s2.1, s1.1]
  have le : e < hp.objs.size := Heap.lt_size he
  obtain ⟨h4, hh4⟩ : ∃ h4, h4 = h3.push { cls := .type "tuple", data := .seq #[.int i tk, x] } := ⟨_, rfl⟩
  have up : ∀ b o, h3.get? b = some o → h4.get? b = some o := fun b o q => by rw [hh4]; exact Heap.get?_push_of_some _ q
  have e4 : IsEnumHeld h4 e it ((i : Int) + 1) old T f := up _ _ e3
  have t4 : h4.get? hp.objs.size = some { cls := .type "tuple", data := .seq #[.int i tk, x] } := by rw [hh4, ← z3]; exact Heap.get?_push_size _ rfl
  have k4 : ∀ b o, b ≠ e → b ≠ it → hp.get? b = some o → h4.get? b = some o := fun b o b1 b2 q => up _ _ (s3.extBut b o b1 (s2.extBut b o b1 (s1.extBut b o b2 q)))
  have i4 : h4.IsTupleIter it l (i + 1) := by
    obtain ⟨o, ho, r⟩ := k1
    exact ⟨o, up _ _ (s3.extBut _ _ (Ne.symm ne) (s2.extBut _ _ (Ne.symm ne) ho)), r⟩
  rw [← hh4]
  change wpAny _ _ (Builtin.SmallTypes.ownedTupleIsFree (.ref e) >>= _) _ _ ⟨h4, gl, dd, tk + 1, os⟩
  rw [z3]
  refine wpAny_bind (wpAny_tupleHeld_enum (s := ⟨h4, gl, dd, tk + 1, os⟩) e4 (k4 T oT te ti hT) fun h5 e5 s5 => ?_)
  replace s5 : Heap.SameBut e h4 h5 := s5
  simp only [Bool.false_eq_true, if_false]
  refine wpAny_pure ⟨_, rfl, wpAny_pure (hQ h5 e5 ?_ (s5.extBut _ _ (Nat.ne_of_gt le) t4) fun b o b1 b2 q => s5.extBut b o b1 (k4 b o b1 b2 q))⟩
  obtain ⟨o, ho, r⟩ := i4
  exact ⟨o, s5.extBut _ _ (Ne.symm ne) ho, r⟩
theorem enT_end {e it l T : Addr} {i : Nat} {xs : Array Value} {old : Value} {f : Bool} {Q : Option Value → Shared → Prop} (hh : A.handled = none)
    (he : IsEnumHeld s.heap e it i old T f ∨ IsEnum s.heap e it i old) (hit : s.heap.IsTupleIter it l i) (hl : s.heap.IsTuple l xs) (hx : xs[i]? = none)
    (hQ : ∀ h', Heap.ExtBut it s.heap h' → Q none { s with heap := h' }) : wpAny (model prog w) A (pyNext (.ref e)) Q E s := by
  have ty : s.TypeIs (.ref e) "enumerate" := by rcases he with he | he <;> exact ⟨_, he, rfl⟩
  unfold pyNext
  refine wpAny_bind (wpAny_attempt (wpAny_callSpecial?_slot (name := Str.ofString "__next__") ty F.slot_enumerate_next (wpAny_call_entry F.slot_enumerate_next ty F.entry_enumerate_next ?_ (F.args_enumerate_next_1 _))))
  change wpAny _ _ (field (.ref e) 2 >>= _) _ _ _
  rcases he with he | he
  · refine wpAny_bind (wpAny_field he rfl (x := .ref it) rfl (wpAny_bind (wpAny_nextOf_tuple_end hh hit hl hx fun h' a he' hx' => ?_)))
    obtain ⟨o, ho, hc⟩ := hx'
    exact wpAny_bind (wpAny_isInstance (T := "StopIteration") (b := true) ⟨o, ho, hc⟩ isSubtype_stop (wpAny_pure (hQ _ he')))
  · refine wpAny_bind (wpAny_field he rfl (x := .ref it) rfl (wpAny_bind (wpAny_nextOf_tuple_end hh hit hl hx fun h' a he' hx' => ?_)))
    obtain ⟨o, ho, hc⟩ := hx'
    exact wpAny_bind (wpAny_isInstance (T := "StopIteration") (b := true) ⟨o, ho, hc⟩ isSubtype_stop (wpAny_pure (hQ _ he')))
/-- where the loop of dict() stands -/
def EnSt (e it l d : Addr) (xs : Array Value) (i : Nat) (h : Heap) : Prop :=
  h.IsTupleIter it l i ∧ h.IsTuple l xs ∧ ((∃ old, IsEnum h e it (i : Int) old) ∨ ∃ old T f oT, IsEnumHeld h e it (i : Int) old T f ∧ h.get? T = some oT ∧ T ≠ e ∧ T ≠ it ∧ T ≠ d)
theorem enT_src {e it l d : Addr} {xs : Array Value} (hA : A.handled = none) (ne : e ≠ it) (le : l ≠ e) (li : l ≠ it) (de : d ≠ e) (di : d ≠ it) (dl : d ≠ l) :
    PairSrc prog w A e d [e, it] xs.size (fun i k v => (∃ t, k = .int (i : Int) t) ∧ xs[i]? = some v) (EnSt e it l d xs) where
  off := fun m => by
    rcases List.mem_cons.mp m with q | m
    · exact de q
    · exact di (List.mem_singleton.mp m)
  frame := fun i h h' st k => by
    obtain ⟨a, b, c⟩ := st
    refine ⟨a.at fun o q => k _ o (Ne.symm di) q, b.at fun o q => k _ o (Ne.symm dl) q, ?_⟩
    rcases c with ⟨old, c⟩ | ⟨old, T, f, oT, c, hT, r1, r2, r3⟩
    · exact .inl ⟨old, k _ _ (Ne.symm de) c⟩
    · exact .inr ⟨old, T, f, oT, k _ _ (Ne.symm de) c, k _ _ r3 hT, r1, r2, r3⟩
  item := fun i s Q E hi st ds hQ => by
    obtain ⟨a, b, c⟩ := st
    have hx := Array.getElem?_eq_getElem hi
    have up : ((i + 1 : Nat) : Int) = (i : Int) + 1 := by omega
    have nit : s.heap.objs.size ≠ it := by
      obtain ⟨_, q, _⟩ := a
      exact Nat.ne_of_gt (Heap.lt_size q)
    have off : ∀ (h' : Heap), (∀ b o, b ≠ e → b ≠ it → s.heap.get? b = some o → h'.get? b = some o) → ∀ b o, b ∉ [e, it] → s.heap.get? b = some o → h'.get? b = some o :=
      fun h' k b o hb q => k b o (fun z => hb (by rw [z]; exact List.mem_cons_self)) (fun z => hb (by rw [z]; exact List.mem_cons_of_mem _ List.mem_cons_self)) q
    rcases c with ⟨old, c⟩ | ⟨old, T, f, oT, c, hT, r1, r2, r3⟩
    · have le2 : e < s.heap.objs.size := Heap.lt_size c
      refine wpAny_pyNext_enum_itemC (Draws.tuple (prog := prog) (w := w) (A := A.in1) hA it l li xs) c ⟨a, b⟩ hi ne (by simp; exact ⟨ne, fun z => le z.symm⟩) fun y h' tk hy ho st' hT hz k => ?_
      obtain rfl : xs[i] = y := Option.some.inj (hx.symm.trans hy)
      refine hQ s.heap.objs.size _ _ h' (tk + 1) ⟨⟨tk, rfl⟩, hx⟩ (.inl ⟨_, hT, rfl, _, rfl⟩) ⟨st'.1, st'.2, .inr ⟨xs[i], s.heap.objs.size, false, _, ?_, hT, Nat.ne_of_gt le2, nit, Nat.ne_of_gt ds⟩⟩ (off h' k)
      rw [up]; exact ho
    · refine enT_held c hT r1 r2 a b hx ne fun h' ho a' hT' k => ?_
      refine hQ s.heap.objs.size _ _ h' (s.toks + 1) ⟨⟨s.toks, rfl⟩, hx⟩ (.inl ⟨_, hT', rfl, _, rfl⟩) ⟨a', b.at fun o q => k l o le li q, .inr ⟨old, T, true, oT, ?_, k _ _ r1 r2 hT, r1, r2, r3⟩⟩ (off h' k)
      rw [up]; exact ho
  done := fun s Q E st hQ => by
    obtain ⟨a, b, c⟩ := st
    have hx : xs[xs.size]? = none := Array.getElem?_eq_none (Nat.le_refl _)
    have fin : ∀ h', Heap.ExtBut it s.heap h' → Q none { s with heap := h' } := fun h' k => hQ h' s.toks fun b o hb q => k b o (fun z => hb (by rw [z]; exact List.mem_cons_of_mem _ List.mem_cons_self)) q
    rcases c with ⟨old, c⟩ | ⟨old, T, f, oT, c, _⟩
    · exact enT_end (T := 0) (f := true) hA (.inr c) a b hx fin
    · exact enT_end hA (.inl c) a b hx fin
theorem enT_arg {e it l : Addr} (ne : e ≠ it) (le : l ≠ e) (li : l ≠ it) (xs : Array Value) :
    PairArg prog w "enumerate" e [e, it, l] [e, it] xs.size (fun i k v => (∃ t, k = .int (i : Int) t) ∧ xs[i]? = some v) (fun h => (∃ old, IsEnum h e it 0 old) ∧ h.IsTupleIter it l 0 ∧ h.IsTuple l xs) where
  type := fun s ok => by obtain ⟨⟨_, q⟩, _⟩ := ok; exact ⟨_, q, rfl⟩
  notDict := by decide
  keep := fun h h' ok k => by
    obtain ⟨⟨old, a⟩, b, c⟩ := ok
    exact ⟨⟨old, k _ _ a⟩, b.at fun o q => k _ o q, c.at fun o q => k _ o q⟩
  there := fun h ok b hb => by
    obtain ⟨⟨old, a⟩, ⟨o1, h1, _⟩, ⟨o2, h2, _⟩⟩ := ok
    rcases List.mem_cons.mp hb with rfl | hb
    · exact ⟨_, a⟩
    · rcases List.mem_cons.mp hb with rfl | hb
      · exact ⟨_, h1⟩
      · rw [List.mem_singleton.mp hb]; exact ⟨_, h2⟩
  sub := fun b hb => by
    rcases List.mem_cons.mp hb with rfl | hb
    · exact List.mem_cons_self
    · rw [List.mem_singleton.mp hb]; exact List.mem_cons_of_mem _ List.mem_cons_self
  noKeys := fun A s Q E hA ok h => by
    obtain ⟨⟨_, q⟩, _⟩ := ok
    exact getAttrOr_miss_enumerate q rfl rfl rfl enumerate_no_keys (by decide +kernel) hA h
  iter := fun A s d Q E hA ok hd hf h => by
    obtain ⟨⟨old, a⟩, b, c⟩ := ok
    simp only [List.mem_cons, List.not_mem_nil, or_false, not_or] at hf
    exact wpAny_pyIter_enum a (h e [e, it] (EnSt e it l d xs) s.heap s.toks (enT_src hA ne le li hf.1 hf.2.1 hf.2.2) ⟨b, c, .inl ⟨old, a⟩⟩ (fun _ _ q => q) fun b hb => .inl hb)
end
end DL
end

section
set_option Elab.async false
set_option linter.all false
set_option maxRecDepth 100000
set_option maxHeartbeats 2000000
namespace DL
open PySem PySem.Spec PyProof.Rows L2
def enK {α : Type} : Nat → List α → List (Key × α)
  | _, [] => []
  | i, v :: r => (.inl (i : Int), v) :: enK (i + 1) r
def enD : Nat → List PyData → List (PyData × PyData)
  | _, [] => []
  | i, d :: r => (.int (i : Int), d) :: enD (i + 1) r
theorem enK_length {α : Type} : ∀ (i : Nat) (xs : List α), (enK i xs).length = xs.length
  | _, [] => rfl
  | i, _ :: r => by show (enK (i + 1) r).length + 1 = _; rw [enK_length (i + 1) r]; rfl
theorem enK_get {α : Type} : ∀ (i j : Nat) (xs : List α), (enK i xs)[j]? = xs[j]?.map fun v => (.inl ((i + j : Nat) : Int), v)
  | _, _, [] => by simp [enK]
  | i, 0, v :: r => by show some (Sum.inl (i : Int), v) = _; rfl
  | i, j + 1, v :: r => by
    show (enK (i + 1) r)[j]? = (r[j]?).map _
    rw [enK_get (i + 1) j r, show i + 1 + j = i + (j + 1) by omega]
theorem enK_kv : ∀ (i : Nat) {xs : List V} {us : List Value}, Vals xs us → KV (enK i xs) (enK i us)
  | _, [], [], .nil => .nil
  | i, _ :: _, _ :: _, .cons h t => .cons ⟨rfl, h⟩ (enK_kv (i + 1) t)
theorem merge_en : ∀ (xs : List V) (i : Nat) (acc : List (Key × V)), (∀ p ∈ acc, ∃ j : Nat, p.1 = .inl (j : Int) ∧ j < i) → mergeK acc (enK i xs) = acc ++ enK i xs
  | [], _, acc, _ => (List.append_nil acc).symm
  | v :: r, i, acc, h => by
    have hn : ¬ (acc.any fun kv => decide (kv.1 = (Sum.inl (i : Int) : Key))) = true := fun q => by
      obtain ⟨p, hp, hq⟩ := List.any_eq_true.mp q
      obtain ⟨j, e, hj⟩ := h p hp
      have hq := of_decide_eq_true hq
      rw [e] at hq
      injection hq with hq
      omega
    have e : putK acc (.inl (i : Int)) v = acc ++ [(.inl (i : Int), v)] := by unfold putK; rw [if_neg hn]
    show mergeK (putK acc (.inl (i : Int)) v) (enK (i + 1) r) = _
    rw [e, merge_en r (i + 1) _ fun p hp => ?_, List.append_assoc]
    · rfl
    · rcases List.mem_append.mp hp with hp | hp
      · obtain ⟨j, a, b⟩ := h p hp
        exact ⟨j, a, by omega⟩
      · rw [List.mem_singleton.mp hp]; exact ⟨i, rfl, Nat.lt_succ_self _⟩
section
variable {X : Cx}
def tDictEn (K : PySem.W.Frag) (ta : TE) : TE := fun σ H Q => ta σ H fun x H1 => ∃ l xs, x = .ref l ∧ SqT K H1 l xs ∧ ∀ p, H1 p = none → Q (.ref p) (upd H1 p (.dK (enK 0 xs)))
theorem pe_dictEn {a : Expr} {ta : TE} {p p2 q pos : Pos} (hc : X.calm = true) (hg : Gl X "dict") (hm : X.mg "dict" = none) (hg2 : Gl X "enumerate") (hm2 : X.mg "enumerate" = none) (ha : PE X a ta)
    (na : starEach [a] X.env = (false, eval a X.env) :: starEach [] X.env) : PE X (.Call (.Name "dict" p) [.Call (.Name "enumerate" p2) [a] [] q] [] pos) (tDictEn X.K ta) := by
  refine ⟨fun pins s σ H Q I h => ?_⟩
  refine Call_ (ld_blt I hg hm PyProof.Rows.boot_dict (PyProof.Rows.callWith_type1 (PyProof.Rows.args_cons ?_ rfl) rfl rfl))
  refine Call_ (ld_blt I hg2 hm2 boot_enumerate ?_)
  refine PyProof.Rows.callWith_type1 (PyProof.Rows.args_cons (thn (ha.run pins s σ H _ I h) fun v s1 ⟨x, H1, I1, r1, q1⟩ => PyProof.Rows.args_nil ?_) na) na rfl
  obtain ⟨l, xs, rfl, hq, q1⟩ := q1
  cases r1
  obtain ⟨its, rv, pt, hz⟩ := I1.tuple hq
  have pt : s1.heap.IsTuple l its.toArray := pt
  have ll : l < s1.heap.objs.size := by
    obtain ⟨_, ho, _⟩ := pt
    exact Heap.lt_size ho
  refine call_enumerate_tuple pt fun h' he hit hsz hk => PyProof.Rows.args_nil ?_
  have lenI : its.length = xs.length := rv.length.symm
  refine PySem.call_dict_pairs (knd := mixKind X.prog X.w) (kvs := enK 0 its) (enT_arg (Nat.succ_ne_self _) (Nat.ne_of_lt (Nat.lt_succ_of_lt ll)) (Nat.ne_of_lt ll) its.toArray) (I1.ok.hd hc) ⟨⟨.none, he⟩, hit, pt.at fun o e => hk _ o e⟩ ⟨by rw [enK_length]; simp, fun i key w hr => ?_⟩ (by simp only [List.size_toArray, lenI]; exact hz) fun h2 tk hd' k => ?_
  · obtain ⟨⟨t, rfl⟩, hw⟩ := hr
    refine ⟨.inl (i : Int), ?_, mixKind_int X.prog X.w i t⟩
    rw [enK_get]
    have : its[i]? = some w := by simpa using hw
    rw [this, Nat.zero_add]; rfl
  · have kk : ∀ b u, s1.heap.get? b = some u → h2.get? b = some u := fun b u e => k b u (fun hb => by
      have lb := Heap.lt_size e
      rcases List.mem_cons.mp hb with z | hb
      · exact Nat.lt_irrefl _ (Nat.lt_trans (Nat.lt_succ_self _) (z ▸ lb))
      · exact Nat.lt_irrefl _ (List.mem_singleton.mp hb ▸ lb)) (hk b u e)
    have hp : s1.heap.objs.size ≤ h'.objs.size := by rw [hsz]; exact Nat.le_add_right _ _
    have hm0 : (h'.objs.size == sysModules) = false := beq_eq_false_iff_ne.mpr (Nat.ne_of_gt (Nat.lt_of_lt_of_le I1.big hp))
    have rel : KV (enK 0 xs) (merged [] (enK 0 its)) := by
      have := KV.merge (enK_kv 0 rv) (.nil : KV ([] : List (Key × V)) [])
      rwa [merge_en xs 0 [] (fun p hp => by cases hp)] at this
    exact ⟨.ref h'.objs.size, upd H1 h'.objs.size (.dK (enK 0 xs)), I1.laid (t' := tk) kk hp (show ObjOk X.prog X.w _ _ _ (.dK (enK 0 xs)) from ⟨by rw [enK_length]; exact hz, hm0, merged [] (enK 0 its), rel, hd'⟩), rfl, q1 _ (I1.hok.fresh hp)⟩
def dDictEn (d : M Val) : M Val := mbind d fun x ρ => match look ρ x with
  | some (.tuple ds) => .ok (.sh (.dict (enD 0 ds))) ρ
  | _ => .stuck
theorem en_zip : ∀ (i : Nat) {xs : List V} {ds : List PyData}, xs.length = ds.length → ((enK i xs).map (keyD ·.1)).zip ds = enD i ds
  | _, [], [], _ => rfl
  | i, x :: xs, d :: ds, h => by
    show (keyD (.inl (i : Int)), d) :: (((enK (i + 1) xs).map (keyD ·.1)).zip ds) = _
    rw [en_zip (i + 1) (Nat.succ.inj h)]; rfl
  | _, [], _ :: _, h => by cases h
  | _, _ :: _, [], h => by cases h
theorem en_vals {α : Type} : ∀ (i : Nat) (xs : List α), (enK i xs).map (·.2) = xs
  | _, [] => rfl
  | i, x :: xs => by show x :: (enK (i + 1) xs).map (·.2) = _; rw [en_vals]
variable {C : Ctx} {lv : Nat} {cls : Nat → Value}
theorem x_dictEn {a : Expr} {d : M Val} {p p2 q pos : Pos} (O : XO X C lv cls) (hm : X.mg "dict" = none) (hg : Gl X "dict") (hm2 : X.mg "enumerate" = none) (hg2 : Gl X "enumerate") (ha : DE X C a d)
    (na : starEach [a] X.env = (false, eval a X.env) :: starEach [] X.env) : DE X C (.Call (.Name "dict" p) [.Call (.Name "enumerate" p2) [a] [] q] [] pos) (dDictEn d) :=
  .of (PE.imp (pe_dictEn O.calm hg hm hg2 hm2 ha.pe na) fun σ H Q ⟨B, H0, ρ, hB, W, q⟩ => tD_run hB W q fun H1 H' ρ1 x v W1 S1 r1 q1 => by
    cases e : look ρ1 x with
    | none => rw [e] at q1; exact q1.elim
    | some a =>
      rw [e] at q1
      have rx := look_rd W1 r1 e
      cases a <;> try exact q1.elim
      rename_i ds
      obtain ⟨b, vs, rfl, h1, h2⟩ := rx.tup
      refine ⟨b, vs, rfl, O.hK ▸ same_seqT W1.s0 h1, fun p hp => ?_⟩
      have g := q1 _ _ (W1.lay (o := .dK (enK 0 vs)) hp) (same_upd (W1.s0.free hp)) (.ref p) (by
        have := Rp.dct (K := C.K) (H := upd H1 p (.dK (enK 0 vs))) (a := p) (kvs := enK 0 vs) (ds := ds) (.inl upd_same) (by rw [en_vals]; exact RpA.mono (same_upd (W1.s0.free hp)) h2)
        rw [en_zip 0 h2.length] at this
        exact this)
      exact g) fun _ => rfl
/-! ### {i: j}, both numbers -/
def dDct1 (i j : Int) : M Val := mpure (.sh (.dict [(.int i, .int j)]))
theorem upd_twice {H : Hp} {p : Addr} {a b : HO} : upd (upd H p a) p b = upd H p b := by
  funext x
  by_cases e : x = p
  · subst e; rw [upd_same, upd_same]
  · rw [upd_ne e, upd_ne e, upd_ne e]
theorem de_dct1 {i j : Int} {k1 k2 p1 p2 pos : _} : DE X C (.Dict [some (.Constant (.int i) k1 p1)] [.Constant (.int j) k2 p2] pos) (dDct1 i j) :=
  .of (PE.imp (pe_disp (pps_cons pe_int pe_int pps_nil) rfl rfl (by simp) (show 1 ≤ 15 by decide)) fun σ H Q ⟨B, H0, ρ, hB, W, q⟩ p hp => ⟨upd_same, [(.inl i, .int j)], rfl, (show 1 ≤ 15 by decide), by
    rw [upd_twice]
    exact q _ _ (W.lay hp) (same_upd (W.s0.free hp)) _ (.dct (kvs := [(.inl i, .int j)]) (ds := [.int j]) (.inl upd_same) (.cons (.int _) .nil))⟩) fun _ => rfl
end
end DL
end

section
set_option Elab.async false
set_option linter.all false
set_option maxRecDepth 100000
set_option maxHeartbeats 2000000
namespace DL
open PySem PySem.Spec PyProof.Rows L2
/-! ### a, b, c, d = w, x, y, z -/
def sPar4 (i j l m : Nat) (da db dc dd : M Val) : SD := sBind da fun x => sBind (nrm x) fun x => sBind db fun y => sBind (nrm y) fun y => sBind dc fun z => sBind (nrm z) fun z => sBind dd fun u => sBind (nrm u) fun u ρ => sOpt (stI m u ρ) fun ρ => sOpt (stI l z ρ) fun ρ => sOpt (stI j y ρ) fun ρ => gOpt (stI i x ρ)
section
variable {X : Cx} {C : Ctx} {B H0 H : Hp} {σ : L2.St} {ρ : Rho} {v : V}
theorem vl_lay {K : PySem.W.Frag} {x : Val} {p : Addr} {o : HO} (r : VlR K B H0 H σ ρ v x) (hp : H p = none) : VlR K B H0 (upd H p o) σ ρ v x := by
  cases x with
  | sh d => exact r
  | sl i => exact r
  | fr xs =>
    obtain ⟨a, vs, rfl, h1, h2, h3, h4, h5⟩ := r
    exact ⟨a, vs, rfl, by rw [upd_ne (ne_of_none h1 hp)]; exact h1, h2, h3, h4, h5⟩
  | fo c xs =>
    obtain ⟨a, vs, rfl, h1, h2, h3, h4, h5⟩ := r
    obtain ⟨o, ho⟩ := h1.ho
    exact ⟨a, vs, rfl, h1.of (upd_ne (ne_of_none ho hp)), h2, h3, h4, h5⟩
  | gone => trivial
theorem ds_par4 {i j l m : Nat} {x y z u : Str} {a b c d : Expr} {da db dc dd : M Val} {px py pz pu pt pos : Pos} {kt k2 pt2} (hij : i ≠ j) (hil : i ≠ l) (him : i ≠ m) (hjl : j ≠ l) (hjm : j ≠ m) (hlm : l ≠ m)
    (hp : PS X (.Assign [.Tuple [.Name x px, .Name y py, .Name z pz, .Name u pu] kt pt] (.Tuple [a, b, c, d] k2 pt2) pos) (tAsg (tTup (tCons (tD C da) (tCons (tD C db) (tCons (tD C dc) (tCons (tD C dd) tNil))))) (gTup X.K 4 (gCons (gName i) (gCons (gName j) (gCons (gName l) (gCons (gName m) gNil))))))) :
    DS X C (.Assign [.Tuple [.Name x px, .Name y py, .Name z pz, .Name u pu] kt pt] (.Tuple [a, b, c, d] k2 pt2) pos) (sPar4 i j l m da db dc dd) :=
  ⟨PS.imp hp fun D σ H ⟨H0, ρ, W, q⟩ => by
    refine tDS_run W q fun H1 H' ρ1 x v1 W1 S1 r1 q1 => ?_
    refine nrm_runS W1 r1 q1 fun H2 ρ2 x W2 S2 r2 n2 q2 => ?_
    obtain ⟨B1, hB1, hn1, W3, back1⟩ := holdV W2 r2 n2
    refine tDS_runB hB1 W3 q2 fun H4 H4' ρ4 y v2 W4 S4 r4 q4 => ?_
    refine nrm_runS W4 r4 q4 fun H5 ρ5 y W5 S5 r5 n5 q5 => ?_
    obtain ⟨B2, hB2, hn2, W6, back2⟩ := holdV W5 r5 n5
    refine tDS_runB (hB1.trans hB2) W6 q5 fun H7 H7' ρ7 z v3 W7 S7 r7 q7 => ?_
    refine nrm_runS W7 r7 q7 fun H8 ρ8 z W8 S8 r8 n8 q8 => ?_
    obtain ⟨B3, hB3, hn3, W9, back3⟩ := holdV W8 r8 n8
    refine tDS_runB ((hB1.trans hB2).trans hB3) W9 q8 fun G1 G1' ρ9 u v4 V1 T1 s1 g1 => ?_
    refine nrm_runS V1 s1 g1 fun G2 ρA u V2 T2 s2 m2 g2 => ?_
    refine ⟨by show 4 ≤ sizeLine; decide, fun p hp0 => ⟨p, [v1, v2, v3, v4], rfl, .of upd_same, rfl, v1, _, rfl, v2, _, rfl, v3, _, rfl, v4, _, rfl, rfl, ?_⟩⟩
    have V3 := V2.layF (o := .tup [v1, v2, v3, v4]) hp0
    have s3 := vl_lay (o := .tup [v1, v2, v3, v4]) s2 hp0
    cases e1 : stI m u ρA with
    | none => rw [e1] at g2; exact g2.elim
    | some ρB =>
      rw [e1] at g2
      obtain ⟨G3, T3, V4⟩ := stI_ok V3 s3 e1
      obtain ⟨V5, t5⟩ := back3 G3 _ _ _ V4 ((T1.trans T2).trans T3)
      have g2 : stS C G2 D (sOpt (stI l z ρB) fun ρ => sOpt (stI j y ρ) fun ρ => gOpt (stI i x ρ)) := g2
      cases e2 : stI l z ρB with
      | none => rw [e2] at g2; exact g2.elim
      | some ρC =>
        rw [e2] at g2
        obtain ⟨G4, T4, V6⟩ := stI_ok V5 t5 e2
        obtain ⟨V7, t7⟩ := back2 G4 _ _ _ V6 (((((S7.trans S8).trans T1).trans T2).trans T3).trans T4)
        have g2 : stS C G2 D (sOpt (stI j y ρC) fun ρ => gOpt (stI i x ρ)) := g2
        cases e3 : stI j y ρC with
        | none => rw [e3] at g2; exact g2.elim
        | some ρD =>
          rw [e3] at g2
          obtain ⟨G5, T5, V8⟩ := stI_ok V7 t7 e3
          obtain ⟨V9, t9⟩ := back1 G5 _ _ _ V8 ((((((((S4.trans S5).trans S7).trans S8).trans T1).trans T2).trans T3).trans T4).trans T5)
          have g2 : stS C G2 D (gOpt (stI i x ρD)) := g2
          cases e4 : stI i x ρD with
          | none => rw [e4] at g2; exact g2.elim
          | some ρE =>
            rw [e4] at g2
            obtain ⟨G6, T6, VA⟩ := stI_ok V9 t9 e4
            have es : ((((σ.set i (some v1)).set j (some v2)).set l (some v3)).set m (some v4)) = ((((σ.set m (some v4)).set l (some v3)).set j (some v2)).set i (some v1)) := by
              rw [List.set_comm (some v1) (some v2) hij, List.set_comm (some v1) (some v3) hil, List.set_comm (some v1) (some v4) him, List.set_comm (some v2) (some v3) hjl, List.set_comm (some v2) (some v4) hjm, List.set_comm (some v3) (some v4) hlm]
            rw [es]
            exact g2 G6 _ _ VA (((T3.trans T4).trans T5).trans T6)⟩
end
end DL
end

section
set_option Elab.async false
set_option linter.all false
set_option maxRecDepth 100000
set_option maxHeartbeats 2000000
namespace DL
open PySem PySem.Spec PyProof.Rows L2
/-! ### isinstance(e, (list, tuple)) -/
def f_isiLT (d : PyData) : Option Res := match isExn d with
  | true => none
  | false => ok (.bool (isT .list d || isT .tuple d))
section
variable {X : Cx} {C : Ctx} {k : Nat} {cls : Nat → Value}
theorem x_isiLT {u : Nat} {p pt p1 p2 pos : Pos} {e : Expr} {d : M Val} (O : XO X C k cls) (n1 : NmOk "isinstance") (hm : X.mg "isinstance" = none) (hml : X.mg "list" = none) (hmt : X.mg "tuple" = none) (h : DE X C e d) (g1 : Gl X "isinstance") (gl : Gl X "list") (gt : Gl X "tuple")
    (ht : starEach [.Name "list" p1, .Name "tuple" p2] X.env = (false, eval (.Name "list" p1) X.env) :: starEach [.Name "tuple" p2] X.env)
    (he : starEach [e, .Tuple [.Name "list" p1, .Name "tuple" p2] u pt] X.env = (false, eval e X.env) :: starEach [.Tuple [.Name "list" p1, .Name "tuple" p2] u pt] X.env) (hpl : (backTo pos (starEach [.Tuple [.Name "list" p1, .Name "tuple" p2] u pt] X.env)).any (·.1) = false) :
    DE X C (.Call (.Name "isinstance" p) [e, .Tuple [.Name "list" p1, .Name "tuple" p2] u pt] [] pos) (dOp1 f_isiLT d) := by
  have pl : PE X (.Name "list" p1) _ := pe_bltn gl hml (v := .ty "list") (u := .type "list") (by decide +kernel) rfl (by decide) (by decide)
  have pt' : PE X (.Name "tuple" p2) _ := pe_bltn gt hmt (v := .ty "tuple") (u := .type "tuple") (by decide +kernel) rfl (by decide) (by decide)
  refine .of (PE.imp (pe_callB call_isiT g1 hm (by decide +kernel) (pa_cons h.pe (pa_cons (pe_tup (pa_cons pl (pa_cons pt' pa_nil rfl) ht)) pa_nil rfl) he) n1.n n1.d he hpl) fun σ H Q ⟨B, H0, ρ, hB, W, q⟩ => ?_) fun _ => rfl
  refine tD_run hB W q fun H1 H' ρ1 x v W1 S1 r1 q => ?_
  cases e2 : look ρ1 x with
  | none => rw [e2] at q; exact q.elim
  | some a =>
    rw [e2] at q
    obtain ⟨res, e3, q3⟩ := optOk_some q
    unfold f_isiLT at e3
    cases hx : isExn a with
    | true => rw [hx] at e3; cases e3
    | false =>
      rw [hx] at e3
      cases e3
      refine ⟨by show 2 ≤ sizeLine; rw [sizeLine_eq]; decide, fun tp hp => ⟨v, tp, [.ty "list", .ty "tuple"], .type (tyD a), [.type "list", .type "tuple"], isT .list a || isT .tuple a, rfl, upd_same, .cons (.ty _) (.cons (.ty _) .nil), ?_, ?_, ?_⟩⟩
      · rw [← O.hK]
        exact rp_ty (((look_rd W1 r1 e2).rp W1.s0).mono (same_upd hp)) hx
      · refine kitAny_cons (kit_ty (kit_isT .list a)) (fun hb => ?_) (fun hb => by rw [hb]; rfl)
        rw [hb, Bool.false_or]
        refine kitAny_cons (kit_ty (kit_isT .tuple a)) (fun hb => ?_) (fun hb => by rw [hb])
        rw [hb]; rfl
      · have W2 := W1.lay (o := .tup [.ty "list", .ty "tuple"]) hp
        exact q3 _ _ W2 (same_upd (W1.s0.free hp)) _ (.bl _)
end
end DL
end

section
set_option Elab.async false
set_option linter.all false
set_option maxRecDepth 100000
set_option maxHeartbeats 2000000
namespace DL
open PySem PySem.Spec PyProof.Rows L2
section
variable {X : Cx} {C : Ctx} {B H0 H H0' H' : Hp} {σ : L2.St} {ρ ρ' : Rho} {v : V}
/-! ### a, b, c = e1, e2, e3, some of the names in cells: stored from the left, out of a tuple -/
theorem ds_par3C {i j l : Nat} {x y z : Str} {a b c : Expr} {da db dc : M Val} {px py pz pt pos : Pos} {kt k2 pt2} (hij : i ≠ j) (hil : i ≠ l) (hjl : j ≠ l) (hc : X.calm = true) (hN : X.N.Nodup) (hi : X.N[i]? = some x) (hj : X.N[j]? = some y) (hl : X.N[l]? = some z)
    (hx : Loc X.env.scope x) (hy : Loc X.env.scope y) (hz : Loc X.env.scope z) (fx : X.fn x = true ∨ X.env.scope.names.lookup x = some .local) (fy : X.fn y = true ∨ X.env.scope.names.lookup y = some .local) (fz : X.fn z = true ∨ X.env.scope.names.lookup z = some .local)
    (ha : PA X [a, b, c] (tCons (tD C da) (tCons (tD C db) (tCons (tD C dc) tNil))))
    (hs : swapsWithSole [.Tuple [.Name x px, .Name y py, .Name z pz] kt pt] (.Tuple [a, b, c] k2 pt2) pos.line X.env = pure false) (hw : swappedStores [.Tuple [.Name x px, .Name y py, .Name z pz] kt pt] (.Tuple [a, b, c] k2 pt2) X.env = pure none) :
    DS X C (.Assign [.Tuple [.Name x px, .Name y py, .Name z pz] kt pt] (.Tuple [a, b, c] k2 pt2) pos) (sPar3 i j l da db dc) :=
  ⟨PS.imp (ps_asg (pe_tup ha) (pg_tup (n := 3) hc (pgs_cons (pg_name hN hi hx fx) (pgs_cons (pg_name hN hj hy fy) (pgs_cons (pg_name hN hl hz fz) pgs_nil rfl) rfl) rfl) rfl rfl) hs hw rfl) fun D σ H ⟨H0, ρ, W, q⟩ => by
    refine tDS_run W q fun H1 H' ρ1 x v W1 S1 r1 q1 => ?_
    refine nrm_runS W1 r1 q1 fun H2 ρ2 x W2 S2 r2 n2 q2 => ?_
    obtain ⟨B1, hB1, hn1, W3, back1⟩ := holdV W2 r2 n2
    refine tDS_runB hB1 W3 q2 fun H4 H4' ρ4 y u W4 S4 r4 q4 => ?_
    refine nrm_runS W4 r4 q4 fun H5 ρ5 y W5 S5 r5 n5 q5 => ?_
    obtain ⟨B2, hB2, hn2, W6, back2⟩ := holdV W5 r5 n5
    refine tDS_runB (hB1.trans hB2) W6 q5 fun H7 H7' ρ7 z w W7 S7 r7 q7 => ?_
    refine nrm_runS W7 r7 q7 fun H8 ρ8 z W8 S8 r8 n8 q8 => ?_
    refine ⟨by show 3 ≤ sizeLine; rw [sizeLine_eq]; decide, fun p hp => ⟨p, [v, u, w], rfl, .of upd_same, rfl, v, [u, w], rfl, u, [w], rfl, w, [], rfl, rfl, ?_⟩⟩
    cases e1 : stI l z ρ8 with
    | none => rw [e1] at q8; exact q8.elim
    | some ρ9 =>
      rw [e1] at q8
      obtain ⟨H9, S9, W9⟩ := stI_ok W8 r8 e1
      obtain ⟨W10, r10⟩ := back2 H9 _ _ _ W9 ((S7.trans S8).trans S9)
      have q8 : stS C H8 D (sOpt (stI j y ρ9) fun ρ => gOpt (stI i x ρ)) := q8
      cases e2 : stI j y ρ9 with
      | none => rw [e2] at q8; exact q8.elim
      | some ρ10 =>
        rw [e2] at q8
        obtain ⟨H11, S11, W11⟩ := stI_ok W10 r10 e2
        obtain ⟨W12, r12⟩ := back1 H11 _ _ _ W11 (((((S4.trans S5).trans S7).trans S8).trans S9).trans S11)
        have q8 : stS C H8 D (gOpt (stI i x ρ10)) := q8
        cases e3 : stI i x ρ10 with
        | none => rw [e3] at q8; exact q8.elim
        | some ρ11 =>
          rw [e3] at q8
          obtain ⟨H13, S13, W13⟩ := stI_ok W12 r12 e3
          have e4 : (((σ.set i (some v)).set j (some u)).set l (some w)) = (((σ.set l (some w)).set j (some u)).set i (some v)) := by
            rw [List.set_comm (some v) (some u) hij, List.set_comm (some v) (some w) hil, List.set_comm (some u) (some w) hjl]
          rw [e4]
          exact q8 _ _ _ (W13.lay (o := .tup [v, u, w]) hp) (((S9.trans S11).trans S13).trans (same_upd (W13.s0.free hp)))⟩
end
end DL
end

section
set_option Elab.async false
set_option linter.all false
set_option maxRecDepth 100000
set_option maxHeartbeats 4000000
open PySem L2 DL
def KS : List Nat := [1, 2, 3, 14, 15]
def JS : List Nat := [1, 2, 3, 14, 15]
namespace LW
def d__law_bag : SD := sRet (dLst [dB f_max [dC (.int 0), dOp2 f_sub (dVar 0) (dOp2 f_pow (dC (.int 10)) (dC (.int 18)))], dVar 0, dC (.int 0)])
def F__law_bag : Fn := fnRes d__law_bag 1
end LW
namespace LW
def d__law_pick : SD := sSeq (sAsg (dOp2 f_add (dOp2 f_ix (dVar 0) (dC (.int 2))) (dC (.int 1))) (gtSub 0 (dC (.int 2)))) (sSeq (sIf (dOp2 f_gt (dOp2 f_ix (dVar 0) (dC (.int 0))) (dC (.int 0))) (sSeq (sAsg (dOp2 f_mod (dOp2 f_ix (dVar 0) (dC (.int 0))) (dVar 1)) (gtName 4)) (sSeq (sAsg (dOp2 f_div (dOp2 f_ix (dVar 0) (dC (.int 0))) (dVar 1)) (gtSub 0 (dC (.int 0)))) (sRet (dVar 4)))) sNil) (sSeq (sAsg (dOp2 f_mod (dOp2 f_add (dOp2 f_add (dOp2 f_mul (dOp2 f_mod (dOp2 f_ix (dVar 0) (dC (.int 1))) (dC (.int 2147483629))) (dC (.int 48271))) (dOp2 f_mul (dOp2 f_ix (dVar 0) (dC (.int 2))) (dC (.int 69621)))) (dC (.int 12345))) (dC (.int 2147483647))) (gtName 2)) (sSeq (sAsg (dOp2 f_mod (dOp2 f_add (dOp2 f_mul (dVar 2) (dVar 2)) (dOp2 f_mul (dOp2 f_ix (dVar 0) (dC (.int 2))) (dC (.int 40692)))) (dC (.int 2147483587))) (gtName 3)) (sRet (dOp2 f_mod (dOp2 f_div (dOp2 f_add (dOp2 f_mul (dVar 2) (dC (.int 2147483587))) (dVar 3)) (dC (.int 32))) (dVar 1))))))
def F__law_pick : Fn := fnRes d__law_pick 5
end LW
namespace LW
def b__law_slow_1 : SD := sSeq (sAsg (dOp2 f_mul (dOp2 f_sub (dB f_len [dVar 2]) (dVar 4)) (dC (.int 100))) (gtName 6)) (sAsg (dOp2 f_add (dVar 3) (dLC (DL.iRng1 (dB f_max [dC (.int 1), dOp2 f_sub (dVar 5) (dB f_int [dOp2 f_eq (dCall LW.F__law_pick [(true, dVar 0), (false, dC (.int 9))]) (dC (.int 0))])])) (gtName 7) dYes (dOp2 f_add (dVar 6) (dVar 7)) [7])) (gtName 3))
def d__law_slow : SD := sSeq (sAsg (dSl (dLst [dC (.int 2), dC (.int 1), dC (.int 2), dC (.int 3), dC (.int 5), dC (.int 8), dC (.int 13), dC (.int 21), dC (.int 34)]) none (some (dOp2 f_add (dC (.int 2)) (dCall LW.F__law_pick [(true, dVar 0), (false, dC (.int 8))])))) (gtName 2)) (sSeq (sAsg (dLst []) (gtName 3)) (sSeq (sFor (iEnumD (dOp1 f_rev (dVar 2))) (gtTup (gtCons (gtName 4) (gtCons (gtName 5) gtNil)) 2) b__law_slow_1) (sSeq (sAsg (dSl (dVar 3) (some (dB f_max [dC (.int 0), dOp2 f_sub (dB f_len [dVar 3]) (dVar 1)])) none) (gtName 3)) (sRet (dOp2 f_add (dVar 3) (dLC (DL.iRng1 (dOp2 f_sub (dVar 1) (dB f_len [dVar 3]))) (gtName 4) dYes (dOp2 f_sub (dC (.int 0)) (dCall LW.F__law_pick [(true, dVar 0), (false, dC (.int 4))])) [4]))))))
def F__law_slow : Fn := fnRes d__law_slow 8
end LW
namespace LW
def d__law_row : SD := sSeq (sAsg (dOp2 f_add (dC (.int 1)) (dCall LW.F__law_pick [(true, dVar 0), (true, dVar 1)])) (gtName 2)) (sSeq (sAsg (dCall LW.F__law_pick [(true, dVar 0), (false, dC (.int 8))]) (gtName 3)) (sSeq (sAsg (dOp2 f_ix (dLst [dC (.int 2), dC (.int 3), dVar 2, dC (.int 1), dC (.int 7), dOp2 f_add (dOp2 f_mul (dC (.int 2)) (dOp2 f_pow (dC (.int 10)) (dC (.int 30)))) (dC (.int 1)), dOp2 f_pow (dC (.int 10)) (dC (.int 9)), dC (.int 2)]) (dVar 3)) (gtName 4)) (sSeq (sAsg (dOp2 f_ix (dLst [dC (.int 0), dOp2 f_sub (dC (.int 0)) (dC (.int 1)), dC (.int 0), dC (.int 5), dOp2 f_sub (dC (.int 0)) (dC (.int 3)), dOp2 f_sub (dC (.int 0)) (dOp2 f_pow (dC (.int 10)) (dC (.int 30))), dC (.int 0), dOp2 f_sub (dOp2 f_pow (dC (.int 10)) (dC (.int 30))) (dC (.int 1))]) (dVar 3)) (gtName 5)) (sSeq (sAsg (dLC (DL.iRng1 (dVar 2)) (gtName 8) dYes (dOp2 f_add (dVar 5) (dCall LW.F__law_pick [(true, dVar 0), (true, dVar 4)])) [8]) (gtName 6)) (sSeq (sAsg (dCall LW.F__law_pick [(true, dVar 0), (false, dC (.int 8))]) (gtName 7)) (sSeq (sIf (dOp2 f_eq (dVar 7) (dC (.int 0))) (sAsg (dB f_sortedI [dVar 6]) (gtName 6)) sNil) (sSeq (sIf (dOp2 f_eq (dVar 7) (dC (.int 1))) (sAsg (dOp1 f_rev (dB f_sortedI [dVar 6])) (gtName 6)) sNil) (sSeq (sIf (dAnd (dOp2 f_lt (dVar 7) (dC (.int 4))) (dOp2 f_gt (dVar 7) (dC (.int 1)))) (sAsg (dCall LW.F__law_slow [(true, dVar 0), (true, dVar 2)]) (gtName 6)) sNil) (sRet (dB f_tuple [dVar 6]))))))))))
def F__law_row : Fn := fnRes d__law_row 9
end LW
namespace LW
def b__law_blocks_1 : SD := sIf (dAnd (dOp2 f_ne (dVar 2) (dLst [])) (dAnd (dOp2 f_eq (dOp2 f_ix (dOp2 f_ix (dVar 2) (dOp1 f_neg (dC (.int 1)))) (dC (.int 0))) (dVar 3)) (dOp2 f_gt (dCall LW.F__law_pick [(true, dVar 0), (false, dC (.int 3))]) (dC (.int 0))))) (sAsg (dTup [dVar 3, dOp2 f_add (dOp2 f_ix (dOp2 f_ix (dVar 2) (dOp1 f_neg (dC (.int 1)))) (dC (.int 1))) (dC (.int 1))]) (gtSub 2 (dOp1 f_neg (dC (.int 1))))) (sDrop (dMutM 2 [dTup [dVar 3, dC (.int 1)]] f_append))
def d__law_blocks : SD := sSeq (sAsg (dLst []) (gtName 2)) (sSeq (sFor (iSeq (dVar 1)) (gtName 3) b__law_blocks_1) (sRet (dB f_tuple [dVar 2])))
def F__law_blocks : Fn := fnRes d__law_blocks 4
end LW
namespace SP
def d_is_int : SD := sRet (dAnd (dIsi .int (dVar 0)) (dNot (dIsi .bool (dVar 0))))
def F_is_int : Fn := fnRes d_is_int 1
end SP
namespace SP
def d_in_range : SD := sRet (dAnd (dCall SP.F_is_int [(true, dVar 0)]) (dChain f_le f_le (dVar 1) (dVar 0) (dVar 2)))
def F_in_range : Fn := fnRes d_in_range 3
end SP
namespace SP
def d_is_entry : SD := sRet (dCall SP.F_in_range [(true, dVar 0), (false, dOp1 f_neg (dC (.int 1000000000000000000000000000000))), (false, dC (.int 1000000000000000000000000000000))])
def F_is_entry : Fn := fnRes d_is_entry 1
end SP
namespace SP
def d_is_row : SD := sSeq (sIf (dOr (dNot (dIsi .tuple (dVar 0))) (dNot (dChain f_le f_le (dC (.int 1)) (dB f_len [dVar 0]) (dC (.int 100))))) (sRet (dC (.bool false))) sNil) (sRet (dB f_all [dLC (iSeq (dVar 0)) (gtName 1) dYes (dCall SP.F_is_entry [(true, dVar 1)]) [1]]))
def F_is_row : Fn := fnRes d_is_row 2
end SP
namespace SP
def d_require_row : SD := sIf (dNot (dCall SP.F_is_row [(true, dVar 0)])) (sRaise 1) sNil
def F_require_row : Fn := fnRes d_require_row 1
end SP
namespace SP
def d_require_rounds : SD := sIf (dNot (dCall SP.F_in_range [(true, dVar 0), (true, dVar 1), (true, dVar 2)])) (sRaise 3) sNil
def F_require_rounds : Fn := fnRes d_require_rounds 3
end SP
namespace SP
def c_hinderers_in_1 : M Val := dAnd (dOp2 f_ne (dVar 2) (dLst [])) (dOp2 f_lt (dOp2 f_ix (dVar 0) (dOp2 f_ix (dVar 2) (dOp1 f_neg (dC (.int 1))))) (dVar 4))
def b_hinderers_in_2 : SD := sDrop (dMutM 2 [] f_pop)
def b_hinderers_in_3 : SD := sSeq (sWhile 100000 c_hinderers_in_1 b_hinderers_in_2) (sSeq (sDrop (dMutM 1 [dIf (dOp2 f_ne (dVar 2) (dLst [])) (dOp2 f_ix (dVar 2) (dOp1 f_neg (dC (.int 1)))) (dC .none)] f_append)) (sDrop (dMutM 2 [dVar 3] f_append)))
def d_hinderers_in : SD := sSeq (sAsg (dLst []) (gtName 1)) (sSeq (sAsg (dLst []) (gtName 2)) (sSeq (sFor (iEnumD (dVar 0)) (gtTup (gtCons (gtName 3) (gtCons (gtName 4) gtNil)) 2) b_hinderers_in_3) (sRet (dVar 1))))
def F_hinderers_in : Fn := fnRes d_hinderers_in 5
end SP
namespace SP
def d_spans_in : SD := sRet (dB f_tuple [dLC (iEnumD (dCall SP.F_hinderers_in [(true, dVar 0)])) (gtTup (gtCons (gtName 1) (gtCons (gtName 2) gtNil)) 2) dYes (dIf (dOp2 f_isN (dVar 2) (dC .none)) (dOp2 f_add (dVar 1) (dC (.int 1))) (dOp2 f_sub (dVar 1) (dVar 2))) [1, 2]])
def F_spans_in : Fn := fnRes d_spans_in 3
end SP
namespace SP
def b_after_in_1 : SD := sAsg (dCall SP.F_spans_in [(true, dVar 0)]) (gtName 0)
def d_after_in : SD := sSeq (sFor (DL.iRng1 (dB f_min [dVar 1, dB f_len [dVar 0]])) (gtName 2) b_after_in_1) (sRet (dVar 0))
def F_after_in : Fn := fnRes d_after_in 3
end SP
namespace SP
def d_row_after : SD := sSeq (sDrop (dCall SP.F_require_row [(true, dVar 0)])) (sSeq (sDrop (dCall SP.F_require_rounds [(true, dVar 1), (false, dC (.int 0)), (false, dC (.int 1000000000000000000000000000000))])) (sRet (dCall SP.F_after_in [(true, dVar 0), (true, dVar 1)])))
def F_row_after : Fn := fnRes d_row_after 2
end SP
namespace SP
def d_is_block : SD := sSeq (sIf (dOr (dNot (dIsi .tuple (dVar 0))) (dOp2 f_ne (dB f_len [dVar 0]) (dC (.int 2)))) (sRet (dC (.bool false))) sNil) (sRet (dAnd (dCall SP.F_is_entry [(false, dOp2 f_ix (dVar 0) (dC (.int 0)))]) (dCall SP.F_in_range [(false, dOp2 f_ix (dVar 0) (dC (.int 1))), (false, dC (.int 1)), (false, dC (.int 10000000000000000000000000000))])))
def F_is_block : Fn := fnRes d_is_block 1
end SP
namespace SP
def d_is_blocks : SD := sSeq (sIf (dOr (dNot (dIsi .tuple (dVar 0))) (dNot (dChain f_le f_le (dC (.int 1)) (dB f_len [dVar 0]) (dC (.int 200))))) (sRet (dC (.bool false))) sNil) (sRet (dB f_all [dLC (iSeq (dVar 0)) (gtName 1) dYes (dCall SP.F_is_block [(true, dVar 1)]) [1]]))
def F_is_blocks : Fn := fnRes d_is_blocks 2
end SP
namespace SP
def d_require_blocks : SD := sIf (dNot (dCall SP.F_is_blocks [(true, dVar 0)])) (sRaise 14) sNil
def F_require_blocks : Fn := fnRes d_require_blocks 1
end SP
namespace SP
def b_merged_1 : SD := sIf (dAnd (dOp2 f_ne (dVar 1) (dLst [])) (dOp2 f_eq (dOp2 f_ix (dOp2 f_ix (dVar 1) (dOp1 f_neg (dC (.int 1)))) (dC (.int 0))) (dVar 2))) (sAsg (dTup [dVar 2, dOp2 f_add (dOp2 f_ix (dOp2 f_ix (dVar 1) (dOp1 f_neg (dC (.int 1)))) (dC (.int 1))) (dVar 3)]) (gtSub 1 (dOp1 f_neg (dC (.int 1))))) (sDrop (dMutM 1 [dTup [dVar 2, dVar 3]] f_append))
def d_merged : SD := sSeq (sAsg (dLst []) (gtName 1)) (sSeq (sFor (iSeq (dVar 0)) (gtTup (gtCons (gtName 2) (gtCons (gtName 3) gtNil)) 2) b_merged_1) (sRet (dVar 1)))
def F_merged : Fn := fnRes d_merged 4
end SP
namespace SP
def c_round_of_runs_1 : M Val := dAnd (dOp2 f_ne (dVar 2) (dLst [])) (dOp2 f_lt (dOp2 f_ix (dOp2 f_ix (dVar 2) (dOp1 f_neg (dC (.int 1)))) (dC (.int 0))) (dVar 3))
def b_round_of_runs_2 : SD := sAug 5 f_addI (dOp2 f_ix (dMutM 2 [] f_pop) (dC (.int 1)))
def b_round_of_runs_3 : SD := sSeq (sAsg (dC (.int 0)) (gtName 5)) (sSeq (sWhile 100000 c_round_of_runs_1 b_round_of_runs_2) (sSeq (sDrop (dMutM 2 [dTup [dVar 3, dOp2 f_add (dVar 5) (dVar 4)]] f_append)) (sSeq (sDrop (dMutM 1 [dTup [dOp2 f_add (dVar 5) (dC (.int 1)), dC (.int 1)]] f_append)) (sIf (dOp2 f_gt (dVar 4) (dC (.int 1))) (sDrop (dMutM 1 [dTup [dC (.int 1), dOp2 f_sub (dVar 4) (dC (.int 1))]] f_append)) sNil))))
def d_round_of_runs : SD := sSeq (sAsg (dLst []) (gtName 1)) (sSeq (sAsg (dLst []) (gtName 2)) (sSeq (sFor (iSeq (dVar 0)) (gtTup (gtCons (gtName 3) (gtCons (gtName 4) gtNil)) 2) b_round_of_runs_3) (sRet (dCall SP.F_merged [(false, dVar 1)]))))
def F_round_of_runs : Fn := fnRes d_round_of_runs 6
end SP
namespace SP
def c_settled_runs_1 : M Val := dOp2 f_lt (dVar 2) (dVar 1)
def b_settled_runs_2 : SD := sSeq (sAsg (dCall SP.F_round_of_runs [(false, dVar 0)]) (gtName 3)) (sSeq (sIf (dOp2 f_eq (dVar 3) (dVar 0)) sBk sNil) (sSeq (sAsg (dVar 3) (gtName 0)) (sAug 2 f_addI (dC (.int 1)))))
def d_settled_runs : SD := sSeq (sAsg (dC (.int 0)) (gtName 2)) (sSeq (sWhile 100000 c_settled_runs_1 b_settled_runs_2) (sRet (dTup [dVar 0, dVar 2])))
def F_settled_runs : Fn := fnRes d_settled_runs 4
end SP
namespace SP
def d_long_after : SD := sSeq (sDrop (dCall SP.F_require_blocks [(true, dVar 0)])) (sSeq (sDrop (dCall SP.F_require_rounds [(true, dVar 1), (false, dC (.int 0)), (false, dC (.int 1000000000000000000000000000000))])) (sRet (dB f_tuple [dOp2 f_ix (dCall SP.F_settled_runs [(false, dCall SP.F_merged [(false, dVar 0)]), (true, dVar 1)]) (dC (.int 0))])))
def F_long_after : Fn := fnRes d_long_after 2
end SP
namespace LW
def b__law_runs_1 : SD := sIf (dAnd (dOp2 f_ne (dVar 1) (dLst [])) (dOp2 f_eq (dOp2 f_ix (dOp2 f_ix (dVar 1) (dOp1 f_neg (dC (.int 1)))) (dC (.int 0))) (dVar 2))) (sAsg (dTup [dVar 2, dOp2 f_add (dOp2 f_ix (dOp2 f_ix (dVar 1) (dOp1 f_neg (dC (.int 1)))) (dC (.int 1))) (dC (.int 1))]) (gtSub 1 (dOp1 f_neg (dC (.int 1))))) (sDrop (dMutM 1 [dTup [dVar 2, dC (.int 1)]] f_append))
def d__law_runs : SD := sSeq (sAsg (dLst []) (gtName 1)) (sSeq (sFor (iSeq (dVar 0)) (gtName 2) b__law_runs_1) (sRet (dB f_tuple [dVar 1])))
def F__law_runs : Fn := fnRes d__law_runs 3
end LW
namespace SP
def d_long_needed : SD := sSeq (sDrop (dCall SP.F_require_blocks [(true, dVar 0)])) (sRet (dOp2 f_ix (dCall SP.F_settled_runs [(false, dCall SP.F_merged [(false, dVar 0)]), (false, dC (.int 1000000000000000000000000000000))]) (dC (.int 1))))
def F_long_needed : Fn := fnRes d_long_needed 1
end SP
namespace SP
def c_rows_in_1 : M Val := dOp2 f_ne (dVar 2) (dOp2 f_ix (dVar 1) (dOp1 f_neg (dC (.int 1))))
def b_rows_in_2 : SD := sSeq (sDrop (dMutM 1 [dVar 2] f_append)) (sAsg (dCall SP.F_spans_in [(true, dVar 2)]) (gtName 2))
def d_rows_in : SD := sSeq (sAsg (dLst [dVar 0]) (gtName 1)) (sSeq (sAsg (dCall SP.F_spans_in [(true, dVar 0)]) (gtName 2)) (sSeq (sWhile 100000 c_rows_in_1 b_rows_in_2) (sRet (dVar 1))))
def F_rows_in : Fn := fnRes d_rows_in 3
end SP
namespace SP
def d_needed_in : SD := sRet (dOp2 f_sub (dB f_len [dCall SP.F_rows_in [(true, dVar 0)]]) (dC (.int 1)))
def F_needed_in : Fn := fnRes d_needed_in 1
end SP
namespace SP
def d_rounds_needed : SD := sSeq (sDrop (dCall SP.F_require_row [(true, dVar 0)])) (sRet (dCall SP.F_needed_in [(true, dVar 0)]))
def F_rounds_needed : Fn := fnRes d_rounds_needed 1
end SP
namespace SP
def b_long_entry_1 : SD := sSeq (sIf (dOp2 f_lt (dVar 1) (dVar 4)) sBk sNil) (sAug 1 f_sub (dVar 4))
def d_long_entry : SD := sSeq (sDrop (dCall SP.F_require_blocks [(true, dVar 0)])) (sSeq (sIf (dNot (dCall SP.F_in_range [(true, dVar 1), (false, dC (.int 0)), (false, dOp2 f_sub (dB f_sum [dLC (iSeq (dVar 0)) (gtTup (gtCons (gtName 3) (gtCons (gtName 4) gtNil)) 2) dYes (dVar 4) [3, 4]]) (dC (.int 1)))])) (sRaise 2) sNil) (sSeq (sDrop (dCall SP.F_require_rounds [(true, dVar 2), (false, dC (.int 0)), (false, dC (.int 1000000000000000000000000000000))])) (sSeq (sFor (iSeq (dOp2 f_ix (dCall SP.F_settled_runs [(false, dCall SP.F_merged [(false, dVar 0)]), (true, dVar 2)]) (dC (.int 0)))) (gtTup (gtCons (gtName 3) (gtCons (gtName 4) gtNil)) 2) b_long_entry_1) (sRet (dVar 3)))))
def F_long_entry : Fn := fnRes d_long_entry 5
end SP
namespace SP
def d_long_count : SD := sSeq (sDrop (dCall SP.F_require_blocks [(true, dVar 0)])) (sSeq (sIf (dNot (dCall SP.F_is_int [(true, dVar 1)])) (sRaise 15) sNil) (sSeq (sDrop (dCall SP.F_require_rounds [(true, dVar 2), (false, dC (.int 0)), (false, dC (.int 1000000000000000000000000000000))])) (sRet (dB f_sum [dLC (iSeq (dOp2 f_ix (dCall SP.F_settled_runs [(false, dCall SP.F_merged [(false, dVar 0)]), (true, dVar 2)]) (dC (.int 0)))) (gtTup (gtCons (gtName 3) (gtCons (gtName 4) gtNil)) 2) (tst (dOp2 f_eq (dVar 3) (dVar 1))) (dVar 4) [3, 4]]))))
def F_long_count : Fn := fnRes d_long_count 5
end SP
namespace LW
def d__law_small_right : SD := sSeq (sAsg (dCall LW.F__law_blocks [(true, dVar 0), (true, dVar 1)]) (gtName 2)) (sSeq (sAsg (dOp2 f_ix (dLst [dCall LW.F__law_pick [(true, dVar 0), (false, dC (.int 12))], dCall LW.F__law_pick [(true, dVar 0), (false, dOp2 f_pow (dC (.int 10)) (dC (.int 30)))]]) (dCall LW.F__law_pick [(true, dVar 0), (false, dC (.int 2))])) (gtName 3)) (sSeq (sAsg (dCall SP.F_row_after [(true, dVar 1), (true, dVar 3)]) (gtName 4)) (sSeq (sIf (dOr (dOp2 f_ne (dCall SP.F_long_after [(true, dVar 2), (true, dVar 3)]) (dCall LW.F__law_runs [(true, dVar 4)])) (dOp2 f_ne (dCall SP.F_long_needed [(true, dVar 2)]) (dCall SP.F_rounds_needed [(true, dVar 1)]))) (sRet (dC (.bool false))) sNil) (sSeq (sAsg (dCall LW.F__law_pick [(true, dVar 0), (false, dB f_len [dVar 1])]) (gtName 5)) (sSeq (sIf (dOp2 f_ne (dCall SP.F_long_entry [(true, dVar 2), (true, dVar 5), (true, dVar 3)]) (dOp2 f_ix (dVar 4) (dVar 5))) (sRet (dC (.bool false))) sNil) (sRet (dOp2 f_eq (dCall SP.F_long_count [(true, dVar 2), (false, dOp2 f_ix (dVar 4) (dVar 5)), (true, dVar 3)]) (dMt f_tcount (dVar 4) (dOp2 f_ix (dVar 4) (dVar 5))))))))))
def F__law_small_right : Fn := fnRes d__law_small_right 6
end LW
namespace LW
def c__law_great_right_1 : M Val := dAnd (dOp2 f_ge (dOp2 f_sub (dVar 6) (dVar 7)) (dC (.int 0))) (dOp2 f_lt (dOp2 f_ix (dOp2 f_ix (dVar 3) (dOp2 f_sub (dVar 6) (dVar 7))) (dC (.int 0))) (dOp2 f_ix (dOp2 f_ix (dVar 3) (dVar 6)) (dC (.int 0))))
def b__law_great_right_2 : SD := sAsg (dOp2 f_add (dVar 7) (dC (.int 1))) (gtName 7)
def b__law_great_right_3 : SD := sSeq (sAsg (dC (.int 1)) (gtName 7)) (sSeq (sWhile 100000 c__law_great_right_1 b__law_great_right_2) (sSeq (sIf (dOr (dOp2 f_ne (dCall (withInt SP.F_long_entry 1) [(true, dVar 4), (true, dVar 5)]) (dOp2 f_add (dC (.int 1)) (dOp2 f_mul (dOp2 f_sub (dVar 7) (dC (.int 1))) (dVar 2)))) (dOp2 f_ne (dCall (withInt SP.F_long_entry 1) [(true, dVar 4), (false, dOp2 f_sub (dOp2 f_add (dVar 5) (dVar 2)) (dC (.int 1)))]) (dC (.int 1)))) (sRet (dC (.bool false))) sNil) (sAsg (dOp2 f_add (dVar 5) (dVar 2)) (gtName 5))))
def d__law_great_right : SD := sSeq (sAsg (dOp2 f_add (dC (.int 2)) (dCall LW.F__law_pick [(true, dVar 0), (false, dOp2 f_sub (dOp2 f_pow (dC (.int 10)) (dC (.int 28))) (dC (.int 2)))])) (gtName 2)) (sSeq (sAsg (dSl (dCall LW.F__law_runs [(true, dVar 1)]) none (some (dC (.int 60)))) (gtName 3)) (sSeq (sAsg (dB f_tuple [dLC (iSeq (dVar 3)) (gtTup (gtCons (gtName 8) (gtCons (gtName 9) gtNil)) 2) dYes (dTup [dVar 8, dVar 2]) [8, 9]]) (gtName 4)) (sSeq (sAsg (dC (.int 0)) (gtName 5)) (sSeq (sFor (DL.iRng1 (dB f_len [dVar 3])) (gtName 6) b__law_great_right_3) (sRet (dC (.bool true)))))))
def F__law_great_right : Fn := fnRes d__law_great_right 10
end LW
namespace LW
def b_law_1 : SD := sSeq (sAsg (dCall LW.F__law_bag [(true, dVar 1)]) (gtName 2)) (sSeq (sAsg (dCall LW.F__law_row [(true, dVar 2), (false, dOp2 f_ix (dLst [dC (.int 6), dC (.int 30), dC (.int 100)]) (dCall LW.F__law_pick [(true, dVar 2), (false, dC (.int 3))]))]) (gtName 3)) (sIf (dOr (dNot (dCall LW.F__law_small_right [(true, dVar 2), (true, dVar 3)])) (dNot (dCall LW.F__law_great_right [(true, dVar 2), (true, dVar 3)]))) (sRet (dC (.bool false))) sNil))
def d_law : SD := sSeq (sFor (iSeq (dOp2 f_add (dSl (dVar 0) none (some (dC (.int 10)))) (dLst [dC (.int 0)]))) (gtName 1) b_law_1) (sRet (dC (.bool true)))
def F_law : Fn := fnRes d_law 4
end LW
end

section
set_option Elab.async false
set_option linter.all false
set_option maxRecDepth 100000
set_option maxHeartbeats 2000000
namespace DL
open PySem PySem.Spec PyProof.Rows L2
/-! ### how the denotations run: rewriting, the first part first -/
def Out.bd {α β : Type} (o : Out α) (f : α → Rho → Out β) : Out β := match o with
  | .ok a ρ => f a ρ
  | .exc c ρ => .exc c ρ
  | .stuck => .stuck
def Out.td {α : Type} (o : Out α) (f : α → Rho → SOut) : SOut := match o with
  | .ok a ρ => f a ρ
  | .exc c ρ => .exc c ρ
  | .stuck => .stuck
def optB {α β : Type} (o : Option α) (f : α → Out β) : Out β := match o with
  | some a => f a
  | none => .stuck
def optT {α : Type} (o : Option α) (f : α → SOut) : SOut := match o with
  | some a => f a
  | none => .stuck
def bIf {α : Type} (b : Bool) (x y : α) : α := match b with
  | true => x
  | false => y
def boolB {β : Type} (d : PyData) (f : Bool → Out β) : Out β := match d with
  | .bool b => f b
  | _ => .stuck
section
variable {α β : Type} {ρ ρ' : Rho}
theorem bd_congr {o o' : Out α} {f : α → Rho → Out β} (h : o = o') : o.bd f = o'.bd f := by rw [h]
theorem td_congr {o o' : Out α} {f : α → Rho → SOut} (h : o = o') : o.td f = o'.td f := by rw [h]
theorem optB_congr {o o' : Option α} {f : α → Out β} (h : o = o') : optB o f = optB o' f := by rw [h]
theorem optT_congr {o o' : Option α} {f : α → SOut} (h : o = o') : optT o f = optT o' f := by rw [h]
theorem bIf_congr {b b' : Bool} {x y : α} (h : b = b') : bIf b x y = bIf b' x y := by rw [h]
theorem boolB_congr {d d' : PyData} {f : Bool → Out β} (h : d = d') : boolB d f = boolB d' f := by rw [h]
theorem sThen_congr {o o' : SOut} {k : Rho → SOut} (h : o = o') : sThen o k = sThen o' k := by rw [h]
@[simp] theorem bd_ok (a : α) (f : α → Rho → Out β) : (Out.ok a ρ).bd f = f a ρ := rfl
@[simp] theorem bd_exc (c : Nat) (f : α → Rho → Out β) : (Out.exc c ρ : Out α).bd f = .exc c ρ := rfl
@[simp] theorem td_ok (a : α) (f : α → Rho → SOut) : (Out.ok a ρ).td f = f a ρ := rfl
@[simp] theorem td_exc (c : Nat) (f : α → Rho → SOut) : (Out.exc c ρ : Out α).td f = .exc c ρ := rfl
@[simp] theorem optB_some (a : α) (f : α → Out β) : optB (some a) f = f a := rfl
@[simp] theorem optT_some (a : α) (f : α → SOut) : optT (some a) f = f a := rfl
@[simp] theorem bIf_t (x y : α) : bIf true x y = x := rfl
@[simp] theorem bIf_f (x y : α) : bIf false x y = y := rfl
@[simp] theorem boolB_b (b : Bool) (f : Bool → Out β) : boolB (.bool b) f = f b := rfl
@[simp] theorem e_mbind (m : M α) (k : α → M β) : mbind m k ρ = (m ρ).bd fun a ρ' => k a ρ' := by unfold mbind Out.bd; cases m ρ <;> rfl
@[simp] theorem e_mpure (a : α) : mpure a ρ = .ok a ρ := rfl
@[simp] theorem e_sBind (m : M α) (k : α → SD) : sBind m k ρ = (m ρ).td fun a ρ' => k a ρ' := by unfold sBind Out.td; cases m ρ <;> rfl
@[simp] theorem e_sSeq (a b : SD) : sSeq a b ρ = sThen (a ρ) b := rfl
@[simp] theorem e_thenNx (b : SD) : sThen (.nx ρ) b = b ρ := rfl
@[simp] theorem e_thenRt (b : SD) (r : RV) : sThen (.rt r ρ) b = .rt r ρ := rfl
@[simp] theorem e_thenBk (b : SD) : sThen (.bk ρ) b = .bk ρ := rfl
@[simp] theorem e_thenCt (b : SD) : sThen (.ct ρ) b = .ct ρ := rfl
@[simp] theorem e_thenExc (b : SD) (c : Nat) : sThen (.exc c ρ) b = .exc c ρ := rfl
@[simp] theorem e_sNil : sNil ρ = .nx ρ := rfl
@[simp] theorem e_sBk : sBk ρ = .bk ρ := rfl
@[simp] theorem e_sCt : sCt ρ = .ct ρ := rfl
@[simp] theorem e_sDrop (d : M Val) : sDrop d ρ = (d ρ).td fun _ ρ' => .nx ρ' := by unfold sDrop; rw [e_sBind]
@[simp] theorem e_sRet (d : M Val) : sRet d ρ = (d ρ).td fun x ρ' => retV x ρ' := by unfold sRet; rw [e_sBind]
@[simp] theorem e_sRetN : sRetN ρ = .rt (.sh .none) ρ := rfl
@[simp] theorem e_retSh (d : PyData) : retV (.sh d) ρ = .rt (.sh d) ρ := rfl
@[simp] theorem e_retFr (d : List PyData) : retV (.fr d) ρ = .rt (.fr d) ρ := rfl
@[simp] theorem e_retFo (c : Nat) (d : List PyData) : retV (.fo c d) ρ = .rt (.fo c d) ρ := rfl
theorem e_retSl (i : Nat) : retV (.sl i) ρ = match ρ[i]? with | some (.ow xs) => .rt (.fr xs) (ρ.set i .no) | some (.sh d) => .rt (.sh d) ρ | some (.oo c xs) => .rt (.fo c xs) (ρ.set i .no) | _ => .stuck := by
  unfold retV
  rfl
@[simp] theorem e_tst (d : M Val) : tst d ρ = (d ρ).bd fun x ρ' => optB (look ρ' x) fun a => boolB a fun b => .ok b ρ' := by
  unfold tst
  rw [e_mbind]
  cases d ρ with
  | ok x ρ1 => show (match look ρ1 x with | some (.bool b) => Out.ok b ρ1 | _ => .stuck) = optB (look ρ1 x) _; cases look ρ1 x with
    | none => rfl
    | some a => cases a <;> rfl
  | _ => rfl
@[simp] theorem e_sIf (c : M Val) (a b : SD) : sIf c a b ρ = (tst c ρ).td fun k ρ' => bIf k a b ρ' := by
  unfold sIf
  rw [e_sBind]
  cases tst c ρ with
  | ok k ρ' => cases k <;> rfl
  | _ => rfl
@[simp] theorem e_sAsg (d : M Val) (g : Tg) : sAsg d g ρ = (d ρ).td fun x ρ' => gOpt (g x ρ') := by unfold sAsg; rw [e_sBind]
@[simp] theorem e_gOptS : gOpt (some ρ) = .nx ρ := rfl
@[simp] theorem e_lookSh (d : PyData) : look ρ (.sh d) = some d := rfl
@[simp] theorem e_lookFr (d : List PyData) : look ρ (.fr d) = some (.list d) := rfl
def slD : Sl → Option PyData
  | .ow xs => some (.list xs)
  | .bo xs => some (.list xs)
  | .sh d => some d
  | _ => none
@[simp] theorem slD_ow (xs : List PyData) : slD (.ow xs) = some (.list xs) := rfl
@[simp] theorem slD_bo (xs : List PyData) : slD (.bo xs) = some (.list xs) := rfl
@[simp] theorem slD_sh (d : PyData) : slD (.sh d) = some d := rfl
@[simp] theorem e_lookSl (i : Nat) : look ρ (.sl i) = (ρ[i]?).bind slD := by
  show (match ρ[i]? with | some (.ow xs) => some (PyData.list xs) | some (.bo xs) => some (PyData.list xs) | some (.sh d) => some d | _ => none) = _
  cases ρ[i]? with
  | none => rfl
  | some s => cases s <;> rfl
def slV (i : Nat) : Sl → Out Val → Out Val
  | .sh d, _ => .stuck
  | _, o => o
@[simp] theorem kp_sh (d : PyData) : kp (.sh d) = .sh d := rfl
@[simp] theorem kp_sl (i : Nat) : kp (.sl i) = .sl i := rfl
@[simp] theorem kp_fr (d : List PyData) : kp (.fr d) = .sh (.list d) := rfl
theorem var_sh {i : Nat} {d : PyData} (h : ρ[i]? = some (.sh d)) : dVar i ρ = .ok (.sh d) ρ := by unfold dVar; rw [h]
theorem var_ow {i : Nat} {d : List PyData} (h : ρ[i]? = some (.ow d)) : dVar i ρ = .ok (.sl i) ρ := by unfold dVar; rw [h]
theorem var_bo {i : Nat} {d : List PyData} (h : ρ[i]? = some (.bo d)) : dVar i ρ = .ok (.sl i) ρ := by unfold dVar; rw [h]
def varO (i : Nat) (ρ : Rho) : Sl → Out Val
  | .sh d => .ok (.sh d) ρ
  | .ow _ => .ok (.sl i) ρ
  | .bo _ => .ok (.sl i) ρ
  | .oo _ _ => .ok (.sl i) ρ
  | .ob _ _ => .ok (.sl i) ρ
  | .no => .stuck
@[simp] theorem varO_sh (i : Nat) (d : PyData) : varO i ρ (.sh d) = .ok (.sh d) ρ := rfl
@[simp] theorem varO_ow (i : Nat) (d : List PyData) : varO i ρ (.ow d) = .ok (.sl i) ρ := rfl
@[simp] theorem varO_bo (i : Nat) (d : List PyData) : varO i ρ (.bo d) = .ok (.sl i) ρ := rfl
@[simp] theorem varO_oo (i c : Nat) (d : List PyData) : varO i ρ (.oo c d) = .ok (.sl i) ρ := rfl
@[simp] theorem varO_ob (i c : Nat) (d : List PyData) : varO i ρ (.ob c d) = .ok (.sl i) ρ := rfl
@[simp] theorem e_dVar (i : Nat) : dVar i ρ = optB ρ[i]? fun s => varO i ρ s := by
  unfold dVar
  cases ρ[i]? with
  | none => rfl
  | some s => cases s <;> rfl
@[simp] theorem e_dC (d : PyData) : dC d ρ = .ok (.sh d) ρ := rfl
@[simp] theorem e_dOp1 (f : PyData → Option Res) (d : M Val) : dOp1 f d ρ = (d ρ).bd fun x ρ' => optB (look ρ' x) fun a => optB (f a) fun r => .ok (resV r) ρ' := by
  unfold dOp1
  rw [e_mbind]
  cases d ρ with
  | ok x ρ1 => show (match look ρ1 x with | some a => optOk (f a) ρ1 | none => .stuck) = optB (look ρ1 x) _; cases look ρ1 x with
    | none => rfl
    | some a => show optOk (f a) ρ1 = optB (f a) _; cases f a <;> rfl
  | _ => rfl
@[simp] theorem e_dOp2 (f : PyData → PyData → Option Res) (d e : M Val) : dOp2 f d e ρ = (d ρ).bd fun x ρ1 => (e ρ1).bd fun y ρ2 => optB (look ρ2 x) fun a => optB (look ρ2 y) fun b => optB (f a b) fun r => .ok (resV r) ρ2 := by
  unfold dOp2
  rw [e_mbind]
  cases d ρ with
  | ok x ρ1 =>
    show mbind e _ ρ1 = (e ρ1).bd _
    rw [e_mbind]
    cases e ρ1 with
    | ok y ρ2 =>
      show (match look ρ2 x, look ρ2 y with | some a, some b => optOk (f a b) ρ2 | _, _ => .stuck) = optB (look ρ2 x) _
      cases look ρ2 x with
      | none => rfl
      | some a =>
        cases look ρ2 y with
        | none => rfl
        | some b => show optOk (f a b) ρ2 = optB (f a b) _; cases f a b <;> rfl
    | _ => rfl
  | _ => rfl
@[simp] theorem e_resV (d : PyData) : resV (.val d) = .sh d := rfl
@[simp] theorem e_resL (d : List PyData) : resV (.nl d) = .fr d := rfl
@[simp] theorem e_resT (d : List PyData) : resV (.nt d) = .sh (.tuple d) := rfl
@[simp] theorem e_dAnd (a b : M Val) : dAnd a b ρ = (tst a ρ).bd fun k ρ' => bIf k b (mpure (.sh (.bool false))) ρ' := by
  unfold dAnd
  rw [e_mbind]
  cases tst a ρ with
  | ok k ρ' => cases k <;> rfl
  | _ => rfl
@[simp] theorem e_dOr (a b : M Val) : dOr a b ρ = (tst a ρ).bd fun k ρ' => bIf k (mpure (.sh (.bool true))) b ρ' := by
  unfold dOr
  rw [e_mbind]
  cases tst a ρ with
  | ok k ρ' => cases k <;> rfl
  | _ => rfl
@[simp] theorem e_dNot (a : M Val) : dNot a ρ = (tst a ρ).bd fun k ρ' => .ok (.sh (.bool !k)) ρ' := by unfold dNot; rw [e_mbind]; rfl
@[simp] theorem e_dIf (c a b : M Val) : dIf c a b ρ = (tst c ρ).bd fun k ρ' => bIf k a b ρ' := by
  unfold dIf
  rw [e_mbind]
  cases tst c ρ with
  | ok k ρ' => cases k <;> rfl
  | _ => rfl
def valB {β : Type} (r : Res) (f : Bool → Out β) : Out β := match r with
  | .val (.bool b) => f b
  | _ => .stuck
theorem valB_congr {r r' : Res} {f : Bool → Out β} (h : r = r') : valB r f = valB r' f := by rw [h]
@[simp] theorem valB_b (b : Bool) (f : Bool → Out β) : valB (.val (.bool b)) f = f b := rfl
@[simp] theorem e_dChain (f f' : PyData → PyData → Option Res) (d e c : M Val) : dChain f f' d e c ρ = (d ρ).bd fun x ρ1 => (e ρ1).bd fun y ρ2 => optB (look ρ2 x) fun a => optB (look ρ2 y) fun b => optB (f a b) fun r => valB r fun k => bIf k
    ((c ρ2).bd fun z ρ3 => optB (look ρ3 (kp y)) fun b => optB (look ρ3 z) fun c => optB (f' b c) fun r => .ok (resV r) ρ3) (.ok (.sh (.bool false)) ρ2) := by
  unfold dChain
  rw [e_mbind]
  cases d ρ with
  | ok x ρ1 =>
    show mbind e _ ρ1 = (e ρ1).bd _
    rw [e_mbind]
    cases e ρ1 with
    | ok y ρ2 =>
      show (match look ρ2 x, look ρ2 y with | some a, some b => _ | _, _ => .stuck) = optB (look ρ2 x) _
      cases look ρ2 x with
      | none => rfl
      | some a =>
        cases look ρ2 y with
        | none => rfl
        | some b =>
          show (match f a b with | some (.val (.bool true)) => _ | some (.val (.bool false)) => _ | _ => .stuck) = optB (f a b) _
          cases f a b with
          | none => rfl
          | some r =>
            cases r with
            | nl xs => rfl
            | nt xs => rfl
            | val d =>
              cases d with
              | bool k =>
                cases k with
                | false => rfl
                | true =>
                  show mbind c _ ρ2 = (c ρ2).bd _
                  rw [e_mbind]
                  cases c ρ2 with
                  | ok z ρ3 =>
                    show (match look ρ3 (kp y), look ρ3 z with | some b, some c => optOk (f' b c) ρ3 | _, _ => .stuck) = optB (look ρ3 (kp y)) _
                    cases look ρ3 (kp y) with
                    | none => rfl
                    | some b =>
                      cases look ρ3 z with
                      | none => rfl
                      | some cc => show optOk (f' b cc) ρ3 = optB (f' b cc) _; cases f' b cc <;> rfl
                  | _ => rfl
              | _ => rfl
    | _ => rfl
  | _ => rfl
/-! values that are shared -/
@[simp] theorem e_shrSh (d : PyData) : shr (.sh d) ρ = .ok d ρ := rfl
@[simp] theorem e_shrFr (d : List PyData) : shr (.fr d) ρ = .ok (.list d) ρ := rfl
def shrO (i : Nat) (ρ : Rho) : Sl → Out PyData
  | .ow xs => .ok (.list xs) (ρ.set i (.sh (.list xs)))
  | .sh d => .ok d ρ
  | _ => .stuck
@[simp] theorem shrO_ow (i : Nat) (xs : List PyData) : shrO i ρ (.ow xs) = .ok (.list xs) (ρ.set i (.sh (.list xs))) := rfl
@[simp] theorem shrO_sh (i : Nat) (d : PyData) : shrO i ρ (.sh d) = .ok d ρ := rfl
@[simp] theorem e_shrSl (i : Nat) : shr (.sl i) ρ = optB ρ[i]? fun s => shrO i ρ s := by
  show (match ρ[i]? with | some (.ow xs) => Out.ok (PyData.list xs) (ρ.set i (.sh (.list xs))) | some (.sh d) => .ok d ρ | _ => .stuck) = _
  cases ρ[i]? with
  | none => rfl
  | some s => cases s <;> rfl
@[simp] theorem e_evS0 : evS [] ρ = .ok [] ρ := rfl
@[simp] theorem e_evS1 (d : M Val) (r : List (M Val)) : evS (d :: r) ρ = (d ρ).bd fun x ρ1 => (shr x ρ1).bd fun a ρ2 => (evS r ρ2).bd fun as ρ3 => .ok (a :: as) ρ3 := by
  show mbind d _ ρ = _
  rw [e_mbind]
  cases d ρ with
  | ok x ρ1 =>
    show mbind (shr x) _ ρ1 = (shr x ρ1).bd _
    rw [e_mbind]
    cases shr x ρ1 with
    | ok a ρ2 =>
      show mbind (evS r) _ ρ2 = (evS r ρ2).bd _
      rw [e_mbind]
      rfl
    | _ => rfl
  | _ => rfl
@[simp] theorem e_evL0 : evL [] ρ = .ok [] ρ := rfl
@[simp] theorem e_evL1 (d : M Val) (r : List (M Val)) : evL (d :: r) ρ = (d ρ).bd fun x ρ1 => (evL r ρ1).bd fun as ρ3 => .ok (kp x :: as) ρ3 := by
  show mbind d _ ρ = _
  rw [e_mbind]
  cases d ρ with
  | ok x ρ1 =>
    show mbind (evL r) _ ρ1 = (evL r ρ1).bd _
    rw [e_mbind]
    rfl
  | _ => rfl
@[simp] theorem e_lookL0 : lookL ρ [] = some [] := rfl
@[simp] theorem e_lookL1 (x : Val) (r : List Val) : lookL ρ (x :: r) = (look ρ x).bind fun a => (lookL ρ r).bind fun as => some (a :: as) := by
  show (match look ρ x, lookL ρ r with | some a, some as => some (a :: as) | _, _ => none) = _
  cases look ρ x with
  | none => rfl
  | some a => cases lookL ρ r <;> rfl
@[simp] theorem e_dB (f : List PyData → Option Res) (ds : List (M Val)) : dB f ds ρ = (evL ds ρ).bd fun xs ρ' => optB (lookL ρ' xs) fun as => optB (f as) fun r => .ok (resV r) ρ' := by
  unfold dB
  rw [e_mbind]
  cases evL ds ρ with
  | ok x ρ1 =>
    show (match lookL ρ1 x with | some as => optOk (f as) ρ1 | none => .stuck) = optB (lookL ρ1 x) _
    cases lookL ρ1 x with
    | none => rfl
    | some a => show optOk (f a) ρ1 = optB (f a) _; cases f a <;> rfl
  | _ => rfl
@[simp] theorem e_dLst (ds : List (M Val)) : dLst ds ρ = (evS ds ρ).bd fun as ρ' => if as.length ≤ 100000 then .ok (.fr as) ρ' else .stuck := by unfold dLst; rw [e_mbind]
@[simp] theorem e_dTup (ds : List (M Val)) : dTup ds ρ = (evS ds ρ).bd fun as ρ' => if as.length ≤ 100000 then .ok (.sh (.tuple as)) ρ' else .stuck := by unfold dTup; rw [e_mbind]
/-! targets -/
@[simp] theorem e_gtName (i : Nat) (x : Val) : gtName i x ρ = stI i x ρ := rfl
@[simp] theorem e_stSh (i : Nat) (d : PyData) : stI i (.sh d) ρ = if notBo ρ[i]? = true then some (ρ.set i (.sh d)) else none := rfl
@[simp] theorem e_stFo (i c : Nat) (d : List PyData) : stI i (.fo c d) ρ = if notBo ρ[i]? = true then some (ρ.set i (.oo c d)) else none := rfl
@[simp] theorem nb_oo (c : Nat) (d : List PyData) : notBo (some (.oo c d)) = true := rfl
@[simp] theorem e_stFr (i : Nat) (d : List PyData) : stI i (.fr d) ρ = if notBo ρ[i]? = true then some (ρ.set i (.ow d)) else none := rfl
@[simp] theorem nb_no : notBo (some .no) = true := rfl
@[simp] theorem nb_sh (d : PyData) : notBo (some (.sh d)) = true := rfl
@[simp] theorem nb_ow (d : List PyData) : notBo (some (.ow d)) = true := rfl
theorem e_stSl (i j : Nat) : stI i (.sl j) ρ = if notBo ρ[i]? = true then (if j = i then none else match ρ[j]? with | some (.ow xs) => some ((ρ.set j (.sh (.list xs))).set i (.sh (.list xs))) | some (.sh d) => some (ρ.set i (.sh d)) | _ => none) else none := rfl
@[simp] theorem e_gtNil : gtNil [] ρ = some ρ := rfl
@[simp] theorem e_gtCons (g : Tg) (gs : Tgs) (x : PyData) (r : List PyData) : gtCons g gs (x :: r) ρ = (g (.sh x) ρ).bind fun ρ' => gs r ρ' := by
  show (match g (.sh x) ρ with | some ρ' => gs r ρ' | none => none) = _
  cases g (.sh x) ρ <;> rfl
@[simp] theorem e_gtTup (gs : Tgs) (n : Nat) (xs : List PyData) : gtTup gs n (.sh (.tuple xs)) ρ = if xs.length = n then gs xs ρ else none := rfl
def subO (di : M Val) (i : Nat) (d : PyData) (ρ1 : Rho) : Option Rho := match lsOf ρ1[i]? with
    | some _ => (match di ρ1 with
      | .ok y ρ2 => (match look ρ2 y, lsOf ρ2[i]? with
        | some (.int k), some (b, xs) => (ixN xs.length k).map fun j => ρ2.set i (setSl b (xs.set j d))
        | _, _ => none)
      | _ => none)
    | none => none
theorem gtSub_ow {i : Nat} {di : M Val} {d : PyData} {xs : List PyData} {k : Int} {j : Nat} (h1 : ρ[i]? = some (.ow xs)) (h2 : di ρ = .ok (.sh (.int k)) ρ) (h3 : ixN xs.length k = some j) : gtSub i di (.sh d) ρ = some (ρ.set i (.ow (xs.set j d))) := by
  unfold gtSub
  simp only [e_shrSh, h1, h2, lsOf, e_lookSh, h3, Option.map_some, setSl]
  rfl
theorem gtSub_bo {i : Nat} {di : M Val} {d : PyData} {xs : List PyData} {k : Int} {j : Nat} (h1 : ρ[i]? = some (.bo xs)) (h2 : di ρ = .ok (.sh (.int k)) ρ) (h3 : ixN xs.length k = some j) : gtSub i di (.sh d) ρ = some (ρ.set i (.bo (xs.set j d))) := by
  unfold gtSub
  simp only [e_shrSh, h1, h2, lsOf, e_lookSh, h3, Option.map_some, setSl]
  rfl
/-! operations on data -/
@[simp] theorem e_ok (d : PyData) : ok d = some (.val d) := rfl
theorem grd_t {c : Bool} {r : Res} (h : c = true) : grd c r = some r := by unfold grd; rw [if_pos h]
@[simp] theorem grd_true (r : Res) : grd true r = some r := rfl
@[simp] theorem e_addI (i j : Int) : f_add (.int i) (.int j) = some (.val (.int (i + j))) := rfl
@[simp] theorem e_addL (i j : List PyData) : f_add (.list i) (.list j) = grd (decide (i.length + j.length ≤ sizeLine)) (.nl (i ++ j)) := rfl
@[simp] theorem e_addT (i j : List PyData) : f_add (.tuple i) (.tuple j) = grd (decide (i.length + j.length ≤ sizeLine)) (.nt (i ++ j)) := rfl
@[simp] theorem e_subI (i j : Int) : f_sub (.int i) (.int j) = some (.val (.int (i - j))) := rfl
@[simp] theorem e_mulI (i j : Int) : f_mul (.int i) (.int j) = grd (decide (i.natAbs.log2 + j.natAbs.log2 < 1000000)) (.val (.int (i * j))) := rfl
@[simp] theorem e_mulL (xs : List PyData) (k : Int) : f_mul (.list xs) (.int k) = grd (decide (xs.length * k.toNat ≤ sizeLine) && decide (-(2 ^ 63) ≤ k) && decide (k < 2 ^ 63)) (.nl (List.replicate k.toNat xs).flatten) := rfl
@[simp] theorem e_divI (i j : Int) : f_div (.int i) (.int j) = grd (decide (0 < j) && decide (j.natAbs.log2 < 9000)) (.val (.int (i / j))) := rfl
@[simp] theorem e_modI (i j : Int) : f_mod (.int i) (.int j) = grd (decide (0 < j)) (.val (.int (i % j))) := rfl
@[simp] theorem e_negI (i : Int) : f_neg (.int i) = some (.val (.int (-i))) := rfl
@[simp] theorem e_cmpI (p : Int → Int → Bool) (i j : Int) : f_cmp p (.int i) (.int j) = some (.val (.bool (p i j))) := rfl
@[simp] theorem e_isN (d : PyData) : f_isN d .none = some (.val (.bool (isN d))) := by cases d <;> rfl
@[simp] theorem e_notN (d : PyData) : f_notN d .none = some (.val (.bool (!isN d))) := by cases d <;> rfl
@[simp] theorem e_eqS (a b : Str) : f_eq (.str a) (.str b) = some (.val (.bool (decide (a = b)))) := rfl
@[simp] theorem e_neS (a b : Str) : f_ne (.str a) (.str b) = some (.val (.bool (!decide (a = b)))) := rfl
theorem f_eq_of {a b : PyData} (h : strEq a b = none) (ha : shp a = true) (hb : shp b = true) : f_eq a b = some (.val (.bool (PyData.eqv a b))) := by unfold f_eq; rw [h, ha, hb]; rfl
theorem f_ne_of {a b : PyData} (h : strEq a b = none) (ha : shp a = true) (hb : shp b = true) : f_ne a b = some (.val (.bool (!PyData.eqv a b))) := by unfold f_ne; rw [h, ha, hb]; rfl
@[simp] theorem e_eqI (i j : Int) : f_eq (.int i) (.int j) = some (.val (.bool (decide (i = j)))) := by rw [f_eq_of rfl rfl rfl]; rfl
@[simp] theorem e_neI (i j : Int) : f_ne (.int i) (.int j) = some (.val (.bool (!decide (i = j)))) := by rw [f_ne_of rfl rfl rfl]; rfl
@[simp] theorem isN_int (i : Int) : isN (.int i) = false := rfl
@[simp] theorem isN_none : isN .none = true := rfl
theorem ixL {xs : List PyData} {k : Int} {d : PyData} (h : atI xs k = some d) : f_ix (.list xs) (.int k) = some (.val d) := by show (atI xs k).map Res.val = _; rw [h]; rfl
theorem ixT {xs : List PyData} {k : Int} {d : PyData} (h : atI xs k = some d) : f_ix (.tuple xs) (.int k) = some (.val d) := by show (atI xs k).map Res.val = _; rw [h]; rfl
/-! returning a slot's list -/
def retO (i : Nat) (ρ : Rho) : Sl → SOut
  | .ow xs => .rt (.fr xs) (ρ.set i .no)
  | .sh d => .rt (.sh d) ρ
  | .oo c xs => .rt (.fo c xs) (ρ.set i .no)
  | _ => .stuck
@[simp] theorem retO_oo (i c : Nat) (xs : List PyData) : retO i ρ (.oo c xs) = .rt (.fo c xs) (ρ.set i .no) := rfl
@[simp] theorem retO_ow (i : Nat) (xs : List PyData) : retO i ρ (.ow xs) = .rt (.fr xs) (ρ.set i .no) := rfl
@[simp] theorem retO_sh (i : Nat) (d : PyData) : retO i ρ (.sh d) = .rt (.sh d) ρ := rfl
@[simp] theorem e_retV (i : Nat) : retV (.sl i) ρ = optT ρ[i]? fun s => retO i ρ s := by
  rw [e_retSl]
  cases ρ[i]? with
  | none => rfl
  | some s => cases s <;> rfl
/-! ranges -/
theorem e_iRng1 (d : M Val) : DL.iRng1 d ρ = (evS [d] ρ).bd fun as ρ' => rng1Of as ρ' := by unfold DL.iRng1; rw [e_mbind]
theorem e_iRng2 (d e : M Val) : DL.iRng2 d e ρ = (evS [d, e] ρ).bd fun as ρ' => rng2Of as ρ' := by unfold DL.iRng2; rw [e_mbind]
theorem e_rng1 (j : Int) : rng1Of [.int j] ρ = bIf (i62 j) (.ok (rngL 0 1 j.toNat) ρ) .stuck := by
  show (if i62 j = true then _ else _) = _
  cases i62 j <;> rfl
theorem e_rng2 (i j : Int) : rng2Of [.int i, .int j] ρ = bIf (i62 i && i62 j) (.ok (rngL i 1 (j - i).toNat) ρ) .stuck := by
  show (if (i62 i && i62 j) = true then _ else _) = _
  cases (i62 i && i62 j) <;> rfl
@[simp] theorem e_iSeq (d : M Val) : iSeq d ρ = (d ρ).bd fun x ρ1 => (shr x ρ1).bd fun a ρ2 => seqOf a ρ2 := by
  unfold iSeq
  rw [e_mbind]
  cases d ρ with
  | ok x ρ1 => show mbind (shr x) seqOf ρ1 = _; rw [e_mbind]; rfl
  | _ => rfl
@[simp] theorem e_seqL (xs : List PyData) : seqOf (.list xs) ρ = .ok xs ρ := rfl
@[simp] theorem e_seqT (xs : List PyData) : seqOf (.tuple xs) ρ = .ok xs ρ := rfl
@[simp] theorem e_iEnum (d : M Val) : iEnumD d ρ = (evS [d] ρ).bd fun as ρ' => enum1Of as ρ' := by unfold iEnumD; rw [e_mbind]
@[simp] theorem e_enumL (xs : List PyData) : enum1Of [.list xs] ρ = .ok (enumL xs) ρ := rfl
@[simp] theorem e_enumT (xs : List PyData) : enum1Of [.tuple xs] ρ = .ok (enumL xs) ρ := rfl
@[simp] theorem e_iRev (d : M Val) : iRevD d ρ = (d ρ).bd fun x ρ1 => (shr x ρ1).bd fun a ρ2 => revOf a ρ2 := by
  unfold iRevD
  rw [e_mbind]
  cases d ρ with
  | ok x ρ1 => show mbind (shr x) revOf ρ1 = _; rw [e_mbind]; rfl
  | _ => rfl
@[simp] theorem e_revL (xs : List PyData) : revOf (.list xs) ρ = .ok xs.reverse ρ := rfl
@[simp] theorem e_revT (xs : List PyData) : revOf (.tuple xs) ρ = .ok xs.reverse ρ := rfl
@[simp] theorem e_intM (x : Val) : intM x ρ = optB (look ρ x) fun d => match d with | .int i => .ok i ρ | _ => .stuck := by
  unfold intM
  cases look ρ x with
  | none => rfl
  | some d => cases d <;> rfl
theorem e_dRg1 (d : M Val) : dRg1 d ρ = (d ρ).bd fun x ρ1 => (intM x ρ1).bd fun j ρ2 => .ok (0, j) ρ2 := by
  unfold dRg1
  rw [e_mbind]
  cases d ρ with
  | ok x ρ1 => show mbind (intM x) _ ρ1 = _; rw [e_mbind]; rfl
  | _ => rfl
theorem e_dRg2 (d e : M Val) : dRg2 d e ρ = (d ρ).bd fun x ρ1 => (intM x ρ1).bd fun i ρ2 => (e ρ2).bd fun y ρ3 => (intM y ρ3).bd fun j ρ4 => .ok (i, j) ρ4 := by
  unfold dRg2
  rw [e_mbind]
  cases d ρ with
  | ok x ρ1 =>
    show mbind (intM x) _ ρ1 = (intM x ρ1).bd _
    rw [e_mbind]
    cases intM x ρ1 with
    | ok i ρ2 =>
      show mbind e _ ρ2 = (e ρ2).bd _
      rw [e_mbind]
      cases e ρ2 with
      | ok y ρ3 => show mbind (intM y) _ ρ3 = _; rw [e_mbind]; rfl
      | _ => rfl
    | _ => rfl
  | _ => rfl
theorem e_iRevRg (m : M (Int × Int)) : iRevRg m ρ = (m ρ).bd fun p ρ' => revRg p ρ' := by unfold iRevRg; rw [e_mbind]
theorem e_revRg (i j : Int) : revRg (i, j) ρ = bIf (i62 i && i62 j) (.ok (rngL (i + (((j - i).toNat : Nat) : Int) - 1) (-1) (j - i).toNat) ρ) .stuck := by
  show (if (i62 i && i62 j) = true then _ else _) = _
  cases (i62 i && i62 j) <;> rfl
theorem i62_small {i : Int} (h1 : -4611686018427387904 ≤ i) (h2 : i < 4611686018427387904) : i62 i = true := by
  unfold i62
  simp only [Bool.and_eq_true, decide_eq_true_eq]
  omega
theorem rng1_of {d : M Val} {j : Int} (h : d ρ = .ok (.sh (.int j)) ρ') (j1 : -4611686018427387904 ≤ j) (j2 : j < 4611686018427387904) : DL.iRng1 d ρ = .ok (rngL 0 1 j.toNat) ρ' := by
  rw [e_iRng1, e_evS1, h, bd_ok, e_shrSh, bd_ok, e_evS0, bd_ok, bd_ok, e_rng1, i62_small j1 j2, bIf_t]
theorem rng2_of {d e : M Val} {i j : Int} {ρ1 ρ2 : Rho} (h : d ρ = .ok (.sh (.int i)) ρ1) (h2 : e ρ1 = .ok (.sh (.int j)) ρ2) (i1 : -4611686018427387904 ≤ i) (i2 : i < 4611686018427387904) (j1 : -4611686018427387904 ≤ j) (j2 : j < 4611686018427387904) : DL.iRng2 d e ρ = .ok (rngL i 1 (j - i).toNat) ρ2 := by
  rw [e_iRng2, e_evS1, h, bd_ok, e_shrSh, bd_ok, e_evS1, h2, bd_ok, e_shrSh, bd_ok, e_evS0, bd_ok, bd_ok, bd_ok, e_rng2, i62_small i1 i2, i62_small j1 j2]
  rfl
theorem rrg2_of {d e : M Val} {i j : Int} {ρ1 ρ2 : Rho} (h : d ρ = .ok (.sh (.int i)) ρ1) (h2 : e ρ1 = .ok (.sh (.int j)) ρ2) (i1 : -4611686018427387904 ≤ i) (i2 : i < 4611686018427387904) (j1 : -4611686018427387904 ≤ j) (j2 : j < 4611686018427387904) : iRevRg (dRg2 d e) ρ = .ok (rngL (i + (((j - i).toNat : Nat) : Int) - 1) (-1) (j - i).toNat) ρ2 := by
  rw [e_iRevRg, e_dRg2, h, bd_ok, e_intM, e_lookSh, optB_some]
  show Out.bd (Out.bd (e ρ1) _) _ = _
  rw [h2, bd_ok, e_intM, e_lookSh, optB_some]
  show revRg (i, j) ρ2 = _
  rw [e_revRg, i62_small i1 i2, i62_small j1 j2]
  rfl
theorem rrg1_of {d : M Val} {j : Int} (h : d ρ = .ok (.sh (.int j)) ρ') (j1 : -4611686018427387904 ≤ j) (j2 : j < 4611686018427387904) : iRevRg (dRg1 d) ρ = .ok (rngL (0 + (((j - 0).toNat : Nat) : Int) - 1) (-1) (j - 0).toNat) ρ' := by
  rw [e_iRevRg, e_dRg1, h, bd_ok, e_intM, e_lookSh, optB_some]
  show revRg (0, j) ρ' = _
  rw [e_revRg, i62_small j1 j2]
  rfl
/-! mutation -/
@[simp] theorem e_setT (xs : List PyData) : setSl true xs = .ow xs := rfl
@[simp] theorem e_setF (xs : List PyData) : setSl false xs = .bo xs := rfl
theorem e_dMutM (i : Nat) (ds : List (M Val)) (f : MutF) {k : Bool} {ys : List PyData} (h : ρ[i]? = some (setSl k ys)) : dMutM i ds f ρ = (evS ds ρ).bd fun as ρ' => match lsOf ρ'[i]? with
      | some (k, xs) => (match f xs as with
        | some (xs', d) => .ok (.sh d) (ρ'.set i (setSl k xs'))
        | none => .stuck)
      | none => .stuck := by
  unfold dMutM
  rw [h]
  cases k <;> (show dMut i ds f ρ = _; unfold dMut; rw [e_mbind] <;> try rfl)
theorem mut_ow {i : Nat} {ds : List (M Val)} {f : MutF} {xs as xs' ys : List PyData} {d : PyData} (h : ρ[i]? = some (.ow ys)) (h1 : evS ds ρ = .ok as ρ') (h2 : ρ'[i]? = some (.ow xs)) (h3 : f xs as = some (xs', d)) : dMutM i ds f ρ = .ok (.sh d) (ρ'.set i (.ow xs')) := by
  rw [e_dMutM i ds f (k := true) h, h1, bd_ok, h2]
  simp only [lsOf, h3, e_setT]
theorem mut_bo {i : Nat} {ds : List (M Val)} {f : MutF} {xs as xs' ys : List PyData} {d : PyData} (h : ρ[i]? = some (.bo ys)) (h1 : evS ds ρ = .ok as ρ') (h2 : ρ'[i]? = some (.bo xs)) (h3 : f xs as = some (xs', d)) : dMutM i ds f ρ = .ok (.sh d) (ρ'.set i (.bo xs')) := by
  rw [e_dMutM i ds f (k := false) h, h1, bd_ok, h2]
  simp only [lsOf, h3, e_setF]
def appO (i : Nat) (a : PyData) (ρ : Rho) : Sl → Out Val
  | .ow xs => if xs.length < 100000 then .ok (.sh .none) (ρ.set i (.ow (xs ++ [a]))) else .stuck
  | .bo xs => if xs.length < 100000 then .ok (.sh .none) (ρ.set i (.bo (xs ++ [a]))) else .stuck
  | _ => .stuck
@[simp] theorem appO_ow (i : Nat) (a : PyData) (xs : List PyData) : appO i a ρ (.ow xs) = if xs.length < 100000 then .ok (.sh .none) (ρ.set i (.ow (xs ++ [a]))) else .stuck := rfl
@[simp] theorem appO_bo (i : Nat) (a : PyData) (xs : List PyData) : appO i a ρ (.bo xs) = if xs.length < 100000 then .ok (.sh .none) (ρ.set i (.bo (xs ++ [a]))) else .stuck := rfl
def isLs : Option Sl → Bool
  | some (.ow _) => true
  | some (.bo _) => true
  | _ => false
@[simp] theorem isLs_ow (xs : List PyData) : isLs (some (.ow xs)) = true := rfl
@[simp] theorem isLs_bo (xs : List PyData) : isLs (some (.bo xs)) = true := rfl
@[simp] theorem isLs_sh (d : PyData) : isLs (some (.sh d)) = false := rfl
theorem mut_ls {i : Nat} {ds : List (M Val)} {f : MutF} : dMutM i ds f ρ = bIf (isLs ρ[i]?) ((evS ds ρ).bd fun as ρ' => match lsOf ρ'[i]? with
      | some (k, xs) => (match f xs as with
        | some (xs', d) => .ok (.sh d) (ρ'.set i (setSl k xs'))
        | none => .stuck)
      | none => .stuck) .stuck := by
  cases e : ρ[i]? with
  | none => unfold dMutM; rw [e]; rfl
  | some s =>
    cases s with
    | ow xs => exact e_dMutM i ds f (k := true) e
    | bo xs => exact e_dMutM i ds f (k := false) e
    | no => unfold dMutM; rw [e]; rfl
    | sh d => unfold dMutM; rw [e]; rfl
    | oo c xs => unfold dMutM; rw [e]; rfl
    | ob c xs => unfold dMutM; rw [e]; rfl
@[simp] theorem e_app (i : Nat) (d : M Val) : dMutM i [d] f_append ρ = bIf (isLs ρ[i]?) ((d ρ).bd fun x ρ1 => (shr x ρ1).bd fun a ρ2 => optB ρ2[i]? fun s => appO i a ρ2 s) .stuck := by
  rw [mut_ls, e_evS1]
  congr 1
  cases d ρ with
  | ok x ρ1 =>
    show Out.bd (Out.bd (shr x ρ1) _) _ = Out.bd (shr x ρ1) _
    cases shr x ρ1 with
    | ok a ρ2 =>
      simp only [e_evS0, bd_ok]
      cases ρ2[i]? with
      | none => rfl
      | some s =>
        cases s with
        | ow xs =>
          by_cases h : xs.length < 100000 <;> simp [lsOf, f_append, h]
        | bo xs =>
          by_cases h : xs.length < 100000 <;> simp [lsOf, f_append, h]
        | _ => rfl
    | _ => rfl
  | _ => rfl
def popO (i : Nat) (ρ : Rho) : Sl → Out Val
  | .ow xs => optB xs.getLast? fun x => .ok (.sh x) (ρ.set i (.ow xs.dropLast))
  | .bo xs => optB xs.getLast? fun x => .ok (.sh x) (ρ.set i (.bo xs.dropLast))
  | _ => .stuck
@[simp] theorem popO_ow (i : Nat) (xs : List PyData) : popO i ρ (.ow xs) = optB xs.getLast? fun x => .ok (.sh x) (ρ.set i (.ow xs.dropLast)) := rfl
@[simp] theorem popO_bo (i : Nat) (xs : List PyData) : popO i ρ (.bo xs) = optB xs.getLast? fun x => .ok (.sh x) (ρ.set i (.bo xs.dropLast)) := rfl
@[simp] theorem e_pop (i : Nat) : dMutM i [] f_pop ρ = optB ρ[i]? fun s => popO i ρ s := by
  rw [mut_ls]
  cases e : ρ[i]? with
  | none => rfl
  | some s =>
    cases s with
    | ow xs =>
      rw [e_evS0, bd_ok, e]
      simp only [isLs_ow, isLs_bo, bIf_t, lsOf, f_pop, optB_some, popO_ow, List.getLast?_eq_getElem?]
      cases xs[xs.length - 1]? <;> rfl
    | bo xs =>
      rw [e_evS0, bd_ok, e]
      simp only [isLs_ow, isLs_bo, bIf_t, lsOf, f_pop, optB_some, popO_bo, List.getLast?_eq_getElem?]
      cases xs[xs.length - 1]? <;> rfl
    | _ => rfl
/-! one after the other -/
theorem seq_nx {a b : SD} {o : SOut} (h : a ρ = .nx ρ') (h2 : b ρ' = o) : sSeq a b ρ = o := by rw [e_sSeq, h, e_thenNx, h2]
theorem seq_rt {a b : SD} {r : RV} (h : a ρ = .rt r ρ') : sSeq a b ρ = .rt r ρ' := by rw [e_sSeq, h]; rfl
theorem seq_bk {a b : SD} (h : a ρ = .bk ρ') : sSeq a b ρ = .bk ρ' := by rw [e_sSeq, h]; rfl
theorem asg_ok {d : M Val} {g : Tg} {x : Val} {ρ1 ρ2 : Rho} (h : d ρ = .ok x ρ1) (h2 : g x ρ1 = some ρ2) : sAsg d g ρ = .nx ρ2 := by rw [e_sAsg, h, td_ok, h2]; rfl
theorem drop_ok {d : M Val} {x : Val} {ρ1 : Rho} (h : d ρ = .ok x ρ1) : sDrop d ρ = .nx ρ1 := by rw [e_sDrop, h]; rfl
theorem ret_sh {d : M Val} {x : PyData} {ρ1 : Rho} (h : d ρ = .ok (.sh x) ρ1) : sRet d ρ = .rt (.sh x) ρ1 := by rw [e_sRet, h]; rfl
theorem ret_fr {d : M Val} {x : List PyData} {ρ1 : Rho} (h : d ρ = .ok (.fr x) ρ1) : sRet d ρ = .rt (.fr x) ρ1 := by rw [e_sRet, h]; rfl
theorem if_t {c : M Val} {a b : SD} {o : SOut} {ρ1 : Rho} (h : tst c ρ = .ok true ρ1) (h2 : a ρ1 = o) : sIf c a b ρ = o := by rw [e_sIf, h]; exact h2
theorem if_f {c : M Val} {a b : SD} {o : SOut} {ρ1 : Rho} (h : tst c ρ = .ok false ρ1) (h2 : b ρ1 = o) : sIf c a b ρ = o := by rw [e_sIf, h]; exact h2
theorem fn_rt {d : SD} {N : Nat} {as : List Arg} {rv : RV} {bs : List (List PyData)} {ρ1 ρ2 : Rho} (h0 : rho0 N as = ρ1) (h : d ρ1 = .rt rv ρ2) (hb : (boIx as 0).map (fun i => boC ρ2[i]?) = bs) : fnRes d N as = .ret rv bs := by
  unfold fnRes
  rw [h0, h, ← hb]
theorem fn_nx {d : SD} {N : Nat} {as : List Arg} {bs : List (List PyData)} {ρ1 ρ2 : Rho} (h0 : rho0 N as = ρ1) (h : d ρ1 = .nx ρ2) (hb : (boIx as 0).map (fun i => boC ρ2[i]?) = bs) : fnRes d N as = .ret (.sh .none) bs := by
  unfold fnRes
  rw [h0, h, ← hb]
/-! loops -/
theorem forL_run {g : Tg} {b : SD} {items : List PyData} (R : Nat → Rho → Prop) (h : ∀ i d ρ, items[i]? = some d → R i ρ → ∃ ρ1 ρ2, g (.sh d) ρ = some ρ1 ∧ b ρ1 = .nx ρ2 ∧ R (i + 1) ρ2) : ∀ (k : Nat) (ρ : Rho), R k ρ → k ≤ items.length → ∃ ρ', forL g b (items.drop k) ρ = .nx ρ' ∧ R items.length ρ'
  | k, ρ, r, hk => by
    by_cases e : k = items.length
    · subst e
      rw [List.drop_length]
      exact ⟨ρ, rfl, r⟩
    · have hk' : k < items.length := by omega
      obtain ⟨ρ1, ρ2, h1, h2, h3⟩ := h k items[k] ρ (List.getElem?_eq_getElem hk') r
      obtain ⟨ρ', h4, h5⟩ := forL_run R h (k + 1) ρ2 h3 hk'
      refine ⟨ρ', ?_, h5⟩
      rw [List.drop_eq_getElem_cons hk']
      show (match g (.sh items[k]) ρ with | none => SOut.stuck | some ρ1 => _) = _
      rw [h1]
      show (match b ρ1 with | .nx ρ2 => forL g b _ ρ2 | .ct ρ2 => forL g b _ ρ2 | .bk ρ2 => .nx ρ2 | o => o) = _
      rw [h2]
      exact h4
  termination_by k => items.length - k
theorem for_run {m : M (List PyData)} {g : Tg} {b : SD} {items : List PyData} (R : Nat → Rho → Prop) (hm : m ρ = .ok items ρ') (r : R 0 ρ') (h : ∀ i d ρ, items[i]? = some d → R i ρ → ∃ ρ1 ρ2, g (.sh d) ρ = some ρ1 ∧ b ρ1 = .nx ρ2 ∧ R (i + 1) ρ2) : ∃ ρ2, sFor m g b ρ = .nx ρ2 ∧ R items.length ρ2 := by
  obtain ⟨ρ2, h1, h2⟩ := forL_run R h 0 ρ' r (Nat.zero_le _)
  refine ⟨ρ2, ?_, h2⟩
  unfold sFor
  rw [e_sBind, hm]
  exact h1
/-- a loop that may return early -/
theorem forL_ret {g : Tg} {b : SD} {items : List PyData} (R : Nat → Rho → Prop) (Z : SOut → Prop) (h : ∀ i d ρ, items[i]? = some d → R i ρ → ∃ ρ1, g (.sh d) ρ = some ρ1 ∧ ((∃ ρ2, (b ρ1 = .nx ρ2 ∨ b ρ1 = .ct ρ2) ∧ R (i + 1) ρ2) ∨ (∃ rv ρ2, b ρ1 = .rt rv ρ2 ∧ Z (.rt rv ρ2)) ∨ (∃ ρ2, b ρ1 = .bk ρ2 ∧ Z (.nx ρ2)) ∨ (∃ c ρ2, b ρ1 = .exc c ρ2 ∧ Z (.exc c ρ2))))
    (hz : ∀ ρ, R items.length ρ → Z (.nx ρ)) : ∀ (k : Nat) (ρ : Rho), R k ρ → k ≤ items.length → Z (forL g b (items.drop k) ρ)
  | k, ρ, r, hk => by
    by_cases e : k = items.length
    · subst e
      rw [List.drop_length]
      exact hz ρ r
    · have hk' : k < items.length := by omega
      obtain ⟨ρ1, h1, h2⟩ := h k items[k] ρ (List.getElem?_eq_getElem hk') r
      rw [List.drop_eq_getElem_cons hk']
      show Z (match g (.sh items[k]) ρ with | none => SOut.stuck | some ρ1 => _)
      rw [h1]
      show Z (match b ρ1 with | .nx ρ2 => forL g b _ ρ2 | .ct ρ2 => forL g b _ ρ2 | .bk ρ2 => .nx ρ2 | o => o)
      rcases h2 with ⟨ρ2, h2, h3⟩ | ⟨rv, ρ2, h2, h3⟩ | ⟨ρ2, h2, h3⟩ | ⟨c, ρ2, h2, h3⟩
      · rcases h2 with h2 | h2
        · rw [h2]; exact forL_ret R Z h hz (k + 1) ρ2 h3 hk'
        · rw [h2]; exact forL_ret R Z h hz (k + 1) ρ2 h3 hk'
      · rw [h2]; exact h3
      · rw [h2]; exact h3
      · rw [h2]; exact h3
  termination_by k => items.length - k
theorem for_ret {m : M (List PyData)} {g : Tg} {b : SD} {items : List PyData} (R : Nat → Rho → Prop) (Z : SOut → Prop) (hm : m ρ = .ok items ρ') (r : R 0 ρ') (h : ∀ i d ρ, items[i]? = some d → R i ρ → ∃ ρ1, g (.sh d) ρ = some ρ1 ∧ ((∃ ρ2, (b ρ1 = .nx ρ2 ∨ b ρ1 = .ct ρ2) ∧ R (i + 1) ρ2) ∨ (∃ rv ρ2, b ρ1 = .rt rv ρ2 ∧ Z (.rt rv ρ2)) ∨ (∃ ρ2, b ρ1 = .bk ρ2 ∧ Z (.nx ρ2)) ∨ (∃ c ρ2, b ρ1 = .exc c ρ2 ∧ Z (.exc c ρ2))))
    (hz : ∀ ρ, R items.length ρ → Z (.nx ρ)) : Z (sFor m g b ρ) := by
  have q := forL_ret R Z h hz 0 ρ' r (Nat.zero_le _)
  unfold sFor
  rw [e_sBind, hm]
  exact q
theorem whl_run {c : M Bool} {b : SD} {Z : SOut → Prop} (R : Nat → Rho → Prop) (h : ∀ k ρ, R k ρ → ∃ t ρ1, c ρ = .ok t ρ1 ∧ bIf t (∃ ρ2, ((b ρ1 = .nx ρ2 ∨ b ρ1 = .ct ρ2) ∧ ∃ j, j < k ∧ R j ρ2) ∨ (b ρ1 = .bk ρ2 ∧ Z (.nx ρ2)) ∨ (∃ rv, b ρ1 = .rt rv ρ2 ∧ Z (.rt rv ρ2))) (Z (.nx ρ1))) : ∀ (n k : Nat) (ρ : Rho), R k ρ → k < n → Z (whl c b n ρ)
  | 0, k, ρ, r, hk => absurd hk (Nat.not_lt_zero _)
  | n + 1, k, ρ, r, hk => by
    obtain ⟨t, ρ1, h1, h2⟩ := h k ρ r
    show Z (sBind c _ ρ)
    rw [e_sBind, h1]
    cases t with
    | false => exact h2
    | true =>
      show Z (match b ρ1 with | .nx ρ' => whl c b n ρ' | .ct ρ' => whl c b n ρ' | .bk ρ' => .nx ρ' | o => o)
      obtain ⟨ρ2, h2⟩ := (show ∃ ρ2, _ from h2)
      rcases h2 with ⟨h2 | h2, j, hj, r2⟩ | ⟨h2, z⟩ | ⟨rv, h2, z⟩
      · rw [h2]; exact whl_run R h n j ρ2 r2 (by omega)
      · rw [h2]; exact whl_run R h n j ρ2 r2 (by omega)
      · rw [h2]; exact z
      · rw [h2]; exact z
theorem while_run {n : Nat} {c : M Val} {b : SD} {Z : SOut → Prop} (R : Nat → Rho → Prop) {k : Nat} (r : R k ρ) (hk : k < n) (h : ∀ k ρ, R k ρ → ∃ t ρ1, tst c ρ = .ok t ρ1 ∧ bIf t (∃ ρ2, ((b ρ1 = .nx ρ2 ∨ b ρ1 = .ct ρ2) ∧ ∃ j, j < k ∧ R j ρ2) ∨ (b ρ1 = .bk ρ2 ∧ Z (.nx ρ2)) ∨ (∃ rv, b ρ1 = .rt rv ρ2 ∧ Z (.rt rv ρ2))) (Z (.nx ρ1))) : Z (sWhile n c b ρ) := whl_run R h n k ρ r hk
/-! comprehensions -/
theorem lcL_run {g : Tg} {t : M Bool} {e : M Val} {vs : List Nat} {ρ : Rho} (p : PyData → Bool) (f : PyData → PyData) : ∀ (items acc : List PyData), (∀ d ∈ items, ∃ ρ1, g (.sh d) ρ = some ρ1 ∧ t ρ1 = .ok (p d) ρ1 ∧ (p d = true → mbind e shr ρ1 = .ok (f d) ρ1) ∧ wipeR ρ1 vs = ρ) → acc.length + items.length ≤ 100000 →
    lcL g t e vs items acc ρ = .ok (acc ++ (items.filter p).map f) ρ
  | [], acc, _, _ => by simp [lcL]
  | d :: r, acc, h, hl => by
    obtain ⟨ρ1, h1, h2, h3, h4⟩ := h d List.mem_cons_self
    have hl' : acc.length + (r.length + 1) ≤ 100000 := hl
    unfold lcL
    rw [h1]
    simp only [h2]
    cases hp : p d with
    | false =>
      simp only [h4]
      rw [lcL_run p f r acc (fun d hd => h d (List.mem_cons_of_mem _ hd)) (by omega), List.filter_cons_of_neg (by rw [hp]; simp)]
    | true =>
      simp only [h3 hp, h4]
      rw [if_pos (by omega), lcL_run p f r (acc ++ [f d]) (fun d hd => h d (List.mem_cons_of_mem _ hd)) (by rw [List.length_append]; simp only [List.length_singleton]; omega), List.filter_cons_of_pos hp, List.map_cons, List.append_assoc]
      rfl
/-- a comprehension whose parts change nothing -/
theorem lc_run {m : M (List PyData)} {g : Tg} {t : M Bool} {e : M Val} {vs : List Nat} {items : List PyData} (p : PyData → Bool) (f : PyData → PyData) (hm : m ρ = .ok items ρ') (hv : vs.all (fun i => isPlain ρ'[i]?) = true) (hr : restR ρ' (wipeR ρ' vs) vs = ρ')
    (hl : items.length ≤ 100000) (h : ∀ d ∈ items, ∃ ρ1, g (.sh d) (wipeR ρ' vs) = some ρ1 ∧ t ρ1 = .ok (p d) ρ1 ∧ (p d = true → mbind e shr ρ1 = .ok (f d) ρ1) ∧ wipeR ρ1 vs = wipeR ρ' vs) : dLC m g t e vs ρ = .ok (.fr ((items.filter p).map f)) ρ' := by
  unfold dLC
  rw [e_mbind, hm, bd_ok, if_pos hv, lcL_run p f items [] h (by simpa using hl)]
  show Out.ok (Val.fr _) (restR ρ' (wipeR ρ' vs) vs) = _
  rw [hr]
  rfl
theorem lc_map {m : M (List PyData)} {g : Tg} {e : M Val} {vs : List Nat} {items : List PyData} (f : PyData → PyData) (hm : m ρ = .ok items ρ') (hv : vs.all (fun i => isPlain ρ'[i]?) = true) (hr : restR ρ' (wipeR ρ' vs) vs = ρ')
    (hl : items.length ≤ 100000) (h : ∀ d ∈ items, ∃ ρ1, g (.sh d) (wipeR ρ' vs) = some ρ1 ∧ mbind e shr ρ1 = .ok (f d) ρ1 ∧ wipeR ρ1 vs = wipeR ρ' vs) : dLC m g dYes e vs ρ = .ok (.fr (items.map f)) ρ' := by
  rw [lc_run (t := dYes) (fun _ => true) f hm hv hr hl fun d hd => let ⟨ρ1, h1, h2, h3⟩ := h d hd; ⟨ρ1, h1, rfl, fun _ => h2, h3⟩]
  rw [List.filter_eq_self.mpr (fun _ _ => rfl)]
theorem rngL_length (lo c : Int) (n : Nat) : (rngL lo c n).length = n := by unfold rngL; simp
theorem rngL_get {lo c : Int} {n i : Nat} {d : PyData} (h : (rngL lo c n)[i]? = some d) : i < n ∧ d = .int (lo + i * c) := by
  have hi : i < n := by
    have := lt_of_get h
    rwa [rngL_length] at this
  refine ⟨hi, ?_⟩
  unfold rngL at h
  rw [List.getElem?_map, List.getElem?_range hi] at h
  exact (Option.some.inj h).symm
theorem rngL_mem {lo c : Int} {n : Nat} {d : PyData} (h : d ∈ rngL lo c n) : ∃ i : Nat, i < n ∧ d = .int (lo + i * c) := by
  obtain ⟨i, hi⟩ := List.getElem?_of_mem h
  exact ⟨i, rngL_get hi⟩
theorem atI_nn {α : Type} {xs : List α} {k : Int} (h : 0 ≤ k) (hk : k < xs.length) : atI xs k = xs[k.toNat]? := by
  unfold atI ixN
  simp only [h, hk]
  simp [hk, h]
/-! calls -/
@[simp] theorem e_evAV0 : evAV [] ρ = .ok [] ρ := rfl
@[simp] theorem e_evAV1 (m : Bool) (d : M Val) (r : List (Bool × M Val)) : evAV ((m, d) :: r) ρ = (d ρ).bd fun x ρ1 => (toAV m x ρ1).bd fun a ρ2 => (evAV r ρ2).bd fun as ρ3 => .ok (a :: as) ρ3 := by
  show mbind d _ ρ = _
  rw [e_mbind]
  cases d ρ with
  | ok x ρ1 =>
    show mbind (toAV m x) _ ρ1 = (toAV m x ρ1).bd _
    rw [e_mbind]
    cases toAV m x ρ1 with
    | ok a ρ2 =>
      show mbind (evAV r) _ ρ2 = (evAV r ρ2).bd _
      rw [e_mbind]
      rfl
    | _ => rfl
  | _ => rfl
@[simp] theorem toAV_sh (m : Bool) (d : PyData) : toAV m (.sh d) ρ = .ok (.dat d) ρ := by cases m <;> rfl
@[simp] theorem toAV_fr (m : Bool) (d : List PyData) : toAV m (.fr d) ρ = .ok (.dat (.list d)) ρ := by cases m <;> rfl
@[simp] theorem toAV_sl (i : Nat) : toAV true (.sl i) ρ = .ok (.slot i) ρ := rfl
@[simp] theorem toAV_slf (i : Nat) : toAV false (.sl i) ρ = (shr (.sl i) ρ).bd fun d ρ' => .ok (.dat d) ρ' := by show mbind _ _ ρ = _; rw [e_mbind]; rfl
def slArg : Sl → Option Arg
  | .ow xs => some (.bo xs)
  | .bo xs => some (.bo xs)
  | .sh d => some (.sh d)
  | .oo 0 xs => some (.ob 0 xs)
  | .ob 0 xs => some (.ob 0 xs)
  | _ => none
@[simp] theorem slArg_oo (xs : List PyData) : slArg (.oo 0 xs) = some (.ob 0 xs) := rfl
@[simp] theorem slArg_ob (xs : List PyData) : slArg (.ob 0 xs) = some (.ob 0 xs) := rfl
@[simp] theorem slArg_ow (xs : List PyData) : slArg (.ow xs) = some (.bo xs) := rfl
@[simp] theorem slArg_bo (xs : List PyData) : slArg (.bo xs) = some (.bo xs) := rfl
@[simp] theorem slArg_sh (d : PyData) : slArg (.sh d) = some (.sh d) := rfl
@[simp] theorem argOf_dat (d : PyData) : argOf ρ (.dat d) = some (.sh d) := rfl
@[simp] theorem argOf_slot (i : Nat) : argOf ρ (.slot i) = ρ[i]?.bind slArg := by
  unfold argOf
  simp only
  cases ρ[i]? with
  | none => rfl
  | some s =>
    cases s with
    | oo c xs => cases c <;> rfl
    | ob c xs => cases c <;> rfl
    | _ => rfl
@[simp] theorem argsOf0 : argsOf ρ [] = some [] := rfl
@[simp] theorem argsOf1 (a : AV) (r : List AV) : argsOf ρ (a :: r) = (argOf ρ a).bind fun x => (argsOf ρ r).bind fun xs => some (x :: xs) := by
  show (match argOf ρ a, argsOf ρ r with | some x, some xs => some (x :: xs) | _, _ => none) = _
  cases argOf ρ a with
  | none => rfl
  | some x => cases argsOf ρ r <;> rfl
@[simp] theorem boSl0 : boSl ρ [] = [] := rfl
@[simp] theorem boSl1 (d : PyData) (r : List AV) : boSl ρ (.dat d :: r) = boSl ρ r := rfl
@[simp] theorem boSl2 (i : Nat) (r : List AV) : boSl ρ (.slot i :: r) = bIf (isCel ρ[i]?) (i :: boSl ρ r) (boSl ρ r) := by
  show (if isCel ρ[i]? = true then i :: boSl ρ r else boSl ρ r) = _
  cases isCel ρ[i]? <;> rfl
@[simp] theorem isCel_ow (xs : List PyData) : isCel (some (.ow xs)) = true := rfl
@[simp] theorem isCel_bo (xs : List PyData) : isCel (some (.bo xs)) = true := rfl
@[simp] theorem isCel_oo (c : Nat) (xs : List PyData) : isCel (some (.oo c xs)) = true := rfl
@[simp] theorem isCel_ob (c : Nat) (xs : List PyData) : isCel (some (.ob c xs)) = true := rfl
@[simp] theorem isCel_sh (d : PyData) : isCel (some (.sh d)) = false := rfl
@[simp] theorem setC_ow (xs ys : List PyData) : setC (.ow xs) ys = .ow ys := rfl
@[simp] theorem setC_bo (xs ys : List PyData) : setC (.bo xs) ys = .bo ys := rfl
@[simp] theorem setC_oo (c : Nat) (xs ys : List PyData) : setC (.oo c xs) ys = .oo c ys := rfl
@[simp] theorem setC_ob (c : Nat) (xs ys : List PyData) : setC (.ob c xs) ys = .ob c ys := rfl
@[simp] theorem rvVal_fo (c : Nat) (d : List PyData) : rvVal (.fo c d) = .fo c d := rfl
def frO (is : List Nat) (ρ : Rho) : FRes → Out Val
  | .stuck => .stuck
  | .ret r bs => .ok (rvVal r) (putBo ρ is bs)
  | .exc c bs => .exc c (putBo ρ is bs)
@[simp] theorem frO_ret (is : List Nat) (r : RV) (bs : List (List PyData)) : frO is ρ (.ret r bs) = .ok (rvVal r) (putBo ρ is bs) := rfl
@[simp] theorem frO_exc (is : List Nat) (c : Nat) (bs : List (List PyData)) : frO is ρ (.exc c bs) = .exc c (putBo ρ is bs) := rfl
@[simp] theorem rvVal_sh (d : PyData) : rvVal (.sh d) = .sh d := rfl
@[simp] theorem rvVal_fr (d : List PyData) : rvVal (.fr d) = .fr d := rfl
@[simp] theorem putBo0 (bs : List (List PyData)) : putBo ρ [] bs = ρ := by cases bs <;> rfl
@[simp] theorem putBo1 (i : Nat) (is : List Nat) (xs : List PyData) (xss : List (List PyData)) : putBo ρ (i :: is) (xs :: xss) = putBo (match ρ[i]? with | some s => ρ.set i (setC s xs) | none => ρ) is xss := rfl
@[simp] theorem lsOf_ow (xs : List PyData) : lsOf (some (.ow xs)) = some (true, xs) := rfl
@[simp] theorem lsOf_bo (xs : List PyData) : lsOf (some (.bo xs)) = some (false, xs) := rfl
@[simp] theorem e_dCall (F : Fn) (ms : List (Bool × M Val)) : dCall F ms ρ = (evAV ms ρ).bd fun avs ρ' => optB (argsOf ρ' avs) fun as => if (boSl ρ' avs).Nodup then frO (boSl ρ' avs) ρ' (F as) else .stuck := by
  unfold dCall
  rw [e_mbind]
  cases evAV ms ρ with
  | ok avs ρ1 =>
    show dCallA F avs ρ1 = optB (argsOf ρ1 avs) _
    unfold dCallA
    cases argsOf ρ1 avs with
    | none => rfl
    | some as =>
      show (if (boSl ρ1 avs).Nodup then _ else _) = if (boSl ρ1 avs).Nodup then _ else _
      cases F as <;> rfl
  | _ => rfl
end
end DL
end

section
set_option Elab.async false
set_option linter.all false
set_option maxRecDepth 100000
set_option maxHeartbeats 2000000
namespace DL
open PySem PySem.Spec PyProof.Rows L2
/-! ### calls with data -/
theorem call_1 {ρ ρ1 : Rho} {F : Fn} {m : Bool} {d : M Val} {x : PyData} {rv : RV} (h : d ρ = .ok (.sh x) ρ1) (hF : F [.sh x] = .ret rv []) : dCall F [(m, d)] ρ = .ok (rvVal rv) ρ1 := by
  rw [e_dCall, e_evAV1, h, bd_ok, toAV_sh, bd_ok, e_evAV0, bd_ok, bd_ok, argsOf1, argOf_dat]
  show (if (boSl ρ1 [AV.dat x]).Nodup then frO (boSl ρ1 [AV.dat x]) ρ1 (F [.sh x]) else .stuck) = _
  rw [boSl1, boSl0, if_pos List.nodup_nil, hF, frO_ret, putBo0]
theorem call_2 {ρ ρ1 ρ2 : Rho} {F : Fn} {m n : Bool} {d e : M Val} {x y : PyData} {rv : RV} (h : d ρ = .ok (.sh x) ρ1) (h2 : e ρ1 = .ok (.sh y) ρ2) (hF : F [.sh x, .sh y] = .ret rv []) : dCall F [(m, d), (n, e)] ρ = .ok (rvVal rv) ρ2 := by
  rw [e_dCall, e_evAV1, h, bd_ok, toAV_sh, bd_ok, e_evAV1, h2, bd_ok, toAV_sh, bd_ok, e_evAV0, bd_ok, bd_ok, bd_ok, argsOf1, argOf_dat]
  show (if (boSl ρ2 [AV.dat x, AV.dat y]).Nodup then frO (boSl ρ2 [AV.dat x, AV.dat y]) ρ2 (F [.sh x, .sh y]) else .stuck) = _
  rw [boSl1, boSl1, boSl0, if_pos List.nodup_nil, hF, frO_ret, putBo0]
/-! ### slices -/
section
variable {ρ ρ' : Rho}
@[simp] theorem e_optI0 : optI none ρ = .ok none ρ := rfl
@[simp] theorem e_optI1 (m : M Val) : optI (some m) ρ = (m ρ).bd fun x ρ1 => optB (look ρ1 x) fun d => match d with | .int i => .ok (some i) ρ1 | _ => .stuck := by
  show mbind m _ ρ = _
  rw [e_mbind]
  cases m ρ with
  | ok x ρ1 => show (match look ρ1 x with | some (.int i) => Out.ok (some i) ρ1 | _ => .stuck) = optB (look ρ1 x) _; cases look ρ1 x with
    | none => rfl
    | some d => cases d <;> rfl
  | _ => rfl
@[simp] theorem e_dSl (d : M Val) (lo hi : Option (M Val)) : dSl d lo hi ρ = (d ρ).bd fun x ρ1 => (optI lo ρ1).bd fun l ρ2 => (optI hi ρ2).bd fun h ρ3 => optB (look ρ3 x) fun a => optB (f_sl l h a) fun r => .ok (resV r) ρ3 := by
  unfold dSl
  rw [e_mbind]
  cases d ρ with
  | ok x ρ1 =>
    show mbind (optI lo) _ ρ1 = (optI lo ρ1).bd _
    rw [e_mbind]
    cases optI lo ρ1 with
    | ok l ρ2 =>
      show mbind (optI hi) _ ρ2 = (optI hi ρ2).bd _
      rw [e_mbind]
      cases optI hi ρ2 with
      | ok h ρ3 =>
        show (match look ρ3 x with | some a => optOk (f_sl l h a) ρ3 | none => .stuck) = optB (look ρ3 x) _
        cases look ρ3 x with
        | none => rfl
        | some a => show optOk (f_sl l h a) ρ3 = optB (f_sl l h a) _; cases f_sl l h a <;> rfl
      | _ => rfl
    | _ => rfl
  | _ => rfl
@[simp] theorem e_slL (l h : Option Int) (xs : List PyData) : f_sl l h (.list xs) = some (.nl (cutD xs l h)) := rfl
@[simp] theorem e_slT (l h : Option Int) (xs : List PyData) : f_sl l h (.tuple xs) = some (.nt (cutD xs l h)) := rfl
theorem cut_from {α : Type} (xs : List α) (k : Nat) : cutD xs (some (k : Int)) none = xs.drop k := by
  unfold cutD
  rw [HT.sIx_nat, HT.sIx_none]
  by_cases h : k ≤ xs.length
  · rw [Nat.min_eq_left h, List.take_of_length_le (by rw [List.length_drop]; omega)]
  · rw [Nat.min_eq_right (by omega), List.drop_length, List.take_nil, List.drop_of_length_le (by omega)]
theorem cut_to {α : Type} (xs : List α) (k : Nat) : cutD xs none (some (k : Int)) = xs.take k := by
  unfold cutD
  rw [HT.sIx_nat, HT.sIx_none, List.drop_zero, Nat.sub_zero]
  by_cases h : k ≤ xs.length
  · rw [Nat.min_eq_left h]
  · rw [Nat.min_eq_right (by omega), List.take_of_length_le (Nat.le_refl _), List.take_of_length_le (by omega)]
theorem cut_both {α : Type} (xs : List α) (j k : Nat) (h : j ≤ xs.length) : cutD xs (some (j : Int)) (some (k : Int)) = (xs.drop j).take (k - j) := by
  unfold cutD
  rw [HT.sIx_nat, HT.sIx_nat, Nat.min_eq_left h]
  by_cases hk : k ≤ xs.length
  · rw [Nat.min_eq_left hk]
  · rw [Nat.min_eq_right (by omega), List.take_of_length_le (by rw [List.length_drop]; omega), List.take_of_length_le (by rw [List.length_drop]; omega)]
end
/-! ### data that repr and == take -/
mutual
def okD : PyData → Bool
  | .none => true
  | .bool _ => true
  | .int i => decide (i.natAbs.log2 < 1000)
  | .str x => PyData.strOk x
  | .list xs => okDA xs
  | .tuple xs => okDA xs
  | .dict _ => false
def okDA : List PyData → Bool
  | [] => true
  | x :: xs => okD x && okDA xs
end
mutual
theorem okD_lay : ∀ d : PyData, okD d = true → d.canLay0 = true
  | .none, _ => rfl
  | .bool _, _ => rfl
  | .int _, _ => rfl
  | .str x, h => by simpa [PyData.canLay0] using (show PyData.strOk x = true from h)
  | .list xs, h => by simpa [PyData.canLay0] using okDA_lay xs h
  | .tuple xs, h => by simpa [PyData.canLay0] using okDA_lay xs h
  | .dict _, h => by cases h
theorem okDA_lay : ∀ d : List PyData, okDA d = true → PyData.canLayAll0 d = true
  | [], _ => rfl
  | x :: xs, h => by
    have h' : (okD x && okDA xs) = true := h
    rw [Bool.and_eq_true] at h'
    simp [PyData.canLayAll0, okD_lay x h'.1, okDA_lay xs h'.2]
end
mutual
theorem okD_show : ∀ d : PyData, okD d = true → d.showable = true
  | .none, _ => rfl
  | .bool _, _ => rfl
  | .int i, h => by
    have h' : i.natAbs.log2 < 1000 := of_decide_eq_true h
    simp only [PyData.showable, decide_eq_true_eq]
    omega
  | .str x, h => rfl
  | .list xs, h => by simpa [PyData.showable] using okDA_show xs h
  | .tuple xs, h => by simpa [PyData.showable] using okDA_show xs h
  | .dict _, h => by cases h
theorem okDA_show : ∀ d : List PyData, okDA d = true → PyData.showableAll d = true
  | [], _ => rfl
  | x :: xs, h => by
    have h' : (okD x && okDA xs) = true := h
    rw [Bool.and_eq_true] at h'
    simp [PyData.showableAll, okD_show x h'.1, okDA_show xs h'.2]
end
mutual
theorem okD_short : ∀ d : PyData, okD d = true → d.intsShort 1001 = true
  | .none, _ => rfl
  | .bool _, _ => rfl
  | .int i, h => by
    have h' : i.natAbs.log2 < 1000 := of_decide_eq_true h
    simp only [PyData.intsShort, decide_eq_true_eq]
    show (Str.ofString (toString i)).length ≤ 1001
    rw [PySem.ofString_length]
    exact int_text_length_le (by decide) h'
  | .str x, h => rfl
  | .list xs, h => by simpa [PyData.intsShort] using okDA_short xs h
  | .tuple xs, h => by simpa [PyData.intsShort] using okDA_short xs h
  | .dict _, h => by cases h
theorem okDA_short : ∀ d : List PyData, okDA d = true → PyData.intsShortAll 1001 d = true
  | [], _ => rfl
  | x :: xs, h => by
    have h' : (okD x && okDA xs) = true := h
    rw [Bool.and_eq_true] at h'
    simp [PyData.intsShortAll, okD_short x h'.1, okDA_short xs h'.2]
end
theorem shp_ok {d : PyData} (h : okD d = true) (h2 : d.depth ≤ 64) : shp d = true := by
  unfold shp SeqAt.shaped
  rw [PyData.hasDict_of_canLay d (okD_lay d h), okD_lay d h, decide_eq_true h2]
  rfl
theorem rpr_ok {d : PyData} (h : okD d = true) (h2 : d.depth ≤ 64) (h3 : d.bulk ≤ 16000) : rpr d = true := by
  have q := PyData.shown_le_bulk 1001 (by decide) d (PyData.leavesShort_of_canLay0 1001 d (okD_lay d h) (okD_short d h))
  unfold rpr
  have e : d.shown.length ≤ sizeLine := by rw [sizeLine_eq]; omega
  rw [PyData.hasDict_of_canLay d (okD_lay d h), okD_show d h, decide_eq_true h2, decide_eq_true e]
  rfl
/-- what the laws ask of two answers -/
@[simp] theorem e_repr {d : PyData} (h : rpr d = true) : f_repr [d] = some (.val (.str d.shown)) := grd_t (by rw [h]; rfl)
theorem e_reprX {d : PyData} (h : rprX d = true) : f_repr [d] = some (.val (.str d.shown)) := grd_t (by rw [h, Bool.or_true])
theorem okDA_all {ds : List PyData} (h : ∀ d ∈ ds, okD d = true) : okDA ds = true := by
  induction ds with
  | nil => rfl
  | cons d r ih => show (okD d && okDA r) = true; rw [h d List.mem_cons_self, ih fun e he => h e (List.mem_cons_of_mem _ he)]; rfl
theorem depthA_zero {ds : List PyData} (h : ∀ d ∈ ds, d.depth = 0) : PyData.depthAll ds = 0 := by
  induction ds with
  | nil => rfl
  | cons d r ih =>
    simp only [PyData.depthAll]
    rw [h d List.mem_cons_self, ih fun e he => h e (List.mem_cons_of_mem _ he)]
    rfl
theorem depthA_le {ds : List PyData} {k : Nat} (h : ∀ d ∈ ds, d.depth ≤ k) : PyData.depthAll ds ≤ k := by
  induction ds with
  | nil => exact Nat.zero_le _
  | cons d r ih =>
    simp only [PyData.depthAll]
    have := h d List.mem_cons_self
    have := ih fun e he => h e (List.mem_cons_of_mem _ he)
    omega
theorem bulkA_le {ds : List PyData} {k : Nat} (h : ∀ d ∈ ds, d.bulk ≤ k) : PyData.bulkAll ds ≤ ds.length * (k + 1) := by
  induction ds with
  | nil => exact Nat.zero_le _
  | cons d r ih =>
    simp only [PyData.bulkAll, List.length_cons, Nat.succ_mul]
    have := h d List.mem_cons_self
    have := ih fun e he => h e (List.mem_cons_of_mem _ he)
    omega
/-- flat leaves -/
def leaf : PyData → Bool
  | .none => true
  | .bool _ => true
  | .int i => decide (i.natAbs.log2 < 1000)
  | _ => false
theorem leaf_ok {d : PyData} (h : leaf d = true) : okD d = true ∧ d.depth = 0 ∧ d.bulk = 0 := by
  cases d with
  | none => exact ⟨rfl, rfl, rfl⟩
  | bool b => exact ⟨rfl, rfl, rfl⟩
  | int i => exact ⟨h, rfl, rfl⟩
  | _ => cases h
theorem list_leaves {ds : List PyData} (h : ∀ d ∈ ds, leaf d = true) : okD (.list ds) = true ∧ (PyData.list ds).depth = 1 ∧ (PyData.list ds).bulk ≤ ds.length :=
  ⟨okDA_all fun d hd => (leaf_ok (h d hd)).1, by simp only [PyData.depth]; rw [depthA_zero fun d hd => (leaf_ok (h d hd)).2.1], by
    simp only [PyData.bulk]
    have := bulkA_le (ds := ds) (k := 0) fun d hd => Nat.le_of_eq (leaf_ok (h d hd)).2.2
    omega⟩
theorem tuple_leaves {ds : List PyData} (h : ∀ d ∈ ds, leaf d = true) : okD (.tuple ds) = true ∧ (PyData.tuple ds).depth = 1 ∧ (PyData.tuple ds).bulk ≤ ds.length :=
  ⟨okDA_all fun d hd => (leaf_ok (h d hd)).1, by simp only [PyData.depth]; rw [depthA_zero fun d hd => (leaf_ok (h d hd)).2.1], by
    simp only [PyData.bulk]
    have := bulkA_le (ds := ds) (k := 0) fun d hd => Nat.le_of_eq (leaf_ok (h d hd)).2.2
    omega⟩
theorem rpr_list {ds : List PyData} (h : ∀ d ∈ ds, leaf d = true) (hl : ds.length ≤ 16000) : rpr (.list ds) = true := let ⟨a, b, c⟩ := list_leaves h; rpr_ok a (by omega) (by omega)
theorem rpr_tuple {ds : List PyData} (h : ∀ d ∈ ds, leaf d = true) (hl : ds.length ≤ 16000) : rpr (.tuple ds) = true := let ⟨a, b, c⟩ := tuple_leaves h; rpr_ok a (by omega) (by omega)
end DL
end

section
set_option Elab.async false
set_option linter.all false
set_option maxRecDepth 100000
set_option maxHeartbeats 2000000
namespace DL
open PySem PySem.Spec PyProof.Rows L2
/-! ### one step after the other: rules for a walk over explicit slots -/
def resO (o : Option Res) : Option Val := o.map resV
section
variable {α : Type} {ρ ρ' ρ1 ρ2 ρ3 ρ4 ρ5 ρ6 : Rho} {x y z v : Val} {a b c d : PyData} {xs ys as bs zs : List PyData}
/-! slots -/
theorem u0 {a0 s : Sl} {l : Rho} : (a0 :: l).set 0 s = s :: l := rfl
theorem u1 {a0 a1 s : Sl} {l : Rho} : (a0 :: a1 :: l).set 1 s = a0 :: s :: l := rfl
theorem u2 {a0 a1 a2 s : Sl} {l : Rho} : (a0 :: a1 :: a2 :: l).set 2 s = a0 :: a1 :: s :: l := rfl
theorem u3 {a0 a1 a2 a3 s : Sl} {l : Rho} : (a0 :: a1 :: a2 :: a3 :: l).set 3 s = a0 :: a1 :: a2 :: s :: l := rfl
theorem u4 {a0 a1 a2 a3 a4 s : Sl} {l : Rho} : (a0 :: a1 :: a2 :: a3 :: a4 :: l).set 4 s = a0 :: a1 :: a2 :: a3 :: s :: l := rfl
theorem u5 {a0 a1 a2 a3 a4 a5 s : Sl} {l : Rho} : (a0 :: a1 :: a2 :: a3 :: a4 :: a5 :: l).set 5 s = a0 :: a1 :: a2 :: a3 :: a4 :: s :: l := rfl
theorem u6 {a0 a1 a2 a3 a4 a5 a6 s : Sl} {l : Rho} : (a0 :: a1 :: a2 :: a3 :: a4 :: a5 :: a6 :: l).set 6 s = a0 :: a1 :: a2 :: a3 :: a4 :: a5 :: s :: l := rfl
theorem u7 {a0 a1 a2 a3 a4 a5 a6 a7 s : Sl} {l : Rho} : (a0 :: a1 :: a2 :: a3 :: a4 :: a5 :: a6 :: a7 :: l).set 7 s = a0 :: a1 :: a2 :: a3 :: a4 :: a5 :: a6 :: s :: l := rfl
theorem u8 {a0 a1 a2 a3 a4 a5 a6 a7 a8 s : Sl} {l : Rho} : (a0 :: a1 :: a2 :: a3 :: a4 :: a5 :: a6 :: a7 :: a8 :: l).set 8 s = a0 :: a1 :: a2 :: a3 :: a4 :: a5 :: a6 :: a7 :: s :: l := rfl
theorem u9 {a0 a1 a2 a3 a4 a5 a6 a7 a8 a9 s : Sl} {l : Rho} : (a0 :: a1 :: a2 :: a3 :: a4 :: a5 :: a6 :: a7 :: a8 :: a9 :: l).set 9 s = a0 :: a1 :: a2 :: a3 :: a4 :: a5 :: a6 :: a7 :: a8 :: s :: l := rfl
theorem u10 {a0 a1 a2 a3 a4 a5 a6 a7 a8 a9 a10 s : Sl} {l : Rho} : (a0 :: a1 :: a2 :: a3 :: a4 :: a5 :: a6 :: a7 :: a8 :: a9 :: a10 :: l).set 10 s = a0 :: a1 :: a2 :: a3 :: a4 :: a5 :: a6 :: a7 :: a8 :: a9 :: s :: l := rfl
theorem u11 {a0 a1 a2 a3 a4 a5 a6 a7 a8 a9 a10 a11 s : Sl} {l : Rho} : (a0 :: a1 :: a2 :: a3 :: a4 :: a5 :: a6 :: a7 :: a8 :: a9 :: a10 :: a11 :: l).set 11 s = a0 :: a1 :: a2 :: a3 :: a4 :: a5 :: a6 :: a7 :: a8 :: a9 :: a10 :: s :: l := rfl
theorem u12 {a0 a1 a2 a3 a4 a5 a6 a7 a8 a9 a10 a11 a12 s : Sl} {l : Rho} : (a0 :: a1 :: a2 :: a3 :: a4 :: a5 :: a6 :: a7 :: a8 :: a9 :: a10 :: a11 :: a12 :: l).set 12 s = a0 :: a1 :: a2 :: a3 :: a4 :: a5 :: a6 :: a7 :: a8 :: a9 :: a10 :: a11 :: s :: l := rfl
theorem u13 {a0 a1 a2 a3 a4 a5 a6 a7 a8 a9 a10 a11 a12 a13 s : Sl} {l : Rho} : (a0 :: a1 :: a2 :: a3 :: a4 :: a5 :: a6 :: a7 :: a8 :: a9 :: a10 :: a11 :: a12 :: a13 :: l).set 13 s = a0 :: a1 :: a2 :: a3 :: a4 :: a5 :: a6 :: a7 :: a8 :: a9 :: a10 :: a11 :: a12 :: s :: l := rfl
theorem u14 {a0 a1 a2 a3 a4 a5 a6 a7 a8 a9 a10 a11 a12 a13 a14 s : Sl} {l : Rho} : (a0 :: a1 :: a2 :: a3 :: a4 :: a5 :: a6 :: a7 :: a8 :: a9 :: a10 :: a11 :: a12 :: a13 :: a14 :: l).set 14 s = a0 :: a1 :: a2 :: a3 :: a4 :: a5 :: a6 :: a7 :: a8 :: a9 :: a10 :: a11 :: a12 :: a13 :: s :: l := rfl
theorem u15 {a0 a1 a2 a3 a4 a5 a6 a7 a8 a9 a10 a11 a12 a13 a14 a15 s : Sl} {l : Rho} : (a0 :: a1 :: a2 :: a3 :: a4 :: a5 :: a6 :: a7 :: a8 :: a9 :: a10 :: a11 :: a12 :: a13 :: a14 :: a15 :: l).set 15 s = a0 :: a1 :: a2 :: a3 :: a4 :: a5 :: a6 :: a7 :: a8 :: a9 :: a10 :: a11 :: a12 :: a13 :: a14 :: s :: l := rfl
theorem u16 {a0 a1 a2 a3 a4 a5 a6 a7 a8 a9 a10 a11 a12 a13 a14 a15 a16 s : Sl} {l : Rho} : (a0 :: a1 :: a2 :: a3 :: a4 :: a5 :: a6 :: a7 :: a8 :: a9 :: a10 :: a11 :: a12 :: a13 :: a14 :: a15 :: a16 :: l).set 16 s = a0 :: a1 :: a2 :: a3 :: a4 :: a5 :: a6 :: a7 :: a8 :: a9 :: a10 :: a11 :: a12 :: a13 :: a14 :: a15 :: s :: l := rfl
theorem u17 {a0 a1 a2 a3 a4 a5 a6 a7 a8 a9 a10 a11 a12 a13 a14 a15 a16 a17 s : Sl} {l : Rho} : (a0 :: a1 :: a2 :: a3 :: a4 :: a5 :: a6 :: a7 :: a8 :: a9 :: a10 :: a11 :: a12 :: a13 :: a14 :: a15 :: a16 :: a17 :: l).set 17 s = a0 :: a1 :: a2 :: a3 :: a4 :: a5 :: a6 :: a7 :: a8 :: a9 :: a10 :: a11 :: a12 :: a13 :: a14 :: a15 :: a16 :: s :: l := rfl
theorem u18 {a0 a1 a2 a3 a4 a5 a6 a7 a8 a9 a10 a11 a12 a13 a14 a15 a16 a17 a18 s : Sl} {l : Rho} : (a0 :: a1 :: a2 :: a3 :: a4 :: a5 :: a6 :: a7 :: a8 :: a9 :: a10 :: a11 :: a12 :: a13 :: a14 :: a15 :: a16 :: a17 :: a18 :: l).set 18 s = a0 :: a1 :: a2 :: a3 :: a4 :: a5 :: a6 :: a7 :: a8 :: a9 :: a10 :: a11 :: a12 :: a13 :: a14 :: a15 :: a16 :: a17 :: s :: l := rfl
theorem u19 {a0 a1 a2 a3 a4 a5 a6 a7 a8 a9 a10 a11 a12 a13 a14 a15 a16 a17 a18 a19 s : Sl} {l : Rho} : (a0 :: a1 :: a2 :: a3 :: a4 :: a5 :: a6 :: a7 :: a8 :: a9 :: a10 :: a11 :: a12 :: a13 :: a14 :: a15 :: a16 :: a17 :: a18 :: a19 :: l).set 19 s = a0 :: a1 :: a2 :: a3 :: a4 :: a5 :: a6 :: a7 :: a8 :: a9 :: a10 :: a11 :: a12 :: a13 :: a14 :: a15 :: a16 :: a17 :: a18 :: s :: l := rfl
theorem u20 {a0 a1 a2 a3 a4 a5 a6 a7 a8 a9 a10 a11 a12 a13 a14 a15 a16 a17 a18 a19 a20 s : Sl} {l : Rho} : (a0 :: a1 :: a2 :: a3 :: a4 :: a5 :: a6 :: a7 :: a8 :: a9 :: a10 :: a11 :: a12 :: a13 :: a14 :: a15 :: a16 :: a17 :: a18 :: a19 :: a20 :: l).set 20 s = a0 :: a1 :: a2 :: a3 :: a4 :: a5 :: a6 :: a7 :: a8 :: a9 :: a10 :: a11 :: a12 :: a13 :: a14 :: a15 :: a16 :: a17 :: a18 :: a19 :: s :: l := rfl
theorem u21 {a0 a1 a2 a3 a4 a5 a6 a7 a8 a9 a10 a11 a12 a13 a14 a15 a16 a17 a18 a19 a20 a21 s : Sl} {l : Rho} : (a0 :: a1 :: a2 :: a3 :: a4 :: a5 :: a6 :: a7 :: a8 :: a9 :: a10 :: a11 :: a12 :: a13 :: a14 :: a15 :: a16 :: a17 :: a18 :: a19 :: a20 :: a21 :: l).set 21 s = a0 :: a1 :: a2 :: a3 :: a4 :: a5 :: a6 :: a7 :: a8 :: a9 :: a10 :: a11 :: a12 :: a13 :: a14 :: a15 :: a16 :: a17 :: a18 :: a19 :: a20 :: s :: l := rfl
theorem u22 {a0 a1 a2 a3 a4 a5 a6 a7 a8 a9 a10 a11 a12 a13 a14 a15 a16 a17 a18 a19 a20 a21 a22 s : Sl} {l : Rho} : (a0 :: a1 :: a2 :: a3 :: a4 :: a5 :: a6 :: a7 :: a8 :: a9 :: a10 :: a11 :: a12 :: a13 :: a14 :: a15 :: a16 :: a17 :: a18 :: a19 :: a20 :: a21 :: a22 :: l).set 22 s = a0 :: a1 :: a2 :: a3 :: a4 :: a5 :: a6 :: a7 :: a8 :: a9 :: a10 :: a11 :: a12 :: a13 :: a14 :: a15 :: a16 :: a17 :: a18 :: a19 :: a20 :: a21 :: s :: l := rfl
theorem u23 {a0 a1 a2 a3 a4 a5 a6 a7 a8 a9 a10 a11 a12 a13 a14 a15 a16 a17 a18 a19 a20 a21 a22 a23 s : Sl} {l : Rho} : (a0 :: a1 :: a2 :: a3 :: a4 :: a5 :: a6 :: a7 :: a8 :: a9 :: a10 :: a11 :: a12 :: a13 :: a14 :: a15 :: a16 :: a17 :: a18 :: a19 :: a20 :: a21 :: a22 :: a23 :: l).set 23 s = a0 :: a1 :: a2 :: a3 :: a4 :: a5 :: a6 :: a7 :: a8 :: a9 :: a10 :: a11 :: a12 :: a13 :: a14 :: a15 :: a16 :: a17 :: a18 :: a19 :: a20 :: a21 :: a22 :: s :: l := rfl
theorem u24 {a0 a1 a2 a3 a4 a5 a6 a7 a8 a9 a10 a11 a12 a13 a14 a15 a16 a17 a18 a19 a20 a21 a22 a23 a24 s : Sl} {l : Rho} : (a0 :: a1 :: a2 :: a3 :: a4 :: a5 :: a6 :: a7 :: a8 :: a9 :: a10 :: a11 :: a12 :: a13 :: a14 :: a15 :: a16 :: a17 :: a18 :: a19 :: a20 :: a21 :: a22 :: a23 :: a24 :: l).set 24 s = a0 :: a1 :: a2 :: a3 :: a4 :: a5 :: a6 :: a7 :: a8 :: a9 :: a10 :: a11 :: a12 :: a13 :: a14 :: a15 :: a16 :: a17 :: a18 :: a19 :: a20 :: a21 :: a22 :: a23 :: s :: l := rfl
theorem u25 {a0 a1 a2 a3 a4 a5 a6 a7 a8 a9 a10 a11 a12 a13 a14 a15 a16 a17 a18 a19 a20 a21 a22 a23 a24 a25 s : Sl} {l : Rho} : (a0 :: a1 :: a2 :: a3 :: a4 :: a5 :: a6 :: a7 :: a8 :: a9 :: a10 :: a11 :: a12 :: a13 :: a14 :: a15 :: a16 :: a17 :: a18 :: a19 :: a20 :: a21 :: a22 :: a23 :: a24 :: a25 :: l).set 25 s = a0 :: a1 :: a2 :: a3 :: a4 :: a5 :: a6 :: a7 :: a8 :: a9 :: a10 :: a11 :: a12 :: a13 :: a14 :: a15 :: a16 :: a17 :: a18 :: a19 :: a20 :: a21 :: a22 :: a23 :: a24 :: s :: l := rfl
theorem u26 {a0 a1 a2 a3 a4 a5 a6 a7 a8 a9 a10 a11 a12 a13 a14 a15 a16 a17 a18 a19 a20 a21 a22 a23 a24 a25 a26 s : Sl} {l : Rho} : (a0 :: a1 :: a2 :: a3 :: a4 :: a5 :: a6 :: a7 :: a8 :: a9 :: a10 :: a11 :: a12 :: a13 :: a14 :: a15 :: a16 :: a17 :: a18 :: a19 :: a20 :: a21 :: a22 :: a23 :: a24 :: a25 :: a26 :: l).set 26 s = a0 :: a1 :: a2 :: a3 :: a4 :: a5 :: a6 :: a7 :: a8 :: a9 :: a10 :: a11 :: a12 :: a13 :: a14 :: a15 :: a16 :: a17 :: a18 :: a19 :: a20 :: a21 :: a22 :: a23 :: a24 :: a25 :: s :: l := rfl
theorem u27 {a0 a1 a2 a3 a4 a5 a6 a7 a8 a9 a10 a11 a12 a13 a14 a15 a16 a17 a18 a19 a20 a21 a22 a23 a24 a25 a26 a27 s : Sl} {l : Rho} : (a0 :: a1 :: a2 :: a3 :: a4 :: a5 :: a6 :: a7 :: a8 :: a9 :: a10 :: a11 :: a12 :: a13 :: a14 :: a15 :: a16 :: a17 :: a18 :: a19 :: a20 :: a21 :: a22 :: a23 :: a24 :: a25 :: a26 :: a27 :: l).set 27 s = a0 :: a1 :: a2 :: a3 :: a4 :: a5 :: a6 :: a7 :: a8 :: a9 :: a10 :: a11 :: a12 :: a13 :: a14 :: a15 :: a16 :: a17 :: a18 :: a19 :: a20 :: a21 :: a22 :: a23 :: a24 :: a25 :: a26 :: s :: l := rfl
theorem u28 {a0 a1 a2 a3 a4 a5 a6 a7 a8 a9 a10 a11 a12 a13 a14 a15 a16 a17 a18 a19 a20 a21 a22 a23 a24 a25 a26 a27 a28 s : Sl} {l : Rho} : (a0 :: a1 :: a2 :: a3 :: a4 :: a5 :: a6 :: a7 :: a8 :: a9 :: a10 :: a11 :: a12 :: a13 :: a14 :: a15 :: a16 :: a17 :: a18 :: a19 :: a20 :: a21 :: a22 :: a23 :: a24 :: a25 :: a26 :: a27 :: a28 :: l).set 28 s = a0 :: a1 :: a2 :: a3 :: a4 :: a5 :: a6 :: a7 :: a8 :: a9 :: a10 :: a11 :: a12 :: a13 :: a14 :: a15 :: a16 :: a17 :: a18 :: a19 :: a20 :: a21 :: a22 :: a23 :: a24 :: a25 :: a26 :: a27 :: s :: l := rfl
theorem u29 {a0 a1 a2 a3 a4 a5 a6 a7 a8 a9 a10 a11 a12 a13 a14 a15 a16 a17 a18 a19 a20 a21 a22 a23 a24 a25 a26 a27 a28 a29 s : Sl} {l : Rho} : (a0 :: a1 :: a2 :: a3 :: a4 :: a5 :: a6 :: a7 :: a8 :: a9 :: a10 :: a11 :: a12 :: a13 :: a14 :: a15 :: a16 :: a17 :: a18 :: a19 :: a20 :: a21 :: a22 :: a23 :: a24 :: a25 :: a26 :: a27 :: a28 :: a29 :: l).set 29 s = a0 :: a1 :: a2 :: a3 :: a4 :: a5 :: a6 :: a7 :: a8 :: a9 :: a10 :: a11 :: a12 :: a13 :: a14 :: a15 :: a16 :: a17 :: a18 :: a19 :: a20 :: a21 :: a22 :: a23 :: a24 :: a25 :: a26 :: a27 :: a28 :: s :: l := rfl
theorem u30 {a0 a1 a2 a3 a4 a5 a6 a7 a8 a9 a10 a11 a12 a13 a14 a15 a16 a17 a18 a19 a20 a21 a22 a23 a24 a25 a26 a27 a28 a29 a30 s : Sl} {l : Rho} : (a0 :: a1 :: a2 :: a3 :: a4 :: a5 :: a6 :: a7 :: a8 :: a9 :: a10 :: a11 :: a12 :: a13 :: a14 :: a15 :: a16 :: a17 :: a18 :: a19 :: a20 :: a21 :: a22 :: a23 :: a24 :: a25 :: a26 :: a27 :: a28 :: a29 :: a30 :: l).set 30 s = a0 :: a1 :: a2 :: a3 :: a4 :: a5 :: a6 :: a7 :: a8 :: a9 :: a10 :: a11 :: a12 :: a13 :: a14 :: a15 :: a16 :: a17 :: a18 :: a19 :: a20 :: a21 :: a22 :: a23 :: a24 :: a25 :: a26 :: a27 :: a28 :: a29 :: s :: l := rfl
theorem u31 {a0 a1 a2 a3 a4 a5 a6 a7 a8 a9 a10 a11 a12 a13 a14 a15 a16 a17 a18 a19 a20 a21 a22 a23 a24 a25 a26 a27 a28 a29 a30 a31 s : Sl} {l : Rho} : (a0 :: a1 :: a2 :: a3 :: a4 :: a5 :: a6 :: a7 :: a8 :: a9 :: a10 :: a11 :: a12 :: a13 :: a14 :: a15 :: a16 :: a17 :: a18 :: a19 :: a20 :: a21 :: a22 :: a23 :: a24 :: a25 :: a26 :: a27 :: a28 :: a29 :: a30 :: a31 :: l).set 31 s = a0 :: a1 :: a2 :: a3 :: a4 :: a5 :: a6 :: a7 :: a8 :: a9 :: a10 :: a11 :: a12 :: a13 :: a14 :: a15 :: a16 :: a17 :: a18 :: a19 :: a20 :: a21 :: a22 :: a23 :: a24 :: a25 :: a26 :: a27 :: a28 :: a29 :: a30 :: s :: l := rfl

theorem cat {α : Type} {p q : α} (h : p = q) : p = q := h
theorem r_nx : SOut.nx ρ = .nx ρ := rfl
theorem r_bk : SOut.bk ρ = .bk ρ := rfl
theorem r_ct : SOut.ct ρ = .ct ρ := rfl
theorem r_rt {r : RV} : SOut.rt r ρ = .rt r ρ := rfl
theorem r_ok : Out.ok v ρ = Out.ok v ρ := rfl
def NB (s : Sl) : Prop := notBo (some s) = true
theorem nbg {i : Nat} {s : Sl} (h : ρ[i]? = some s) (h2 : NB s) : notBo ρ[i]? = true := by rw [h]; exact h2
theorem nbr {o : Option Sl} (h : notBo o = true) : notBo o = true := h
theorem gtr {i : Nat} {s : Sl} (h : ρ[i]? = some s) : ρ[i]? = some s := h
theorem lk_b {k l : Bool} (h : k = l) : look ρ (.sh (.bool k)) = some (.bool l) := by subst h; rfl
theorem lk_i {k l : Int} (h : k = l) : look ρ (.sh (.int k)) = some (.int l) := by subst h; rfl
theorem lk_ow {i : Nat} (h : ρ[i]? = some (.ow xs)) : look ρ (.sl i) = some (.list xs) := by rw [e_lookSl, h]; rfl
theorem lk_bo {i : Nat} (h : ρ[i]? = some (.bo xs)) : look ρ (.sl i) = some (.list xs) := by rw [e_lookSl, h]; rfl
theorem lk_sd {i : Nat} (h : ρ[i]? = some (.sh d)) : look ρ (.sl i) = some d := by rw [e_lookSl, h]; rfl
theorem w_op2 {f : PyData → PyData → Option Res} {d e : M Val} (h1 : d ρ = .ok x ρ1) (h2 : e ρ1 = .ok y ρ2) (h3 : look ρ2 x = some a) (h4 : look ρ2 y = some b) (h5 : resO (f a b) = some v) : dOp2 f d e ρ = .ok v ρ2 := by
  rw [e_dOp2, h1, bd_ok, h2, bd_ok, h3, h4]
  show optB (f a b) _ = _
  unfold resO at h5
  cases q : f a b with
  | none => rw [q] at h5; cases h5
  | some r => rw [q] at h5; cases h5; rfl
theorem w_op1 {f : PyData → Option Res} {d : M Val} (h1 : d ρ = .ok x ρ1) (h3 : look ρ1 x = some a) (h5 : resO (f a) = some v) : dOp1 f d ρ = .ok v ρ1 := by
  rw [e_dOp1, h1, bd_ok, h3]
  show optB (f a) _ = _
  unfold resO at h5
  cases q : f a with
  | none => rw [q] at h5; cases h5
  | some r => rw [q] at h5; cases h5; rfl
theorem w_isi {T : TyN} {d : M Val} {k : Bool} (h1 : d ρ = .ok x ρ1) (h3 : look ρ1 x = some a) (hx : isExn a = false) (h4 : isT T a = k) : dIsi T d ρ = .ok (.sh (.bool k)) ρ1 := by
  unfold dIsi
  exact w_op1 h1 h3 (by subst h4; unfold f_isi; rw [hx]; rfl)
theorem w_tst {d : M Val} {k : Bool} (h1 : d ρ = .ok x ρ1) (h2 : look ρ1 x = some (.bool k)) : tst d ρ = .ok k ρ1 := by
  rw [e_tst, h1, bd_ok, h2]; rfl
theorem w_yes : dYes ρ = .ok true ρ := rfl
theorem o_ids {k l : Bool} (h : k = l) : Out.ok (Val.sh (PyData.bool k)) ρ = Out.ok (Val.sh (PyData.bool l)) ρ := by subst h; rfl
theorem w_t {k : Bool} {A B o : α} (hk : k = true) (h : A = o) : bIf k A B = o := by rw [hk]; exact h
theorem w_f {k : Bool} {A B o : α} (hk : k = false) (h : B = o) : bIf k A B = o := by rw [hk]; exact h
theorem w_and {a b : M Val} {k : Bool} {o : Out Val} (h : tst a ρ = .ok k ρ1) (h2 : bIf k (b ρ1) (.ok (.sh (.bool false)) ρ1) = o) : dAnd a b ρ = o := by
  rw [e_dAnd, h, bd_ok, ← h2]; cases k <;> rfl
theorem w_or {a b : M Val} {k : Bool} {o : Out Val} (h : tst a ρ = .ok k ρ1) (h2 : bIf k (.ok (.sh (.bool true)) ρ1) (b ρ1) = o) : dOr a b ρ = o := by
  rw [e_dOr, h, bd_ok, ← h2]; cases k <;> rfl
theorem w_andP {a b : M Val} {k l : Bool} (h : tst a ρ = .ok k ρ1) (h2 : b ρ1 = .ok (.sh (.bool l)) ρ1) : dAnd a b ρ = .ok (.sh (.bool (k && l))) ρ1 := by
  rw [e_dAnd, h, bd_ok]; cases k
  · rfl
  · exact h2
theorem w_orP {a b : M Val} {k l : Bool} (h : tst a ρ = .ok k ρ1) (h2 : b ρ1 = .ok (.sh (.bool l)) ρ1) : dOr a b ρ = .ok (.sh (.bool (k || l))) ρ1 := by
  rw [e_dOr, h, bd_ok]; cases k
  · exact h2
  · rfl
theorem w_not {a : M Val} {k : Bool} (h : tst a ρ = .ok k ρ1) : dNot a ρ = .ok (.sh (.bool !k)) ρ1 := by rw [e_dNot, h]; rfl
theorem w_ife {c a b : M Val} {k : Bool} {o : Out Val} (h : tst c ρ = .ok k ρ1) (h2 : bIf k (a ρ1) (b ρ1) = o) : dIf c a b ρ = o := by
  rw [e_dIf, h, bd_ok, ← h2]; cases k <;> rfl
theorem w_chain {f f' : PyData → PyData → Option Res} {d e g : M Val} {k : Bool} {o : Out Val} (h1 : d ρ = .ok x ρ1) (h2 : e ρ1 = .ok y ρ2) (h3 : look ρ2 x = some a) (h4 : look ρ2 y = some b) (h5 : resO (f a b) = some (.sh (.bool k)))
    (h6 : bIf k (dOp2 f' (fun ρ => .ok (kp y) ρ) g ρ2) (.ok (.sh (.bool false)) ρ2) = o) : dChain f f' d e g ρ = o := by
  rw [e_dChain, h1, bd_ok, h2, bd_ok, h3, h4, ← h6]
  show optB (f a b) _ = _
  unfold resO at h5
  cases q : f a b with
  | none => rw [q] at h5; cases h5
  | some r =>
    rw [q] at h5
    cases r with
    | val d =>
      cases h5
      rw [optB_some, valB_b]
      cases k
      · rfl
      · rw [bIf_t, bIf_t, e_dOp2, bd_ok]

    | nl d => cases h5
    | nt d => cases h5
theorem w_chainP {f f' : PyData → PyData → Option Res} {d e g : M Val} {k l : Bool} (h1 : d ρ = .ok x ρ1) (h2 : e ρ1 = .ok y ρ2) (h3 : look ρ2 x = some a) (h4 : look ρ2 y = some b) (h5 : resO (f a b) = some (.sh (.bool k)))
    (h6 : dOp2 f' (fun ρ => .ok (kp y) ρ) g ρ2 = .ok (.sh (.bool l)) ρ2) : dChain f f' d e g ρ = .ok (.sh (.bool (k && l))) ρ2 := by
  refine w_chain h1 h2 h3 h4 h5 ?_
  rw [h6]; cases k <;> rfl
theorem w_kpS : (fun ρ => Out.ok (kp (.sh d)) ρ : M Val) ρ = .ok (.sh d) ρ := rfl
theorem w_kpF : (fun ρ => Out.ok (kp (.fr xs)) ρ : M Val) ρ = .ok (.sh (.list xs)) ρ := rfl
theorem w_kpL {i : Nat} : (fun ρ => Out.ok (kp (.sl i)) ρ : M Val) ρ = .ok (.sl i) ρ := rfl
/-! sharing -/
theorem shr_ow {i : Nat} (h : ρ[i]? = some (.ow xs)) (h2 : ρ.set i (.sh (.list xs)) = ρ1) : shr (.sl i) ρ = .ok (.list xs) ρ1 := by rw [e_shrSl, h, ← h2]; rfl
theorem shr_sd {i : Nat} (h : ρ[i]? = some (.sh d)) : shr (.sl i) ρ = .ok d ρ := by rw [e_shrSl, h]; rfl
theorem w_evS {d : M Val} {r : List (M Val)} (h1 : d ρ = .ok x ρ1) (h2 : shr x ρ1 = .ok a ρ2) (h3 : evS r ρ2 = .ok as ρ3) : evS (d :: r) ρ = .ok (a :: as) ρ3 := by rw [e_evS1, h1, bd_ok, h2, bd_ok, h3]; rfl
theorem w_tup {ds : List (M Val)} (h : evS ds ρ = .ok as ρ1) (hl : as.length ≤ 100000) : dTup ds ρ = .ok (.sh (.tuple as)) ρ1 := by rw [e_dTup, h, bd_ok, if_pos hl]
theorem w_lst {ds : List (M Val)} (h : evS ds ρ = .ok as ρ1) (hl : as.length ≤ 100000) : dLst ds ρ = .ok (.fr as) ρ1 := by rw [e_dLst, h, bd_ok, if_pos hl]
theorem w_evL {d : M Val} {r : List (M Val)} {vs : List Val} (h1 : d ρ = .ok x ρ1) (h2 : kp x = y) (h3 : evL r ρ1 = .ok vs ρ2) : evL (d :: r) ρ = .ok (y :: vs) ρ2 := by rw [e_evL1, h1, bd_ok, h3, h2]; rfl
theorem w_lkL {r : List Val} (h1 : look ρ x = some a) (h2 : lookL ρ r = some as) : lookL ρ (x :: r) = some (a :: as) := by rw [e_lookL1, h1, h2]; rfl
theorem w_dB {f : List PyData → Option Res} {ds : List (M Val)} {vs : List Val} (h1 : evL ds ρ = .ok vs ρ1) (h2 : lookL ρ1 vs = some as) (h3 : resO (f as) = some v) : dB f ds ρ = .ok v ρ1 := by
  rw [e_dB, h1, bd_ok, h2]
  show optB (f as) _ = _
  unfold resO at h3
  cases q : f as with
  | none => rw [q] at h3; cases h3
  | some r => rw [q] at h3; cases h3; rfl
/-! slices -/
theorem w_opt {m : M Val} {k : Int} (h : m ρ = .ok x ρ1) (h2 : look ρ1 x = some (.int k)) : optI (some m) ρ = .ok (some k) ρ1 := by rw [e_optI1, h, bd_ok, h2]; rfl
theorem w_sl {d : M Val} {lo hi : Option (M Val)} {l h : Option Int} (h1 : d ρ = .ok x ρ1) (h2 : optI lo ρ1 = .ok l ρ2) (h3 : optI hi ρ2 = .ok h ρ3) (h4 : look ρ3 x = some a) (h5 : resO (f_sl l h a) = some v) : dSl d lo hi ρ = .ok v ρ3 := by
  rw [e_dSl, h1, bd_ok, h2, bd_ok, h3, bd_ok, h4]
  show optB (f_sl l h a) _ = _
  unfold resO at h5
  cases q : f_sl l h a with
  | none => rw [q] at h5; cases h5
  | some r => rw [q] at h5; cases h5; rfl
/-! mutation -/
theorem w_app {i : Nat} {d : M Val} {zs : List PyData} (h0 : ρ[i]? = some (.ow zs)) (h1 : d ρ = .ok x ρ1) (h2 : shr x ρ1 = .ok a ρ2) (h3 : ρ2[i]? = some (.ow xs)) (h4 : xs.length < 100000) (h5 : ρ2.set i (.ow (xs ++ [a])) = ρ3) : dMutM i [d] f_append ρ = .ok (.sh .none) ρ3 := by
  rw [e_app, h0, isLs_ow, bIf_t, h1, bd_ok, h2, bd_ok, h3, optB_some, appO_ow, if_pos h4, h5]
theorem w_appB {i : Nat} {d : M Val} {zs : List PyData} (h0 : ρ[i]? = some (.bo zs)) (h1 : d ρ = .ok x ρ1) (h2 : shr x ρ1 = .ok a ρ2) (h3 : ρ2[i]? = some (.bo xs)) (h4 : xs.length < 100000) (h5 : ρ2.set i (.bo (xs ++ [a])) = ρ3) : dMutM i [d] f_append ρ = .ok (.sh .none) ρ3 := by
  rw [e_app, h0, isLs_bo, bIf_t, h1, bd_ok, h2, bd_ok, h3, optB_some, appO_bo, if_pos h4, h5]
theorem w_pop {i : Nat} (h0 : ρ[i]? = some (.ow (xs ++ [a]))) (h5 : ρ.set i (.ow xs) = ρ1) : dMutM i [] f_pop ρ = .ok (.sh a) ρ1 := by
  rw [e_pop, h0, optB_some, popO_ow, List.getLast?_append, ← h5]; simp
/-! statements -/
theorem w_seq {p q : SD} {o1 o : SOut} (h : p ρ = o1) (h2 : sThen o1 q = o) : sSeq p q ρ = o := by rw [e_sSeq, h, h2]
theorem w_nx {q : SD} {o : SOut} (h : q ρ = o) : sThen (.nx ρ) q = o := h
theorem w_nil : sNil ρ = .nx ρ := rfl
theorem w_if {c : M Val} {p q : SD} {k : Bool} {o : SOut} (h : tst c ρ = .ok k ρ1) (h2 : bIf k (p ρ1) (q ρ1) = o) : sIf c p q ρ = o := by rw [e_sIf, h, td_ok, ← h2]; cases k <;> rfl
theorem w_asg {d : M Val} {g : Tg} (h : d ρ = .ok x ρ1) (h2 : g x ρ1 = some ρ2) : sAsg d g ρ = .nx ρ2 := asg_ok h h2
theorem w_drop {d : M Val} (h : d ρ = .ok x ρ1) : sDrop d ρ = .nx ρ1 := drop_ok h
theorem w_ret {d : M Val} {o : SOut} (h : d ρ = .ok x ρ1) (h2 : retV x ρ1 = o) : sRet d ρ = o := by rw [e_sRet, h]; exact h2
theorem w_rvS : retV (.sh d) ρ = .rt (.sh d) ρ := rfl
theorem w_rvF : retV (.fr xs) ρ = .rt (.fr xs) ρ := rfl
theorem w_rvO {i : Nat} (h : ρ[i]? = some (.ow xs)) (h2 : ρ.set i .no = ρ1) : retV (.sl i) ρ = .rt (.fr xs) ρ1 := by rw [e_retV, h, ← h2]; rfl
theorem w_rvD {i : Nat} (h : ρ[i]? = some (.sh d)) : retV (.sl i) ρ = .rt (.sh d) ρ := by rw [e_retV, h]; rfl
theorem w_aug {i : Nat} {f : PyData → PyData → Option Res} {d : M Val} (h : ρ[i]? = some (.sh a)) (h1 : d ρ = .ok y ρ1) (h2 : look ρ1 y = some b) (h3 : resO (f a b) = some (.sh c)) (h4 : notBo ρ1[i]? = true) (h5 : ρ1.set i (.sh c) = ρ2) : sAug i f d ρ = .nx ρ2 := by
  unfold sAug
  rw [h]
  show sBind d _ ρ = _
  rw [e_sBind, h1, td_ok, h2]
  unfold resO at h3
  cases q : f a b with
  | none => rw [q] at h3; cases h3
  | some r =>
    rw [q] at h3
    cases r with
    | val d => cases h3; simp only [q, e_resV, e_stSh, h4, if_pos, h5]; rfl
    | nl d => cases h3
    | nt d => cases h3; simp only [q, e_resT, e_stSh, h4, if_pos, h5]; rfl
/-! targets -/
theorem w_stS {i : Nat} (h : notBo ρ[i]? = true) (h2 : ρ.set i (.sh d) = ρ1) : stI i (.sh d) ρ = some ρ1 := by rw [e_stSh, if_pos h, h2]
theorem w_stF {i : Nat} (h : notBo ρ[i]? = true) (h2 : ρ.set i (.ow xs) = ρ1) : stI i (.fr xs) ρ = some ρ1 := by rw [e_stFr, if_pos h, h2]
theorem w_stL {i j : Nat} (h : notBo ρ[i]? = true) (hn : j ≠ i) (h0 : ρ[j]? = some (.ow xs)) (h2 : ρ.set j (.sh (.list xs)) = ρ1) (h3 : ρ1.set i (.sh (.list xs)) = ρ2) : stI i (.sl j) ρ = some ρ2 := by
  rw [e_stSl, if_pos h, if_neg hn, h0]; subst h2 h3; rfl
theorem w_stD {i j : Nat} (h : notBo ρ[i]? = true) (hn : j ≠ i) (h0 : ρ[j]? = some (.sh d)) (h3 : ρ.set i (.sh d) = ρ2) : stI i (.sl j) ρ = some ρ2 := by
  rw [e_stSl, if_pos h, if_neg hn, h0]; subst h3; rfl
theorem w_gn {i : Nat} (h : stI i x ρ = some ρ1) : gtName i x ρ = some ρ1 := h
theorem w_gt {gs : Tgs} {n : Nat} (hl : xs.length = n) (h : gs xs ρ = some ρ1) : gtTup gs n (.sh (.tuple xs)) ρ = some ρ1 := by rw [e_gtTup, if_pos hl, h]
theorem w_gc {g : Tg} {gs : Tgs} (h : g (.sh a) ρ = some ρ1) (h2 : gs xs ρ1 = some ρ2) : gtCons g gs (a :: xs) ρ = some ρ2 := by rw [e_gtCons, h]; exact h2
theorem w_g0 : gtNil [] ρ = some ρ := rfl
theorem w_gs {i : Nat} {di : M Val} {k : Int} {j : Nat} {zs ys : List PyData} (h : shr x ρ = .ok a ρ1) (h0 : ρ1[i]? = some (.ow ys)) (h1 : di ρ1 = .ok y ρ2) (h2 : look ρ2 y = some (.int k)) (h3 : ρ2[i]? = some (.ow xs)) (h4 : ixN xs.length k = some j) (h5 : xs.set j a = zs) (h6 : ρ2.set i (.ow zs) = ρ3) : gtSub i di x ρ = some ρ3 := by
  unfold gtSub
  simp only [h, h0, lsOf, h1, h2, h3, h4, Option.map_some, setSl, h5, h6, if_pos]
theorem w_gsB {i : Nat} {di : M Val} {k : Int} {j : Nat} {zs ys : List PyData} (h : shr x ρ = .ok a ρ1) (h0 : ρ1[i]? = some (.bo ys)) (h1 : di ρ1 = .ok y ρ2) (h2 : look ρ2 y = some (.int k)) (h3 : ρ2[i]? = some (.bo xs)) (h4 : ixN xs.length k = some j) (h5 : xs.set j a = zs) (h6 : ρ2.set i (.bo zs) = ρ3) : gtSub i di x ρ = some ρ3 := by
  unfold gtSub
  simp only [h, h0, lsOf, h1, h2, h3, h4, Option.map_some, setSl, h5]
  rw [← h6]; rfl
/-! pairs -/
theorem n_S : nrm (.sh d) ρ = .ok (.sh d) ρ := rfl
theorem n_F : nrm (.fr xs) ρ = .ok (.fr xs) ρ := rfl
theorem n_L {i : Nat} (h : shr (.sl i) ρ = .ok a ρ1) : nrm (.sl i) ρ = .ok (.sh a) ρ1 := by
  show mbind (shr (.sl i)) _ ρ = _
  rw [e_mbind, h]; rfl
theorem w_par2 {i j : Nat} {da db : M Val} {x' y' : Val} (h1 : da ρ = .ok x ρ1) (h2 : nrm x ρ1 = .ok x' ρ2) (h3 : db ρ2 = .ok y ρ3) (h4 : nrm y ρ3 = .ok y' ρ4) (h5 : stI j y' ρ4 = some ρ5) (h6 : stI i x' ρ5 = some ρ6) : sPar2 i j da db ρ = .nx ρ6 := by
  unfold sPar2
  simp only [e_sBind, h1, h2, h3, h4, td_ok, sOpt, h5, h6]; rfl
theorem w_par3 {ρ7 ρ8 ρ9 : Rho} {i j l : Nat} {da db dc : M Val} {x' y' z' : Val} (h1 : da ρ = .ok x ρ1) (h2 : nrm x ρ1 = .ok x' ρ2) (h3 : db ρ2 = .ok y ρ3) (h4 : nrm y ρ3 = .ok y' ρ4) (h5 : dc ρ4 = .ok z ρ5) (h6 : nrm z ρ5 = .ok z' ρ6) (h7 : stI l z' ρ6 = some ρ7) (h8 : stI j y' ρ7 = some ρ8) (h9 : stI i x' ρ8 = some ρ9) : sPar3 i j l da db dc ρ = .nx ρ9 := by
  unfold sPar3
  simp only [e_sBind, h1, h2, h3, h4, h5, h6, td_ok, sOpt, h7, h8, h9]; rfl
/-! calls -/
theorem w_avS {m : Bool} : toAV m (.sh d) ρ = .ok (.dat d) ρ := toAV_sh m d
theorem w_avF {m : Bool} : toAV m (.fr xs) ρ = .ok (.dat (.list xs)) ρ := toAV_fr m xs
theorem w_avL {i : Nat} : toAV true (.sl i) ρ = .ok (.slot i) ρ := toAV_sl i
theorem w_avN {i : Nat} (h : shr (.sl i) ρ = .ok a ρ1) : toAV false (.sl i) ρ = .ok (.dat a) ρ1 := by rw [toAV_slf, h]; rfl
theorem w_evAV {m : Bool} {d : M Val} {r : List (Bool × M Val)} {av : AV} {avs : List AV} (h1 : d ρ = .ok x ρ1) (h2 : toAV m x ρ1 = .ok av ρ2) (h3 : evAV r ρ2 = .ok avs ρ3) : evAV ((m, d) :: r) ρ = .ok (av :: avs) ρ3 := by rw [e_evAV1, h1, bd_ok, h2, bd_ok, h3]; rfl
theorem w_agD : argOf ρ (.dat d) = some (.sh d) := rfl
theorem w_agO {i : Nat} (h : ρ[i]? = some (.ow xs)) : argOf ρ (.slot i) = some (.bo xs) := by rw [argOf_slot, h]; rfl
theorem w_agB {i : Nat} (h : ρ[i]? = some (.bo xs)) : argOf ρ (.slot i) = some (.bo xs) := by rw [argOf_slot, h]; rfl
theorem w_agS {i : Nat} (h : ρ[i]? = some (.sh d)) : argOf ρ (.slot i) = some (.sh d) := by rw [argOf_slot, h]; rfl
theorem w_ags {av : AV} {avs : List AV} {g : Arg} {gs : List Arg} (h : argOf ρ av = some g) (h2 : argsOf ρ avs = some gs) : argsOf ρ (av :: avs) = some (g :: gs) := by rw [argsOf1, h, h2]; rfl
theorem w_bsD {avs : List AV} {l : List Nat} (h : boSl ρ avs = l) : boSl ρ (.dat d :: avs) = l := h
theorem w_bsO {avs : List AV} {l : List Nat} {i : Nat} (h : ρ[i]? = some (.ow xs)) (h2 : boSl ρ avs = l) : boSl ρ (.slot i :: avs) = i :: l := by rw [boSl2, h, h2]; rfl
theorem w_bsB {avs : List AV} {l : List Nat} {i : Nat} (h : ρ[i]? = some (.bo xs)) (h2 : boSl ρ avs = l) : boSl ρ (.slot i :: avs) = i :: l := by rw [boSl2, h, h2]; rfl
theorem w_pb0 {bs : List (List PyData)} : putBo ρ [] bs = ρ := putBo0 bs
theorem w_pbO {i : Nat} {is : List Nat} {xss : List (List PyData)} (h : ρ[i]? = some (.ow ys)) (h2 : ρ.set i (.ow xs) = ρ1) (h3 : putBo ρ1 is xss = ρ2) : putBo ρ (i :: is) (xs :: xss) = ρ2 := by rw [putBo1, h]; rw [← h3, ← h2]; rfl
theorem w_pbB {i : Nat} {is : List Nat} {xss : List (List PyData)} (h : ρ[i]? = some (.bo ys)) (h2 : ρ.set i (.bo xs) = ρ1) (h3 : putBo ρ1 is xss = ρ2) : putBo ρ (i :: is) (xs :: xss) = ρ2 := by rw [putBo1, h]; rw [← h3, ← h2]; rfl
theorem w_bsOo {avs : List AV} {l : List Nat} {i c : Nat} (h : ρ[i]? = some (.oo c xs)) (h2 : boSl ρ avs = l) : boSl ρ (.slot i :: avs) = i :: l := by rw [boSl2, h, h2]; rfl
theorem w_bsOb {avs : List AV} {l : List Nat} {i c : Nat} (h : ρ[i]? = some (.ob c xs)) (h2 : boSl ρ avs = l) : boSl ρ (.slot i :: avs) = i :: l := by rw [boSl2, h, h2]; rfl
theorem w_pbOo {i c : Nat} {is : List Nat} {xss : List (List PyData)} (h : ρ[i]? = some (.oo c ys)) (h2 : ρ.set i (.oo c xs) = ρ1) (h3 : putBo ρ1 is xss = ρ2) : putBo ρ (i :: is) (xs :: xss) = ρ2 := by rw [putBo1, h]; rw [← h3, ← h2]; rfl
theorem w_pbOb {i c : Nat} {is : List Nat} {xss : List (List PyData)} (h : ρ[i]? = some (.ob c ys)) (h2 : ρ.set i (.ob c xs) = ρ1) (h3 : putBo ρ1 is xss = ρ2) : putBo ρ (i :: is) (xs :: xss) = ρ2 := by rw [putBo1, h]; rw [← h3, ← h2]; rfl
theorem w_call {F : Fn} {ms : List (Bool × M Val)} {avs : List AV} {as : List Arg} {is : List Nat} {bs : List (List PyData)} {rv : RV} (h1 : evAV ms ρ = .ok avs ρ1) (h2 : argsOf ρ1 avs = some as) (h3 : boSl ρ1 avs = is) (h4 : F as = .ret rv bs) (h5 : is.Nodup) (h6 : putBo ρ1 is bs = ρ2) (h7 : rvVal rv = v) : dCall F ms ρ = .ok v ρ2 := by
  rw [e_dCall, h1, bd_ok, h2]
  show (if (boSl ρ1 avs).Nodup then frO (boSl ρ1 avs) ρ1 (F as) else .stuck) = _
  rw [h3, if_pos h5, h4, frO_ret, h6, h7]
theorem ca1 {g h : Arg} : [g] ++ [h] = [g, h] := rfl
theorem ca2 {g h k : Arg} : [g, h] ++ [k] = [g, h, k] := rfl
theorem ca3 {g h k l : Arg} : [g, h, k] ++ [l] = [g, h, k, l] := rfl
theorem w_callD {F : Fn} {j : Int} {ms : List (Bool × M Val)} {avs : List AV} {as as' : List Arg} {is : List Nat} {bs : List (List PyData)} {rv : RV} (h1 : evAV ms ρ = .ok avs ρ1) (h2 : argsOf ρ1 avs = some as) (hc : as ++ [.sh (.int j)] = as') (h3 : boSl ρ1 avs = is) (h4 : F as' = .ret rv bs) (h5 : is.Nodup) (h6 : putBo ρ1 is bs = ρ2) (h7 : rvVal rv = v) : dCall (withInt F j) ms ρ = .ok v ρ2 := by
  refine w_call h1 h2 h3 ?_ h5 h6 h7
  unfold withInt
  rw [hc, h4]
/-! iterators -/
theorem w_r1 {d : M Val} {j : Int} {n : Nat} (h : d ρ = .ok x ρ1) (hx : look ρ1 (.sh (.int j)) = some (.int j)) (h2 : x = .sh (.int j)) (h3 : j = (n : Int)) (hn : n < 4611686018427387904) : DL.iRng1 d ρ = .ok (rngL 0 1 n) ρ1 := by
  subst h2 h3
  have q := rng1_of h (by omega) (by omega)
  rwa [Int.toNat_natCast] at q
theorem w_seqL {d : M Val} (h : d ρ = .ok x ρ1) (h2 : shr x ρ1 = .ok a ρ2) (h3 : seqOf a ρ2 = .ok xs ρ2) : iSeq d ρ = .ok xs ρ2 := by rw [e_iSeq, h, bd_ok, h2, bd_ok, h3]
theorem w_sqL : seqOf (.list xs) ρ = .ok xs ρ := rfl
theorem w_sqT : seqOf (.tuple xs) ρ = .ok xs ρ := rfl
theorem w_enum {d : M Val} (h : d ρ = .ok x ρ1) (h2 : shr x ρ1 = .ok a ρ2) (h3 : enum1Of [a] ρ2 = .ok xs ρ2) : iEnumD d ρ = .ok xs ρ2 := by rw [e_iEnum, e_evS1, h, bd_ok, h2, bd_ok, e_evS0]; exact h3
theorem w_enL : enum1Of [.list xs] ρ = .ok (enumL xs) ρ := rfl
theorem w_enT : enum1Of [.tuple xs] ρ = .ok (enumL xs) ρ := rfl
/-! functions of data -/
theorem fn_d {d : SD} {N : Nat} {as : List Arg} {rv : RV} (h0 : rho0 N as = ρ1) (h : d ρ1 = .rt rv ρ2) (hb : boIx as 0 = []) : fnRes d N as = .ret rv [] := by
  unfold fnRes; rw [h0, h, hb]; rfl
theorem fn_n {d : SD} {N : Nat} {as : List Arg} (h0 : rho0 N as = ρ1) (h : d ρ1 = .nx ρ2) (hb : boIx as 0 = []) : fnRes d N as = .ret (.sh .none) [] := by
  unfold fnRes; rw [h0, h, hb]; rfl
theorem rhoS {n : Nat} {as : List Arg} (h : rho0 n as = ρ) : rho0 (n + 1) (.sh d :: as) = .sh d :: ρ := by subst h; unfold rho0; rw [List.length_cons, Nat.add_sub_add_right]; rfl
theorem rhoB {n : Nat} {as : List Arg} (h : rho0 n as = ρ) : rho0 (n + 1) (.bo xs :: as) = .bo xs :: ρ := by subst h; unfold rho0; rw [List.length_cons, Nat.add_sub_add_right]; rfl
theorem rhoN {n : Nat} (h : rho0 n [] = ρ) : rho0 (n + 1) [] = .no :: ρ := by subst h; rfl
theorem rho00 : rho0 0 [] = [] := rfl
theorem bxr {as : List Arg} {n : Nat} {l : List Nat} (h : boIx as n = l) : boIx as n = l := h
/-! comprehensions whose parts change something -/
theorem lcL_st {g : Tg} {e : M Val} {vs : List Nat} {items : List PyData} (I : Nat → List PyData → Rho → Prop) (h : ∀ i d acc ρ, items[i]? = some d → I i acc ρ → ∃ ρ1 y ρ2, g (.sh d) ρ = some ρ1 ∧ mbind e shr ρ1 = .ok y ρ2 ∧ I (i + 1) (acc ++ [y]) (wipeR ρ2 vs)) :
    ∀ (k : Nat) (acc : List PyData) (ρ : Rho), I k acc ρ → k ≤ items.length → acc.length + (items.length - k) ≤ 100000 → ∃ acc' ρ', lcL g dYes e vs (items.drop k) acc ρ = .ok acc' ρ' ∧ I items.length acc' ρ'
  | k, acc, ρ, r, hk, hl => by
    by_cases c : k = items.length
    · subst c
      rw [List.drop_length]
      exact ⟨acc, ρ, rfl, r⟩
    · have hk' : k < items.length := by omega
      obtain ⟨ρ1, y, ρ2, h1, h2, h3⟩ := h k items[k] acc ρ (List.getElem?_eq_getElem hk') r
      obtain ⟨acc', ρ', h4, h5⟩ := lcL_st I h (k + 1) (acc ++ [y]) (wipeR ρ2 vs) h3 hk' (by rw [List.length_append]; simp only [List.length_singleton]; omega)
      refine ⟨acc', ρ', ?_, h5⟩
      rw [List.drop_eq_getElem_cons hk']
      unfold lcL
      rw [h1]
      simp only [w_yes, h2]
      rw [if_pos (by omega)]
      exact h4
  termination_by k => items.length - k
theorem lc_st {m : M (List PyData)} {g : Tg} {e : M Val} {vs : List Nat} {items : List PyData} (I : Nat → List PyData → Rho → Prop) (hm : m ρ = .ok items ρ') (hv : vs.all (fun i => isPlain ρ'[i]?) = true) (h0 : I 0 [] (wipeR ρ' vs)) (hl : items.length ≤ 100000)
    (h : ∀ i d acc ρ, items[i]? = some d → I i acc ρ → ∃ ρ1 y ρ2, g (.sh d) ρ = some ρ1 ∧ mbind e shr ρ1 = .ok y ρ2 ∧ I (i + 1) (acc ++ [y]) (wipeR ρ2 vs)) : ∃ acc ρ3, dLC m g dYes e vs ρ = .ok (.fr acc) (restR ρ' ρ3 vs) ∧ I items.length acc ρ3 := by
  obtain ⟨acc, ρ3, h1, h2⟩ := lcL_st I h 0 [] _ h0 (Nat.zero_le _) (by simpa using hl)
  refine ⟨acc, ρ3, ?_, h2⟩
  rw [List.drop_zero] at h1
  unfold dLC
  rw [e_mbind, hm, bd_ok, if_pos hv, h1]
  rfl
theorem x30 {a b c : PyData} : ixN [a, b, c].length 0 = some 0 := rfl
theorem x31 {a b c : PyData} : ixN [a, b, c].length 1 = some 1 := rfl
theorem x32 {a b c : PyData} : ixN [a, b, c].length 2 = some 2 := rfl
theorem v0 {a s : PyData} {l : List PyData} : (a :: l).set 0 s = s :: l := rfl
theorem v1 {a b s : PyData} {l : List PyData} : (a :: b :: l).set 1 s = a :: s :: l := rfl
theorem v2 {a b c s : PyData} {l : List PyData} : (a :: b :: c :: l).set 2 s = a :: b :: s :: l := rfl
theorem o_anyL {f : Option Res} {r : List PyData} (h : f = some (.nl r)) : resO f = some (.fr r) := by rw [h]; rfl
theorem o_anyT {f : Option Res} {r : List PyData} (h : f = some (.nt r)) : resO f = some (.sh (.tuple r)) := by rw [h]; rfl
/-! loops over a state of mathematics -/
theorem while_s {S : Type} (st : S → Rho) (Inv : S → Prop) (cond : S → Bool) (next : S → S) (m : S → Nat) {n : Nat} {c : M Val} {b : SD} (s0 : S) (h0 : Inv s0) (hn : m s0 < n)
    (hc : ∀ s, Inv s → tst c (st s) = .ok (cond s) (st s)) (hb : ∀ s, Inv s → cond s = true → (b (st s) = .nx (st (next s)) ∨ b (st s) = .ct (st (next s))) ∧ Inv (next s) ∧ m (next s) < m s) :
    ∃ s', sWhile n c b (st s0) = .nx (st s') ∧ Inv s' ∧ cond s' = false := by
  refine while_run (Z := fun o => ∃ s', o = .nx (st s') ∧ Inv s' ∧ cond s' = false) (fun k ρ => ∃ s, k = m s ∧ Inv s ∧ ρ = st s) (k := m s0) ⟨s0, rfl, h0, rfl⟩ hn ?_
  rintro k ρ ⟨s, rfl, hs, rfl⟩
  refine ⟨cond s, st s, hc s hs, ?_⟩
  cases q : cond s with
  | false => exact ⟨s, rfl, hs, q⟩
  | true =>
    obtain ⟨h1, h2, h3⟩ := hb s hs q
    exact ⟨st (next s), .inl ⟨h1, m (next s), h3, next s, rfl, h2, rfl⟩⟩
/-! operations -/
section
variable {i j : Int}
theorem o_addI (ha : a = .int i) (hb : b = .int j) : resO (f_add a b) = some (.sh (.int (i + j))) := by subst ha hb; rfl
theorem o_subI (ha : a = .int i) (hb : b = .int j) : resO (f_sub a b) = some (.sh (.int (i - j))) := by subst ha hb; rfl
theorem o_addJ (ha : a = .int i) (hb : b = .int j) : resO (f_addI a b) = some (.sh (.int (i + j))) := by subst ha hb; rfl
theorem o_mulI (ha : a = .int i) (hb : b = .int j) (h : i.natAbs.log2 + j.natAbs.log2 < 1000000) : resO (f_mul a b) = some (.sh (.int (i * j))) := by subst ha hb; show (grd (decide _) _).map resV = _; rw [decide_eq_true h]; rfl
theorem o_divI (ha : a = .int i) (hb : b = .int j) (h0 : 0 < j) (h : j.natAbs.log2 < 9000) : resO (f_div a b) = some (.sh (.int (i / j))) := by subst ha hb; show (grd (decide _ && decide _) _).map resV = _; rw [decide_eq_true h, decide_eq_true h0]; rfl
theorem o_modI (ha : a = .int i) (hb : b = .int j) (h0 : 0 < j) : resO (f_mod a b) = some (.sh (.int (i % j))) := by subst ha hb; show (grd (decide _) _).map resV = _; rw [decide_eq_true h0]; rfl
theorem o_neg (ha : a = .int i) : resO (f_neg a) = some (.sh (.int (-i))) := by subst ha; rfl
theorem o_addL (h : xs.length + ys.length ≤ 16777216) : resO (f_add (.list xs) (.list ys)) = some (.fr (xs ++ ys)) := by show (grd (decide _) _).map resV = _; rw [decide_eq_true (show _ ≤ sizeLine by rw [sizeLine_eq]; exact h)]; rfl
theorem o_addT (h : xs.length + ys.length ≤ 16777216) : resO (f_add (.tuple xs) (.tuple ys)) = some (.sh (.tuple (xs ++ ys))) := by show (grd (decide _) _).map resV = _; rw [decide_eq_true (show _ ≤ sizeLine by rw [sizeLine_eq]; exact h)]; rfl
theorem o_addS {s t : Str} (h : s.length + t.length ≤ 16777216) : resO (f_add (.str s) (.str t)) = some (.sh (.str (s ++ t))) := by show (grd (decide _) _).map resV = _; rw [decide_eq_true (show _ ≤ sizeLine by rw [sizeLine_eq]; exact h)]; rfl
theorem o_mulLn {n : Nat} (h : xs.length * n ≤ 16777216) (hn : n ≤ 16777216) : resO (f_mul (.list xs) (.int (n : Int))) = some (.fr (List.replicate n xs).flatten) := by
  show (grd (decide _ && decide _ && decide _) _).map resV = _
  rw [decide_eq_true (show xs.length * (n : Int).toNat ≤ sizeLine by rw [sizeLine_eq]; exact h), decide_eq_true (show -(2 ^ 63) ≤ (n : Int) by omega), decide_eq_true (show (n : Int) < 2 ^ 63 by omega)]; rfl
theorem o_lt (ha : a = .int i) (hb : b = .int j) : resO (f_lt a b) = some (.sh (.bool (decide (i < j)))) := by subst ha hb; rfl
theorem o_le (ha : a = .int i) (hb : b = .int j) : resO (f_le a b) = some (.sh (.bool (decide (i ≤ j)))) := by subst ha hb; rfl
theorem o_gt (ha : a = .int i) (hb : b = .int j) : resO (f_gt a b) = some (.sh (.bool (decide (j < i)))) := by subst ha hb; rfl
theorem o_ge (ha : a = .int i) (hb : b = .int j) : resO (f_ge a b) = some (.sh (.bool (decide (j ≤ i)))) := by subst ha hb; rfl
theorem o_eqI (ha : a = .int i) (hb : b = .int j) : resO (f_eq a b) = some (.sh (.bool (decide (i = j)))) := by subst ha hb; rw [e_eqI]; rfl
theorem o_neI (ha : a = .int i) (hb : b = .int j) : resO (f_ne a b) = some (.sh (.bool (!decide (i = j)))) := by subst ha hb; rw [e_neI]; rfl
theorem o_eqR (h : a = b) : resO (f_eq (.str a.shown) (.str b.shown)) = some (.sh (.bool true)) := by subst h; rw [e_eqS, decide_eq_true rfl]; rfl
theorem o_neR (h : a = b) : resO (f_ne (.str a.shown) (.str b.shown)) = some (.sh (.bool false)) := by subst h; rw [e_neS, decide_eq_true rfl]; rfl
theorem o_eqS {s t : Str} (ha : a = .str s) (hb : b = .str t) : resO (f_eq a b) = some (.sh (.bool (decide (s = t)))) := by subst ha hb; rw [e_eqS]; rfl
theorem o_neS {s t : Str} (ha : a = .str s) (hb : b = .str t) : resO (f_ne a b) = some (.sh (.bool (!decide (s = t)))) := by subst ha hb; rw [e_neS]; rfl
theorem o_eq {k : Bool} (h : f_eq a b = some (.val (.bool k))) : resO (f_eq a b) = some (.sh (.bool k)) := by rw [h]; rfl
theorem o_ne {k : Bool} (h : f_ne a b = some (.val (.bool k))) : resO (f_ne a b) = some (.sh (.bool k)) := by rw [h]; rfl
theorem o_isN {k : Bool} (h : isN a = k) : resO (f_isN a .none) = some (.sh (.bool k)) := by rw [e_isN, h]; rfl
theorem o_notN {k : Bool} (h : isN a = k) : resO (f_notN a .none) = some (.sh (.bool !k)) := by rw [e_notN, h]; rfl
theorem o_in {k : Bool} (h : f_in a b = some (.val (.bool k))) : resO (f_in a b) = some (.sh (.bool k)) := by rw [h]; rfl
theorem o_notin {k : Bool} (h : f_notin a b = some (.val (.bool k))) : resO (f_notin a b) = some (.sh (.bool k)) := by rw [h]; rfl
theorem o_in2 {i j k : Int} (ha : a = .int i) (hb : b = .tuple [.int j, .int k]) : resO (f_in a b) = some (.sh (.bool (decide (i = j) || decide (i = k)))) := by
  subst ha hb
  show some (Val.sh (.bool ((j == i) || ((k == i) || false)))) = _
  rw [Bool.or_false, show (j == i) = decide (i = j) from by rw [Bool.eq_iff_iff, beq_iff_eq, decide_eq_true_iff]; exact eq_comm, show (k == i) = decide (i = k) from by rw [Bool.eq_iff_iff, beq_iff_eq, decide_eq_true_iff]; exact eq_comm]
theorem o_sset (h : f_sset [a] = some (.nl xs)) : resO (f_sset [a]) = some (.fr xs) := by rw [h]; rfl
theorem o_lenS {z : Str} {n : Nat} (h : z.length = n) (h2 : n ≤ 16777216) : resO (f_len [.str z]) = some (.sh (.int (n : Int))) := by
  subst h
  show resO (grd (decide (z.length ≤ sizeLine)) _) = _
  rw [decide_eq_true (show _ ≤ sizeLine by rw [sizeLine_eq]; exact h2)]; rfl
theorem o_divmod {i j : Int} (ha : a = .int i) (hb : b = .int j) (h0 : 0 < j) (h1 : j.natAbs.log2 < 9000) : resO (f_divmod [a, b]) = some (.sh (.tuple [.int (i / j), .int (i % j)])) := by
  subst ha hb
  show resO (grd (decide (0 < j) && decide (j.natAbs.log2 < 9000)) _) = _
  rw [decide_eq_true h0, decide_eq_true h1]; rfl
theorem w_evX {d : M Val} {r : List (Bool × M Val)} (h1 : d ρ = .ok x ρ1) (h2 : shr x ρ1 = .ok a ρ2) (h3 : evX r ρ2 = .ok as ρ3) : evX ((false, d) :: r) ρ = .ok (a :: as) ρ3 := by
  show mbind d _ ρ = _
  rw [e_mbind, h1, bd_ok, e_mbind, h2, bd_ok, e_mbind, h3]; rfl
theorem w_evXT {d : M Val} {r : List (Bool × M Val)} (h1 : d ρ = .ok x ρ1) (h2 : shr x ρ1 = .ok (.tuple xs) ρ2) (h3 : evX r ρ2 = .ok as ρ3) : evX ((true, d) :: r) ρ = .ok (xs ++ as) ρ3 := by
  show mbind d _ ρ = _
  rw [e_mbind, h1, bd_ok, e_mbind, h2, bd_ok]
  show mbind (evX r) _ ρ2 = _
  rw [e_mbind, h3]; rfl
theorem w_evXL {d : M Val} {r : List (Bool × M Val)} (h1 : d ρ = .ok x ρ1) (h2 : shr x ρ1 = .ok (.list xs) ρ2) (h3 : evX r ρ2 = .ok as ρ3) : evX ((true, d) :: r) ρ = .ok (xs ++ as) ρ3 := by
  show mbind d _ ρ = _
  rw [e_mbind, h1, bd_ok, e_mbind, h2, bd_ok]
  show mbind (evX r) _ ρ2 = _
  rw [e_mbind, h3]; rfl
theorem w_evX0 : evX [] ρ = .ok [] ρ := rfl
theorem w_tupX {ds : List (Bool × M Val)} (h : evX ds ρ = .ok as ρ1) (hl : as.length ≤ 100000) : dTupX ds ρ = .ok (.sh (.tuple as)) ρ1 := by unfold dTupX; rw [e_mbind, h, bd_ok, if_pos hl]
theorem w_lstX {ds : List (Bool × M Val)} (h : evX ds ρ = .ok as ρ1) (hl : as.length ≤ 100000) : dLstX ds ρ = .ok (.fr as) ρ1 := by unfold dLstX; rw [e_mbind, h, bd_ok, if_pos hl]
theorem w_fs0 {z : Str} : dFs z [] ρ = .ok (.sh (.str z)) ρ := rfl
theorem w_fs {z y : Str} {d : M Val} {r : List (M Val)} (h1 : d ρ = .ok x ρ1) (h2 : look ρ1 x = some (.str y)) (h3 : (z ++ y).length ≤ 100000) (h4 : dFs (z ++ y) r ρ1 = .ok v ρ2) : dFs z (d :: r) ρ = .ok v ρ2 := by
  show mbind d _ ρ = _
  rw [e_mbind, h1, bd_ok, h2]
  show (if (z ++ y).length ≤ 100000 then dFs (z ++ y) r ρ1 else .stuck) = _
  rw [if_pos h3, h4]
theorem w_fmtS {y : Str} {d : M Val} (h1 : d ρ = .ok x ρ1) (h2 : look ρ1 x = some (.str y)) (h3 : y.length ≤ 100000) : dFmt d ρ = .ok (.sh (.str y)) ρ1 := by
  unfold dFmt
  rw [e_mbind, h1, bd_ok, h2]
  show (if y.length ≤ 100000 then Out.ok _ _ else .stuck) = _
  rw [if_pos h3]
theorem w_sm {f : PyData → PyData → Option Res} {d e : M Val} {z : Str} (h1 : d ρ = .ok x ρ1) (h0 : look ρ1 x = some (.str z)) (h2 : e ρ1 = .ok y ρ2) (h4 : look ρ2 y = some b) (h5 : resO (f (.str z) b) = some v) : dSm f d e ρ = .ok v ρ2 := by
  unfold dSm
  rw [e_mbind, h1, bd_ok, h0]
  show mbind e _ ρ1 = _
  rw [e_mbind, h2, bd_ok, h4]
  show optOk (f (.str z) b) ρ2 = _
  unfold resO at h5
  cases q : f (.str z) b with
  | none => rw [q] at h5; cases h5
  | some r => rw [q] at h5; cases h5; rfl
theorem o_join (h : f_join a b = some (.val c)) : resO (f_join a b) = some (.sh c) := by rw [h]; rfl
theorem o_index (h : f_index a b = some (.val c)) : resO (f_index a b) = some (.sh c) := by rw [h]; rfl
theorem o_count (h : f_count a b = some (.val c)) : resO (f_count a b) = some (.sh c) := by rw [h]; rfl
theorem mb_ok {α β : Type} {m : M α} {k : α → M β} {a : α} (h : m ρ = .ok a ρ1) : mbind m k ρ = k a ρ1 := by unfold mbind; rw [h]
theorem w_ms {f : PyData → PyData → Option Res} {d e : M Val} (h1 : d ρ = .ok x ρ1) (h0 : look ρ1 x = some (.list xs)) (h2 : e ρ1 = .ok y ρ2) (h3 : look ρ2 x = some (.list ys)) (h4 : look ρ2 y = some b) (h5 : resO (f (.list ys) b) = some v) : dMs f d e ρ = .ok v ρ2 := by
  refine (mb_ok (m := d) h1).trans ?_
  rw [h0]
  show mbind e _ ρ1 = _
  refine (mb_ok (m := e) h2).trans ?_
  rw [h3, h4]
  show optOk (f (.list ys) b) ρ2 = _
  unfold resO at h5
  cases q : f (.list ys) b with
  | none => rw [q] at h5; cases h5
  | some r => rw [q] at h5; cases h5; rfl
theorem o_isB {k l : Bool} (ha : a = .bool k) (hb : b = .bool l) : resO (f_isB a b) = some (.sh (.bool (decide (k = l)))) := by subst ha hb; rfl
theorem o_notB {k l : Bool} (ha : a = .bool k) (hb : b = .bool l) : resO (f_notB a b) = some (.sh (.bool (!decide (k = l)))) := by subst ha hb; rfl
theorem o_ixL (hb : b = .int i) (h : atI xs i = some d) : resO (f_ix (.list xs) b) = some (.sh d) := by subst hb; rw [ixL h]; rfl
theorem o_ixT (hb : b = .int i) (h : atI xs i = some d) : resO (f_ix (.tuple xs) b) = some (.sh d) := by subst hb; rw [ixT h]; rfl
theorem o_revL : resO (f_rev (.list xs)) = some (.fr xs.reverse) := rfl
theorem o_revT : resO (f_rev (.tuple xs)) = some (.sh (.tuple xs.reverse)) := rfl
theorem o_slL {l h : Option Int} (e : cutD xs l h = ys) : resO (f_sl l h (.list xs)) = some (.fr ys) := by subst e; rfl
theorem o_slT {l h : Option Int} (e : cutD xs l h = ys) : resO (f_sl l h (.tuple xs)) = some (.sh (.tuple ys)) := by subst e; rfl
theorem o_len {n : Nat} (h : a = .list xs ∨ a = .tuple xs) (hn : xs.length = n) : resO (f_len [a]) = some (.sh (.int (n : Int))) := by rcases h with h | h <;> subst h hn <;> rfl
theorem o_lenL {n : Nat} (hn : xs.length = n) : resO (f_len [.list xs]) = some (.sh (.int (n : Int))) := by subst hn; rfl
theorem o_lenT {n : Nat} (hn : xs.length = n) : resO (f_len [.tuple xs]) = some (.sh (.int (n : Int))) := by subst hn; rfl
theorem o_max (ha : a = .int i) (hb : b = .int j) : resO (f_max [a, b]) = some (.sh (.int (if j > i then j else i))) := by subst ha hb; rfl
theorem o_min (ha : a = .int i) (hb : b = .int j) : resO (f_min [a, b]) = some (.sh (.int (if j < i then j else i))) := by subst ha hb; rfl
theorem o_sumL {ns : List Int} (h : intsOf xs = some ns) : resO (f_sum [.list xs]) = some (.sh (.int ns.sum)) := by show ((intsOf xs).bind _).map _ = _; rw [h]; rfl
theorem o_sumT {ns : List Int} (h : intsOf xs = some ns) : resO (f_sum [.tuple xs]) = some (.sh (.int ns.sum)) := by show ((intsOf xs).bind _).map _ = _; rw [h]; rfl
theorem o_allL {ns : List Bool} (h : boolsOf xs = some ns) : resO (f_all [.list xs]) = some (.sh (.bool (ns.all id))) := by show ((boolsOf xs).bind _).map _ = _; rw [h]; rfl
theorem o_repr (h : rpr a = true) : resO (f_repr [a]) = some (.sh (.str a.shown)) := by rw [DL.e_repr h]; rfl
theorem o_listL : resO (f_list [.list xs]) = some (.fr xs) := rfl
theorem o_listT : resO (f_list [.tuple xs]) = some (.fr xs) := rfl
theorem o_tupL : resO (f_tuple [.list xs]) = some (.sh (.tuple xs)) := rfl
theorem o_tupT : resO (f_tuple [.tuple xs]) = some (.sh (.tuple xs)) := rfl
theorem o_intI : resO (f_int [.int i]) = some (.sh (.int i)) := rfl
theorem o_intB {k : Bool} : resO (f_int [.bool k]) = some (.sh (.int (if k then 1 else 0))) := rfl
theorem o_abs (ha : a = .int i) : resO (f_abs [a]) = some (.sh (.int (if i < 0 then -i else i))) := by subst ha; rfl
theorem o_pow {r : PyData} (h : f_pow a b = some (.val r)) : resO (f_pow a b) = some (.sh r) := by rw [h]; rfl
theorem o_any {f : Option Res} {r : PyData} (h : f = some (.val r)) : resO f = some (.sh r) := by rw [h]; rfl
end
end
end DL
end

section
set_option Elab.async false
set_option linter.all false
set_option maxHeartbeats 1000000
open PySem L2 DL
namespace SP
def dI (n : Nat) : PyData := .int (n : Int)
theorem map_range_append {α : Type} (f : Nat → α) (k : Nat) : (List.range k).map f ++ [f k] = (List.range (k + 1)).map f := by
  rw [List.range_succ, List.map_append]; rfl
theorem map_range_get {α : Type} (f : Nat → α) {k i : Nat} (h : i < k) : ((List.range k).map f)[i]? = some (f i) := by
  rw [List.getElem?_map, List.getElem?_range h]; rfl
theorem atI_map {α : Type} (f : Nat → α) {k : Nat} {i : Int} (h0 : 0 ≤ i) (h : i < k) : atI ((List.range k).map f) i = some (f i.toNat) := by
  rw [atI_nn h0 (by rw [List.length_map, List.length_range]; exact h), map_range_get f (by omega)]
theorem atI_last {α : Type} {xs : List α} {x : α} : atI (xs ++ [x]) (-1) = some x := by
  unfold atI ixN
  have h1 : ¬ (0 : Int) ≤ -1 := by decide
  have h2 : -(((xs ++ [x]).length : Nat) : Int) ≤ -1 := by rw [List.length_append]; simp only [List.length_singleton]; omega
  rw [if_neg h1, if_pos h2]
  show (xs ++ [x])[(-1 + ((xs ++ [x]).length : Int)).toNat]? = some x
  have h3 : (-1 + ((xs ++ [x]).length : Int)).toNat = xs.length := by rw [List.length_append]; simp only [List.length_singleton]; omega
  rw [h3]
  simp
theorem set_map_range {α : Type} (f : Nat → α) (k i : Nat) (x : α) : ((List.range k).map f).set i x = (List.range k).map fun j => if j = i then x else f j := by
  refine List.ext_getElem? fun j => ?_
  by_cases hj : j < k
  · rw [map_range_get _ hj]
    by_cases e : j = i
    · subst e
      rw [List.getElem?_set_self (by simpa using hj), if_pos rfl]
    · rw [List.getElem?_set_ne (Ne.symm e), map_range_get f hj, if_neg e]
  · rw [List.getElem?_eq_none (by simp; omega), List.getElem?_eq_none (by simp; omega)]
/-! ### span rows: the roots so far, the last one first -/
def popTo : Nat → Nat → List Nat → Nat × List Nat
  | c, _, [] => (c, [])
  | c, e, x :: st => if c < e then popTo (c + x) e st else (c, x :: st)
def step (e : Nat) (st : List Nat) : Option (List Nat) := if 1 ≤ e ∧ (popTo 1 e st).1 = e then some (e :: (popTo 1 e st).2) else none
def runS : List Nat → List Nat → Option (List Nat)
  | st, [] => some st
  | st, e :: r => (step e st).bind fun st' => runS st' r
theorem runS_append : ∀ (a b st : List Nat), runS st (a ++ b) = (runS st a).bind fun st' => runS st' b
  | [], b, st => rfl
  | e :: a, b, st => by
    show (step e st).bind _ = ((step e st).bind _).bind _
    cases step e st with
    | none => rfl
    | some st' => exact runS_append a b st'
theorem runS_snoc {a st st1 st2 : List Nat} {e : Nat} (h : runS st a = some st1) (h2 : step e st1 = some st2) : runS st (a ++ [e]) = some st2 := by
  rw [runS_append, h]
  show (step e st1).bind (fun st' => runS st' []) = _
  rw [h2]
  rfl
theorem popTo_take : ∀ (m : Nat) (c : Nat) (st : List Nat), (∀ x ∈ st, 1 ≤ x) → m ≤ st.length → popTo c (c + (st.take m).sum) st = (c + (st.take m).sum, st.drop m)
  | 0, c, [], _, _ => rfl
  | 0, c, x :: st, _, _ => by
    show (if c < c + 0 then _ else _) = _
    rw [if_neg (by omega)]
    rfl
  | m + 1, c, [], _, h => by simp at h
  | m + 1, c, x :: st, hp, h => by
    have hx := hp x List.mem_cons_self
    simp only [List.take_succ_cons, List.sum_cons, List.drop_succ_cons]
    show (if c < c + (x + (st.take m).sum) then popTo (c + x) (c + (x + (st.take m).sum)) st else _) = _
    rw [if_pos (by omega)]
    have ih := popTo_take m (c + x) st (fun y hy => hp y (List.mem_cons_of_mem _ hy)) (by simpa using h)
    rw [show c + (x + (st.take m).sum) = c + x + (st.take m).sum by omega]
    exact ih
/-- one more place that covers the last m roots -/
theorem step_take {m : Nat} {st : List Nat} (hp : ∀ x ∈ st, 1 ≤ x) (h : m ≤ st.length) : step (1 + (st.take m).sum) st = some ((1 + (st.take m).sum) :: st.drop m) := by
  unfold step
  rw [popTo_take m 1 st hp h]
  exact if_pos ⟨by omega, rfl⟩
/-- a span row with its roots -/
structure Span (sp st : List Nat) : Prop where
  run : runS [] sp = some st
theorem popTo_sum : ∀ (c e : Nat) (st : List Nat), (popTo c e st).1 + (popTo c e st).2.sum = c + st.sum
  | c, e, [] => rfl
  | c, e, x :: st => by
    unfold popTo
    split
    · rw [popTo_sum (c + x) e st, List.sum_cons]; omega
    · rfl
theorem popTo_mem : ∀ (c e : Nat) (st : List Nat), ∀ x ∈ (popTo c e st).2, x ∈ st
  | c, e, [], x, h => h
  | c, e, y :: st, x, h => by
    unfold popTo at h
    split at h
    · exact List.mem_cons_of_mem _ (popTo_mem _ _ st x h)
    · exact h
theorem step_inv {e : Nat} {st st' : List Nat} (h : step e st = some st') (hp : ∀ x ∈ st, 1 ≤ x) : (∀ x ∈ st', 1 ≤ x) ∧ st'.sum = st.sum + 1 ∧ 1 ≤ e ∧ e ≤ st.sum + 1 ∧ (popTo 1 e st).1 = e ∧ st' = e :: (popTo 1 e st).2 := by
  unfold step at h
  split at h
  · rename_i hc
    cases h
    have hs := popTo_sum 1 e st
    refine ⟨fun x hx => ?_, ?_, hc.1, by omega, hc.2, rfl⟩
    · rcases List.mem_cons.mp hx with rfl | hx
      · exact hc.1
      · exact hp x (popTo_mem _ _ _ x hx)
    · rw [List.sum_cons]; omega
  · cases h
theorem runS_inv : ∀ {sp st st' : List Nat}, runS st sp = some st' → (∀ x ∈ st, 1 ≤ x) → (∀ x ∈ st', 1 ≤ x) ∧ st'.sum = st.sum + sp.length ∧ ∀ x ∈ sp, 1 ≤ x ∧ x ≤ st.sum + sp.length
  | [], st, st', h, hp => by cases h; exact ⟨hp, rfl, fun x hx => by cases hx⟩
  | e :: r, st, st', h, hp => by
    obtain ⟨s1, h1, h2⟩ := Option.bind_eq_some_iff.mp h
    obtain ⟨a1, a2, a3, a4, _⟩ := step_inv h1 hp
    obtain ⟨b1, b2, b3⟩ := runS_inv h2 a1
    refine ⟨b1, by rw [List.length_cons]; omega, fun x hx => ?_⟩
    rw [List.length_cons]
    rcases List.mem_cons.mp hx with rfl | hx
    · exact ⟨a3, by omega⟩
    · have := b3 x hx
      exact ⟨this.1, by omega⟩
theorem len_le_sum : ∀ {st : List Nat}, (∀ x ∈ st, 1 ≤ x) → st.length ≤ st.sum
  | [], _ => Nat.le_refl _
  | x :: st, h => by
    have h1 := h x List.mem_cons_self
    have h2 := len_le_sum (st := st) fun y hy => h y (List.mem_cons_of_mem _ hy)
    rw [List.length_cons, List.sum_cons]
    omega
theorem aug_ok {ρ ρ1 : Rho} {i : Nat} {f : PyData → PyData → Option Res} {d : M Val} {a b r : PyData} {y : Val} (h : ρ[i]? = some (.sh a)) (h1 : d ρ = .ok y ρ1) (h2 : look ρ1 y = some b) (h3 : f a b = some (.val r)) (h4 : notBo ρ1[i]? = true) : sAug i f d ρ = .nx (ρ1.set i (.sh r)) := by
  unfold sAug
  rw [h]
  show sBind d _ ρ = _
  rw [e_sBind, h1, td_ok, h2]
  simp only [h3]
  rw [e_resV, e_stSh, if_pos h4]
  rfl
theorem ne_nil {xs : List PyData} (h : ∀ x ∈ xs, leaf x = true) : f_ne (.list xs) (.list []) = some (.val (.bool (!xs.isEmpty))) := by
  obtain ⟨h1, h2, _⟩ := list_leaves h
  rw [f_ne_of rfl (shp_ok h1 (by omega)) rfl]
  cases xs with
  | nil => rfl
  | cons x r => simp [PyData.eqv, PyData.eqvAll]
theorem leafI {n : Nat} (h : n ≤ 1000) : leaf (dI n) = true := by
  show decide ((Int.natAbs (n : Int)).log2 < 1000) = true
  rw [Int.natAbs_natCast]
  have := Nat.log2_self_le (n := n)
  by_cases h0 : n = 0
  · subst h0; rfl
  · refine decide_eq_true ((Nat.log2_lt h0).mpr (Nat.lt_of_le_of_lt h ?_))
    exact Nat.lt_of_lt_of_le (show 1000 < 2 ^ 10 by decide) (Nat.pow_le_pow_right (by decide) (by decide))
theorem leafIs {xs : List Nat} (h : ∀ x ∈ xs, x ≤ 1000) : ∀ d ∈ xs.map dI, leaf d = true := fun d hd => by
  obtain ⟨x, hx, rfl⟩ := List.mem_map.mp hd
  exact leafI (h x hx)
theorem mem_le_sum : ∀ {st : List Nat} {x : Nat}, x ∈ st → x ≤ st.sum
  | y :: st, x, h => by
    rw [List.sum_cons]
    rcases List.mem_cons.mp h with rfl | h
    · omega
    · have := mem_le_sum h
      omega
/-! ### parents: the first place behind that covers a place -/
def par (sp : List Nat) (p : Nat) : Nat → Option Nat
  | 0 => none
  | t + 1 => match par sp p t with
    | some j => some j
    | none => if p < t ∧ t < p + sp.getD t 0 then some t else none
def oD : Option Nat → PyData
  | none => .none
  | some j => dI j
def parL (sp : List Nat) (n t : Nat) : List PyData := (List.range n).map fun p => oD (par sp p t)
def openL (sp : List Nat) (t : Nat) : List Nat := (List.range t).filter fun p => (par sp p t).isNone
theorem par_late {sp : List Nat} {p : Nat} : ∀ {t : Nat}, t ≤ p + 1 → par sp p t = none
  | 0, _ => rfl
  | t + 1, h => by
    unfold par
    rw [par_late (by omega)]
    show (if _ then _ else _) = _
    rw [if_neg (by omega)]
theorem gtSub_ow2 {ρ ρ2 : Rho} {i : Nat} {di : M Val} {d : PyData} {ys xs : List PyData} {y : Val} {k : Int} {j : Nat} (h1 : ρ[i]? = some (.ow ys)) (h2 : di ρ = .ok y ρ2) (hy : look ρ2 y = some (.int k)) (h4 : ρ2[i]? = some (.ow xs)) (h3 : ixN xs.length k = some j) : gtSub i di (.sh d) ρ = some (ρ2.set i (.ow (xs.set j d))) := by
  unfold gtSub
  simp only [e_shrSh, h1, h2, lsOf, hy, h4, h3, Option.map_some, setSl]
  rfl
def fnd (sp : List Nat) (n t : Nat) (u : List Nat) : List PyData := (List.range n).map fun p => if p ∈ u then dI t else oD (par sp p t)
theorem open_step {sp s u : List Nat} {t e : Nat} (he : sp.getD t 0 = e) (h : openL sp t = s ++ u) (hu : ∀ x ∈ u, t < x + e) (hs : ∀ x ∈ s, x + e ≤ t) : s ++ [t] = openL sp (t + 1) := by
  have e1 : openL sp (t + 1) = ((List.range t).filter fun p => (par sp p (t + 1)).isNone) ++ [t] := by
    unfold openL
    rw [List.range_succ, List.filter_append]
    congr 1
    rw [List.filter_cons_of_pos]
    · rfl
    · rw [par_late (by omega)]; rfl
  rw [e1]
  congr 1
  have e2 : ((List.range t).filter fun p => (par sp p (t + 1)).isNone) = (openL sp t).filter fun p => decide (p + e ≤ t) := by
    unfold openL
    rw [List.filter_filter]
    refine List.filter_congr fun p hp => ?_
    have hpt := List.mem_range.mp hp
    show (match par sp p t with | some j => some j | none => if p < t ∧ t < p + sp.getD t 0 then some t else none).isNone = _
    cases q : par sp p t with
    | some j => simp
    | none =>
      rw [he]
      by_cases c : t < p + e
      · simp [hpt, c]
        try omega
      · simp [c]
        try omega
  rw [e2, h, List.filter_append, List.filter_eq_self.mpr (fun x hx => decide_eq_true (hs x hx)), List.filter_eq_nil_iff.mpr (fun x hx => by have := hu x hx; simp; omega), List.append_nil]
theorem fnd_step {sp s u : List Nat} {n t e : Nat} (he : sp.getD t 0 = e) (h : openL sp t = s ++ u) (hu : ∀ x ∈ u, t < x + e) (hs : ∀ x ∈ s, x + e ≤ t) : fnd sp n t u = parL sp n (t + 1) := by
  unfold fnd parL
  refine List.map_congr_left fun p hp => ?_
  show _ = oD (match par sp p t with | some j => some j | none => if p < t ∧ t < p + sp.getD t 0 then some t else none)
  have hm : p ∈ openL sp t ↔ p < t ∧ par sp p t = none := by
    unfold openL
    rw [List.mem_filter, List.mem_range, Option.isNone_iff_eq_none]
  rw [he]
  by_cases hpu : p ∈ u
  · rw [if_pos hpu]
    have := hm.mp (by rw [h]; exact List.mem_append_right _ hpu)
    rw [this.2]
    show dI t = oD (if _ then _ else _)
    rw [if_pos ⟨this.1, hu p hpu⟩]
    rfl
  · rw [if_neg hpu]
    cases q : par sp p t with
    | some j => rfl
    | none =>
      show oD none = oD (if _ then _ else _)
      rw [if_neg]
      rintro ⟨h1, h2⟩
      have hin := hm.mpr ⟨h1, q⟩
      rw [h] at hin
      rcases List.mem_append.mp hin with hin | hin
      · have := hs p hin; omega
      · exact hpu hin
theorem op2_of {ρ ρ1 ρ2 : Rho} {f : PyData → PyData → Option Res} {d e : M Val} {x y : Val} {a b : PyData} {r : Res} (h1 : d ρ = .ok x ρ1) (h2 : e ρ1 = .ok y ρ2) (h3 : look ρ2 x = some a) (h4 : look ρ2 y = some b) (h5 : f a b = some r) : dOp2 f d e ρ = .ok (resV r) ρ2 := by
  rw [e_dOp2, h1, bd_ok, h2, bd_ok, h3, h4]
  show optB (f a b) _ = _
  rw [h5]
  rfl
theorem enumL_get {xs : List PyData} {i : Nat} {d : PyData} (h : (enumL xs)[i]? = some d) : ∃ x, xs[i]? = some x ∧ d = .tuple [.int (i : Int), x] := by
  unfold enumL at h
  rw [List.getElem?_zipWith] at h
  cases h2 : xs[i]? with
  | none => rw [h2] at h; cases h3 : (List.range xs.length)[i]? <;> rw [h3] at h <;> cases h
  | some x =>
    have hi : i < xs.length := lt_of_get h2
    rw [h2, List.getElem?_range hi] at h
    cases h
    exact ⟨x, rfl, rfl⟩
theorem enumL_length (xs : List PyData) : (enumL xs).length = xs.length := by unfold enumL; simp
theorem map_at {sp : List Nat} {i : Nat} {x : PyData} (h : (sp.map dI)[i]? = some x) : i < sp.length ∧ x = dI (sp.getD i 0) := by
  have hi : i < sp.length := by have := lt_of_get h; simpa using this
  refine ⟨hi, ?_⟩
  rw [List.getElem?_map, List.getElem?_eq_getElem hi] at h
  have e : sp.getD i 0 = sp[i] := by rw [List.getD_eq_getElem?_getD, List.getElem?_eq_getElem hi]; rfl
  rw [e]
  exact (Option.some.inj h).symm
theorem par_mono {sp : List Nat} {p j : Nat} : ∀ {t t' : Nat}, par sp p t = some j → t ≤ t' → par sp p t' = some j
  | t, 0, h, hl => by rw [show t = 0 by omega] at h; exact h
  | t, t' + 1, h, hl => by
    by_cases e : t = t' + 1
    · rw [← e]; exact h
    · have := par_mono (t' := t') h (by omega)
      show (match par sp p t' with | some j => some j | none => _) = _
      rw [this]
theorem parL_leaf {sp : List Nat} {n t : Nat} (ht : t ≤ 1000) : ∀ d ∈ parL sp n t, leaf d = true := fun d hd => by
  obtain ⟨p, _, rfl⟩ := List.mem_map.mp hd
  cases q : par sp p t with
  | none => rfl
  | some j =>
    have : j < t := by
      clear hd
      induction t with
      | zero => cases q
      | succ t ih =>
        unfold par at q
        cases q2 : par sp p t with
        | some j2 => rw [q2] at q; cases q; have := ih (by omega) q2; omega
        | none =>
          rw [q2] at q
          simp only at q
          split at q
          · cases q; omega
          · cases q
    exact leafI (by omega)
/-- a comprehension over enumerate(list) that keeps places by their entries -/
theorem lc_keep {ρ0 ρ : Rho} {m : M (List PyData)} {a b : Nat} {t : M Bool} {xs : List PyData} (q : PyData → Bool) (hm : m ρ0 = .ok (enumL xs) ρ) (hv : [a, b].all (fun i => isPlain ρ[i]?) = true) (hr : restR ρ (wipeR ρ [a, b]) [a, b] = ρ) (hl : xs.length ≤ 100000)
    (ha : a < ρ.length) (hb : b < ρ.length) (hab : a ≠ b) (ht : ∀ (i : Nat) (x : PyData), xs[i]? = some x → t (((wipeR ρ [a, b]).set a (.sh (.int (i : Int)))).set b (.sh x)) = .ok (q x) (((wipeR ρ [a, b]).set a (.sh (.int (i : Int)))).set b (.sh x))) :
    dLC m (gtTup (gtCons (gtName a) (gtCons (gtName b) gtNil)) 2) t (dVar a) [a, b] ρ0 = .ok (.fr (((enumL xs).filter fun d => match d with | .tuple [_, x] => q x | _ => false).map fun d => match d with | .tuple [i, _] => i | d => d)) ρ := by
  refine lc_run (p := fun d => match d with | .tuple [_, x] => q x | _ => false) (f := fun d => match d with | .tuple [i, _] => i | d => d) hm hv hr (by rw [enumL_length]; exact hl) fun d hd => ?_
  obtain ⟨i, hi⟩ := List.getElem?_of_mem hd
  obtain ⟨x, hx, rfl⟩ := enumL_get hi
  have w : wipeR ρ [a, b] = (ρ.set b .no).set a .no := rfl
  rw [w] at *
  have l1 : ((ρ.set b .no).set a .no).length = ρ.length := by simp
  refine ⟨(((ρ.set b .no).set a .no).set a (.sh (.int (i : Int)))).set b (.sh x), ?_, ht i x hx, fun _ => ?_, ?_⟩
  · have g1 : ((ρ.set b .no).set a .no)[a]? = some .no := List.getElem?_set_self (by simpa using ha)
    have g2 : (((ρ.set b .no).set a .no).set a (.sh (.int (i : Int))))[b]? = some .no := by
      rw [List.getElem?_set_ne hab, List.getElem?_set_ne hab]
      exact List.getElem?_set_self hb
    rw [e_gtTup, if_pos (show [PyData.int (i : Int), x].length = 2 from rfl), e_gtCons, e_gtName, e_stSh, g1, if_pos nb_no]
    show gtCons (gtName b) gtNil [x] _ = _
    rw [e_gtCons, e_gtName, e_stSh, g2, if_pos nb_no]
    rfl
  · have g3 : ((((ρ.set b .no).set a .no).set a (.sh (.int (i : Int)))).set b (.sh x))[a]? = some (.sh (.int (i : Int))) := by
      rw [List.getElem?_set_ne (Ne.symm hab)]
      exact List.getElem?_set_self (by simpa using ha)
    rw [e_mbind, e_dVar, g3]
    rfl
  · show (((((ρ.set b .no).set a .no).set a (.sh (.int (i : Int)))).set b (.sh x)).set b .no).set a .no = (ρ.set b .no).set a .no
    refine List.ext_getElem? fun j => ?_
    by_cases ja : j = a
    · subst ja
      rw [List.getElem?_set_self (by simpa using ha), List.getElem?_set_self (by simpa using ha)]
    · by_cases jb : j = b
      · subst jb
        rw [List.getElem?_set_ne (Ne.symm ja), List.getElem?_set_self (by simpa using hb), List.getElem?_set_ne (Ne.symm ja), List.getElem?_set_self hb]
      · rw [List.getElem?_set_ne (Ne.symm ja), List.getElem?_set_ne (Ne.symm jb), List.getElem?_set_ne (Ne.symm jb), List.getElem?_set_ne (Ne.symm ja)]
/-- the places whose entry is asked for -/
def keepL (q : PyData → Bool) (xs : List PyData) : List PyData := ((enumL xs).filter fun d => match d with | .tuple [_, x] => q x | _ => false).map fun d => match d with | .tuple [i, _] => i | d => d
end SP
namespace LW
open SP
/-! ### the draws -/
theorem bits_le {i : Int} {k : Nat} (h : i.natAbs < 2 ^ k) : Builtin.Int.intBits i ≤ k := by
  unfold Builtin.Int.intBits
  by_cases h0 : i = 0
  · subst h0; exact Nat.zero_le _
  · have h1 : i.natAbs ≠ 0 := by omega
    have h2 := (Nat.log2_lt h1).mpr h
    split
    · omega
    · omega
theorem powI {i j : Int} (h0 : 0 ≤ j) (h1 : (Builtin.Int.intBits i : Int) * j ≤ 134217728) : f_pow (.int i) (.int j) = some (.val (.int (i ^ j.toNat))) := by
  show grd (decide (0 ≤ j) && decide ((Builtin.Int.intBits i : Int) * j ≤ 2 ^ 27)) _ = _
  rw [decide_eq_true h0, decide_eq_true (show (Builtin.Int.intBits i : Int) * j ≤ 2 ^ 27 from h1)]
  rfl
structure Tub (n : Nat) (t : List PyData) : Prop where
  ex : ∃ a b c : Int, t = [.int a, .int b, .int c] ∧ 0 ≤ a ∧ 0 ≤ b ∧ b < 2 ^ 150 ∧ 0 ≤ c ∧ c ≤ n
theorem Tub.mono {n m : Nat} {t : List PyData} (T : Tub n t) (h : n ≤ m) : Tub m t := by
  obtain ⟨a, b, c, h1, h2, h3, h4, h5, h6⟩ := T.ex
  exact ⟨a, b, c, h1, h2, h3, h4, h5, by omega⟩
theorem ix0 (a b c : PyData) : f_ix (.list [a, b, c]) (.int 0) = some (.val a) := rfl
theorem ix1 (a b c : PyData) : f_ix (.list [a, b, c]) (.int 1) = some (.val b) := rfl
theorem ix2 (a b c : PyData) : f_ix (.list [a, b, c]) (.int 2) = some (.val c) := rfl
theorem log_lt {i : Int} {k : Nat} (h0 : 0 ≤ i) (h : i < 2 ^ k) (hk : 0 < k) : i.natAbs.log2 < k := by
  by_cases h1 : i.natAbs = 0
  · rw [h1]; exact hk
  · refine (Nat.log2_lt h1).mpr ?_
    have : ((i.natAbs : Nat) : Int) < ((2 ^ k : Nat) : Int) := by
      rw [Int.natAbs_of_nonneg h0, Int.natCast_pow]
      exact h
    omega
theorem ixMap {sp : List Nat} {j : Nat} (hj : j < sp.length) : f_ix (.tuple (sp.map dI)) (.int (j : Int)) = some (.val (dI (sp.getD j 0))) := by
  refine ixT ?_
  rw [atI_nn (by omega) (by simp; omega), Int.toNat_natCast, List.getElem?_map, List.getElem?_eq_getElem hj]
  rw [List.getD_eq_getElem?_getD, List.getElem?_eq_getElem hj]
  rfl
/-! ### a span row is right -/
theorem keep_len (q : PyData → Bool) (xs : List PyData) : (keepL q xs).length ≤ xs.length := by
  unfold keepL
  rw [List.length_map]
  exact Nat.le_trans (List.length_filter_le _ _) (by rw [SP.enumL_length]; exact Nat.le_refl _)
theorem keep_leaf (q : PyData → Bool) {xs : List PyData} (h : xs.length ≤ 1000) : ∀ d ∈ keepL q xs, leaf d = true := fun d hd => by
  obtain ⟨e, he, rfl⟩ := List.mem_map.mp hd
  obtain ⟨i, hi⟩ := List.getElem?_of_mem (List.mem_filter.mp he).1
  obtain ⟨x, hx, rfl⟩ := SP.enumL_get hi
  exact leafI (n := i) (by have := lt_of_get hx; omega)
/-- a comprehension over the places that calls a function of the row and a place -/
theorem lc_places {F : Fn} {ρ : Rho} {k : Nat} {n : Nat} {d : PyData} {f : Nat → PyData} (h0 : ρ[0]? = some (.sh d)) (hk0 : k ≠ 0) (hk : k < ρ.length) (hm : DL.iRng1 (dB f_len [dVar 0]) ρ = .ok (rngL 0 1 n) ρ) (hn : n ≤ 1000) (hv : [k].all (fun i => isPlain ρ[i]?) = true) (hr : restR ρ (wipeR ρ [k]) [k] = ρ)
    (h : ∀ p, p < n → F [.sh d, .sh (.int (p : Int))] = .ret (.sh (f p)) []) : dLC (DL.iRng1 (dB f_len [dVar 0])) (gtName k) dYes (dCall F [(true, dVar 0), (true, dVar k)]) [k] ρ = .ok (.fr ((List.range n).map f)) ρ := by
  have e : (rngL 0 1 n).map (fun d => match d with | .int i => f i.toNat | d => d) = (List.range n).map f := by
    unfold rngL
    rw [List.map_map]
    refine List.map_congr_left fun i _ => ?_
    show f ((0 : Int) + (i : Int) * 1).toNat = f i
    congr 1
    omega
  rw [← e]
  refine lc_map _ hm hv hr (by rw [rngL_length]; omega) fun x hx => ?_
  obtain ⟨i, hi, rfl⟩ := rngL_mem hx
  have er : (0 : Int) + (i : Int) * 1 = (i : Int) := by omega
  rw [er]
  have w : wipeR ρ [k] = ρ.set k .no := rfl
  rw [w]
  have g1 : (ρ.set k .no)[k]? = some .no := List.getElem?_set_self hk
  have g0 : ((ρ.set k .no).set k (.sh (.int (i : Int))))[0]? = some (.sh d) := by rw [List.getElem?_set_ne hk0, List.getElem?_set_ne hk0]; exact h0
  have gk : ((ρ.set k .no).set k (.sh (.int (i : Int))))[k]? = some (.sh (.int (i : Int))) := List.getElem?_set_self (by simpa using hk)
  refine ⟨(ρ.set k .no).set k (.sh (.int (i : Int))), ?_, ?_, ?_⟩
  · rw [e_gtName, e_stSh, g1, if_pos nb_no]
  · show mbind _ shr _ = .ok (f ((i : Int).toNat)) _
    rw [Int.toNat_natCast, e_mbind, call_2 (d := dVar 0) (e := dVar k) (var_sh g0) (var_sh gk) (h i hi)]
    rfl
  · show ((ρ.set k .no).set k (.sh (.int (i : Int)))).set k .no = ρ.set k .no
    rw [List.set_set, List.set_set]
theorem repr1 {ρ ρ1 : Rho} {d : M Val} {x : Val} {a : PyData} (h : d ρ = .ok x ρ1) (hx : look ρ1 (kp x) = some a) (hr : rpr a = true) : dB f_repr [d] ρ = .ok (.sh (.str a.shown)) ρ1 := by
  rw [e_dB, e_evL1, h, bd_ok, e_evL0]
  show optB (lookL ρ1 [kp x]) _ = _
  rw [e_lookL1, hx]
  show optB (f_repr [a]) _ = _
  rw [DL.e_repr hr]
  rfl
/-- two answers that are the same data -/
theorem same_ok {ρ ρ1 ρ2 : Rho} {d e : M Val} {x y : Val} {a : PyData} (h : d ρ = .ok x ρ1) (hx : look ρ1 (kp x) = some a) (h2 : e ρ1 = .ok y ρ2) (hy : look ρ2 (kp y) = some a) (hr : rpr a = true) : tst (dOp2 f_ne (dB f_repr [d]) (dB f_repr [e])) ρ = .ok false ρ2 := by
  rw [e_tst, op2_of (repr1 h hx hr) (repr1 h2 hy hr) rfl rfl (e_neS _ _)]
  simp
theorem par2_ok {ρ ρ1 ρ2 ρ3 ρ4 : Rho} {i j : Nat} {da db : M Val} {x : PyData} {ys : List PyData} (h1 : da ρ = .ok (.sh x) ρ1) (h2 : db ρ1 = .ok (.fr ys) ρ2) (h3 : DL.stI j (.fr ys) ρ2 = some ρ3) (h4 : DL.stI i (.sh x) ρ3 = some ρ4) : sPar2 i j da db ρ = .nx ρ4 := by
  unfold sPar2
  rw [e_sBind, h1, td_ok]
  show sBind (mpure (Val.sh x)) _ ρ1 = _
  rw [e_sBind, e_mpure, td_ok]
  show sBind db _ ρ1 = _
  rw [e_sBind, h2, td_ok]
  show sBind (mpure (Val.fr ys)) _ ρ2 = _
  rw [e_sBind, e_mpure, td_ok]
  show sOpt (DL.stI j (.fr ys) ρ2) _ = _
  rw [h3]
  show gOpt (DL.stI i (.sh x) ρ3) = _
  rw [h4]
  rfl
theorem par_gt {sp : List Nat} {p j : Nat} : ∀ {t : Nat}, par sp p t = some j → p < j
  | t + 1, h => by
    unfold par at h
    cases q : par sp p t with
    | some j2 => rw [q] at h; cases h; exact par_gt q
    | none =>
      rw [q] at h
      simp only at h
      split at h
      · rename_i c; cases h; exact c.1
      · cases h
theorem keep0 (sp : List Nat) (n t : Nat) : keepL (fun x => PyData.eqv x (.int ((0 : Nat) : Int))) (parL sp n t) = [] := by
  unfold keepL
  rw [List.filter_eq_nil_iff.mpr, List.map_nil]
  intro d hd
  obtain ⟨i, hi⟩ := List.getElem?_of_mem hd
  obtain ⟨x, hx, rfl⟩ := SP.enumL_get hi
  obtain ⟨p, _, rfl⟩ := List.mem_map.mp (List.mem_of_getElem? hx)
  cases q : par sp p t with
  | none => simp [oD, PyData.eqv]
  | some j =>
    have := par_gt q
    show ¬ PyData.eqv (.int (j : Int)) (.int ((0 : Nat) : Int)) = true
    simp [PyData.eqv]
    omega
theorem rng_len {ρ : Rho} {sp : List Nat} (h0 : ρ[0]? = some (.sh (.tuple (sp.map dI)))) (hn : sp.length ≤ 1000) : DL.iRng1 (dB f_len [dVar 0]) ρ = .ok (rngL 0 1 sp.length) ρ := by
  have q := rng1_of (d := dB f_len [dVar 0]) (ρ := ρ) (ρ' := ρ) (j := (sp.length : Int)) (by
    rw [e_dB, e_evL1, var_sh h0]
    simp [f_len]) (by omega) (by omega)
  rwa [Int.toNat_natCast] at q
theorem call_slot {ρ : Rho} {F : Fn} {b m : Bool} {i : Nat} {d : M Val} {t t' : List PyData} {x v : PyData} (h : ρ[i]? = some (setSl b t)) (hd : d ρ = .ok (.sh x) ρ) (hF : F [.bo t, .sh x] = .ret (.sh v) [t']) : dCall F [(true, dVar i), (m, d)] ρ = .ok (.sh v) (ρ.set i (setSl b t')) := by
  have hv : dVar i ρ = .ok (.sl i) ρ := by cases b; exact var_bo h; exact var_ow h
  have ha : argsOf ρ [AV.slot i, AV.dat x] = some [.bo t, .sh x] := by
    rw [argsOf1, argOf_slot, h]
    cases b <;> rfl
  have hb : boSl ρ [AV.slot i, AV.dat x] = [i] := by
    rw [boSl2, h]
    cases b <;> rfl
  have hp : putBo ρ [i] [t'] = ρ.set i (setSl b t') := by
    rw [putBo1, h]
    cases b <;> rfl
  rw [e_dCall, e_evAV1, hv, bd_ok, toAV_sl, bd_ok, e_evAV1, hd, bd_ok, toAV_sh, bd_ok, e_evAV0, bd_ok, bd_ok, bd_ok, ha]
  show (if (boSl ρ [AV.slot i, AV.dat x]).Nodup then frO (boSl ρ [AV.slot i, AV.dat x]) ρ (F [.bo t, .sh x]) else .stuck) = _
  rw [hb, if_pos (List.nodup_cons.mpr ⟨by simp, List.nodup_nil⟩), hF, frO_ret, hp]
  rfl
theorem e_max2 (i j : Int) : f_max [.int i, .int j] = some (.val (.int (if j > i then j else i))) := rfl
theorem e_min2 (i j : Int) : f_min [.int i, .int j] = some (.val (.int (if j < i then j else i))) := rfl
theorem dB2 {ρ ρ1 ρ2 : Rho} {f : List PyData → Option Res} {d e : M Val} {a b : PyData} {r : Res} (h1 : d ρ = .ok (.sh a) ρ1) (h2 : e ρ1 = .ok (.sh b) ρ2) (h3 : f [a, b] = some r) : dB f [d, e] ρ = .ok (resV r) ρ2 := by
  rw [e_dB, e_evL1, h1, bd_ok, e_evL1, h2, bd_ok, e_evL0]
  show optB (f [a, b]) _ = _
  rw [h3]
  rfl
theorem dB1 {ρ ρ1 : Rho} {f : List PyData → Option Res} {d : M Val} {x : Val} {a : PyData} {r : Res} (h1 : d ρ = .ok x ρ1) (hx : look ρ1 (kp x) = some a) (h3 : f [a] = some r) : dB f [d] ρ = .ok (resV r) ρ1 := by
  rw [e_dB, e_evL1, h1, bd_ok, e_evL0]
  show optB (lookL ρ1 [kp x]) _ = _
  rw [e_lookL1, hx]
  show optB (f [a]) _ = _
  rw [h3]
  rfl
theorem lst5 {ρ0 ρ1 ρ2 ρ3 ρ4 ρ5 : Rho} {d1 d2 d3 d4 d5 : M Val} {a1 a2 a3 a4 a5 : PyData} (h1 : d1 ρ0 = .ok (.sh a1) ρ1) (h2 : d2 ρ1 = .ok (.sh a2) ρ2) (h3 : d3 ρ2 = .ok (.sh a3) ρ3) (h4 : d4 ρ3 = .ok (.sh a4) ρ4) (h5 : d5 ρ4 = .ok (.sh a5) ρ5) : dLst [d1, d2, d3, d4, d5] ρ0 = .ok (.fr [a1, a2, a3, a4, a5]) ρ5 := by
  rw [e_dLst, e_evS1, h1, bd_ok, e_shrSh, bd_ok, e_evS1, h2, bd_ok, e_shrSh, bd_ok, e_evS1, h3, bd_ok, e_shrSh, bd_ok, e_evS1, h4, bd_ok, e_shrSh, bd_ok, e_evS1, h5, bd_ok, e_shrSh, bd_ok, e_evS0]
  rfl
theorem lst3s {ρ0 ρ1 ρ2 ρ3 : Rho} {d1 d2 d3 : M Val} {a1 a2 a3 : PyData} (h1 : d1 ρ0 = .ok (.sh a1) ρ1) (h2 : d2 ρ1 = .ok (.sh a2) ρ2) (h3 : d3 ρ2 = .ok (.sh a3) ρ3) : dLst [d1, d2, d3] ρ0 = .ok (.fr [a1, a2, a3]) ρ3 := by
  rw [e_dLst, e_evS1, h1, bd_ok, e_shrSh, bd_ok, e_evS1, h2, bd_ok, e_shrSh, bd_ok, e_evS1, h3, bd_ok, e_shrSh, bd_ok, e_evS0]
  rfl
theorem ints_dI (l : List Nat) : intsOf (l.map dI) = some (l.map fun n : Nat => (n : Int)) := by
  have : l.map dI = (l.map fun n : Nat => (n : Int)).map .int := by rw [List.map_map]; rfl
  rw [this, intsOf_map]
theorem sum_cast : ∀ l : List Nat, (l.map fun n : Nat => (n : Int)).sum = ((l.sum : Nat) : Int)
  | [] => rfl
  | x :: r => by rw [List.map_cons, List.sum_cons, List.sum_cons, sum_cast r, Int.natCast_add]
theorem sum_rev (l : List Nat) : l.reverse.sum = l.sum := by
  induction l with
  | nil => rfl
  | cons x r ih => rw [List.reverse_cons, List.sum_append, ih, List.sum_cons]; simp; omega
theorem par3_ok {ρ ρ1 ρ2 ρ3 ρ4 ρ5 ρ6 : Rho} {i j l : Nat} {da db dc : M Val} {x : PyData} {ys zs : List PyData} (h1 : da ρ = .ok (.sh x) ρ1) (h2 : db ρ1 = .ok (.fr ys) ρ2) (h3 : dc ρ2 = .ok (.fr zs) ρ3) (h4 : DL.stI l (.fr zs) ρ3 = some ρ4) (h5 : DL.stI j (.fr ys) ρ4 = some ρ5) (h6 : DL.stI i (.sh x) ρ5 = some ρ6) : sPar3 i j l da db dc ρ = .nx ρ6 := by
  unfold sPar3
  rw [e_sBind, h1, td_ok]
  show sBind (mpure (Val.sh x)) _ ρ1 = _
  rw [e_sBind, e_mpure, td_ok]
  show sBind db _ ρ1 = _
  rw [e_sBind, h2, td_ok]
  show sBind (mpure (Val.fr ys)) _ ρ2 = _
  rw [e_sBind, e_mpure, td_ok]
  show sBind dc _ ρ2 = _
  rw [e_sBind, h3, td_ok]
  show sBind (mpure (Val.fr zs)) _ ρ3 = _
  rw [e_sBind, e_mpure, td_ok]
  show sOpt (DL.stI l (.fr zs) ρ3) _ = _
  rw [h4]
  show sOpt (DL.stI j (.fr ys) ρ4) _ = _
  rw [h5]
  show gOpt (DL.stI i (.sh x) ρ5) = _
  rw [h6]
  rfl
/-! ### all span rows of a size -/
def PP (p : List Nat × List Nat) : PyData := .tuple [.tuple (p.1.map dI), .tuple (p.2.reverse.map dI)]
structure Good (i : Nat) (p : List Nat × List Nat) : Prop where
  run : runS [] p.1 = some p.2
  len : p.1.length = i
def kid (p : List Nat × List Nat) (m : Nat) : List Nat × List Nat := (p.1 ++ [1 + (p.2.take m).sum], (1 + (p.2.take m).sum) :: p.2.drop m)
def kids (p : List Nat × List Nat) : List (List Nat × List Nat) := (List.range (p.2.length + 1)).map (kid p)
theorem Good.pos {i : Nat} {p : List Nat × List Nat} (G : Good i p) : (∀ x ∈ p.2, 1 ≤ x) ∧ p.2.length ≤ i := by
  obtain ⟨pos, hsum, _⟩ := runS_inv G.run (fun x hx => by cases hx)
  rw [List.sum_nil, Nat.zero_add, G.len] at hsum
  exact ⟨pos, hsum ▸ len_le_sum pos⟩
theorem Good.kid {i m : Nat} {p : List Nat × List Nat} (G : Good i p) (hm : m ≤ p.2.length) : Good (i + 1) (kid p m) :=
  ⟨runS_snoc G.run (step_take G.pos.1 hm), by show (p.1 ++ [_]).length = _; rw [List.length_append, G.len]; rfl⟩
def PL (s : Sl) : Prop := isPlain (some s) = true
theorem PL.nb {s : Sl} (h : PL s) : NB s := by cases s <;> first | rfl | cases h
def rowD (p : List Nat × List Nat) : PyData := .tuple (p.1.map dI)
end LW
end

section
set_option Elab.async false
set_option linter.all false
set_option maxHeartbeats 1000000
open PySem L2 DL
namespace SP
/-! ### one round: how far back the entries are less -/
def frt (r : Nat → Int) (k : Nat) : Nat → Nat
  | 0 => 0
  | f + 1 => if r f < r k then frt r k f else f + 1
def spn (r : Nat → Int) (k : Nat) : Nat := k + 1 - frt r k k
variable {r : Nat → Int} {k : Nat}
theorem frt_le : ∀ f, frt r k f ≤ f
  | 0 => Nat.le_refl _
  | f + 1 => by
    unfold frt
    split
    · have := frt_le f; omega
    · exact Nat.le_refl _
theorem frt_s (f : Nat) : frt r k (f + 1) = if r f < r k then frt r k f else f + 1 := rfl
theorem frt_lt : ∀ {f i}, frt r k f ≤ i → i < f → r i < r k
  | f + 1, i, h, h2 => by
    rw [frt_s] at h
    split at h
    · by_cases e : i = f
      · subst e; assumption
      · exact frt_lt (f := f) h (by omega)
    · omega
theorem frt_stop : ∀ {f}, 0 < frt r k f → r k ≤ r (frt r k f - 1)
  | f + 1, h => by
    by_cases c : r f < r k
    · have e : frt r k (f + 1) = frt r k f := by rw [frt_s, if_pos c]
      rw [e] at h ⊢
      exact frt_stop h
    · have e : frt r k (f + 1) = f + 1 := by rw [frt_s, if_neg c]
      rw [e]
      simp only [Nat.add_sub_cancel]
      omega
/-- what it is -/
theorem frt_eq {f g : Nat} (hg : g ≤ f) (h : ∀ i, g ≤ i → i < f → r i < r k) (h2 : g = 0 ∨ r k ≤ r (g - 1)) : frt r k f = g := by
  have l := frt_le (r := r) (k := k) f
  rcases Nat.lt_trichotomy (frt r k f) g with c | c | c
  · rcases h2 with h2 | h2
    · omega
    · have := frt_lt (r := r) (k := k) (f := f) (i := g - 1) (by omega) (by omega)
      omega
  · exact c
  · have := frt_stop (r := r) (k := k) (f := f) (by omega)
    have := h (frt r k f - 1) (by omega) (by omega)
    omega
theorem frt_congr {r' : Nat → Int} {f : Nat} (h : ∀ i, i < f → (r i < r k ↔ r' i < r' k)) : frt r k f = frt r' k f := by
  induction f with
  | zero => rfl
  | succ f ih =>
    rw [frt_s, frt_s, ih fun i hi => h i (by omega)]
    by_cases c : r f < r k
    · rw [if_pos c, if_pos ((h f (by omega)).mp c)]
    · rw [if_neg c, if_neg fun z => c ((h f (by omega)).mpr z)]
theorem spn_pos : 1 ≤ spn r k := by unfold spn; have := frt_le (r := r) (k := k) k; omega
theorem spn_le : spn r k ≤ k + 1 := by unfold spn; omega
/-- the roots of the first k places, the last one first -/
def chain (r : Nat → Int) : Nat → List Nat
  | 0 => []
  | k + 1 => spn r k :: chain r (frt r k k)
  decreasing_by have := frt_le (r := r) (k := k) k; omega
theorem pop_chain : ∀ (f : Nat), frt r k k ≤ f → f ≤ k → popTo (1 + (k - f)) (spn r k) (chain r f) = (spn r k, chain r (frt r k k)) := by
  intro f
  induction f using Nat.strongRecOn with
  | _ f ih =>
    intro h h2
    by_cases c : f = frt r k k
    · have e : 1 + (k - f) = spn r k := by unfold spn; omega
      rw [e, c]
      cases q : chain r (frt r k k) with
      | nil => rfl
      | cons x s =>
        show (if spn r k < spn r k then _ else _) = _
        rw [if_neg (by omega)]
    · obtain ⟨g, rfl⟩ : ∃ g, f = g + 1 := ⟨f - 1, by omega⟩
      have hg := frt_lt (r := r) (k := k) (f := k) (i := g) (by omega) (by omega)
      have l := frt_le (r := r) (k := g) g
      have hb : frt r k k ≤ frt r g g := by
        rcases Nat.lt_or_ge (frt r g g) (frt r k k) with z | z
        · have z1 := frt_stop (r := r) (k := k) (f := k) (by omega)
          have z2 := frt_lt (r := r) (k := g) (f := g) (i := frt r k k - 1) (by omega) (by omega)
          omega
        · exact z
      have e : chain r (g + 1) = spn r g :: chain r (frt r g g) := by rw [chain]
      rw [e]
      show (if 1 + (k - (g + 1)) < spn r k then popTo _ _ _ else _) = _
      rw [if_pos (by unfold spn; omega)]
      have e2 : 1 + (k - (g + 1)) + spn r g = 1 + (k - frt r g g) := by unfold spn; omega
      rw [e2]
      exact ih (frt r g g) (by omega) hb (by omega)
theorem step_chain : step (spn r k) (chain r k) = some (chain r (k + 1)) := by
  have p := pop_chain (r := r) (k := k) k (frt_le k) (Nat.le_refl _)
  rw [Nat.sub_self, Nat.add_zero] at p
  unfold step
  rw [p]
  rw [if_pos ⟨spn_pos, rfl⟩]
  conv => rhs; rw [chain]
/-- the row after a round is a span row -/
theorem run_spans : ∀ n : Nat, runS [] ((List.range n).map (spn r)) = some (chain r n)
  | 0 => by rw [chain]; rfl
  | n + 1 => by
    rw [List.range_succ, List.map_append]
    exact runS_snoc (run_spans n) step_chain
theorem oD_n : oD none = .none := rfl
theorem oD_s (j : Nat) : oD (some j) = .int (j : Int) := rfl
theorem par_lt {sp : List Nat} {p j : Nat} : ∀ {t : Nat}, par sp p t = some j → j < t
  | t + 1, h => by
    unfold par at h
    cases q : par sp p t with
    | some j2 => rw [q] at h; cases h; have := par_lt q; omega
    | none =>
      rw [q] at h
      simp only at h
      split at h
      · cases h; omega
      · cases h
end SP
end

section
set_option Elab.async false
set_option linter.all false
set_option maxHeartbeats 1000000
open PySem L2 DL
namespace SP
theorem par_s (sp : List Nat) (p t : Nat) : par sp p (t + 1) = match par sp p t with
    | some j => some j
    | none => if p < t ∧ t < p + sp.getD t 0 then some t else none := rfl
theorem par_no {sp : List Nat} {p : Nat} : ∀ {t : Nat}, par sp p t = none → ∀ i, p < i → i < t → ¬ i < p + sp.getD i 0
  | t + 1, h, i, h1, h2 => by
    rw [par_s] at h
    cases q : par sp p t with
    | some j => rw [q] at h; cases h
    | none =>
      rw [q] at h
      by_cases e : i = t
      · subst e
        intro c
        simp only [h1, c, true_and] at h
        simp at h
      · exact par_no q i h1 (by omega)
theorem par_yes {sp : List Nat} {p j : Nat} : ∀ {t : Nat}, par sp p t = some j → p < j ∧ j < t ∧ j < p + sp.getD j 0 ∧ ∀ i, p < i → i < j → ¬ i < p + sp.getD i 0
  | t + 1, h => by
    rw [par_s] at h
    cases q : par sp p t with
    | some j2 =>
      rw [q] at h
      cases h
      obtain ⟨a, b, c, d⟩ := par_yes q
      exact ⟨a, by omega, c, d⟩
    | none =>
      rw [q] at h
      simp only at h
      split at h
      · rename_i c
        cases h
        exact ⟨c.1, by omega, c.2, fun i h1 h2 => par_no q i h1 h2⟩
      · cases h
/-- the end of a stretch -/
def stEnd (sp : List Nat) (p : Nat) : Nat := (par sp p sp.length).getD sp.length
theorem stEnd_n {sp : List Nat} {p : Nat} (h : par sp p sp.length = none) : stEnd sp p = sp.length := by unfold stEnd; rw [h]; rfl
theorem stEnd_s {sp : List Nat} {p j : Nat} (h : par sp p sp.length = some j) : stEnd sp p = j := by unfold stEnd; rw [h]; rfl
theorem stEnd_le {sp : List Nat} {p : Nat} : stEnd sp p ≤ sp.length := by
  cases q : par sp p sp.length with
  | none => rw [stEnd_n q]; exact Nat.le_refl _
  | some j => rw [stEnd_s q]; have := par_yes q; omega
theorem stEnd_gt {sp : List Nat} {p : Nat} (hp : p < sp.length) : p < stEnd sp p := by
  cases q : par sp p sp.length with
  | none => rw [stEnd_n q]; exact hp
  | some j => rw [stEnd_s q]; have := par_yes q; omega
theorem stEnd_in {sp : List Nat} {p i : Nat} (h1 : p < i) (h2 : i < stEnd sp p) : ¬ i < p + sp.getD i 0 := by
  cases q : par sp p sp.length with
  | none => rw [stEnd_n q] at h2; exact par_no q i h1 h2
  | some j => rw [stEnd_s q] at h2; exact (par_yes q).2.2.2 i h1 h2
theorem stEnd_out {sp : List Nat} {p : Nat} (h : stEnd sp p < sp.length) : stEnd sp p < p + sp.getD (stEnd sp p) 0 := by
  cases q : par sp p sp.length with
  | none => rw [stEnd_n q] at h; omega
  | some j => rw [stEnd_s q]; exact (par_yes q).2.2.1
/-- the spans of a row -/
def spans (r : Nat → Int) (n : Nat) : List Nat := (List.range n).map (spn r)
variable {r : Nat → Int} {n : Nat}
theorem spans_len : (spans r n).length = n := by unfold spans; simp
theorem spans_at {i : Nat} (h : i < n) : (spans r n).getD i 0 = spn r i := by
  unfold spans
  rw [List.getD_eq_getElem?_getD, List.getElem?_map, List.getElem?_range h]; rfl
theorem run_sp : runS [] (spans r n) = some (chain r n) := run_spans n
theorem in_le {p : Nat} (hp : p < n) : ∀ i, p < i → i < stEnd (spans r n) p → r i ≤ r p := by
  intro i
  induction i using Nat.strongRecOn with
  | _ i ih =>
    intro h1 h2
    have hn : i < n := by have := stEnd_le (sp := spans r n) (p := p); rw [spans_len] at this; omega
    have h3 := stEnd_in h1 h2
    rw [spans_at hn] at h3
    rcases Int.lt_or_le (r p) (r i) with c | c
    · exfalso
      have h4 : p < frt r i i := by unfold spn at h3; omega
      have h5 := frt_stop (r := r) (k := i) (f := i) (by omega)
      have h6 := frt_le (r := r) (k := i) i
      by_cases e : frt r i i - 1 = p
      · rw [e] at h5; omega
      · have := ih (frt r i i - 1) (by omega) (by omega) (by omega)
        omega
    · exact c
theorem out_gt {p : Nat} (hp : p < n) (h : stEnd (spans r n) p < n) : r p < r (stEnd (spans r n) p) := by
  have h1 := stEnd_out (sp := spans r n) (p := p) (by rw [spans_len]; exact h)
  rw [spans_at h] at h1
  have h2 := stEnd_gt (sp := spans r n) (p := p) (by rw [spans_len]; exact hp)
  exact frt_lt (k := stEnd (spans r n) p) (f := stEnd (spans r n) p) (by unfold spn at h1; omega) h2
/-- the greatest of a list -/
theorem maxI_eq {m : Int} {ns : List Int} {x : Int} (h : x ∈ m :: ns) (h2 : ∀ y ∈ m :: ns, y ≤ x) : maxI m ns = x := by
  have a := h2 _ (maxI_mem m ns)
  have b := maxI_ge m ns x h
  omega
theorem ixR {r : List Int} {j : Int} (h0 : 0 ≤ j) (h : j < r.length) : atI (r.map PyData.int) j = some (.int (r.getD j.toNat 0)) := by
  have hj : j.toNat < r.length := by omega
  rw [atI_nn h0 (by simp; omega), List.getElem?_map, List.getElem?_eq_getElem hj, List.getD_eq_getElem?_getD, List.getElem?_eq_getElem hj]
  rfl
theorem ixMapI {sp : List Nat} {j : Nat} (hj : j < sp.length) : atI (sp.map dI) (j : Int) = some (.int (sp.getD j 0 : Nat)) := by
  rw [atI_nn (by omega) (by simp; omega), Int.toNat_natCast, List.getElem?_map, List.getElem?_eq_getElem hj]
  rw [List.getD_eq_getElem?_getD, List.getElem?_eq_getElem hj]
  rfl
theorem leafZ {i : Int} (h : -1000000 ≤ i) (h2 : i ≤ 1000000) : leaf (.int i) = true := by
  show decide (i.natAbs.log2 < 1000) = true
  refine decide_eq_true ?_
  by_cases h0 : i.natAbs = 0
  · rw [h0]; decide
  · have := (Nat.log2_lt (k := 20) h0).mpr (by omega)
    omega
theorem enumL_ints {r : List Int} {i : Nat} {d : PyData} (h : (enumL (r.map PyData.int))[i]? = some d) : i < r.length ∧ d = .tuple [.int (i : Int), .int (r.getD i 0)] := by
  obtain ⟨x, hx, rfl⟩ := enumL_get h
  rw [List.getElem?_map] at hx
  obtain ⟨y, hy, rfl⟩ := Option.map_eq_some_iff.mp hx
  have hi := lt_of_get hy
  refine ⟨hi, ?_⟩
  rw [List.getD_eq_getElem?_getD, hy]; rfl
theorem enumL_nats {r : List Nat} {i : Nat} {d : PyData} (h : (enumL (r.map dI))[i]? = some d) : i < r.length ∧ d = .tuple [.int (i : Int), .int (r.getD i 0 : Nat)] := by
  obtain ⟨x, hx, rfl⟩ := enumL_get h
  obtain ⟨hi, rfl⟩ := map_at hx
  exact ⟨hi, rfl⟩
end SP
end

section
set_option Elab.async false
set_option linter.all false
set_option maxHeartbeats 1000000
open PySem L2 DL
namespace SP
/-! ### weighted rounds of a row (a function of the place); weights that are positive -/
def pre (w : Nat → Int) : Nat → Int
  | 0 => 0
  | k + 1 => pre w k + w k
/-- one weighted round -/
def wrd (w r : Nat → Int) : Nat → Int := fun k => pre w (k + 1) - pre w (frt r k k)
def wit (w : Nat → Int) : Nat → (Nat → Int) → Nat → Int
  | 0, r => r
  | t + 1, r => wit w t (wrd w r)
section
variable {w : Nat → Int} (hw : ∀ i, 1 ≤ w i)
include hw
theorem pre_lt : ∀ {a b : Nat}, a < b → pre w a < pre w b
  | a, b + 1, h => by
    have h1 := hw b
    show _ < pre w b + w b
    by_cases e : a = b
    · subst e; omega
    · have := pre_lt (a := a) (b := b) (by omega)
      omega
theorem pre_le {a b : Nat} (h : a ≤ b) : pre w a ≤ pre w b := by
  by_cases e : a = b
  · subst e; exact Int.le_refl _
  · exact Int.le_of_lt (pre_lt hw (by omega))
theorem pre_inv {a b : Nat} (h : pre w a < pre w b) : a < b := by
  rcases Nat.lt_or_ge a b with c | c
  · exact c
  · have := pre_le hw c; omega
/-- what is covered stays covered -/
theorem frt_mono {r : Nat → Int} {k : Nat} : frt (wrd w r) k k ≤ frt r k k := by
  rcases Nat.lt_or_ge (frt r k k) (frt (wrd w r) k k) with c | c
  · exfalso
    have h1 := frt_stop (r := wrd w r) (k := k) (f := k) (by omega)
    obtain ⟨i, hi⟩ : ∃ i, i = frt (wrd w r) k k - 1 := ⟨_, rfl⟩
    rw [← hi] at h1
    have hle := frt_le (r := wrd w r) (k := k) k
    have h2 : r i < r k := frt_lt (k := k) (f := k) (by omega) (by omega)
    -- the stretch of i begins no earlier
    have h3 : frt r k k ≤ frt r i i := by
      rcases Nat.lt_or_ge (frt r i i) (frt r k k) with z | z
      · have z1 := frt_stop (r := r) (k := k) (f := k) (by omega)
        have z2 := frt_lt (r := r) (k := i) (f := i) (i := frt r k k - 1) (by omega) (by omega)
        omega
      · exact z
    have h4 := pre_le hw h3
    have h5 := pre_lt hw (show i + 1 < k + 1 by omega)
    have h6 : wrd w r i < wrd w r k := by show pre w (i + 1) - pre w (frt r i i) < pre w (k + 1) - pre w (frt r k k); omega
    omega
  · exact c
theorem wrd_mono {r : Nat → Int} {k : Nat} : wrd w r k ≤ wrd w (wrd w r) k := by
  have := pre_le hw (frt_mono hw (r := r) (k := k))
  show pre w (k + 1) - pre w (frt r k k) ≤ pre w (k + 1) - pre w (frt (wrd w r) k k)
  omega
/-- an entry that grows grew in the round before -/
theorem frt_grow {r : Nat → Int} {k : Nat} (h : frt (wrd w (wrd w r)) k k < frt (wrd w r) k k) : frt (wrd w r) k k < frt r k k := by
  obtain ⟨j, hj⟩ : ∃ j, j = frt (wrd w r) k k - 1 := ⟨_, rfl⟩
  have hle := frt_le (r := wrd w r) (k := k) k
  have h1 := frt_stop (r := wrd w r) (k := k) (f := k) (by omega)
  rw [← hj] at h1
  have h2 : wrd w (wrd w r) j < wrd w (wrd w r) k := frt_lt (k := k) (f := k) (by omega) (by omega)
  have h3 := wrd_mono hw (r := r) (k := j)
  have h4 : wrd w r k < wrd w (wrd w r) k := by omega
  have h5 : pre w (frt (wrd w r) k k) < pre w (frt r k k) := by
    have h4' : pre w (k + 1) - pre w (frt r k k) < pre w (k + 1) - pre w (frt (wrd w r) k k) := h4
    omega
  exact pre_inv hw h5
end
theorem wit_s (w : Nat → Int) : ∀ (t : Nat) (r : Nat → Int), wit w (t + 1) r = wrd w (wit w t r)
  | 0, r => rfl
  | t + 1, r => by
    show wit w (t + 1) (wrd w r) = _
    rw [wit_s w t (wrd w r)]
    rfl
section
variable {w : Nat → Int} (hw : ∀ i, 1 ≤ w i)
include hw
theorem frt_fall {r : Nat → Int} {k : Nat} : ∀ t : Nat, frt (wit w (t + 1) r) k k < frt (wit w t r) k k → frt (wit w (t + 1) r) k k + (t + 1) ≤ frt r k k
  | 0, h => h
  | t + 1, h => by
    have e1 := wit_s w (t + 1) r
    have e2 := wit_s w t r
    rw [e1, e2] at h
    have g := frt_grow hw h
    rw [← e2] at g
    have ih := frt_fall t g
    rw [← e2, ← e1] at h
    omega
/-- a place is at rest after as many rounds as there are places up to it -/
theorem wit_rest {r : Nat → Int} {k t : Nat} (h : k < t) : wit w (t + 1) r k = wit w t r k := by
  obtain ⟨s, rfl⟩ : ∃ s, t = s + 1 := ⟨t - 1, by omega⟩
  rw [wit_s w (s + 1), wit_s w s]
  show pre w (k + 1) - pre w (frt (wrd w (wit w s r)) k k) = pre w (k + 1) - pre w (frt (wit w s r) k k)
  have m := frt_mono hw (r := wit w s r) (k := k)
  by_cases e : frt (wrd w (wit w s r)) k k = frt (wit w s r) k k
  · rw [e]
  · exfalso
    rw [← wit_s w s] at m e
    have := frt_fall hw (r := r) (k := k) s (by omega)
    have := frt_le (r := r) (k := k) k
    omega
theorem wit_far {r : Nat → Int} {k t : Nat} (h : k < t) : ∀ s, wit w (t + s) r k = wit w t r k
  | 0 => rfl
  | s + 1 => by
    rw [← Nat.add_assoc, wit_rest hw (by omega)]
    exact wit_far h s
end
/-! only what stands in front matters -/
theorem frt_front {r r' : Nat → Int} {k : Nat} (h : ∀ i, i ≤ k → r i = r' i) : ∀ f, f ≤ k → frt r k f = frt r' k f
  | 0, _ => rfl
  | f + 1, hf => by
    rw [frt_s, frt_s, h f (by omega), h k (Nat.le_refl _), frt_front h f (by omega)]
theorem wrd_front {w r r' : Nat → Int} {k : Nat} (h : ∀ i, i ≤ k → r i = r' i) : wrd w r k = wrd w r' k := by
  show pre w (k + 1) - pre w (frt r k k) = pre w (k + 1) - pre w (frt r' k k)
  rw [frt_front h k (Nat.le_refl _)]
theorem wit_front {w : Nat → Int} {n : Nat} : ∀ (t : Nat) {r r' : Nat → Int}, (∀ i, i < n → r i = r' i) → ∀ k, k < n → wit w t r k = wit w t r' k
  | 0, r, r', h, k, hk => h k hk
  | t + 1, r, r', h, k, hk => wit_front t (fun i hi => wrd_front fun j hj => h j (by omega)) k hk
theorem pre_front {w w' : Nat → Int} {n : Nat} (h : ∀ i, i < n → w i = w' i) : ∀ k, k ≤ n → pre w k = pre w' k
  | 0, _ => rfl
  | k + 1, hk => by
    show pre w k + w k = pre w' k + w' k
    rw [pre_front h k (by omega), h k (by omega)]
theorem wrd_frontW {w w' r r' : Nat → Int} {n : Nat} (hw : ∀ i, i < n → w i = w' i) (h : ∀ i, i < n → r i = r' i) {k : Nat} (hk : k < n) : wrd w r k = wrd w' r' k := by
  have l := frt_le (r := r') (k := k) k
  show pre w (k + 1) - pre w (frt r k k) = pre w' (k + 1) - pre w' (frt r' k k)
  rw [frt_front (fun i hi => h i (by omega)) k (Nat.le_refl _), pre_front hw (k + 1) (by omega), pre_front hw (frt r' k k) (by omega)]
theorem wit_frontW {w w' : Nat → Int} {n : Nat} (hw : ∀ i, i < n → w i = w' i) : ∀ (t : Nat) {r r' : Nat → Int}, (∀ i, i < n → r i = r' i) → ∀ k, k < n → wit w t r k = wit w' t r' k
  | 0, r, r', h, k, hk => h k hk
  | t + 1, r, r', h, k, hk => wit_frontW hw t (fun i hi => wrd_frontW hw h hi) k hk
/-! weights of one, equal weights -/
def one : Nat → Int := fun _ => 1
theorem pre_one : ∀ k : Nat, pre one k = (k : Int)
  | 0 => rfl
  | k + 1 => by show pre one k + 1 = _; rw [pre_one k]; omega
theorem pre_mul (c : Int) : ∀ k : Nat, pre (fun _ => c) k = c * (k : Int)
  | 0 => by show (0 : Int) = c * 0; rw [Int.mul_zero]
  | k + 1 => by
    show pre (fun _ => c) k + c = _
    rw [pre_mul c k, Int.natCast_add, Int.mul_add]
    show _ = c * (k : Int) + c * 1
    rw [Int.mul_one]
theorem wrd_one {r : Nat → Int} {k : Nat} : wrd one r k = (spn r k : Nat) := by
  have := frt_le (r := r) (k := k) k
  show pre one (k + 1) - pre one (frt r k k) = _
  rw [pre_one, pre_one]
  unfold spn
  omega
theorem frt_scale {r r' : Nat → Int} {k : Nat} {c : Int} (hc : 1 ≤ c) (h : ∀ i, i ≤ k → r' i = c * r i) : ∀ f, f ≤ k → frt r' k f = frt r k f
  | 0, _ => rfl
  | f + 1, hf => by
    have e : (r' f < r' k) ↔ (r f < r k) := by
      rw [h f (by omega), h k (Nat.le_refl _)]
      exact ⟨fun z => Int.lt_of_mul_lt_mul_left z (by omega), fun z => Int.mul_lt_mul_of_pos_left z (by omega)⟩
    rw [frt_s, frt_s, frt_scale hc h f (by omega)]
    by_cases z : r f < r k
    · rw [if_pos z, if_pos (e.mpr z)]
    · rw [if_neg z, if_neg fun y => z (e.mp y)]
theorem wrd_scale {r r' : Nat → Int} {c : Int} (hf : ∀ k, frt r' k k = frt r k k) (k : Nat) : wrd (fun _ => c) r' k = c * wrd one r k := by
  show pre (fun _ => c) (k + 1) - pre (fun _ => c) (frt r' k k) = c * (pre one (k + 1) - pre one (frt r k k))
  rw [hf, pre_mul, pre_mul, pre_one, pre_one, Int.mul_sub]
/-- with equal weights: from the first round on the multiple -/
theorem wit_scale {r : Nat → Int} {c : Int} (hc : 1 ≤ c) : ∀ (t k : Nat), wit (fun _ => c) (t + 1) r k = c * wit one (t + 1) r k
  | 0, k => wrd_scale (fun _ => rfl) k
  | t + 1, k => by
    rw [wit_s _ (t + 1), wit_s one (t + 1)]
    exact wrd_scale (fun k => frt_scale hc (fun i _ => wit_scale hc t i) k (Nat.le_refl _)) k
end SP
end

section
set_option Elab.async false
set_option linter.all false
set_option maxHeartbeats 1000000
open PySem L2 DL
namespace SP
/-! ### rows as functions of the place -/
def RT (f : Nat → Int) (n : Nat) : List PyData := (List.range n).map fun i => PyData.int (f i)
section
variable {f g : Nat → Int} {n : Nat}
theorem RT_len : (RT f n).length = n := by unfold RT; simp
theorem RT_get {i : Nat} (h : i < n) : (RT f n)[i]? = some (.int (f i)) := by unfold RT; exact map_range_get _ h
theorem RT_at {j : Int} (h0 : 0 ≤ j) (h : j < n) : atI (RT f n) j = some (.int (f j.toNat)) := by unfold RT; exact atI_map _ h0 h
theorem RT_atN {j : Nat} (h : j < n) : atI (RT f n) (j : Int) = some (.int (f j)) := by rw [RT_at (by omega) (by omega), Int.toNat_natCast]
theorem RT_s : RT f (n + 1) = RT f n ++ [.int (f n)] := (map_range_append (fun i => PyData.int (f i)) n).symm
theorem RT_ext (h : ∀ i, i < n → f i = g i) : RT f n = RT g n := by
  unfold RT
  exact List.map_congr_left fun i hi => by rw [h i (List.mem_range.mp hi)]
theorem RT_mem {d : PyData} (h : d ∈ RT f n) : ∃ i, i < n ∧ d = .int (f i) := by
  unfold RT at h
  obtain ⟨i, hi, rfl⟩ := List.mem_map.mp h
  exact ⟨i, List.mem_range.mp hi, rfl⟩
theorem RT_inj (h : RT f n = RT g n) : ∀ i, i < n → f i = g i := fun i hi => by
  have h1 := RT_get (f := f) hi
  rw [h, RT_get hi] at h1
  injection h1 with h1; injection h1 with h1; exact h1.symm
theorem RT_list (r : List Int) : r.map PyData.int = RT (fun i => r.getD i 0) r.length := by
  refine List.ext_getElem? fun i => ?_
  by_cases hi : i < r.length
  · rw [RT_get hi, List.getElem?_map, List.getElem?_eq_getElem hi, List.getD_eq_getElem?_getD, List.getElem?_eq_getElem hi]; rfl
  · rw [List.getElem?_eq_none (by simp; omega), List.getElem?_eq_none (by rw [RT_len]; omega)]
theorem RT_take {m : Nat} (h : m ≤ n) : (RT f n).take m = RT f m := by
  unfold RT
  rw [← List.map_take, List.take_range, Nat.min_eq_left h]
theorem RT_enum {i : Nat} {d : PyData} (h : (enumL (RT f n))[i]? = some d) : i < n ∧ d = .tuple [.int (i : Int), .int (f i)] := by
  obtain ⟨x, hx, rfl⟩ := enumL_get h
  have hi : i < n := by have := lt_of_get hx; rwa [RT_len] at this
  rw [RT_get hi] at hx
  cases hx
  exact ⟨hi, rfl⟩
theorem RT_enumLen : (enumL (RT f n)).length = n := by rw [DL.enumL_length, RT_len]
/-- every entry is one of a row -/
def InB (f : Nat → Int) (n : Nat) : Prop := ∀ i, i < n → -1000000000000000000000000000000 ≤ f i ∧ f i ≤ 1000000000000000000000000000000
theorem leafB {i : Int} (h : -1000000000000000000000000000000 ≤ i) (h2 : i ≤ 1000000000000000000000000000000) : leaf (.int i) = true := by
  show decide (i.natAbs.log2 < 1000) = true
  refine decide_eq_true ?_
  by_cases h0 : i.natAbs = 0
  · rw [h0]; decide
  · have := (Nat.log2_lt (k := 120) h0).mpr (by omega)
    omega
theorem RT_leaf (h : InB f n) : ∀ d ∈ RT f n, leaf d = true := fun d hd => by
  obtain ⟨i, hi, rfl⟩ := RT_mem hd
  exact leafB (h i hi).1 (h i hi).2
/-- entries of at most 2 ** 200 -/
def InW (f : Nat → Int) (n : Nat) : Prop := ∀ i, i < n → leaf (.int (f i)) = true
theorem InB.w (h : InB f n) : InW f n := fun i hi => leafB (h i hi).1 (h i hi).2
theorem RT_leafW (h : InW f n) : ∀ d ∈ RT f n, leaf d = true := fun d hd => by
  obtain ⟨i, hi, rfl⟩ := RT_mem hd
  exact h i hi
def RL (f : Nat → Int) (n : Nat) : List Int := (List.range n).map f
theorem RT_RL : RT f n = (RL f n).map PyData.int := by unfold RT RL; rw [List.map_map]; rfl
theorem RL_ext (h : ∀ i, i < n → f i = g i) : RL f n = RL g n := List.map_congr_left fun i hi => h i (List.mem_range.mp hi)
theorem RL_inj (h : RL f n = RL g n) : ∀ i, i < n → f i = g i := fun i hi => by
  have h1 : (RL f n)[i]? = some (f i) := map_range_get f hi
  have h2 : (RL g n)[i]? = some (g i) := map_range_get g hi
  rw [h, h2] at h1
  exact (Option.some.inj h1).symm
theorem RL_len : (RL f n).length = n := by unfold RL; simp
theorem eqvA_ints : ∀ (xs ys : List Int), PyData.eqvAll (xs.map .int) (ys.map .int) = decide (xs = ys)
  | [], [] => by simp [PyData.eqvAll]
  | [], y :: ys => by simp [PyData.eqvAll]
  | x :: xs, [] => by simp [PyData.eqvAll]
  | i :: xs, j :: ys => by
    have ih := eqvA_ints xs ys
    have e : PyData.eqvAll (PyData.int i :: xs.map PyData.int) (PyData.int j :: ys.map PyData.int) = (PyData.eqv (.int i) (.int j) && PyData.eqvAll (xs.map PyData.int) (ys.map PyData.int)) := by simp [PyData.eqvAll]
    rw [List.map_cons, List.map_cons, e, ih]
    by_cases c : i = j
    · subst c; simp [PyData.eqv]
    · simp [PyData.eqv, c]
theorem eqvT_RT {m : Nat} : PyData.eqv (.tuple (RT f n)) (.tuple (RT g m)) = decide (RL f n = RL g m) := by
  rw [RT_RL, RT_RL, ← eqvA_ints]
  simp [PyData.eqv]
theorem eqT_RT {m : Nat} (hf : InW f n) (hg : InW g m) : f_eq (.tuple (RT f n)) (.tuple (RT g m)) = some (.val (.bool (decide (RL f n = RL g m)))) := by
  obtain ⟨a1, a2, _⟩ := tuple_leaves (RT_leafW hf)
  obtain ⟨b1, b2, _⟩ := tuple_leaves (RT_leafW hg)
  rw [f_eq_of rfl (shp_ok a1 (by omega)) (shp_ok b1 (by omega)), eqvT_RT]
theorem neT_RT {m : Nat} (hf : InW f n) (hg : InW g m) : f_ne (.tuple (RT f n)) (.tuple (RT g m)) = some (.val (.bool (!decide (RL f n = RL g m)))) := by
  obtain ⟨a1, a2, _⟩ := tuple_leaves (RT_leafW hf)
  obtain ⟨b1, b2, _⟩ := tuple_leaves (RT_leafW hg)
  rw [f_ne_of rfl (shp_ok a1 (by omega)) (shp_ok b1 (by omega)), eqvT_RT]
/-- same rows, told without a case -/
theorem eqT_same (hf : InW f n) : f_eq (.tuple (RT f n)) (.tuple (RT f n)) = some (.val (.bool true)) := by rw [eqT_RT hf hf, decide_eq_true rfl]
theorem neT_same (hf : InW f n) : f_ne (.tuple (RT f n)) (.tuple (RT f n)) = some (.val (.bool false)) := by rw [neT_RT hf hf, decide_eq_true rfl]; rfl
/-! the places that can hinder, the last one first -/
def pch (f : Nat → Int) : Nat → List Nat
  | 0 => []
  | k + 1 => k :: pch f (frt f k k)
  decreasing_by have := frt_le (r := f) (k := k) k; omega
theorem pch_s (k : Nat) : pch f (k + 1) = k :: pch f (frt f k k) := by rw [pch]
theorem pch_lt : ∀ (m : Nat), ∀ x ∈ pch f m, x < m := by
  intro m
  induction m using Nat.strongRecOn with
  | _ m ih =>
    intro x hx
    cases m with
    | zero => rw [pch] at hx; cases hx
    | succ k =>
      rw [pch_s] at hx
      have l := frt_le (r := f) (k := k) k
      rcases List.mem_cons.mp hx with rfl | hx
      · omega
      · have := ih _ (by omega) x hx; omega
theorem pch_len : ∀ (m : Nat), (pch f m).length ≤ m := by
  intro m
  induction m using Nat.strongRecOn with
  | _ m ih =>
    cases m with
    | zero => rw [pch]; exact Nat.le_refl _
    | succ k =>
      rw [pch_s, List.length_cons]
      have l := frt_le (r := f) (k := k) k
      have := ih _ (show frt f k k < k + 1 by omega)
      omega
theorem frt_nest {r : Nat → Int} {k i : Nat} (h1 : frt r k k ≤ i) (h2 : i < k) : frt r k k ≤ frt r i i := by
  have hi := frt_lt (r := r) (k := k) (f := k) h1 h2
  have l := frt_le (r := r) (k := i) i
  rcases Nat.lt_or_ge (frt r i i) (frt r k k) with z | z
  · have z1 := frt_stop (r := r) (k := k) (f := k) (by omega)
    have z2 := frt_lt (r := r) (k := i) (f := i) (i := frt r k k - 1) (by omega) (by omega)
    omega
  · exact z
/-- the hinderer of a place -/
def hD (f : Nat → Int) (k : Nat) : PyData := if frt f k k = 0 then .none else .int ((frt f k k - 1 : Nat) : Int)
end
/-! rounds -/
theorem spn_int (f : Nat → Int) (n : Nat) : (spans f n).map dI = RT (wrd one f) n := by
  unfold spans RT
  rw [List.map_map]
  refine List.map_congr_left fun i _ => ?_
  show PyData.int ((spn f i : Nat) : Int) = _
  rw [wrd_one]
theorem wrd_one_b {f : Nat → Int} {k : Nat} : 1 ≤ wrd one f k ∧ wrd one f k ≤ (k : Int) + 1 := by
  rw [wrd_one]
  have h1 := spn_pos (r := f) (k := k)
  have h2 := spn_le (r := f) (k := k)
  omega
theorem one_pos : ∀ i, 1 ≤ one i := fun _ => Int.le_refl _
theorem wit_one_b {f : Nat → Int} {n : Nat} (hf : InB f n) (hn : n ≤ 1000) : ∀ t, InB (wit one t f) n
  | 0 => hf
  | t + 1 => fun i hi => by
    rw [wit_s]
    have := wrd_one_b (f := wit one t f) (k := i)
    omega
end SP
end

section
set_option Elab.async false
set_option linter.all false
set_option maxHeartbeats 1000000
open PySem L2 DL
namespace SP
/-! ### when a row stands still -/
structure Need (w f : Nat → Int) (n T : Nat) : Prop where
  moves : ∀ t, t < T → RL (wit w (t + 1) f) n ≠ RL (wit w t f) n
  rests : RL (wit w (T + 1) f) n = RL (wit w T f) n
theorem Need.unique {w f : Nat → Int} {n T S : Nat} (a : Need w f n T) (b : Need w f n S) : T = S := by
  rcases Nat.lt_trichotomy T S with c | c | c
  · exact absurd a.rests (b.moves T c)
  · exact c
  · exact absurd b.rests (a.moves S c)
theorem least {p : Nat → Prop} [DecidablePred p] : ∀ n, p n → ∃ T, T ≤ n ∧ p T ∧ ∀ t, t < T → ¬ p t
  | 0, h => ⟨0, Nat.le_refl _, h, fun t ht => absurd ht (Nat.not_lt_zero _)⟩
  | n + 1, h => by
    by_cases c : ∃ m, m ≤ n ∧ p m
    · obtain ⟨m, hm, hp⟩ := c
      obtain ⟨T, h1, h2, h3⟩ := least m hp
      exact ⟨T, by omega, h2, h3⟩
    · exact ⟨n + 1, Nat.le_refl _, h, fun t ht hp => c ⟨t, by omega, hp⟩⟩
theorem need_ex {w f : Nat → Int} {n : Nat} (hw : ∀ i, 1 ≤ w i) : ∃ T, T ≤ n ∧ Need w f n T := by
  obtain ⟨T, h1, h2, h3⟩ := least (p := fun t => RL (wit w (t + 1) f) n = RL (wit w t f) n) n (RL_ext fun i hi => wit_rest hw hi)
  exact ⟨T, h1, h3, h2⟩
theorem Need.far {w f : Nat → Int} {n T : Nat} (a : Need w f n T) : ∀ s i, i < n → wit w (T + s) f i = wit w T f i
  | 0, i, hi => rfl
  | s + 1, i, hi => by
    rw [← Nat.add_assoc, wit_s]
    have e := RL_inj a.rests i hi
    rw [wit_s] at e
    rw [← e]
    exact wrd_front fun j hj => a.far s j (by omega)
theorem Need.le {w f : Nat → Int} {n T : Nat} (hw : ∀ i, 1 ≤ w i) (a : Need w f n T) : T ≤ n := by
  obtain ⟨S, h1, h2⟩ := need_ex (f := f) (n := n) hw
  rw [a.unique h2]; exact h1
/-! weights -/
def InV (w : Nat → Int) : Prop := ∀ i, 1 ≤ w i ∧ w i ≤ 10000000000000000000000000000
theorem InV.pos {w : Nat → Int} (h : InV w) : ∀ i, 1 ≤ w i := fun i => (h i).1
theorem pre_b {w : Nat → Int} (h : InV w) : ∀ k : Nat, (k : Int) ≤ pre w k ∧ pre w k ≤ 10000000000000000000000000000 * (k : Int)
  | 0 => ⟨Int.le_refl _, Int.le_refl _⟩
  | k + 1 => by
    have ih := pre_b h k
    have hk := h k
    show ((k + 1 : Nat) : Int) ≤ pre w k + w k ∧ pre w k + w k ≤ 10000000000000000000000000000 * ((k + 1 : Nat) : Int)
    omega
theorem wrd_b {w r : Nat → Int} (h : InV w) {k n : Nat} (hk : k < n) (hn : n ≤ 100) : 1 ≤ wrd w r k ∧ wrd w r k ≤ 1000000000000000000000000000000 := by
  have l := frt_le (r := r) (k := k) k
  have h1 := pre_lt (w := w) h.pos (show frt r k k < k + 1 by omega)
  have h2 := pre_b h (k + 1)
  have h3 := pre_b h (frt r k k)
  show 1 ≤ pre w (k + 1) - pre w (frt r k k) ∧ pre w (k + 1) - pre w (frt r k k) ≤ _
  omega
theorem wit_b {w f : Nat → Int} {n : Nat} (h : InV w) (hn : n ≤ 100) (hf : InB f n) : ∀ t, InB (wit w t f) n
  | 0 => hf
  | t + 1 => fun i hi => by
    rw [wit_s]
    have := wrd_b (r := wit w t f) h hi hn
    omega
theorem pre_leaf {w : Nat → Int} (h : InV w) {k : Nat} (hk : k ≤ 100) : leaf (.int (pre w k)) = true := by
  have := pre_b h k
  exact leafB (by omega) (by omega)
theorem InV.one : InV one := fun i => ⟨Int.le_refl _, by show (1 : Int) ≤ _; decide⟩
/-- lists of pairs -/
theorem ne_nilP {xs : List PyData} (h : ∀ x ∈ xs, ∃ a b, x = .tuple [a, b] ∧ leaf a = true ∧ leaf b = true) : f_ne (.list xs) (.list []) = some (.val (.bool (!xs.isEmpty))) := by
  have h1 : okD (.list xs) = true := okDA_all fun d hd => by
    obtain ⟨a, b, rfl, ha, hb⟩ := h d hd
    show okDA [a, b] = true
    refine okDA_all fun e he => ?_
    simp only [List.mem_cons, List.not_mem_nil, or_false] at he
    rcases he with rfl | rfl
    · exact (leaf_ok ha).1
    · exact (leaf_ok hb).1
  have h2 : (PyData.list xs).depth ≤ 64 := by
    simp only [PyData.depth]
    have := depthA_le (ds := xs) (k := 1) fun d hd => by
      obtain ⟨a, b, rfl, ha, hb⟩ := h d hd
      simp only [PyData.depth, PyData.depthAll]
      rw [(leaf_ok ha).2.1, (leaf_ok hb).2.1]
      exact Nat.le_refl _
    omega
  rw [f_ne_of rfl (shp_ok h1 h2) rfl]
  cases xs with
  | nil => rfl
  | cons x r => simp [PyData.eqv, PyData.eqvAll]
end SP
end

section
set_option Elab.async false
set_option linter.all false
set_option maxHeartbeats 1000000
open PySem L2 DL
namespace SP
/-! ### long rows: runs of an entry and a count -/
abbrev Run := Int × Nat
def exL : List Run → List Int
  | [] => []
  | p :: l => List.replicate p.2 p.1 ++ exL l
theorem exL_app : ∀ (a b : List Run), exL (a ++ b) = exL a ++ exL b
  | [], b => rfl
  | p :: a, b => by
    show List.replicate p.2 p.1 ++ exL (a ++ b) = (List.replicate p.2 p.1 ++ exL a) ++ exL b
    rw [exL_app a b, List.append_assoc]
theorem exL_one (e : Int) (c : Nat) : exL [(e, c)] = List.replicate c e := by
  show List.replicate c e ++ [] = _
  rw [List.append_nil]
theorem exL_len_app (a b : List Run) : (exL (a ++ b)).length = (exL a).length + (exL b).length := by rw [exL_app, List.length_append]
/-- a step of merging: what is found stands the last one first -/
def mst : List Run → Run → List Run
  | [], p => [p]
  | q :: l, p => if q.1 = p.1 then (q.1, q.2 + p.2) :: l else p :: q :: l
def mrgR (l : List Run) : List Run := l.foldl mst []
def mrg (l : List Run) : List Run := (mrgR l).reverse
theorem mst_ex (l : List Run) (p : Run) : exL (mst l p).reverse = exL l.reverse ++ List.replicate p.2 p.1 := by
  cases l with
  | nil => show exL [p] = [] ++ _; rw [List.nil_append]; exact exL_one p.1 p.2
  | cons q l =>
    show exL (if q.1 = p.1 then (q.1, q.2 + p.2) :: l else p :: q :: l).reverse = _
    split
    · rename_i h
      rw [List.reverse_cons, List.reverse_cons, exL_app, exL_app, exL_one, show exL [q] = List.replicate q.2 q.1 from exL_one q.1 q.2, ← List.replicate_append_replicate, h, List.append_assoc]
    · rw [List.reverse_cons, exL_app, show exL [p] = List.replicate p.2 p.1 from exL_one p.1 p.2]
theorem mrg_ex (l : List Run) : exL (mrg l) = exL l := by
  suffices h : ∀ (l a : List Run), exL (l.foldl mst a).reverse = exL a.reverse ++ exL l by
    have := h l []
    simpa [mrg, mrgR, exL] using this
  intro l
  induction l with
  | nil => intro a; show exL a.reverse = _ ++ []; rw [List.append_nil]
  | cons p l ih =>
    intro a
    show exL (l.foldl mst (mst a p)).reverse = _
    rw [ih, mst_ex, List.append_assoc]
    rfl
theorem mst_len (l : List Run) (p : Run) : (mst l p).length ≤ l.length + 1 := by
  cases l with
  | nil => exact Nat.le_refl _
  | cons q l =>
    show (if q.1 = p.1 then (q.1, q.2 + p.2) :: l else p :: q :: l).length ≤ _
    split <;> simp
theorem mrg_len (l : List Run) : (mrg l).length ≤ l.length := by
  suffices h : ∀ (l a : List Run), (l.foldl mst a).length ≤ a.length + l.length by
    have := h l []
    simpa [mrg, mrgR] using this
  intro l
  induction l with
  | nil => intro a; exact Nat.le_refl _
  | cons p l ih =>
    intro a
    have h1 := ih (mst a p)
    have h2 := mst_len a p
    show (l.foldl mst (mst a p)).length ≤ _
    rw [List.length_cons]; omega
/-- neighbours differ, counts are positive; the list stands either way -/
def Can : List Run → Prop
  | [] => True
  | [p] => 1 ≤ p.2
  | p :: q :: l => 1 ≤ p.2 ∧ p.1 ≠ q.1 ∧ Can (q :: l)
theorem Can.hd {p : Run} {l : List Run} (h : Can (p :: l)) : 1 ≤ p.2 := by
  cases l with
  | nil => exact h
  | cons q l => exact h.1
theorem Can.tl {p : Run} {l : List Run} (h : Can (p :: l)) : Can l := by
  cases l with
  | nil => trivial
  | cons q l => exact h.2.2
theorem Can.ne {p q : Run} {l : List Run} (h : Can (p :: q :: l)) : p.1 ≠ q.1 := h.2.1
theorem Can.cons {p : Run} {l : List Run} (h1 : 1 ≤ p.2) (h2 : ∀ q t, l = q :: t → p.1 ≠ q.1) (h : Can l) : Can (p :: l) := by
  cases l with
  | nil => exact h1
  | cons q l => exact ⟨h1, h2 q l rfl, h⟩
theorem mst_can {l : List Run} {p : Run} (h : Can l) (hp : 1 ≤ p.2) : Can (mst l p) := by
  cases l with
  | nil => exact hp
  | cons q l =>
    show Can (if q.1 = p.1 then (q.1, q.2 + p.2) :: l else p :: q :: l)
    split
    · refine Can.cons (Nat.le_trans hp (Nat.le_add_left _ _)) (fun r t e => ?_) h.tl
      subst e; exact h.ne
    · rename_i c
      exact Can.cons hp (fun r t e => by cases e; exact fun z => c z.symm) h
theorem Can.snoc : ∀ {l : List Run} {p : Run}, Can l → 1 ≤ p.2 → (∀ q t, l = t ++ [q] → q.1 ≠ p.1) → Can (l ++ [p])
  | [], p, _, hp, _ => hp
  | [q], p, h, hp, hn => ⟨h, hn q [] rfl, hp⟩
  | q :: r :: l, p, h, hp, hn => ⟨h.1, h.2.1, Can.snoc (l := r :: l) h.2.2 hp fun s t e => hn s (q :: t) (by rw [e]; rfl)⟩
theorem Can.rev : ∀ {l : List Run}, Can l → Can l.reverse
  | [], _ => trivial
  | p :: l, h => by
    rw [List.reverse_cons]
    refine Can.snoc (Can.rev h.tl) h.hd fun q t e => ?_
    have e2 : l = q :: t.reverse := by
      have := congrArg List.reverse e
      rwa [List.reverse_reverse, List.reverse_append, List.reverse_singleton, List.singleton_append] at this
    subst e2
    exact fun z => h.ne z.symm
theorem mrg_can {l : List Run} (h : ∀ p ∈ l, 1 ≤ p.2) : Can (mrg l) := by
  suffices g : ∀ (l a : List Run), (∀ p ∈ l, 1 ≤ p.2) → Can a → Can (l.foldl mst a) from (g l [] h trivial).rev
  intro l
  induction l with
  | nil => intro a _ h; exact h
  | cons p l ih => intro a hp h; exact ih _ (fun q hq => hp q (List.mem_cons_of_mem _ hq)) (mst_can h (hp p List.mem_cons_self))
/-- runs are told by the long row -/
theorem Can.inj : ∀ {a b : List Run}, Can a → Can b → exL a = exL b → a = b
  | [], [], _, _, _ => rfl
  | [], q :: b, _, hb, e => by
    have := hb.hd
    have l := congrArg List.length e
    rw [show exL (q :: b) = List.replicate q.2 q.1 ++ exL b from rfl, List.length_append, List.length_replicate] at l
    simp [exL] at l
    omega
  | p :: a, [], ha, _, e => by
    have := ha.hd
    have l := congrArg List.length e
    rw [show exL (p :: a) = List.replicate p.2 p.1 ++ exL a from rfl, List.length_append, List.length_replicate] at l
    simp [exL] at l
    omega
  | p :: a, q :: b, ha, hb, e => by
    have key : ∀ {p q : Run} {a b : List Run}, Can (p :: a) → Can (q :: b) → exL (p :: a) = exL (q :: b) → p.1 = q.1 ∧ ¬ p.2 < q.2 := by
      intro p q a b ha hb e
      have h1 := ha.hd
      have h2 := hb.hd
      have e0 : List.replicate p.2 p.1 ++ exL a = List.replicate q.2 q.1 ++ exL b := e
      have e1 : p.1 = q.1 := by
        obtain ⟨c, hc⟩ : ∃ c, p.2 = c + 1 := ⟨p.2 - 1, by omega⟩
        obtain ⟨d, hd⟩ : ∃ d, q.2 = d + 1 := ⟨q.2 - 1, by omega⟩
        rw [hc, hd, List.replicate_succ, List.replicate_succ] at e0
        exact (List.cons.inj e0).1
      refine ⟨e1, fun lt => ?_⟩
      obtain ⟨d, hd⟩ : ∃ d, q.2 = p.2 + (d + 1) := ⟨q.2 - p.2 - 1, by omega⟩
      rw [hd, ← List.replicate_append_replicate, ← e1, List.append_assoc] at e0
      have e2 := List.append_cancel_left e0
      rw [List.replicate_succ] at e2
      cases a with
      | nil => cases e2
      | cons r a =>
        have h3 := ha.tl.hd
        obtain ⟨c, hc⟩ : ∃ c, r.2 = c + 1 := ⟨r.2 - 1, by omega⟩
        rw [show exL (r :: a) = List.replicate r.2 r.1 ++ exL a from rfl, hc, List.replicate_succ] at e2
        exact ha.ne (List.cons.inj e2).1.symm
    obtain ⟨e1, n1⟩ := key ha hb e
    obtain ⟨_, n2⟩ := key hb ha e.symm
    have e2 : p.2 = q.2 := by omega
    have e3 : p = q := Prod.ext e1 e2
    subst e3
    have e4 : exL a = exL b := List.append_cancel_left (show List.replicate p.2 p.1 ++ exL a = List.replicate p.2 p.1 ++ exL b from e)
    rw [Can.inj ha.tl hb.tl e4]
/-! the entry at a place -/
def xf (R : List Run) : Nat → Int := fun i => (exL R).getD i 0
theorem RL_xf (R : List Run) : exL R = RL (xf R) (exL R).length := by
  refine List.ext_getElem? fun i => ?_
  unfold RL xf
  by_cases h : i < (exL R).length
  · rw [map_range_get _ h, List.getElem?_eq_getElem h, List.getD_eq_getElem?_getD, List.getElem?_eq_getElem h]; rfl
  · rw [List.getElem?_eq_none (by omega), List.getElem?_eq_none (by simp; omega)]
theorem xf_app_l {a b : List Run} {i : Nat} (h : i < (exL a).length) : xf (a ++ b) i = xf a i := by
  unfold xf
  rw [exL_app, List.getD_eq_getElem?_getD, List.getD_eq_getElem?_getD, List.getElem?_append_left h]
theorem xf_app_r {a b : List Run} {i : Nat} (h : (exL a).length ≤ i) : xf (a ++ b) i = xf b (i - (exL a).length) := by
  unfold xf
  rw [exL_app, List.getD_eq_getElem?_getD, List.getD_eq_getElem?_getD, List.getElem?_append_right h]
theorem xf_one {e : Int} {c i : Nat} (h : i < c) : xf [(e, c)] i = e := by
  unfold xf
  rw [exL_one, List.getD_eq_getElem?_getD, List.getElem?_replicate, if_pos h]; rfl
theorem exL_len_one {e : Int} {c : Nat} : (exL [(e, c)]).length = c := by rw [exL_one, List.length_replicate]
theorem RL_s (f : Nat → Int) (n : Nat) : RL f (n + 1) = RL f n ++ [f n] := by unfold RL; rw [List.range_succ, List.map_append]; rfl
theorem RL_add (f : Nat → Int) (n : Nat) (e : Int) : ∀ c, (∀ i, n ≤ i → i < n + c → f i = e) → RL f (n + c) = RL f n ++ List.replicate c e
  | 0, _ => by rw [List.replicate_zero, List.append_nil]; rfl
  | c + 1, h => by
    rw [← Nat.add_assoc, RL_s, RL_add f n e c (fun i a b => h i a (by omega)), h (n + c) (by omega) (by omega), List.append_assoc, ← List.replicate_succ']
/-! one round of runs -/
def popW (e : Int) : Nat → List Run → Nat × List Run
  | c, [] => (c, [])
  | c, q :: s => if q.1 < e then popW e (c + q.2) s else (c, q :: s)
/-- the stack after m places: each run's entry is the greatest of its stretch and stands at its end -/
inductive Stk (f : Nat → Int) : Nat → List Run → Prop
  | nil : Stk f 0 []
  | cons {m c : Nat} {e : Int} {s : List Run} (h1 : 1 ≤ c) (h2 : f (m + c - 1) = e) (h3 : ∀ i, m ≤ i → i < m + c → f i ≤ e) (h : Stk f m s) : Stk f (m + c) ((e, c) :: s)
theorem popW_frt {f : Nat → Int} {m : Nat} : ∀ {s : List Run} {m' cov : Nat}, Stk f m' s → m' + cov = m → (∀ i, m' ≤ i → i < m → f i < f m) → (popW (f m) cov s).1 = m - frt f m m ∧ Stk f (frt f m m) (popW (f m) cov s).2
  | _, _, cov, .nil, e, h => by
    have : frt f m m = 0 := frt_eq (Nat.zero_le _) (fun i a b => h i a b) (.inl rfl)
    rw [this]
    exact ⟨by show cov = _; omega, .nil⟩
  | _, _, cov, .cons (m := m0) (c := c) (e := e0) (s := s) h1 h2 h3 hs, e, h => by
    show (if e0 < f m then popW (f m) (cov + c) s else (cov, (e0, c) :: s)).1 = _ ∧ Stk f _ (if e0 < f m then popW (f m) (cov + c) s else (cov, (e0, c) :: s)).2
    by_cases g : e0 < f m
    · rw [if_pos g]
      refine popW_frt hs (by omega) fun i a b => ?_
      by_cases z : i < m0 + c
      · have := h3 i a z; omega
      · exact h i (by omega) b
    · rw [if_neg g]
      have : frt f m m = m0 + c := frt_eq (by omega) (fun i a b => h i a b) (.inr (by rw [h2]; omega))
      rw [this]
      exact ⟨by show cov = _; omega, .cons h1 h2 h3 hs⟩
/-- one run more: the stack, and what is found -/
def rst (p : Run) (s : List Run) : List Run := (p.1, (popW p.1 0 s).1 + p.2) :: (popW p.1 0 s).2
def rfd (p : Run) (s : List Run) : List Run := ((((popW p.1 0 s).1 + 1 : Nat) : Int), 1) :: (if 1 < p.2 then [(1, p.2 - 1)] else [])
def rgo : List Run → List Run → List Run
  | _, [] => []
  | s, p :: l => rfd p s ++ rgo (rst p s) l
def rnd (R : List Run) : List Run := rgo [] R
theorem rgo_len : ∀ (l s : List Run), (rgo s l).length ≤ 2 * l.length
  | [], _ => Nat.le_refl _
  | p :: l, s => by
    have := rgo_len l (rst p s)
    show (rfd p s ++ rgo (rst p s) l).length ≤ _
    have h : (rfd p s).length ≤ 2 := by unfold rfd; split <;> simp
    rw [List.length_append, List.length_cons]; omega
theorem rgo_pos : ∀ (l s : List Run), ∀ p ∈ rgo s l, 1 ≤ p.2
  | p :: l, s, q, hq => by
    rcases List.mem_append.mp (show q ∈ rfd p s ++ rgo (rst p s) l from hq) with h | h
    · unfold rfd at h
      rcases List.mem_cons.mp h with rfl | h
      · exact Nat.le_refl _
      · split at h
        · rw [List.mem_singleton.mp h]; show 1 ≤ p.2 - 1; omega
        · cases h
    · exact rgo_pos l _ q h
theorem frt_self {f : Nat → Int} {i : Nat} (h : i = 0 ∨ f i ≤ f (i - 1)) : frt f i i = i := frt_eq (Nat.le_refl _) (fun j a b => by omega) h
theorem wrd_self {f : Nat → Int} {i : Nat} (h : i = 0 ∨ f i ≤ f (i - 1)) : wrd one f i = 1 := by
  rw [wrd_one]; unfold spn; rw [frt_self h]; omega
theorem rgo_ex {R : List Run} (hR : ∀ p ∈ R, 1 ≤ p.2) : ∀ (l a s : List Run), R = a ++ l → Stk (xf R) (exL a).length s → RL (wrd one (xf R)) (exL a).length ++ exL (rgo s l) = RL (wrd one (xf R)) (exL R).length
  | [], a, s, e, _ => by
    rw [List.append_nil] at e
    subst e
    exact List.append_nil _
  | p :: l, a, s, e, hs => by
    have e2 : R = (a ++ [p]) ++ l := by rw [e, List.append_assoc]; rfl
    have hp : 1 ≤ p.2 := hR p (by rw [e]; simp)
    obtain ⟨m, hm⟩ : ∃ m, m = (exL a).length := ⟨_, rfl⟩
    have hlen : (exL (a ++ [p])).length = m + p.2 := by rw [exL_len_app, ← hm]; congr 1; exact exL_len_one (e := p.1)
    have hx : ∀ i, m ≤ i → i < m + p.2 → xf R i = p.1 := fun i a1 b1 => by
      rw [e2, xf_app_l (by omega), xf_app_r (by omega)]
      exact xf_one (e := p.1) (by omega)
    have hpm : p.1 = xf R m := (hx m (Nat.le_refl _) (by omega)).symm
    rw [← hm] at hs ⊢
    obtain ⟨k1, k2⟩ := popW_frt (m := m) (cov := 0) hs (by omega) (fun i a b => by omega)
    rw [← hpm] at k1 k2
    have hle := frt_le (r := xf R) (k := m) m
    have st : Stk (xf R) (exL (a ++ [p])).length (rst p s) := by
      rw [hlen]
      unfold rst
      have q := Stk.cons (f := xf R) (m := frt (xf R) m m) (c := (popW p.1 0 s).1 + p.2) (e := p.1) (s := (popW p.1 0 s).2) (by omega) (by rw [k1, show frt (xf R) m m + (m - frt (xf R) m m + p.2) - 1 = m + p.2 - 1 by omega]; exact hx _ (by omega) (by omega)) (by
        intro i a1 b1
        by_cases z : i < m
        · have := frt_lt (r := xf R) a1 z
          rw [← hpm] at this
          omega
        · rw [hx i (by omega) (by omega)]; exact Int.le_refl _) k2
      rwa [k1, show frt (xf R) m m + (m - frt (xf R) m m + p.2) = m + p.2 by omega, ← k1] at q
    have ih := rgo_ex hR l (a ++ [p]) (rst p s) e2 st
    rw [← ih, hlen]
    show _ ++ exL (rfd p s ++ rgo (rst p s) l) = _
    rw [exL_app, ← List.append_assoc]
    congr 1
    have w0 : wrd one (xf R) m = (((popW p.1 0 s).1 + 1 : Nat) : Int) := by
      rw [wrd_one]; unfold spn; congr 1; omega
    have w1 : ∀ i, m + 1 ≤ i → i < m + 1 + (p.2 - 1) → wrd one (xf R) i = 1 := fun i a1 b1 => wrd_self (.inr (by rw [hx i (by omega) (by omega), hx (i - 1) (by omega) (by omega)]; exact Int.le_refl _))
    have e3 : RL (wrd one (xf R)) (m + p.2) = RL (wrd one (xf R)) m ++ [wrd one (xf R) m] ++ List.replicate (p.2 - 1) 1 := by
      rw [← RL_s, ← RL_add _ _ 1 (p.2 - 1) w1]; congr 1; omega
    rw [e3, List.append_assoc, w0]
    congr 1
    unfold rfd
    show List.replicate 1 _ ++ exL (if 1 < p.2 then [(1, p.2 - 1)] else []) = _
    congr 1
    split
    · exact exL_one _ _
    · rename_i z
      rw [show p.2 - 1 = 0 by omega]; rfl
/-- one round of runs is one round of the long row -/
theorem rnd_ex {R : List Run} (hR : ∀ p ∈ R, 1 ≤ p.2) : exL (rnd R) = RL (wrd one (xf R)) (exL R).length := by
  have h := rgo_ex hR R [] [] rfl .nil
  exact h
def RS (B : List Run) : Nat → List Run
  | 0 => mrg B
  | t + 1 => mrg (rnd (RS B t))
theorem Can.all : ∀ {l : List Run}, Can l → ∀ p ∈ l, 1 ≤ p.2
  | p :: l, h, q, hq => by
    rcases List.mem_cons.mp hq with rfl | hq
    · exact h.hd
    · exact Can.all h.tl q hq
theorem RS_can {B : List Run} (h : ∀ p ∈ B, 1 ≤ p.2) : ∀ t, Can (RS B t)
  | 0 => mrg_can h
  | t + 1 => mrg_can (rgo_pos _ _)
theorem RS_ex {B : List Run} (h : ∀ p ∈ B, 1 ≤ p.2) (t : Nat) : exL (RS B (t + 1)) = RL (wrd one (xf (RS B t))) (exL (RS B t)).length := by
  show exL (mrg (rnd (RS B t))) = _
  rw [mrg_ex, rnd_ex (RS_can h t).all]
end SP
end

section
set_option Elab.async false
set_option linter.all false
set_option maxHeartbeats 1000000
open PySem L2 DL
namespace SP
/-! ### rows whose entries stand in the same order -/
def Ord (f g : Nat → Int) (n : Nat) : Prop := ∀ i j, i < n → j < n → (f i < f j ↔ g i < g j)
section
variable {f g : Nat → Int} {n : Nat}
theorem Ord.symm (h : Ord f g n) : Ord g f n := fun i j a b => (h i j a b).symm
theorem frt_ord (h : Ord f g n) {k : Nat} (hk : k < n) : frt f k k = frt g k k := frt_congr fun i hi => h i k (by omega) hk
theorem wrd_ord (h : Ord f g n) {k : Nat} (hk : k < n) : wrd one f k = wrd one g k := by
  show pre one (k + 1) - pre one (frt f k k) = pre one (k + 1) - pre one (frt g k k)
  rw [frt_ord h hk]
theorem wit_ord (h : Ord f g n) (t : Nat) {k : Nat} (hk : k < n) : wit one (t + 1) f k = wit one (t + 1) g k := wit_front t (fun i hi => wrd_ord h hi) k hk
theorem hD_ord (h : Ord f g n) {k : Nat} (hk : k < n) : hD f k = hD g k := by unfold hD; rw [frt_ord h hk]
theorem need_ord {T S : Nat} (h : Ord f g n) (a : Need one f n T) (b : Need one g n S) : T ≤ S + 1 := by
  rcases Nat.lt_or_ge (S + 1) T with c | c
  · refine absurd (RL_ext fun i hi => ?_) (a.moves (S + 1) c)
    rw [wit_ord h (S + 1) hi, wit_ord h S hi, b.far 1 i hi]
    exact b.far 2 i hi
  · exact c
theorem fin_ord {T S : Nat} (h : Ord f g n) (a : Need one f n T) (b : Need one g n S) : RT (wit one T f) n = RT (wit one S g) n := RT_ext fun i hi => by
  rw [← a.far (S + 1) i hi, ← b.far (T + 1) i hi, show S + (T + 1) = T + (S + 1) by omega]
  exact wit_ord h (T + S) hi
/-! the rounds after which a place's entry is not yet the last one -/
def chg (f : Nat → Int) (p : Nat) (v : Int) (k : Nat) : List Int := ((List.range k).filter fun t => decide (wit one t f p ≠ v)).map fun t : Nat => (t : Int) + 1
theorem chg_add {p : Nat} {v : Int} {a : Nat} (h : ∀ t, a ≤ t → wit one t f p = v) : ∀ b, chg f p v (a + b) = chg f p v a
  | 0 => rfl
  | b + 1 => by
    rw [← chg_add h b]
    unfold chg
    rw [← Nat.add_assoc, List.range_succ, List.filter_append, List.filter_cons_of_neg (by rw [h (a + b) (by omega)]; simp), List.filter_nil, List.append_nil]
theorem chg_front {p m T S : Nat} (hp : p < m) (hm : m ≤ n) (a : Need one f n T) (b : Need one f m S) : chg f p (wit one T f p) (T + 1) = chg f p (wit one S f p) (S + 1) := by
  have e : wit one T f p = wit one S f p := by rw [← a.far S p (by omega), Nat.add_comm, b.far T p hp]
  rw [← e]
  have h1 : ∀ t, T ≤ t → wit one t f p = wit one T f p := fun t ht => by rw [show t = T + (t - T) by omega]; exact a.far _ p (by omega)
  have h2 : ∀ t, S ≤ t → wit one t f p = wit one T f p := fun t ht => by rw [e, show t = S + (t - S) by omega]; exact b.far _ p hp
  rcases Nat.le_total T S with c | c
  · have := chg_add (f := f) (p := p) (v := wit one T f p) (a := T + 1) (fun t ht => h1 t (by omega)) (S - T)
    rw [show T + 1 + (S - T) = S + 1 by omega] at this
    exact this.symm
  · have := chg_add (f := f) (p := p) (v := wit one T f p) (a := S + 1) (fun t ht => h2 t (by omega)) (T - S)
    rw [show S + 1 + (T - S) = T + 1 by omega] at this
    exact this
end
/-! a rising list of the entries, and another one for them -/
def ixO (old : List Int) (x : Int) : Nat := old.findIdx fun z => PyData.eqv (.int z) (.int x)
theorem eqv_int (z x : Int) : PyData.eqv (.int z) (.int x) = decide (z = x) := by
  by_cases c : z = x
  · subst c; simp [PyData.eqv]
  · simp [PyData.eqv, c]
theorem ixO_lt {old : List Int} {x : Int} (h : x ∈ old) : ixO old x < old.length := List.findIdx_lt_length_of_exists ⟨x, h, by rw [eqv_int, decide_eq_true rfl]⟩
theorem ixO_get {old : List Int} {x : Int} (h : x ∈ old) : old[ixO old x]'(ixO_lt h) = x := by
  have q : PyData.eqv (.int (old[ixO old x]'(ixO_lt h))) (.int x) = true := List.findIdx_getElem (p := fun z => PyData.eqv (.int z) (.int x))
  rw [eqv_int] at q
  exact of_decide_eq_true q
theorem f_index_ok {old : List Int} {x : Int} (h : x ∈ old) (ho : ∀ z ∈ old, leaf (.int z) = true) : f_index (.list (old.map .int)) (.int x) = some (.val (.int (ixO old x : Int))) := by
  have e : (old.map PyData.int).findIdx? (fun z => PyData.eqv z (.int x)) = some (ixO old x) := by
    rw [List.findIdx?_map]
    exact List.findIdx?_eq_some_iff_findIdx_eq.mpr ⟨ixO_lt h, rfl⟩
  show (match (old.map PyData.int).findIdx? (fun z => PyData.eqv z (.int x)) with | some j => grd (shp (.int x) && shp (.list (old.map .int))) (.val (.int (j : Int))) | none => none) = _
  rw [e]
  have l1 := leaf_ok (ho x h)
  have l2 : okD (.list (old.map PyData.int)) = true := okDA_all fun d hd => by
    obtain ⟨z, hz, rfl⟩ := List.mem_map.mp hd
    exact (leaf_ok (ho z hz)).1
  have l3 : (PyData.list (old.map PyData.int)).depth ≤ 64 := by
    simp only [PyData.depth]
    have := depthA_le (ds := old.map PyData.int) (k := 0) fun d hd => by
      obtain ⟨z, hz, rfl⟩ := List.mem_map.mp hd
      rw [(leaf_ok (ho z hz)).2.1]
      exact Nat.le_refl _
    omega
  show grd (shp (.int x) && shp (.list (old.map .int))) _ = _
  rw [shp_ok l1.1 (by omega), shp_ok l2 l3]
  rfl
theorem srt_get {l : List Int} (h : l.Pairwise (· < ·)) {a b : Nat} (ha : a < l.length) (hb : b < l.length) : a < b ↔ l[a] < l[b] := by
  have h1 := List.pairwise_iff_getElem.mp h
  constructor
  · intro c; exact h1 a b ha hb c
  · intro c
    rcases Nat.lt_trichotomy a b with d | d | d
    · exact d
    · subst d; omega
    · have := h1 b a hb ha d; omega
/-- the entries of a row, replaced by those of a rising list -/
theorem ord_new {f : Nat → Int} {n : Nat} {old new : List Int} (h1 : old.Pairwise (· < ·)) (h2 : new.Pairwise (· < ·)) (hl : new.length = old.length) (hm : ∀ i, i < n → f i ∈ old) : Ord (fun i => new.getD (ixO old (f i)) 0) f n := fun i j hi hj => by
  have a := ixO_lt (hm i hi)
  have b := ixO_lt (hm j hj)
  show new.getD (ixO old (f i)) 0 < new.getD (ixO old (f j)) 0 ↔ _
  rw [List.getD_eq_getElem?_getD, List.getElem?_eq_getElem (by omega), List.getD_eq_getElem?_getD, List.getElem?_eq_getElem (by omega)]
  show new[ixO old (f i)] < new[ixO old (f j)] ↔ _
  rw [← srt_get h2 (by omega) (by omega), srt_get h1 a b, ixO_get (hm i hi), ixO_get (hm j hj)]
/-! one entry more -/
def app (f : Nat → Int) (n : Nat) (v : Int) : Nat → Int := fun i => if i < n then f i else v
theorem RT_app (f : Nat → Int) (n : Nat) (v : Int) : RT f n ++ [.int v] = RT (app f n v) (n + 1) := by
  rw [RT_s]
  congr 1
  · exact RT_ext fun i hi => by unfold app; rw [if_pos hi]
  · unfold app; rw [if_neg (Nat.lt_irrefl n)]
theorem wit_app {f : Nat → Int} {n : Nat} {v : Int} (t : Nat) {i : Nat} (hi : i < n) : wit one t (app f n v) i = wit one t f i := wit_front t (fun j hj => by unfold app; rw [if_pos hj]) i hi
theorem wrd_self' {f : Nat → Int} {i : Nat} (h : f i ≤ f (i - 1)) : wrd one f i = 1 := by
  have e : frt f i i = i := frt_eq (Nat.le_refl _) (fun j a b => by omega) (.inr h)
  rw [wrd_one]; unfold spn; rw [e]; omega
theorem cut_last {α : Type} {xs : List α} {x : α} : cutD (xs ++ [x]) none (some (-1)) = xs := by
  unfold cutD
  have e : HT.sIx (xs ++ [x]).length (xs ++ [x]).length (some (-1)) = xs.length := by
    simp [HT.sIx]; omega
  rw [e, HT.sIx_none, List.drop_zero, Nat.sub_zero, List.take_left]
end SP
end

section
set_option Elab.async false
set_option linter.all false
set_option maxHeartbeats 1000000
open PySem L2 DL
namespace SP
/-! ### long rows as data -/
def rD (p : Run) : PyData := .tuple [.int p.1, .int (p.2 : Int)]
abbrev rDs (R : List Run) : List PyData := R.map rD
def InE (i : Int) : Prop := -1000000000000000000000000000000 ≤ i ∧ i ≤ 1000000000000000000000000000000
theorem exL_mem {x : Int} : ∀ {R : List Run}, x ∈ exL R → ∃ p ∈ R, p.1 = x
  | p :: l, h => by
    rcases List.mem_append.mp (show x ∈ List.replicate p.2 p.1 ++ exL l from h) with h | h
    · exact ⟨p, List.mem_cons_self, (List.mem_replicate.mp h).2.symm⟩
    · obtain ⟨q, h1, h2⟩ := exL_mem h
      exact ⟨q, List.mem_cons_of_mem _ h1, h2⟩
theorem mem_exL {p : Run} : ∀ {R : List Run}, p ∈ R → 1 ≤ p.2 → p.1 ∈ exL R
  | q :: l, h, hp => by
    show p.1 ∈ List.replicate q.2 q.1 ++ exL l
    rcases List.mem_cons.mp h with rfl | h
    · exact List.mem_append_left _ (List.mem_replicate.mpr ⟨by omega, rfl⟩)
    · exact List.mem_append_right _ (mem_exL h hp)
theorem cnt_le {p : Run} : ∀ {R : List Run}, p ∈ R → p.2 ≤ (exL R).length
  | q :: l, h => by
    show p.2 ≤ (List.replicate q.2 q.1 ++ exL l).length
    rw [List.length_append, List.length_replicate]
    rcases List.mem_cons.mp h with rfl | h
    · omega
    · have := cnt_le h; omega
theorem len_le : ∀ {R : List Run}, (∀ p ∈ R, 1 ≤ p.2) → R.length ≤ (exL R).length
  | [], _ => Nat.le_refl _
  | q :: l, h => by
    show l.length + 1 ≤ (List.replicate q.2 q.1 ++ exL l).length
    have := h q List.mem_cons_self
    have := len_le (R := l) fun p hp => h p (List.mem_cons_of_mem _ hp)
    rw [List.length_append, List.length_replicate]
    omega
structure Rok (R : List Run) : Prop where
  ent : ∀ p ∈ R, InE p.1
  pos : ∀ p ∈ R, 1 ≤ p.2
  len : (exL R).length ≤ 1000
theorem rok_of {R : List Run} (h1 : ∀ p ∈ R, 1 ≤ p.2) (h2 : ∀ x ∈ exL R, InE x) (h3 : (exL R).length ≤ 1000) : Rok R := ⟨fun p hp => h2 _ (mem_exL hp (h1 p hp)), h1, h3⟩
theorem Rok.mem {R : List Run} (h : Rok R) : ∀ x ∈ exL R, InE x := fun x hx => by
  obtain ⟨p, hp, rfl⟩ := exL_mem hx
  exact h.ent p hp
theorem Rok.mrg {R : List Run} (h : Rok R) : Rok (mrg R) := rok_of (mrg_can h.pos).all (by rw [mrg_ex]; exact h.mem) (by rw [mrg_ex]; exact h.len)
theorem Rok.inB {R : List Run} (h : Rok R) : InB (xf R) (exL R).length := fun i hi => by
  have e : xf R i = (exL R)[i] := by
    show (exL R).getD i 0 = _
    rw [List.getD_eq_getElem?_getD, List.getElem?_eq_getElem hi]; rfl
  rw [e]
  exact h.mem _ (List.getElem_mem hi)
theorem Rok.rnd {R : List Run} (h : Rok R) : Rok (rnd R) := by
  have e := rnd_ex h.pos
  refine rok_of (rgo_pos _ _) (fun x hx => ?_) (by rw [e, RL_len]; exact h.len)
  rw [e] at hx
  obtain ⟨i, hi, rfl⟩ := List.mem_map.mp hx
  exact wit_one_b h.inB h.len 1 i (List.mem_range.mp hi)
theorem Rok.rs {R : List Run} (h : Rok R) : ∀ t, Rok (RS R t)
  | 0 => h.mrg
  | t + 1 => (Rok.rs h t).rnd.mrg
/-- the runs after some rounds are those of the long row's rounds -/
theorem RS_row {B : List Run} (h : Rok B) : ∀ t, exL (RS B t) = RL (wit one t (xf B)) (exL B).length
  | 0 => by
    show exL (mrg B) = RL (xf B) _
    rw [mrg_ex]; exact RL_xf B
  | t + 1 => by
    have ih := RS_row h t
    rw [RS_ex h.pos, ih, RL_len]
    refine RL_ext fun i hi => ?_
    rw [wit_s]
    refine wit_front 1 (n := (exL B).length) (fun j hj => ?_) i hi
    show (exL (RS B t)).getD j 0 = _
    rw [ih]
    unfold RL
    rw [List.getD_eq_getElem?_getD, List.getElem?_map, List.getElem?_range hj]
    rfl
theorem RS_eq {B : List Run} (h : Rok B) (t : Nat) : RS B (t + 1) = RS B t ↔ RL (wit one (t + 1) (xf B)) (exL B).length = RL (wit one t (xf B)) (exL B).length := by
  rw [← RS_row h, ← RS_row h]
  exact ⟨fun e => by rw [e], fun e => (RS_can h.pos _).inj (RS_can h.pos _) e⟩
theorem RS_need {B : List Run} {T : Nat} (h : Rok B) (N : Need one (xf B) (exL B).length T) (s : Nat) : RS B (T + s) = RS B T := by
  refine (RS_can h.pos _).inj (RS_can h.pos _) ?_
  rw [RS_row h, RS_row h]
  exact RL_ext fun i hi => N.far s i hi
/-! leaves, equality -/
theorem rD_leaf {p : Run} (h1 : InE p.1) (h2 : p.2 ≤ 1000000) : leaf (.int p.1) = true ∧ leaf (.int (p.2 : Int)) = true := ⟨leafB h1.1 h1.2, leafB (by omega) (by omega)⟩
theorem rDs_ne {R : List Run} (h : ∀ p ∈ R, InE p.1 ∧ p.2 ≤ 1000000) : f_ne (.list (rDs R)) (.list []) = some (.val (.bool (!(rDs R).isEmpty))) := ne_nilP fun x hx => by
  obtain ⟨p, hp, rfl⟩ := List.mem_map.mp hx
  exact ⟨_, _, rfl, rD_leaf (h p hp).1 (h p hp).2⟩
theorem rDs_ok {R : List Run} (h : ∀ p ∈ R, InE p.1 ∧ p.2 ≤ 1000000) : shp (.list (rDs R)) = true := by
  have hd : ∀ d ∈ rDs R, okD d = true ∧ d.depth ≤ 1 := fun d hd => by
    obtain ⟨p, hp, rfl⟩ := List.mem_map.mp hd
    obtain ⟨a, b⟩ := rD_leaf (h p hp).1 (h p hp).2
    obtain ⟨q1, q2, _⟩ := tuple_leaves (ds := [.int p.1, .int (p.2 : Int)]) fun d hd => by
      simp only [List.mem_cons, List.not_mem_nil, or_false] at hd
      rcases hd with rfl | rfl
      · exact a
      · exact b
    exact ⟨q1, by unfold rD; omega⟩
  refine shp_ok (okDA_all fun d h => (hd d h).1) ?_
  simp only [PyData.depth]
  have := depthA_le (ds := rDs R) (k := 1) fun d h => (hd d h).2
  omega
theorem rDs_eqv : ∀ (a b : List Run), PyData.eqvAll (rDs a) (rDs b) = decide (a = b)
  | [], [] => by simp [PyData.eqvAll]
  | [], y :: ys => by simp [PyData.eqvAll]
  | x :: xs, [] => by simp [PyData.eqvAll]
  | (i, c) :: xs, (j, d) :: ys => by
    have ih := rDs_eqv xs ys
    have e : PyData.eqvAll (rDs ((i, c) :: xs)) (rDs ((j, d) :: ys)) = (PyData.eqv (rD (i, c)) (rD (j, d)) && PyData.eqvAll (rDs xs) (rDs ys)) := by simp [PyData.eqvAll]
    rw [e, ih]
    have e2 : PyData.eqv (rD (i, c)) (rD (j, d)) = (decide (i = j) && decide (c = d)) := by
      unfold rD
      simp [PyData.eqv, PyData.eqvAll]
      by_cases h1 : i = j <;> by_cases h2 : c = d <;> simp [h1, h2, Int.ofNat_inj]
    rw [e2]
    by_cases h1 : i = j <;> by_cases h2 : c = d <;> simp [h1, h2]
theorem rDs_eq {a b : List Run} (ha : ∀ p ∈ a, InE p.1 ∧ p.2 ≤ 1000000) (hb : ∀ p ∈ b, InE p.1 ∧ p.2 ≤ 1000000) : f_eq (.list (rDs a)) (.list (rDs b)) = some (.val (.bool (decide (a = b)))) := by
  rw [f_eq_of rfl (rDs_ok ha) (rDs_ok hb)]
  have e : PyData.eqv (.list (rDs a)) (.list (rDs b)) = PyData.eqvAll (rDs a) (rDs b) := by simp [PyData.eqv]
  rw [e, rDs_eqv]
theorem Rok.sm {R : List Run} (h : Rok R) : ∀ p ∈ R, InE p.1 ∧ p.2 ≤ 1000000 := fun p hp => ⟨h.ent p hp, by have := cnt_le hp; have := h.len; omega⟩
/-! the stack of a round -/
theorem popW_len : ∀ (e : Int) (s : List Run) (c : Nat), (popW e c s).1 + (exL (popW e c s).2).length = c + (exL s).length ∧ (popW e c s).2.length ≤ s.length ∧ ∀ p ∈ (popW e c s).2, p ∈ s
  | e, [], c => ⟨rfl, Nat.le_refl _, fun p h => h⟩
  | e, q :: s, c => by
    have l : (exL (q :: s)).length = q.2 + (exL s).length := by
      show (List.replicate q.2 q.1 ++ exL s).length = _
      rw [List.length_append, List.length_replicate]
    unfold popW
    split
    · obtain ⟨h1, h2, h3⟩ := popW_len e s (c + q.2)
      exact ⟨by rw [h1, l]; omega, by rw [List.length_cons]; omega, fun p h => List.mem_cons_of_mem _ (h3 p h)⟩
    · exact ⟨rfl, Nat.le_refl _, fun p h => h⟩
end SP
end

section
set_option Elab.async false
set_option linter.all false
set_option maxRecDepth 100000
set_option maxHeartbeats 2000000
namespace DL
open PySem PySem.Spec PyProof.Rows L2
/-! ### exceptions on the way -/
section
variable {ρ ρ1 ρ2 : Rho} {c : Nat} {d : M Val}
theorem w_callX {F : Fn} {ms : List (Bool × M Val)} {avs : List AV} {as : List Arg} {is : List Nat} {bs : List (List PyData)} (h1 : evAV ms ρ = .ok avs ρ1) (h2 : argsOf ρ1 avs = some as) (h3 : boSl ρ1 avs = is) (h4 : F as = .exc c bs) (h5 : is.Nodup) (h6 : putBo ρ1 is bs = ρ2) : dCall F ms ρ = .exc c ρ2 := by
  rw [e_dCall, h1, bd_ok, h2]
  show (if (boSl ρ1 avs).Nodup then frO (boSl ρ1 avs) ρ1 (F as) else .stuck) = _
  rw [h3, if_pos h5, h4]
  show Out.exc c (putBo ρ1 is bs) = _
  rw [h6]
theorem w_dropX (h : d ρ = .exc c ρ1) : sDrop d ρ = .exc c ρ1 := by unfold sDrop sBind; rw [h]
theorem w_asgX {g : Tg} (h : d ρ = .exc c ρ1) : sAsg d g ρ = .exc c ρ1 := by unfold sAsg sBind; rw [h]
theorem w_retX (h : d ρ = .exc c ρ1) : sRet d ρ = .exc c ρ1 := by unfold sRet sBind; rw [h]
theorem w_raise : sRaise c ρ = .exc c ρ := rfl
theorem w_seqX {p q : SD} (h : p ρ = .exc c ρ1) : sSeq p q ρ = .exc c ρ1 := w_seq h rfl
theorem w_seqN {p q : SD} {o : SOut} (h : p ρ = .nx ρ1) (h2 : q ρ1 = o) : sSeq p q ρ = o := w_seq h h2
theorem w_seqR {p q : SD} {r : RV} (h : p ρ = .rt r ρ1) : sSeq p q ρ = .rt r ρ1 := w_seq h rfl
theorem w_tryN {i j : Nat} {hd : Nat → Option Bool} {db : SD} (h : db ρ = .nx ρ1) : sTry i j hd db ρ = .nx ρ1 := by unfold sTry; rw [h]
theorem w_tryX {i j : Nat} {hd : Nat → Option Bool} {db : SD} (h : db ρ = .exc c ρ1) (hh : hd c = some true) (n1 : notBo ρ1[i]? = true) (n2 : notBo ρ1[j]? = true) (h2 : (ρ1.set i (.sh (exD c))).set j .no = ρ2) : sTry i j hd db ρ = .nx ρ2 := by
  unfold sTry; rw [h]
  show hdl i j hd c ρ1 = _
  unfold hdl
  rw [hh]
  show (if _ then _ else _) = _
  rw [if_pos ⟨n1, n2⟩, h2]
theorem w_dct0 : dDct0 ρ = .ok (.sh (.dict [])) ρ := rfl
theorem fn_x {e : SD} {N : Nat} {as : List Arg} (h0 : rho0 N as = ρ1) (h : e ρ1 = .exc c ρ2) (hb : boIx as 0 = []) : fnRes e N as = .exc c [] := by
  unfold fnRes; rw [h0, h, hb]; rfl
end
end DL
end

section
open PySem L2 DL SP
set_option maxRecDepth 100000
local macro_rules | `(tactic| walk_at "set") => `(tactic| first | (with_reducible apply DL.u0) | (with_reducible apply DL.u1) | (with_reducible apply DL.u2) | (with_reducible apply DL.u3) | (with_reducible apply DL.u4) | (with_reducible apply DL.u5) | (with_reducible apply DL.u6) | (with_reducible apply DL.u7) | (with_reducible apply DL.u8) | (with_reducible apply DL.u9) | (with_reducible apply DL.u10) | (with_reducible apply DL.u11) | (with_reducible apply DL.u12) | (with_reducible apply DL.u13) | (with_reducible apply DL.u14) | (with_reducible apply DL.u15) | (with_reducible apply DL.u16) | (with_reducible apply DL.u17) | (with_reducible apply DL.u18) | (with_reducible apply DL.u19) | (with_reducible apply DL.u20) | (with_reducible apply DL.u21) | (with_reducible apply DL.u22) | (with_reducible apply DL.u23))
local macro_rules | `(tactic| walk_at "get") => `(tactic| first | ((with_reducible apply DL.gtr); exact rfl))
local macro_rules | `(tactic| walk_at "nb") => `(tactic| first | ((with_reducible apply DL.nbr); exact rfl) | ((with_reducible apply DL.nbg); exact rfl; (with_reducible assumption)))
local macro_rules | `(tactic| walk_at "side") => `(tactic| focus (first | (with_reducible assumption) | exact rfl | (simp only [decide_eq_true_eq, decide_eq_false_iff_not, Bool.and_eq_true, Bool.or_eq_true, Bool.not_eq_true', Bool.not_eq_false', Bool.and_eq_false_iff, Bool.or_eq_false_iff, Bool.and_false, Bool.false_and, Bool.and_true, Bool.true_and, Bool.or_false, Bool.or_true, Bool.false_or, Bool.true_or, Bool.not_true, Bool.not_false]; omega) | (simp only [decide_eq_true_eq, decide_eq_false_iff_not, Bool.and_eq_true, Bool.or_eq_true, Bool.not_eq_true', Bool.not_eq_false', Bool.and_eq_false_iff, Bool.or_eq_false_iff, Bool.and_false, Bool.false_and, Bool.and_true, Bool.true_and, Bool.or_false, Bool.or_true, Bool.false_or, Bool.true_or, Bool.not_true, Bool.not_false]; done) | (simp only [List.length_map, List.length_append, List.length_cons, List.length_nil, List.length_reverse, List.length_range, List.length_singleton, List.length_replicate, List.length_take, List.length_drop]; done) | (simp only [List.length_map, List.length_append, List.length_cons, List.length_nil, List.length_reverse, List.length_range, List.length_singleton, List.length_replicate, List.length_take, List.length_drop]; omega) | omega | decide))
local macro_rules | `(tactic| walk_at "val") => `(tactic| first | exact rfl)
local macro_rules | `(tactic| walk_at "at") => `(tactic| first | (with_reducible assumption) | exact rfl)
local macro_rules | `(tactic| walk_at "cut") => `(tactic| first | (with_reducible assumption) | (with_reducible apply DL.cut_from) | (with_reducible apply DL.cut_to))
local macro_rules | `(tactic| walk_at "len") => `(tactic| focus (first | (with_reducible assumption) | (simp only [List.length_map, List.length_append, List.length_cons, List.length_nil, List.length_reverse, List.length_range, List.length_singleton, List.length_replicate, List.length_take, List.length_drop]; with_reducible assumption) | (simp only [List.length_map, List.length_append, List.length_cons, List.length_nil, List.length_reverse, List.length_range, List.length_singleton, List.length_replicate, List.length_take, List.length_drop]; done) | exact rfl))
local macro_rules | `(tactic| walk_at "same") => `(tactic| focus (first | exact rfl | (with_reducible assumption) | (simp only [PyData.list.injEq, PyData.tuple.injEq, PyData.int.injEq, List.cons.injEq, and_true, true_and]; omega)))
local macro_rules | `(tactic| walk_at "eqv") => `(tactic| first | (with_reducible assumption))
local macro_rules | `(tactic| walk_at "ints") => `(tactic| first | (with_reducible assumption))
local macro_rules | `(tactic| walk_at "call") => `(tactic| first | (with_reducible assumption))
local macro_rules | `(tactic| walk_at "loop") => `(tactic| first | (with_reducible assumption))
local macro_rules | `(tactic| walk_at "lk") => `(tactic| first | (with_reducible apply DL.e_lookSh) | ((with_reducible apply DL.lk_b); walk_at "side") | ((with_reducible apply DL.lk_i); walk_at "side") | (with_reducible apply DL.e_lookFr) | ((with_reducible apply DL.lk_ow); exact rfl) | ((with_reducible apply DL.lk_bo); exact rfl) | ((with_reducible apply DL.lk_sd); exact rfl))
local macro_rules | `(tactic| walk_at "opI") => `(tactic| first | ((with_reducible apply DL.o_addI); exact rfl; exact rfl) | ((with_reducible apply DL.o_subI); exact rfl; exact rfl) | ((with_reducible apply DL.o_addJ); exact rfl; exact rfl) | ((with_reducible apply DL.o_mulI); exact rfl; exact rfl; walk_at "side") | ((with_reducible apply DL.o_divI); exact rfl; exact rfl; walk_at "side"; walk_at "side") | ((with_reducible apply DL.o_modI); exact rfl; exact rfl; walk_at "side") | ((with_reducible apply DL.o_neg); exact rfl))
local macro_rules | `(tactic| walk_at "opC") => `(tactic| first | ((with_reducible apply DL.o_lt); exact rfl; exact rfl) | ((with_reducible apply DL.o_le); exact rfl; exact rfl) | ((with_reducible apply DL.o_gt); exact rfl; exact rfl) | ((with_reducible apply DL.o_ge); exact rfl; exact rfl))
local macro_rules | `(tactic| walk_at "opE") => `(tactic| first | ((with_reducible apply DL.o_eqI); exact rfl; exact rfl) | ((with_reducible apply DL.o_neI); exact rfl; exact rfl) | ((with_reducible apply DL.o_isN); walk_at "val") | ((with_reducible apply DL.o_notN); walk_at "val") | ((with_reducible apply DL.o_isB); exact rfl; exact rfl) | ((with_reducible apply DL.o_notB); exact rfl; exact rfl) | ((with_reducible apply DL.o_neR); walk_at "same") | ((with_reducible apply DL.o_eqR); walk_at "same") | ((with_reducible apply DL.o_eqS); exact rfl; exact rfl) | ((with_reducible apply DL.o_neS); exact rfl; exact rfl) | ((with_reducible apply DL.o_eq); walk_at "eqv") | ((with_reducible apply DL.o_ne); walk_at "eqv") | ((with_reducible apply DL.o_in2); exact rfl; exact rfl) | ((with_reducible apply DL.o_in); walk_at "eqv") | ((with_reducible apply DL.o_notin); walk_at "eqv") | ((with_reducible apply DL.o_join); walk_at "eqv") | ((with_reducible apply DL.o_index); walk_at "eqv") | ((with_reducible apply DL.o_count); walk_at "eqv"))
local macro_rules | `(tactic| walk_at "opX") => `(tactic| first | ((with_reducible apply DL.o_ixL); exact rfl; walk_at "at") | ((with_reducible apply DL.o_ixT); exact rfl; walk_at "at"))
local macro_rules | `(tactic| walk_at "opS") => `(tactic| first | ((with_reducible apply DL.o_slL); walk_at "cut") | ((with_reducible apply DL.o_slT); walk_at "cut"))
local macro_rules | `(tactic| walk_at "opL") => `(tactic| first | ((with_reducible apply DL.o_addL); walk_at "side") | ((with_reducible apply DL.o_addT); walk_at "side") | ((with_reducible apply DL.o_addS); walk_at "side") | ((with_reducible apply DL.o_mulLn); walk_at "side"; walk_at "side") | (with_reducible apply DL.o_revL) | (with_reducible apply DL.o_revT) | ((with_reducible apply DL.o_pow); (with_reducible assumption)))
local macro_rules | `(tactic| walk_at "opB") => `(tactic| first | ((with_reducible apply DL.o_lenL); walk_at "len") | ((with_reducible apply DL.o_lenT); walk_at "len") | ((with_reducible apply DL.o_lenS); (with_reducible assumption); walk_at "side") | ((with_reducible apply DL.o_max); exact rfl; exact rfl) | ((with_reducible apply DL.o_min); exact rfl; exact rfl) | ((with_reducible apply DL.o_divmod); exact rfl; exact rfl; walk_at "side"; walk_at "side") | ((with_reducible apply DL.o_repr); walk_at "side") | ((with_reducible apply DL.o_sset); walk_at "eqv") | ((with_reducible apply DL.o_sumL); walk_at "ints") | ((with_reducible apply DL.o_sumT); walk_at "ints") | ((with_reducible apply DL.o_allL); walk_at "ints") | (with_reducible apply DL.o_listL) | (with_reducible apply DL.o_listT) | (with_reducible apply DL.o_tupL) | (with_reducible apply DL.o_tupT) | (with_reducible apply DL.o_intI) | (with_reducible apply DL.o_intB) | ((with_reducible apply DL.o_abs); exact rfl) | ((with_reducible apply DL.o_any); (with_reducible assumption)) | ((with_reducible apply DL.o_anyL); (with_reducible assumption)) | ((with_reducible apply DL.o_anyT); (with_reducible assumption)))
local macro_rules | `(tactic| walk_at "op") => `(tactic| first | walk_at "opC" | walk_at "opI" | walk_at "opX" | walk_at "opE" | walk_at "opB" | walk_at "opS" | walk_at "opL" | ((with_reducible apply DL.o_any); (with_reducible assumption)) | ((with_reducible apply DL.o_anyL); (with_reducible assumption)) | ((with_reducible apply DL.o_anyT); (with_reducible assumption)))
local macro_rules | `(tactic| walk_at "ev1") => `(tactic| first | ((with_reducible apply DL.var_sh); exact rfl) | (with_reducible apply DL.e_dC) | ((with_reducible apply DL.w_op2)) | ((with_reducible apply DL.var_ow); exact rfl) | ((with_reducible apply DL.var_bo); exact rfl) | ((with_reducible apply DL.w_fld); exact rfl; exact rfl) | ((with_reducible apply DL.w_dB)) | ((with_reducible apply DL.w_ms)) | ((with_reducible apply DL.w_sm)) | ((with_reducible apply DL.w_callD)) | ((with_reducible apply DL.w_call)) | ((with_reducible apply DL.w_getF); exact rfl; exact rfl) | ((with_reducible apply DL.var_oo); exact rfl) | ((with_reducible apply DL.var_ob); exact rfl) | ((with_reducible apply DL.w_mthO); exact rfl) | ((with_reducible apply DL.w_propS); exact rfl) | ((with_reducible apply DL.w_lenS); exact rfl) | ((with_reducible apply DL.w_mkO)) | ((with_reducible apply DL.w_conF); exact rfl))
local macro_rules | `(tactic| walk_at "ev2") => `(tactic| first | ((with_reducible apply DL.w_and)) | ((with_reducible apply DL.w_not)) | ((with_reducible apply DL.w_or)) | ((with_reducible apply DL.w_isi)) | ((with_reducible apply DL.w_chain)) | ((with_reducible apply DL.w_op1)) | ((with_reducible apply DL.w_ife)) | ((with_reducible apply DL.w_t); walk_at "side") | ((with_reducible apply DL.w_f); walk_at "side"))
local macro_rules | `(tactic| walk_at "ev3") => `(tactic| first | ((with_reducible apply DL.w_tup)) | ((with_reducible apply DL.w_lst)) | ((with_reducible apply DL.w_tupX)) | ((with_reducible apply DL.w_lstX)) | (with_reducible apply DL.w_fs0) | ((with_reducible apply DL.w_fs)) | ((with_reducible apply DL.w_fmtS)) | ((with_reducible apply DL.w_sl)) | ((with_reducible apply DL.w_app); exact rfl) | ((with_reducible apply DL.w_appB); exact rfl) | ((with_reducible apply DL.w_pop); exact rfl; walk_at "set") | (with_reducible apply DL.w_kpS) | (with_reducible apply DL.w_kpF) | (with_reducible apply DL.w_kpL) | (with_reducible apply DL.n_S) | (with_reducible apply DL.n_F) | ((with_reducible apply DL.n_L)) | (with_reducible apply DL.r_ok) | (with_reducible apply DL.w_dct0) | ((with_reducible apply DL.w_cmth)) | ((with_reducible apply DL.w_propF)) | ((with_reducible apply DL.w_mthF)) | ((with_reducible apply DL.w_mkL); exact rfl) | (with_reducible apply DL.n_Fo))
local macro_rules | `(tactic| walk_at "ev") => `(tactic| first | walk_at "loop" | walk_at "ev1" | walk_at "ev2" | walk_at "ev3" | ((with_reducible apply DL.o_ids); walk_at "side"))
local macro_rules | `(tactic| walk_at "st1") => `(tactic| first | ((with_reducible apply DL.w_seq)) | ((with_reducible apply DL.w_nx)) | ((with_reducible apply DL.w_asg)) | ((with_reducible apply DL.w_drop)) | ((with_reducible apply DL.w_ret)) | ((with_reducible apply DL.w_if)) | ((with_reducible apply DL.w_aug); exact rfl) | (with_reducible apply DL.w_nil) | ((with_reducible apply DL.w_setF)) | ((with_reducible apply DL.w_sFb); exact rfl; exact rfl; walk_at "ds"; walk_at "set") | ((with_reducible apply DL.w_sFa); exact rfl; exact rfl; walk_at "ds"; walk_at "set") | ((with_reducible apply DL.w_t); walk_at "side") | ((with_reducible apply DL.w_f); walk_at "side"))
local macro_rules | `(tactic| walk_at "st2") => `(tactic| first | (with_reducible apply DL.w_rvS) | (with_reducible apply DL.w_rvF) | ((with_reducible apply DL.w_rvO); exact rfl; walk_at "set") | ((with_reducible apply DL.w_rvD); exact rfl) | (with_reducible apply DL.w_rvFo) | (with_reducible apply DL.e_thenRt) | (with_reducible apply DL.e_thenBk) | (with_reducible apply DL.e_thenCt) | ((with_reducible apply DL.w_par2)) | ((with_reducible apply DL.w_par3)) | (with_reducible apply DL.r_nx) | (with_reducible apply DL.r_bk) | (with_reducible apply DL.r_ct) | (with_reducible apply DL.r_rt))
local macro_rules | `(tactic| walk_at "sts") => `(tactic| first | walk_at "loop" | walk_at "st1" | walk_at "st2")
local macro_rules | `(tactic| walk_at "tg") => `(tactic| first | ((with_reducible apply DL.w_gn)) | ((with_reducible apply DL.w_stS); walk_at "nb"; walk_at "set") | ((with_reducible apply DL.w_stF); walk_at "nb"; walk_at "set") | ((with_reducible apply DL.w_stFo); walk_at "nb"; walk_at "set") | ((with_reducible apply DL.w_gt); exact rfl) | ((with_reducible apply DL.w_gc)) | (with_reducible apply DL.w_g0) | ((with_reducible apply DL.w_stL); walk_at "nb"; decide; exact rfl; walk_at "set"; walk_at "set") | ((with_reducible apply DL.w_stD); walk_at "nb"; decide; exact rfl; walk_at "set") | ((with_reducible apply DL.w_gs); walk_at "sh"; exact rfl) | ((with_reducible apply DL.w_gsB); walk_at "sh"; exact rfl))
local macro_rules | `(tactic| walk_at "ixn") => `(tactic| first | (with_reducible apply DL.x30) | (with_reducible apply DL.x31) | (with_reducible apply DL.x32) | (with_reducible assumption))
local macro_rules | `(tactic| walk_at "ds") => `(tactic| first | (with_reducible apply DL.v0) | (with_reducible apply DL.v1) | (with_reducible apply DL.v2) | (with_reducible apply DL.ap0) | (with_reducible apply DL.ap1) | (with_reducible apply DL.ap2) | (with_reducible assumption))
local macro_rules | `(tactic| walk_at "la") => `(tactic| first | (with_reducible apply DL.ca1) | (with_reducible apply DL.ca2) | (with_reducible apply DL.ca3))
local macro_rules | `(tactic| walk_at "bl") => `(tactic| first | ((with_reducible apply DL.w_tst)) | (with_reducible apply DL.w_yes))
local macro_rules | `(tactic| walk_at "sh") => `(tactic| first | (with_reducible apply DL.e_shrSh) | (with_reducible apply DL.e_shrFr) | ((with_reducible apply DL.shr_ow); exact rfl; walk_at "set") | ((with_reducible apply DL.shr_sd); exact rfl))
local macro_rules | `(tactic| walk_at "ls") => `(tactic| first | ((with_reducible apply DL.w_evS)) | (with_reducible apply DL.e_evS0) | (with_reducible apply DL.w_sqL) | (with_reducible apply DL.w_sqT) | (with_reducible apply DL.w_enL) | (with_reducible apply DL.w_enT) | ((with_reducible apply DL.w_seqL)) | ((with_reducible apply DL.w_enum)) | ((with_reducible apply DL.w_evX)) | ((with_reducible apply DL.w_evXT)) | ((with_reducible apply DL.w_evXL)) | (with_reducible apply DL.w_evX0) | walk_at "loop")
local macro_rules | `(tactic| walk_at "lv") => `(tactic| first | ((with_reducible apply DL.w_evL)) | (with_reducible apply DL.e_evL0))
local macro_rules | `(tactic| walk_at "av") => `(tactic| first | (with_reducible apply DL.w_avS) | (with_reducible apply DL.w_avF) | (with_reducible apply DL.w_avL) | ((with_reducible apply DL.w_avN)))
local macro_rules | `(tactic| walk_at "avs") => `(tactic| first | ((with_reducible apply DL.w_evAV)) | (with_reducible apply DL.e_evAV0))
local macro_rules | `(tactic| walk_at "lks") => `(tactic| first | ((with_reducible apply DL.w_lkL)) | (with_reducible apply DL.e_lookL0))
local macro_rules | `(tactic| walk_at "oi") => `(tactic| first | ((with_reducible apply DL.w_opt)) | (with_reducible apply DL.e_optI0))
local macro_rules | `(tactic| walk_at "ag") => `(tactic| first | (with_reducible apply DL.w_agD) | ((with_reducible apply DL.w_agO); exact rfl) | ((with_reducible apply DL.w_agB); exact rfl) | ((with_reducible apply DL.w_agS); exact rfl) | ((with_reducible apply DL.w_agOo); exact rfl) | ((with_reducible apply DL.w_agOb); exact rfl))
local macro_rules | `(tactic| walk_at "ags") => `(tactic| first | ((with_reducible apply DL.w_ags)) | (with_reducible apply DL.argsOf0))
local macro_rules | `(tactic| walk_at "ns") => `(tactic| first | (with_reducible apply DL.boSl0) | ((with_reducible apply DL.w_bsD)) | ((with_reducible apply DL.w_bsO); exact rfl) | ((with_reducible apply DL.w_bsB); exact rfl) | ((with_reducible apply DL.w_bsOo); exact rfl) | ((with_reducible apply DL.w_bsOb); exact rfl) | ((with_reducible apply DL.bxr); exact rfl))
local macro_rules | `(tactic| walk_at "rh") => `(tactic| first | walk_at "set" | (with_reducible apply DL.w_pb0) | ((with_reducible apply DL.w_pbO); exact rfl; walk_at "set") | ((with_reducible apply DL.w_pbB); exact rfl; walk_at "set") | ((with_reducible apply DL.w_pbOo); exact rfl; walk_at "set") | ((with_reducible apply DL.w_pbOb); exact rfl; walk_at "set") | walk_at "rho1")
local macro_rules | `(tactic| walk_at "rho1") => `(tactic| first | ((with_reducible apply DL.rhoS)) | ((with_reducible apply DL.rhoB)) | ((with_reducible apply DL.rhoN)) | (with_reducible apply DL.rho00))
local macro_rules | `(tactic| walk_at "vl") => `(tactic| first | (with_reducible apply DL.kp_sh) | (with_reducible apply DL.kp_sl) | (with_reducible apply DL.kp_fr) | (with_reducible apply DL.rvVal_sh) | (with_reducible apply DL.rvVal_fr) | (with_reducible apply DL.rvVal_fo))
local macro_rules | `(tactic| walk_at "st") => `(tactic| first | (guard_target = @Eq (Out Val) _ _; walk_at "ev") | (guard_target = @Eq (Option PyData) _ _; walk_at "lk") | (guard_target = @Eq (Option Val) _ _; walk_at "op") | (guard_target = @Eq (SOut) _ _; walk_at "sts") | (guard_target = @Eq (Option Sl) _ _; walk_at "get") | (guard_target = @Eq (List Sl) _ _; walk_at "rh") | (guard_target = @Eq (Option (List Sl)) _ _; walk_at "tg") | (guard_target = @Eq (Out Bool) _ _; walk_at "bl") | (guard_target = @Eq (Out PyData) _ _; walk_at "sh") | (guard_target = @Eq (Out (List PyData)) _ _; walk_at "ls") | (guard_target = @Eq (Out (List Val)) _ _; walk_at "lv") | (guard_target = @Eq (Option (List PyData)) _ _; walk_at "lks") | (guard_target = @Eq (Val) _ _; walk_at "vl") | (guard_target = @Eq (FRes) _ _; walk_at "call") | (guard_target = @Eq (Out AV) _ _; walk_at "av") | (guard_target = @Eq (Out (List AV)) _ _; walk_at "avs") | (guard_target = @Eq (Option DL.Arg) _ _; walk_at "ag") | (guard_target = @Eq (Option (List DL.Arg)) _ _; walk_at "ags") | (guard_target = @Eq (List Nat) _ _; walk_at "ns") | (guard_target = @Eq (Out (Option Int)) _ _; walk_at "oi") | (guard_target = @Eq (Option Nat) _ _; walk_at "ixn") | (guard_target = @Eq (List PyData) _ _; walk_at "ds") | (guard_target = @Eq (List DL.Arg) _ _; walk_at "la") | walk_at "nb" | walk_at "side")
local macro_rules | `(tactic| walk_at "rho") => `(tactic| repeat (walk_at "rho1"))
local macro_rules | `(tactic| walk_at "fn") => `(tactic| (apply DL.fn_d; walk_at "rho"))
local macro_rules | `(tactic| walk_at "fb") => `(tactic| (apply DL.fn_rt; walk_at "rho"))
local macro_rules | `(tactic| walk_at "fbn") => `(tactic| (apply DL.fn_nx; walk_at "rho"))
local macro_rules | `(tactic| walk_at "fnn") => `(tactic| (apply DL.fn_n; walk_at "rho"))
local macro_rules | `(tactic| walk_at "run") => `(tactic| repeat (focus skip; walk_at "st"))
section
set_option Elab.async false
set_option linter.all false
set_option maxHeartbeats 1000000
open PySem L2 DL SP
namespace LW
/-! draws of the laws with a bag -/
structure Bag (n : Nat) (t : List PyData) : Prop where
  ex : ∃ a b c : Int, t = [.int a, .int b, .int c] ∧ 0 ≤ a ∧ 0 ≤ c ∧ c ≤ n
theorem Bag.mono {n m : Nat} {t : List PyData} (T : Bag n t) (h : n ≤ m) : Bag m t := by
  obtain ⟨a, b, c, h1, h2, h3, h4⟩ := T.ex
  exact ⟨a, b, c, h1, h2, h3, by omega⟩
theorem big {k : Int} (h : k ≤ 1000000) : k < 2 ^ 200 := Int.lt_of_le_of_lt h (by decide)
theorem lgb {i : Int} {k : Nat} (h0 : 0 ≤ i) (h : i ≤ 1000000000000000000000000000000) (hk : 200 ≤ k) : i.natAbs.log2 < k := by
  have := log_lt (i := i) (k := 200) h0 (Int.lt_of_le_of_lt h (by decide)) (by decide)
  omega
theorem F_bag (z : Int) : ∃ t, F__law_bag [.sh (.int z)] = .ret (.fr t) [] ∧ Bag 0 t := by
  have p18 : f_pow (.int 10) (.int 18) = some (.val (.int (10 ^ 18))) := powI (by decide) (by decide)
  refine ⟨[.int (if z - 10 ^ 18 > 0 then z - 10 ^ 18 else 0), .int z, .int 0], ?_, ⟨_, _, _, rfl, ?_, Int.le_refl _, Int.le_refl _⟩⟩
  · generalize (10 : Int) ^ 18 = T18 at *
    walk_at "fn"
    unfold d__law_bag
    walk_at "run"
  · split <;> omega
theorem F_pick {n : Nat} {t : List PyData} {m : Int} (T : Bag n t) (hn : n < 1000000) (h0 : 0 < m) (hm : m < 2 ^ 200) :
    ∃ v t', F__law_pick [.bo t, .sh (.int m)] = .ret (.sh (.int v)) [t'] ∧ 0 ≤ v ∧ v < m ∧ Bag (n + 1) t' := by
  obtain ⟨a, b, c, rfl, ha, hc, hcn⟩ := T.ex
  obtain ⟨c', hc'⟩ : ∃ c', c' = c + 1 := ⟨_, rfl⟩
  have hl : m.natAbs.log2 < 9000 := Nat.lt_trans (log_lt (by omega) hm (by decide)) (by decide)
  by_cases h : 0 < a
  · refine ⟨a % m, [.int (a / m), .int b, .int c'], ?_, Int.emod_nonneg _ (by omega), Int.emod_lt_of_pos _ h0, ⟨_, _, _, rfl, Int.ediv_nonneg ha (by omega), by omega, by omega⟩⟩
    refine fn_rt (ρ1 := [.bo [.int a, .int b, .int c], .sh (.int m), .no, .no, .no]) (ρ2 := [.bo [.int (a / m), .int b, .int c'], .sh (.int m), .no, .no, .sh (.int (a % m))]) rfl ?_ rfl
    rw [hc']
    unfold d__law_pick
    walk_at "run"
  · obtain ⟨y, hy⟩ : ∃ y, y = (b % 2147483629 * 48271 + c' * 69621 + 12345) % 2147483647 := ⟨_, rfl⟩
    obtain ⟨z, hz⟩ : ∃ z, z = (y * y + c' * 40692) % 2147483587 := ⟨_, rfl⟩
    have y1 : 0 ≤ y ∧ y < 2147483647 := by rw [hy]; exact ⟨Int.emod_nonneg _ (by decide), Int.emod_lt_of_pos _ (by decide)⟩
    have b1 : 0 ≤ b % 2147483629 ∧ b % 2147483629 < 2147483629 := ⟨Int.emod_nonneg _ (by decide), Int.emod_lt_of_pos _ (by decide)⟩
    have lc : ∀ i : Int, 0 ≤ i → i ≤ 2147483647 → i.natAbs.log2 < 200 := fun i a b => lgb a (by omega) (by omega)
    have g1 : (b % 2147483629).natAbs.log2 + (48271 : Int).natAbs.log2 < 1000000 := by have := lc _ b1.1 (by omega); have := lc 48271 (by omega) (by omega); omega
    have g2 : (c + 1).natAbs.log2 + (69621 : Int).natAbs.log2 < 1000000 := by have := lc (c + 1) (by omega) (by omega); have := lc 69621 (by omega) (by omega); omega
    have g3 : y.natAbs.log2 + y.natAbs.log2 < 1000000 := by have := lc y y1.1 (by omega); omega
    have g4 : (c + 1).natAbs.log2 + (40692 : Int).natAbs.log2 < 1000000 := by have := lc (c + 1) (by omega) (by omega); have := lc 40692 (by omega) (by omega); omega
    have g5 : y.natAbs.log2 + (2147483587 : Int).natAbs.log2 < 1000000 := by have := lc y y1.1 (by omega); have := lc 2147483587 (by omega) (by omega); omega
    have g6 : (32 : Int).natAbs.log2 < 9000 := by decide
    refine ⟨(y * 2147483587 + z) / 32 % m, [.int a, .int b, .int c'], ?_, Int.emod_nonneg _ (by omega), Int.emod_lt_of_pos _ h0, ⟨_, _, _, rfl, ha, by omega, by omega⟩⟩
    refine fn_rt (ρ1 := [.bo [.int a, .int b, .int c], .sh (.int m), .no, .no, .no]) (ρ2 := [.bo [.int a, .int b, .int c'], .sh (.int m), .sh (.int y), .sh (.int z), .no]) rfl ?_ rfl
    rw [hc'] at hy hz
    unfold d__law_pick
    rw [hc']
    refine w_seq (o1 := .nx [.bo [.int a, .int b, .int (c + 1)], .sh (.int m), .no, .no, .no]) (by walk_at "run") (w_nx ?_)
    refine w_seq (o1 := .nx [.bo [.int a, .int b, .int (c + 1)], .sh (.int m), .no, .no, .no]) (by walk_at "run") (w_nx ?_)
    refine w_seq (o1 := .nx [.bo [.int a, .int b, .int (c + 1)], .sh (.int m), .sh (.int y), .no, .no]) (by rw [hy]; walk_at "run") (w_nx ?_)
    refine w_seq (o1 := .nx [.bo [.int a, .int b, .int (c + 1)], .sh (.int m), .sh (.int y), .sh (.int z), .no]) (by rw [hz]; walk_at "run") (w_nx ?_)
    walk_at "run"
end LW
end

section
set_option Elab.async false
set_option linter.all false
set_option maxHeartbeats 1000000
open PySem L2 DL SP
namespace LW
/-- small entries -/
def Sm (r : List Int) : Prop := ∀ x ∈ r, -1000000 ≤ x ∧ x ≤ 1000000
theorem Sm.app {r s : List Int} (a : Sm r) (b : Sm s) : Sm (r ++ s) := fun x hx => by
  rcases List.mem_append.mp hx with h | h
  · exact a x h
  · exact b x h
theorem atI_map_int {r : List Int} {i : Nat} {d : PyData} (h : (r.map PyData.int)[i]? = some d) : ∃ x, r[i]? = some x ∧ d = .int x := by
  rw [List.getElem?_map] at h
  obtain ⟨x, hx, rfl⟩ := Option.map_eq_some_iff.mp h
  exact ⟨x, hx, rfl⟩
/-- a comprehension of draws: an expression of one draw each -/
theorem rng_map (low : Int) (k : Nat) : (rngL 0 1 k).map (fun d => match d with | .int j => PyData.int (low + j) | d => d) = ((List.range k).map fun j : Nat => low + (j : Int)).map .int := by
  unfold rngL
  rw [List.map_map, List.map_map]
  refine List.map_congr_left fun i _ => ?_
  show PyData.int (low + (0 + (i : Int) * 1)) = .int (low + (i : Int))
  congr 2
  omega
theorem slow_body {t : List PyData} {n L i many : Nat} {size : Int} {sz r : List Int} {s6 : Sl} (T : Bag n t) (hn : n < 900000) (hL : sz.length = L) (hL2 : L ≤ 9) (hi : i < L) (h1 : 1 ≤ size) (h2 : size ≤ 34) (hr : Sm r) (hl : r.length ≤ 40 * i) (n6 : NB s6) :
    ∃ t' s z6, b__law_slow_1 [.bo t, .sh (.int (many : Int)), .ow (sz.map .int), .ow (r.map .int), .sh (.int (i : Int)), .sh (.int size), s6, .no] = .nx [.bo t', .sh (.int (many : Int)), .ow (sz.map .int), .ow ((r ++ s).map .int), .sh (.int (i : Int)), .sh (.int size), z6, .no] ∧ Bag (n + 1) t' ∧ Sm (r ++ s) ∧ (r ++ s).length ≤ 40 * (i + 1) ∧ NB z6 := by
  obtain ⟨v1, t1, c1, p1, q1, T1⟩ := F_pick (m := 9) T (by omega) (by omega) (big (by omega))
  obtain ⟨b, hb, hb2⟩ : ∃ b : Int, b = (if decide (v1 = 0) = true then 1 else 0) ∧ (b = 0 ∨ b = 1) := ⟨_, rfl, by split <;> omega⟩
  obtain ⟨k, hk, hk2⟩ : ∃ k : Nat, (if size - b > 1 then size - b else 1) = (k : Int) ∧ k ≤ 34 := by
    by_cases c : size - b > 1
    · exact ⟨(size - b).toNat, by rw [if_pos c]; omega, by omega⟩
    · exact ⟨1, by rw [if_neg c]; rfl, by omega⟩
  obtain ⟨low, hlow⟩ : ∃ low : Int, low = ((L : Int) - (i : Int)) * 100 := ⟨_, rfl⟩
  have hlog : ((L : Int) - (i : Int)).natAbs.log2 + (100 : Int).natAbs.log2 < 1000000 := by
    have := lgb (i := (L : Int) - (i : Int)) (k := 200) (by omega) (by omega) (by omega)
    have : (100 : Int).natAbs.log2 < 200 := by decide
    omega
  have hl2 : (sz.map PyData.int).length = L := by simpa using hL
  have hrl : (r.map PyData.int).length ≤ 400 := by simp; omega
  have hrg : dB f_max [dC (.int 1), dOp2 f_sub (dVar 5) (dB f_int [dOp2 f_eq (dCall LW.F__law_pick [(true, dVar 0), (false, dC (.int 9))]) (dC (.int 0))])] [.bo t, .sh (.int (many : Int)), .ow (sz.map .int), .ow (r.map .int), .sh (.int (i : Int)), .sh (.int size), .sh (.int low), .no] = .ok (.sh (.int (k : Int))) [.bo t1, .sh (.int (many : Int)), .ow (sz.map .int), .ow (r.map .int), .sh (.int (i : Int)), .sh (.int size), .sh (.int low), .no] := by
    rw [← hk, hb]
    walk_at "run"
  have hm : DL.iRng1 (dB f_max [dC (.int 1), dOp2 f_sub (dVar 5) (dB f_int [dOp2 f_eq (dCall LW.F__law_pick [(true, dVar 0), (false, dC (.int 9))]) (dC (.int 0))])]) [.bo t, .sh (.int (many : Int)), .ow (sz.map .int), .ow (r.map .int), .sh (.int (i : Int)), .sh (.int size), .sh (.int low), .no] = .ok (rngL 0 1 k) [.bo t1, .sh (.int (many : Int)), .ow (sz.map .int), .ow (r.map .int), .sh (.int (i : Int)), .sh (.int size), .sh (.int low), .no] := by
    have q := rng1_of hrg (by omega) (by omega)
    rwa [Int.toNat_natCast] at q
  have hc := lc_map (e := dOp2 f_add (dVar 6) (dVar 7)) (g := gtName 7) (vs := [7]) (fun d => match d with | .int j => PyData.int (low + j) | d => d) hm rfl rfl (by rw [rngL_length]; omega) fun d hd => by
    obtain ⟨j, hj, rfl⟩ := rngL_mem hd
    exact ⟨[.bo t1, .sh (.int (many : Int)), .ow (sz.map .int), .ow (r.map .int), .sh (.int (i : Int)), .sh (.int size), .sh (.int low), .sh (.int (0 + (j : Int) * 1))], rfl, rfl, rfl⟩
  rw [rng_map] at hc
  obtain ⟨s, hs⟩ : ∃ s : List Int, s = (List.range k).map fun j : Nat => low + (j : Int) := ⟨_, rfl⟩
  rw [← hs] at hc
  have hsl : (s.map PyData.int).length = k := by rw [hs]; simp
  have hsl2 : s.length = k := by rw [hs]; simp
  refine ⟨t1, s, .sh (.int low), ?_, T1, hr.app fun x hx => ?_, by rw [List.length_append]; omega, rfl⟩
  · rw [List.map_append]
    generalize s.map PyData.int = S at *
    generalize r.map PyData.int = R at *
    generalize sz.map PyData.int = Z at *
    rw [hlow] at hc ⊢
    unfold b__law_slow_1
    walk_at "run"
  · rw [hs] at hx
    obtain ⟨j, hj, rfl⟩ := List.mem_map.mp hx
    have := List.mem_range.mp hj
    omega
end LW
end

section
set_option Elab.async false
set_option linter.all false
set_option maxHeartbeats 1000000
open PySem L2 DL SP
namespace LW
def fibs : List Int := [2, 1, 2, 3, 5, 8, 13, 21, 34]
theorem fibs_b : ∀ x ∈ fibs, 1 ≤ x ∧ x ≤ 34 := by decide
theorem F_slow {t : List PyData} {n many : Nat} (T : Bag n t) (hn : n < 800000) (h1 : 1 ≤ many) (h2 : many ≤ 100) :
    ∃ r t', F__law_slow [.bo t, .sh (.int (many : Int))] = .ret (.fr (r.map PyData.int)) [t'] ∧ Sm r ∧ r.length = many ∧ Bag (n + 200) t' := by
  obtain ⟨v1, t1, c1, p1, q1, T1⟩ := F_pick (m := 8) T (by omega) (by omega) (big (by omega))
  obtain ⟨u, hu⟩ : ∃ u : Nat, 2 + v1 = (u : Int) := ⟨(2 + v1).toNat, by omega⟩
  obtain ⟨sz, hsz⟩ : ∃ sz, sz = fibs.take u := ⟨_, rfl⟩
  have cut1 : cutD [PyData.int 2, .int 1, .int 2, .int 3, .int 5, .int 8, .int 13, .int 21, .int 34] none (some (2 + v1)) = sz.map .int := by
    rw [hu, cut_to, hsz, List.map_take]; rfl
  have hL : sz.length ≤ 9 := by rw [hsz, List.length_take]; exact Nat.min_le_right _ _
  have hb : ∀ x ∈ sz, 1 ≤ x ∧ x ≤ 34 := fun x hx => fibs_b x (by rw [hsz] at hx; exact List.mem_of_mem_take hx)
  obtain ⟨ρ5, f5, t5, r, s4, s5, s6, hr, hl, T5, m4, m5, m6, e5⟩ := for_run (g := gtTup (gtCons (gtName 4) (gtCons (gtName 5) gtNil)) 2) (b := b__law_slow_1) (m := iEnumD (dOp1 f_rev (dVar 2)))
    (ρ := [.bo t1, .sh (.int (many : Int)), .ow (sz.map .int), .ow [], .no, .no, .no, .no]) (ρ' := [.bo t1, .sh (.int (many : Int)), .ow (sz.map .int), .ow [], .no, .no, .no, .no]) (items := enumL (sz.reverse.map .int))
    (fun i ρ => ∃ t5 r s4 s5 s6, Sm r ∧ r.length ≤ 40 * i ∧ Bag (n + 1 + i) t5 ∧ PL s4 ∧ NB s5 ∧ NB s6 ∧ ρ = [.bo t5, .sh (.int (many : Int)), .ow (sz.map .int), .ow (r.map .int), s4, s5, s6, .no])
    (by rw [List.map_reverse]; walk_at "run")
    ⟨t1, [], .no, .no, .no, (fun x hx => nomatch hx), Nat.le_refl _, T1, rfl, rfl, rfl, rfl⟩
    (by
      rintro i d ρ hi ⟨t5, r, s4, s5, s6, hr, hl, T5, m4p, m5, m6, rfl⟩
      have m4 := m4p.nb
      obtain ⟨hi2, rfl⟩ := enumL_ints hi
      rw [List.length_reverse] at hi2
      have hm : sz.reverse.getD i 0 ∈ sz := by
        rw [List.getD_eq_getElem?_getD, List.getElem?_eq_getElem (by rw [List.length_reverse]; exact hi2)]
        exact List.mem_reverse.mp (List.getElem_mem _)
      obtain ⟨t6, s, z6, hb6, T6, hr6, hl6, k6⟩ := slow_body (many := many) T5 (by omega) rfl hL hi2 (hb _ hm).1 (hb _ hm).2 hr hl m6
      exact ⟨_, _, by walk_at "run", hb6, t6, r ++ s, .sh (.int (i : Int)), .sh (.int (sz.reverse.getD i 0)), z6, hr6, hl6, T6, rfl, rfl, k6, rfl⟩)
  rw [DL.enumL_length, List.length_map, List.length_reverse] at hl T5
  subst e5
  -- found cut, then filled up
  obtain ⟨r2, hr2⟩ : ∃ r2, r2 = r.drop (r.length - many) := ⟨_, rfl⟩
  have hl2 : r2.length = min r.length many := by rw [hr2, List.length_drop]; omega
  have hmx : (if ((r.length : Int) - (many : Int)) > 0 then ((r.length : Int) - (many : Int)) else 0) = ((r.length - many : Nat) : Int) := by split <;> omega
  have cut2 : cutD (r.map PyData.int) (some (if ((r.length : Int) - (many : Int)) > 0 then ((r.length : Int) - (many : Int)) else 0)) none = r2.map .int := by
    rw [hmx, cut_from, hr2, List.map_drop]
  obtain ⟨q, hq⟩ : ∃ q : Nat, q = many - r2.length := ⟨_, rfl⟩
  have hrm : (r.map PyData.int).length = r.length := List.length_map ..
  have hrm2 : (r2.map PyData.int).length = r2.length := List.length_map ..
  have hm2 : DL.iRng1 (dOp2 f_sub (dVar 1) (dB f_len [dVar 3])) [.bo t5, .sh (.int (many : Int)), .ow (sz.map .int), .ow (r2.map .int), s4, s5, s6, .no] = .ok (rngL 0 1 q) [.bo t5, .sh (.int (many : Int)), .ow (sz.map .int), .ow (r2.map .int), s4, s5, s6, .no] := by
    have hq2 : dOp2 f_sub (dVar 1) (dB f_len [dVar 3]) [.bo t5, .sh (.int (many : Int)), .ow (sz.map .int), .ow (r2.map .int), s4, s5, s6, .no] = .ok (.sh (.int (q : Int))) [.bo t5, .sh (.int (many : Int)), .ow (sz.map .int), .ow (r2.map .int), s4, s5, s6, .no] := by
      rw [show (q : Int) = (many : Int) - (r2.length : Nat) by omega]
      walk_at "run"
    have h := rng1_of hq2 (by omega) (by omega)
    rwa [Int.toNat_natCast] at h
  have m4' : isPlain (some s4) = true := m4
  obtain ⟨acc, ρ6, c6, t6, s, ha, hsl, hs, T6, e6⟩ := lc_st (e := dOp2 f_sub (dC (.int 0)) (dCall LW.F__law_pick [(true, dVar 0), (false, dC (.int 4))])) (g := gtName 4) (vs := [4])
    (fun i acc ρ => ∃ t6 s, acc = s.map PyData.int ∧ s.length = i ∧ Sm s ∧ Bag (n + 20 + i) t6 ∧ ρ = [.bo t6, .sh (.int (many : Int)), .ow (sz.map .int), .ow (r2.map .int), .no, s5, s6, .no])
    hm2 (by simp [m4']) ⟨t5, [], rfl, rfl, (fun x hx => nomatch hx), T5.mono (by omega), rfl⟩ (by rw [rngL_length]; omega)
    (by
      rintro i d acc ρ hi ⟨t6, s, rfl, hsl, hs, T6, rfl⟩
      obtain ⟨hi2, rfl⟩ := rngL_get hi
      obtain ⟨v, t7, c7, p7, q7, T7⟩ := F_pick (m := 4) T6 (by omega) (by omega) (big (by omega))
      have hv : dOp2 f_sub (dC (.int 0)) (dCall LW.F__law_pick [(true, dVar 0), (false, dC (.int 4))]) [.bo t6, .sh (.int (many : Int)), .ow (sz.map .int), .ow (r2.map .int), .sh (.int (0 + (i : Int) * 1)), s5, s6, .no] = .ok (.sh (.int (0 - v))) [.bo t7, .sh (.int (many : Int)), .ow (sz.map .int), .ow (r2.map .int), .sh (.int (0 + (i : Int) * 1)), s5, s6, .no] := by walk_at "run"
      refine ⟨_, .int (0 - v), _, by walk_at "run", by rw [e_mbind, hv]; rfl, t7, s ++ [0 - v], by rw [List.map_append]; rfl, by rw [List.length_append, hsl]; rfl, hs.app fun x hx => (by rw [List.mem_singleton.mp hx]; omega), T7.mono (by omega), rfl⟩)
  rw [rngL_length] at hsl T6
  subst e6 ha
  change _ = Out.ok _ [.bo t6, .sh (.int (many : Int)), .ow (sz.map .int), .ow (r2.map .int), s4, s5, s6, .no] at c6
  have hsl2 : (s.map PyData.int).length = q := by simpa using hsl
  refine ⟨r2 ++ s, t6, ?_, Sm.app (fun x hx => hr x (by rw [hr2] at hx; exact List.mem_of_mem_drop hx)) hs, by rw [List.length_append]; omega, T6.mono (by omega)⟩
  refine fn_rt (ρ1 := [.bo t, .sh (.int (many : Int)), .no, .no, .no, .no, .no, .no]) (ρ2 := [.bo t6, .sh (.int (many : Int)), .ow (sz.map .int), .ow (r2.map .int), s4, s5, s6, .no]) rfl ?_ rfl
  rw [List.map_append]
  generalize s.map PyData.int = S at *
  generalize r2.map PyData.int = R2 at *
  generalize r.map PyData.int = R at *
  generalize sz.map PyData.int = Z at *
  unfold d__law_slow
  walk_at "run"
end LW
end

section
set_option Elab.async false
set_option linter.all false
set_option maxHeartbeats 1000000
open PySem L2 DL SP
namespace LW
/-- entries of a row -/
def Rk (r : List Int) : Prop := ∀ x ∈ r, -1000000000000000000000000000000 ≤ x ∧ x ≤ 1000000000000000000000000000000
theorem Rk.app {r s : List Int} (a : Rk r) (b : Rk s) : Rk (r ++ s) := fun x hx => by
  rcases List.mem_append.mp hx with h | h
  · exact a x h
  · exact b x h
theorem Rk.inB {r : List Int} (h : Rk r) : InB (fun i => r.getD i 0) r.length := fun i hi => by
  refine h _ ?_
  show r.getD i 0 ∈ r
  rw [List.getD_eq_getElem?_getD, List.getElem?_eq_getElem hi]
  exact List.getElem_mem _
theorem F_row {t : List PyData} {n most : Nat} (T : Bag n t) (hn : n < 700000) (h1 : 1 ≤ most) (h2 : most ≤ 100) :
    ∃ r t', F__law_row [.bo t, .sh (.int (most : Int))] = .ret (.sh (.tuple (r.map PyData.int))) [t'] ∧ Rk r ∧ 1 ≤ r.length ∧ r.length ≤ most ∧ Bag (n + 1000) t' := by
  have p30 : f_pow (.int 10) (.int 30) = some (.val (.int 1000000000000000000000000000000)) := powI (by decide) (by decide)
  have p9 : f_pow (.int 10) (.int 9) = some (.val (.int 1000000000)) := powI (by decide) (by decide)
  have hlog : (2 : Int).natAbs.log2 + (1000000000000000000000000000000 : Int).natAbs.log2 < 1000000 := by decide
  obtain ⟨v1, t1, c1, p1, q1, T1⟩ := F_pick (m := (most : Int)) T (by omega) (by omega) (big (by omega))
  obtain ⟨many, hmany⟩ : ∃ many : Nat, 1 + v1 = (many : Int) := ⟨(1 + v1).toNat, by omega⟩
  obtain ⟨way, t2, c2, p2, q2, T2⟩ := F_pick (m := 8) T1 (by omega) (by omega) (big (by omega))
  obtain ⟨wide, low, hw, hlo, b1, b2, b3, b4⟩ : ∃ wide low : Int, atI [PyData.int 2, .int 3, .int (1 + v1), .int 1, .int 7, .int (2 * 1000000000000000000000000000000 + 1), .int 1000000000, .int 2] way = some (.int wide) ∧ atI [PyData.int 0, .int (0 - 1), .int 0, .int 5, .int (0 - 3), .int (0 - 1000000000000000000000000000000), .int 0, .int (1000000000000000000000000000000 - 1)] way = some (.int low) ∧
      1 ≤ wide ∧ wide ≤ 2000000000000000000000000000001 ∧ -1000000000000000000000000000000 ≤ low ∧ low + wide ≤ 1000000000000000000000000000001 := by
    have : way = 0 ∨ way = 1 ∨ way = 2 ∨ way = 3 ∨ way = 4 ∨ way = 5 ∨ way = 6 ∨ way = 7 := by omega
    rcases this with h | h | h | h | h | h | h | h <;> subst h <;> exact ⟨_, _, rfl, rfl, by omega, by omega, by omega, by omega⟩
  have hwb : wide < 2 ^ 200 := Int.lt_of_le_of_lt b2 (by decide)
  -- the entries
  have hm2 : DL.iRng1 (dVar 2) [.bo t2, .sh (.int (most : Int)), .sh (.int (1 + v1)), .sh (.int way), .sh (.int wide), .sh (.int low), .no, .no, .no] = .ok (rngL 0 1 many) [.bo t2, .sh (.int (most : Int)), .sh (.int (1 + v1)), .sh (.int way), .sh (.int wide), .sh (.int low), .no, .no, .no] := by
    have h := rng1_of (d := dVar 2) (ρ := [.bo t2, .sh (.int (most : Int)), .sh (.int (1 + v1)), .sh (.int way), .sh (.int wide), .sh (.int low), .no, .no, .no]) (ρ' := [.bo t2, .sh (.int (most : Int)), .sh (.int (1 + v1)), .sh (.int way), .sh (.int wide), .sh (.int low), .no, .no, .no]) (j := 1 + v1) (var_sh rfl) (by omega) (by omega)
    rw [hmany, Int.toNat_natCast] at h
    rw [hmany]; exact h
  obtain ⟨acc, ρ6, c6, t6, r, ha, hrl, hr, T6, e6⟩ := lc_st (e := dOp2 f_add (dVar 5) (dCall LW.F__law_pick [(true, dVar 0), (true, dVar 4)])) (g := gtName 8) (vs := [8])
    (fun i acc ρ => ∃ t6 s, acc = s.map PyData.int ∧ s.length = i ∧ Rk s ∧ Bag (n + 2 + i) t6 ∧ ρ = [.bo t6, .sh (.int (most : Int)), .sh (.int (1 + v1)), .sh (.int way), .sh (.int wide), .sh (.int low), .no, .no, .no])
    hm2 rfl ⟨t2, [], rfl, rfl, (fun x hx => nomatch hx), T2, rfl⟩ (by rw [rngL_length]; omega)
    (by
      rintro i d acc ρ hi ⟨t6, s, rfl, hsl, hs, T6, rfl⟩
      obtain ⟨hi2, rfl⟩ := rngL_get hi
      obtain ⟨v, t7, c7, p7, q7, T7⟩ := F_pick (m := wide) T6 (by omega) (by omega) hwb
      have hv : dOp2 f_add (dVar 5) (dCall LW.F__law_pick [(true, dVar 0), (true, dVar 4)]) [.bo t6, .sh (.int (most : Int)), .sh (.int (1 + v1)), .sh (.int way), .sh (.int wide), .sh (.int low), .no, .no, .sh (.int (0 + (i : Int) * 1))] = .ok (.sh (.int (low + v))) [.bo t7, .sh (.int (most : Int)), .sh (.int (1 + v1)), .sh (.int way), .sh (.int wide), .sh (.int low), .no, .no, .sh (.int (0 + (i : Int) * 1))] := by walk_at "run"
      refine ⟨_, .int (low + v), _, by walk_at "run", by rw [e_mbind, hv]; rfl, t7, s ++ [low + v], by rw [List.map_append]; rfl, by rw [List.length_append, hsl]; rfl, hs.app fun x hx => (by rw [List.mem_singleton.mp hx]; omega), T7.mono (by omega), rfl⟩)
  rw [rngL_length] at hrl T6
  subst e6 ha
  change _ = Out.ok _ [.bo t6, .sh (.int (most : Int)), .sh (.int (1 + v1)), .sh (.int way), .sh (.int wide), .sh (.int low), .no, .no, .no] at c6
  obtain ⟨turn, t7, c7, p7, q7, T7⟩ := F_pick (m := 8) T6 (by omega) (by omega) (big (by omega))
  have hs0 : f_sortedI [.list (r.map .int)] = some (.nl ((srtI r).map .int)) := by
    show (intsOf _).bind _ = _
    rw [intsOf_map]; rfl
  have hsr : Rk (srtI r) := fun x hx => hr x ((srtI_perm r).mem_iff.mp hx)
  have hsl : (srtI r).length = r.length := (srtI_perm r).length_eq
  by_cases k0 : turn = 0
  · refine ⟨srtI r, t7, ?_, hsr, by omega, by omega, T7.mono (by omega)⟩
    refine fn_rt (ρ1 := [.bo t, .sh (.int (most : Int)), .no, .no, .no, .no, .no, .no, .no]) (ρ2 := [.bo t7, .sh (.int (most : Int)), .sh (.int (1 + v1)), .sh (.int way), .sh (.int wide), .sh (.int low), .ow ((srtI r).map .int), .sh (.int turn), .no]) rfl ?_ rfl
    generalize (srtI r).map PyData.int = S at *
    generalize r.map PyData.int = R at *
    unfold d__law_row
    walk_at "run"
  · by_cases k1 : turn = 1
    · refine ⟨(srtI r).reverse, t7, ?_, fun x hx => hsr x (List.mem_reverse.mp hx), by rw [List.length_reverse]; omega, by rw [List.length_reverse]; omega, T7.mono (by omega)⟩
      refine fn_rt (ρ1 := [.bo t, .sh (.int (most : Int)), .no, .no, .no, .no, .no, .no, .no]) (ρ2 := [.bo t7, .sh (.int (most : Int)), .sh (.int (1 + v1)), .sh (.int way), .sh (.int wide), .sh (.int low), .ow ((srtI r).map .int).reverse, .sh (.int turn), .no]) rfl ?_ rfl
      rw [List.map_reverse]
      generalize (srtI r).map PyData.int = S at *
      generalize r.map PyData.int = R at *
      unfold d__law_row
      walk_at "run"
    · by_cases k2 : turn < 4
      · obtain ⟨s, t8, c8, hs, hsl8, T8⟩ := F_slow (many := many) T7 (by omega) (by omega) (by omega)
        rw [← hmany] at c8
        refine ⟨s, t8, ?_, fun x hx => (by have := hs x hx; omega), by omega, by omega, T8.mono (by omega)⟩
        refine fn_rt (ρ1 := [.bo t, .sh (.int (most : Int)), .no, .no, .no, .no, .no, .no, .no]) (ρ2 := [.bo t8, .sh (.int (most : Int)), .sh (.int (1 + v1)), .sh (.int way), .sh (.int wide), .sh (.int low), .ow (s.map .int), .sh (.int turn), .no]) rfl ?_ rfl
        clear hs0
        generalize s.map PyData.int = S at *
        generalize r.map PyData.int = R at *
        unfold d__law_row
        walk_at "run"
      · refine ⟨r, t7, ?_, hr, by omega, by omega, T7.mono (by omega)⟩
        refine fn_rt (ρ1 := [.bo t, .sh (.int (most : Int)), .no, .no, .no, .no, .no, .no, .no]) (ρ2 := [.bo t7, .sh (.int (most : Int)), .sh (.int (1 + v1)), .sh (.int way), .sh (.int wide), .sh (.int low), .ow (r.map .int), .sh (.int turn), .no]) rfl ?_ rfl
        clear hs0
        generalize r.map PyData.int = R at *
        unfold d__law_row
        walk_at "run"
end LW
end

section
set_option Elab.async false
set_option linter.all false
set_option maxHeartbeats 1000000
open PySem L2 DL
namespace SP
theorem F_is_int_int (n : Int) : F_is_int [.sh (.int n)] = .ret (.sh (.bool true)) [] := by
  simp [F_is_int, fnRes, d_is_int, rho0, argSl, dIsi, f_isi, isExn, isT, boIx]
theorem F_in_range_int (n lo hi : Int) : F_in_range [.sh (.int n), .sh (.int lo), .sh (.int hi)] = .ret (.sh (.bool (decide (lo ≤ n) && decide (n ≤ hi)))) [] := by
  by_cases h : lo ≤ n <;> simp [F_in_range, fnRes, d_in_range, rho0, argSl, boIx, F_is_int_int, h, putBo]
end SP
end

section
set_option Elab.async false
set_option linter.all false
set_option maxHeartbeats 1000000
open PySem L2 DL
namespace SP
theorem F_is_entry_ok {i : Int} (h : -1000000000000000000000000000000 ≤ i) (h2 : i ≤ 1000000000000000000000000000000) : F_is_entry [.sh (.int i)] = .ret (.sh (.bool true)) [] := by
  have c := F_in_range_int i (-1000000000000000000000000000000) 1000000000000000000000000000000
  rw [decide_eq_true h, decide_eq_true h2] at c
  walk_at "fn"
  unfold d_is_entry
  walk_at "run"
theorem boolsOf_true (k : Nat) : boolsOf (List.replicate k (PyData.bool true)) = some (List.replicate k true) := by
  rw [← List.map_replicate, boolsOf_map]
theorem all_rep (k : Nat) : (List.replicate k true).all id = true := by
  rw [List.all_eq_true]
  intro x hx
  rw [(List.mem_replicate.mp hx).2]; rfl
end SP
end

section
set_option Elab.async false
set_option linter.all false
set_option maxHeartbeats 1000000
open PySem L2 DL
namespace SP
theorem F_require_rounds_ok {i a b : Int} (h : a ≤ i) (h2 : i ≤ b) : F_require_rounds [.sh (.int i), .sh (.int a), .sh (.int b)] = .ret (.sh .none) [] := by
  have c := F_in_range_int i a b
  rw [decide_eq_true h, decide_eq_true h2] at c
  walk_at "fnn"
  unfold d_require_rounds
  walk_at "run"
end SP
end

section
set_option Elab.async false
set_option linter.all false
set_option maxHeartbeats 1000000
open PySem L2 DL
namespace SP
/-! ### long rows: blocks, merged -/
variable {B R : List Run}
structure Blk (p : Run) : Prop where
  ent : InE p.1
  pos : 1 ≤ p.2
  most : p.2 ≤ 10000000000000000000000000000
theorem F_block {p : Run} (h : Blk p) : F_is_block [.sh (rD p)] = .ret (.sh (.bool true)) [] := by
  obtain ⟨e, k⟩ := p
  have c1 := F_is_entry_ok h.ent.1 h.ent.2
  have c2 := F_in_range_int (k : Int) 1 10000000000000000000000000000
  have h1 := h.pos
  have h2 := h.most
  have h1 : 1 ≤ k := h1
  have h2 : k ≤ 10000000000000000000000000000 := h2
  rw [decide_eq_true (by omega : (1 : Int) ≤ (k : Int)), decide_eq_true (by omega : (k : Int) ≤ 10000000000000000000000000000)] at c2
  have c1 : F_is_entry [.sh (.int e)] = .ret (.sh (.bool true)) [] := c1
  show F_is_block [.sh (.tuple [.int e, .int (k : Int)])] = _
  refine fn_rt (ρ1 := [.sh (.tuple [.int e, .int (k : Int)])]) (ρ2 := [.sh (.tuple [.int e, .int (k : Int)])]) rfl ?_ rfl
  unfold d_is_block
  clear h h1 h2
  generalize (k : Int) = K at *
  walk_at "run"
theorem F_isblocks_ok (h : ∀ p ∈ B, Blk p) (h1 : 1 ≤ B.length) (h2 : B.length ≤ 200) : F_is_blocks [.sh (.tuple (rDs B))] = .ret (.sh (.bool true)) [] := by
  have hl : (rDs B).length = B.length := List.length_map ..
  have hc : dLC (iSeq (dVar 0)) (gtName 1) dYes (dCall SP.F_is_block [(true, dVar 1)]) [1] [.sh (.tuple (rDs B)), .no] = .ok (.fr (List.replicate B.length (.bool true))) [.sh (.tuple (rDs B)), .no] := by
    have e : (rDs B).map (fun _ => PyData.bool true) = List.replicate B.length (.bool true) := by
      rw [List.eq_replicate_iff]
      exact ⟨by rw [List.length_map, hl], fun d hd => by obtain ⟨_, _, rfl⟩ := List.mem_map.mp hd; rfl⟩
    rw [← e]
    refine lc_map _ (by walk_at "run") rfl rfl (by rw [hl]; omega) fun d hd => ?_
    obtain ⟨p, hp, rfl⟩ := List.mem_map.mp hd
    have c := F_block (h p hp)
    refine ⟨[.sh (.tuple (rDs B)), .sh (rD p)], by walk_at "run", ?_, rfl⟩
    rw [e_mbind, call_1 (d := dVar 1) (m := true) (var_sh rfl) c]; rfl
  have ha : f_all [.list (List.replicate B.length (.bool true))] = some (.val (.bool true)) := by
    show (boolsOf _).bind _ = _
    rw [boolsOf_true]
    show ok (.bool ((List.replicate B.length true).all id)) = _
    rw [all_rep]; rfl
  refine fn_rt (ρ1 := [.sh (.tuple (rDs B)), .no]) (ρ2 := [.sh (.tuple (rDs B)), .no]) rfl ?_ rfl
  unfold d_is_blocks
  have g1 : (1 : Int) ≤ (B.length : Int) := by omega
  have g2 : (B.length : Int) ≤ 200 := by omega
  generalize B.length = m at *
  generalize rDs B = b at *
  walk_at "run"
theorem F_blocks_ok (h : ∀ p ∈ B, Blk p) (h1 : 1 ≤ B.length) (h2 : B.length ≤ 200) : F_require_blocks [.sh (.tuple (rDs B))] = .ret (.sh .none) [] := by
  have hb := F_isblocks_ok h h1 h2
  refine fn_nx (ρ1 := [.sh (.tuple (rDs B))]) (ρ2 := [.sh (.tuple (rDs B))]) rfl ?_ rfl
  unfold d_require_blocks
  generalize rDs B = b at *
  walk_at "run"
theorem merged_step {z0 z2 z3 : Sl} {S : List Run} {e : Int} {c : Nat} (hS : ∀ p ∈ S, InE p.1 ∧ p.2 ≤ 1000000) (hl : S.length < 100000) : b_merged_1 [z0, .ow (rDs S.reverse), .sh (.int e), .sh (.int (c : Int))] = .nx [z0, .ow (rDs (mst S (e, c)).reverse), .sh (.int e), .sh (.int (c : Int))] := by
  cases S with
  | nil =>
    have hne : f_ne (.list []) (.list []) = some (.val (.bool false)) := rfl
    show b_merged_1 [z0, .ow [], .sh (.int e), .sh (.int (c : Int))] = .nx [z0, .ow ([] ++ [.tuple [.int e, .int (c : Int)]]), .sh (.int e), .sh (.int (c : Int))]
    have l0 : ([] : List PyData).length < 100000 := by decide
    unfold b_merged_1
    generalize (c : Int) = C at *
    walk_at "run"
  | cons q l =>
    obtain ⟨a, k⟩ := q
    have hne := rDs_ne (R := ((a, k) :: l).reverse) fun p hp => hS p (List.mem_reverse.mp hp)
    have e0 : rDs ((a, k) :: l).reverse = rDs l.reverse ++ [.tuple [.int a, .int (k : Int)]] := by
      unfold rDs
      rw [List.reverse_cons, List.map_append]; rfl
    rw [e0] at hne ⊢
    have e1 : (!(rDs l.reverse ++ [PyData.tuple [.int a, .int (k : Int)]]).isEmpty) = true := by simp
    rw [e1] at hne
    have hat : atI (rDs l.reverse ++ [PyData.tuple [.int a, .int (k : Int)]]) (-1) = some (.tuple [.int a, .int (k : Int)]) := atI_last
    have ll : (rDs l.reverse).length = l.length := by rw [List.length_map, List.length_reverse]
    rw [List.length_cons] at hl
    by_cases g : a = e
    · subst g
      have e2 : rDs (mst ((a, k) :: l) (a, c)).reverse = rDs l.reverse ++ [.tuple [.int a, .int ((k : Int) + (c : Int))]] := by
        have : mst ((a, k) :: l) (a, c) = (a, k + c) :: l := by unfold mst; simp
        rw [this]
        unfold rDs
        rw [List.reverse_cons, List.map_append]; rfl
      rw [e2]
      have hix : ixN (rDs l.reverse ++ [PyData.tuple [.int a, .int (k : Int)]]).length (-1) = some (rDs l.reverse).length := by
        unfold ixN
        rw [List.length_append]
        show (if (0 : Int) ≤ -1 then _ else _) = _
        rw [if_neg (by decide)]
        have h1 : ([PyData.tuple [.int a, .int (k : Int)]] : List PyData).length = 1 := rfl
        rw [h1]
        have h2 : -(((rDs l.reverse).length + 1 : Nat) : Int) ≤ -1 := by omega
        rw [if_pos h2]
        congr 1
        omega
      have hset : (rDs l.reverse ++ [PyData.tuple [.int a, .int (k : Int)]]).set (rDs l.reverse).length (.tuple [.int a, .int ((k : Int) + (c : Int))]) = rDs l.reverse ++ [.tuple [.int a, .int ((k : Int) + (c : Int))]] := by
        rw [List.set_append_right _ _ (Nat.le_refl _), Nat.sub_self]; rfl
      unfold b_merged_1
      clear hS e0 e1 e2 ll
      generalize rDs l.reverse = L at *
      generalize (k : Int) = K at *
      generalize (c : Int) = C at *
      walk_at "run"
    · have e2 : rDs (mst ((a, k) :: l) (e, c)).reverse = rDs l.reverse ++ [.tuple [.int a, .int (k : Int)]] ++ [.tuple [.int e, .int (c : Int)]] := by
        have : mst ((a, k) :: l) (e, c) = (e, c) :: (a, k) :: l := by
          simp [mst, g]
        rw [this]
        unfold rDs
        rw [List.reverse_cons, List.reverse_cons, List.map_append, List.map_append]; rfl
      rw [e2]
      have hlen : (rDs l.reverse ++ [PyData.tuple [.int a, .int (k : Int)]]).length < 100000 := by
        rw [List.length_append, ll]; show l.length + 1 < _; omega
      unfold b_merged_1
      clear hS e0 e1 e2 ll hl
      generalize rDs l.reverse = L at *
      generalize (k : Int) = K at *
      generalize (c : Int) = C at *
      walk_at "run"
theorem foldl_take {α β : Type} (f : β → α → β) (b : β) (l : List α) (i : Nat) (h : i < l.length) : (l.take (i + 1)).foldl f b = f ((l.take i).foldl f b) l[i] := by
  rw [List.take_add_one, List.getElem?_eq_getElem h, List.foldl_append]; rfl
theorem mrg_take (h : Rok B) (i : Nat) : (∀ p ∈ (B.take i).foldl mst [], InE p.1 ∧ p.2 ≤ 1000000) ∧ ((B.take i).foldl mst []).length ≤ 1000 := by
  have e0 : exL B = exL (B.take i) ++ exL (B.drop i) := by rw [← exL_app, List.take_append_drop]
  have hB : Rok (B.take i) := ⟨fun p hp => h.ent p (List.mem_of_mem_take hp), fun p hp => h.pos p (List.mem_of_mem_take hp), by
    have := h.len
    rw [e0, List.length_append] at this
    omega⟩
  have hm := hB.mrg
  have e1 : mrg (B.take i) = ((B.take i).foldl mst []).reverse := rfl
  refine ⟨fun p hp => hm.sm p (by rw [e1]; exact List.mem_reverse.mpr hp), ?_⟩
  have := len_le hm.pos
  have := hm.len
  rw [e1, List.length_reverse] at *
  omega
theorem merged_loop {z0 z0' z2 z3 : Sl} (n2 : NB z2) (n3 : NB z3) (h : Rok B) (hm : iSeq (dVar 0) [z0, .ow [], z2, z3] = .ok (rDs B) [z0', .ow [], z2, z3]) : ∃ y2 y3, sFor (iSeq (dVar 0)) (gtTup (gtCons (gtName 2) (gtCons (gtName 3) gtNil)) 2) b_merged_1 [z0, .ow [], z2, z3] = .nx [z0', .ow (rDs (mrg B)), y2, y3] := by
  obtain ⟨ρ2, e, y2, y3, _, _, rfl⟩ := for_run (g := gtTup (gtCons (gtName 2) (gtCons (gtName 3) gtNil)) 2) (b := b_merged_1) (hm := hm)
    (R := fun i ρ => ∃ y2 y3, NB y2 ∧ NB y3 ∧ ρ = [z0', .ow (rDs ((B.take i).foldl mst []).reverse), y2, y3]) (r := ⟨z2, z3, n2, n3, rfl⟩)
    (h := by
      rintro i d ρ hd ⟨y2, y3, m2, m3, rfl⟩
      have hi : i < B.length := by
        have := (List.getElem?_eq_some_iff.mp hd).1
        rwa [List.length_map] at this
      have ed : d = .tuple [.int B[i].1, .int (B[i].2 : Int)] := by
        rw [List.getElem?_map, List.getElem?_eq_getElem hi] at hd
        exact (Option.some.inj hd).symm
      subst ed
      obtain ⟨q1, q2⟩ := mrg_take h i
      have c := merged_step (z0 := z0') (z2 := y2) (z3 := y3) (S := (B.take i).foldl mst []) (e := B[i].1) (c := B[i].2) q1 (by omega)
      rw [show ((B[i].1, B[i].2) : Run) = B[i] from rfl, ← foldl_take mst [] B i hi] at c
      refine ⟨[z0', .ow (rDs ((B.take i).foldl mst []).reverse), .sh (.int B[i].1), .sh (.int (B[i].2 : Int))], _, ?_, c, .sh (.int B[i].1), .sh (.int (B[i].2 : Int)), rfl, rfl, rfl⟩
      clear c q1 q2 hd hm
      generalize rDs ((B.take i).foldl mst []).reverse = L at *
      generalize B[i].1 = x at *
      generalize (B[i].2 : Int) = y at *
      walk_at "run")
  refine ⟨y2, y3, ?_⟩
  rw [e]
  congr 4
  rw [List.length_map, List.take_length]
  rfl
theorem F_merged_run (h : Rok B) : F_merged [.sh (.tuple (rDs B))] = .ret (.fr (rDs (mrg B))) [] := by
  obtain ⟨y2, y3, e⟩ := merged_loop (z0 := .sh (.tuple (rDs B))) (z0' := .sh (.tuple (rDs B))) (z2 := .no) (z3 := .no) rfl rfl h (by
    generalize rDs B = b at *
    walk_at "run")
  refine fn_rt (ρ1 := [.sh (.tuple (rDs B)), .no, .no, .no]) (ρ2 := [.sh (.tuple (rDs B)), .no, y2, y3]) rfl ?_ rfl
  unfold d_merged
  generalize rDs (mrg B) = M at *
  generalize rDs B = b at *
  walk_at "run"
theorem F_merged_runL (h : Rok B) : F_merged [.sh (.list (rDs B))] = .ret (.fr (rDs (mrg B))) [] := by
  obtain ⟨y2, y3, e⟩ := merged_loop (z0 := .sh (.list (rDs B))) (z0' := .sh (.list (rDs B))) (z2 := .no) (z3 := .no) rfl rfl h (by
    generalize rDs B = b at *
    walk_at "run")
  refine fn_rt (ρ1 := [.sh (.list (rDs B)), .no, .no, .no]) (ρ2 := [.sh (.list (rDs B)), .no, y2, y3]) rfl ?_ rfl
  unfold d_merged
  generalize rDs (mrg B) = M at *
  generalize rDs B = b at *
  walk_at "run"
end SP
end

section
set_option Elab.async false
set_option linter.all false
set_option maxHeartbeats 1000000
open PySem L2 DL
namespace SP
/-! ### one round of runs -/
variable {B R : List Run} {n : Nat}
/-- what the stack may be -/
structure Sk (n : Nat) (s : List Run) : Prop where
  ent : ∀ p ∈ s, InE p.1
  len : (exL s).length ≤ n
theorem Sk.sm {n : Nat} {s : List Run} (h : Sk n s) (hn : n ≤ 1000) : ∀ p ∈ s, InE p.1 ∧ p.2 ≤ 1000000 := fun p hp => ⟨h.ent p hp, by have := cnt_le hp; have := h.len; omega⟩
theorem exL_cons (q : Run) (l : List Run) : (exL (q :: l)).length = q.2 + (exL l).length := by
  show (List.replicate q.2 q.1 ++ exL l).length = _
  rw [List.length_append, List.length_replicate]
theorem pop_loopL {z0 z3 : Sl} {fd s : List Run} {e c : Int} (hs : Sk 1000 s) (hl : s.length ≤ 1000) :
    sWhile 100000 c_round_of_runs_1 b_round_of_runs_2 [z0, .ow (rDs fd), .ow (rDs s.reverse), .sh (.int e), .sh (.int c), .sh (.int 0)] = .nx [z0, .ow (rDs fd), .ow (rDs (popW e 0 s).2.reverse), .sh (.int e), .sh (.int c), .sh (.int ((popW e 0 s).1 : Int))] := by
  obtain ⟨⟨cov, s'⟩, h1, ⟨h2, h3⟩, h4⟩ := while_s (S := Nat × List Run) (n := 100000) (c := c_round_of_runs_1) (b := b_round_of_runs_2)
    (fun x => [z0, .ow (rDs fd), .ow (rDs x.2.reverse), .sh (.int e), .sh (.int c), .sh (.int (x.1 : Int))])
    (fun x => Sk 1000 x.2 ∧ popW e x.1 x.2 = popW e 0 s) (fun x => match x.2 with | [] => false | q :: _ => decide (q.1 < e)) (fun x => match x.2 with | [] => x | q :: l => (x.1 + q.2, l)) (fun x => x.2.length) (0, s) ⟨hs, rfl⟩ (by show s.length < 100000; omega)
    (by
      rintro ⟨cov, t⟩ ⟨h1, h2⟩
      cases t with
      | nil =>
        have hne : f_ne (.list []) (.list []) = some (.val (.bool false)) := rfl
        show tst c_round_of_runs_1 [z0, .ow (rDs fd), .ow [], .sh (.int e), .sh (.int c), .sh (.int (cov : Int))] = .ok false [z0, .ow (rDs fd), .ow [], .sh (.int e), .sh (.int c), .sh (.int (cov : Int))]
        unfold c_round_of_runs_1
        generalize rDs fd = F at *
        generalize (cov : Int) = C at *
        walk_at "run"
      | cons q l =>
        obtain ⟨a, k⟩ := q
        have hne := rDs_ne (R := ((a, k) :: l).reverse) fun p hp => h1.sm (Nat.le_refl _) p (List.mem_reverse.mp hp)
        have e0 : rDs ((a, k) :: l).reverse = rDs l.reverse ++ [.tuple [.int a, .int (k : Int)]] := by
          unfold rDs
          rw [List.reverse_cons, List.map_append]; rfl
        show tst c_round_of_runs_1 [z0, .ow (rDs fd), .ow (rDs ((a, k) :: l).reverse), .sh (.int e), .sh (.int c), .sh (.int (cov : Int))] = .ok (decide (a < e)) [z0, .ow (rDs fd), .ow (rDs ((a, k) :: l).reverse), .sh (.int e), .sh (.int c), .sh (.int (cov : Int))]
        rw [e0] at hne ⊢
        have e1 : (!(rDs l.reverse ++ [PyData.tuple [.int a, .int (k : Int)]]).isEmpty) = true := by simp
        rw [e1] at hne
        have hat : atI (rDs l.reverse ++ [PyData.tuple [.int a, .int (k : Int)]]) (-1) = some (.tuple [.int a, .int (k : Int)]) := atI_last
        unfold c_round_of_runs_1
        clear h1 h2 e0 e1
        generalize rDs l.reverse = L at *
        generalize rDs fd = F at *
        generalize (cov : Int) = C at *
        generalize (k : Int) = K at *
        walk_at "run")
    (by
      rintro ⟨cov, t⟩ ⟨h1, h2⟩ hc
      cases t with
      | nil => cases hc
      | cons q l =>
        obtain ⟨a, k⟩ := q
        have hc : a < e := of_decide_eq_true hc
        have ec := exL_cons (a, k) l
        have hp : popW e cov ((a, k) :: l) = popW e (cov + k) l := by simp [popW, hc]
        refine ⟨.inl ?_, ⟨⟨fun p hp => h1.ent p (List.mem_cons_of_mem _ hp), by have := h1.len; rw [ec] at this; show (exL l).length ≤ 1000; have this : k + (exL l).length ≤ 1000 := this; omega⟩, by show popW e (cov + k) l = _; rw [← hp]; exact h2⟩, by show l.length < l.length + 1; omega⟩
        have e0 : rDs ((a, k) :: l).reverse = rDs l.reverse ++ [.tuple [.int a, .int (k : Int)]] := by
          unfold rDs
          rw [List.reverse_cons, List.map_append]; rfl
        show b_round_of_runs_2 [z0, .ow (rDs fd), .ow (rDs ((a, k) :: l).reverse), .sh (.int e), .sh (.int c), .sh (.int (cov : Int))] = .nx [z0, .ow (rDs fd), .ow (rDs l.reverse), .sh (.int e), .sh (.int c), .sh (.int ((cov + k : Nat) : Int))]
        rw [e0, show ((cov + k : Nat) : Int) = (cov : Int) + (k : Int) by omega]
        unfold b_round_of_runs_2
        clear h1 h2 e0 hp ec
        generalize rDs l.reverse = L at *
        generalize rDs fd = F at *
        generalize (cov : Int) = C at *
        generalize (k : Int) = K at *
        walk_at "run")
  have fin : popW e cov s' = (cov, s') := by
    cases s' with
    | nil => rfl
    | cons q l =>
      have h4 : ¬ q.1 < e := of_decide_eq_false h4
      simp [popW, h4]
  have fin2 : popW e 0 s = (cov, s') := by rw [← h3]; exact fin
  rw [fin2]
  exact h1
theorem round_step {z0 z5 : Sl} (n5 : NB z5) {fd s : List Run} {e : Int} {c : Nat} (hs : Sk 1000 s) (hl : s.length ≤ 1000) (hf : fd.length ≤ 10000) :
    b_round_of_runs_3 [z0, .ow (rDs fd), .ow (rDs s.reverse), .sh (.int e), .sh (.int (c : Int)), z5] = .nx [z0, .ow (rDs (fd ++ rfd (e, c) s)), .ow (rDs (rst (e, c) s).reverse), .sh (.int e), .sh (.int (c : Int)), .sh (.int ((popW e 0 s).1 : Int))] := by
  have y2 := pop_loopL (z0 := z0) (z3 := z0) (fd := fd) (e := e) (c := (c : Int)) hs hl
  have pl := (popW_len e s 0).2.1
  have lf : (rDs fd).length ≤ 10000 := by rw [List.length_map]; exact hf
  obtain ⟨w, s', hp⟩ : ∃ w s', popW e 0 s = (w, s') := ⟨_, _, rfl⟩
  have e1 : rDs (rst (e, c) s).reverse = rDs s'.reverse ++ [.tuple [.int e, .int ((w : Int) + (c : Int))]] := by
    unfold rst rDs
    show List.map rD ((e, (popW e 0 s).1 + c) :: (popW e 0 s).2).reverse = _
    rw [hp, List.reverse_cons, List.map_append]
    rfl
  have e2 : rDs (fd ++ rfd (e, c) s) = rDs fd ++ [.tuple [.int ((w : Int) + 1), .int 1]] ++ (if 1 < c then [.tuple [.int 1, .int ((c : Int) - 1)]] else []) := by
    unfold rfd rDs
    show List.map rD (fd ++ ((((popW e 0 s).1 + 1 : Nat) : Int), 1) :: (if 1 < c then [(1, c - 1)] else [])) = _
    rw [hp, List.map_append, List.append_assoc]
    congr 1
    show rD (((w + 1 : Nat) : Int), 1) :: List.map rD (if 1 < c then [(1, c - 1)] else []) = _
    by_cases g : 1 < c
    · rw [if_pos g, if_pos g]
      show [PyData.tuple [.int ((w + 1 : Nat) : Int), .int 1], .tuple [.int 1, .int ((c - 1 : Nat) : Int)]] = [PyData.tuple [.int ((w : Int) + 1), .int 1], .tuple [.int 1, .int ((c : Int) - 1)]]
      rw [show ((c - 1 : Nat) : Int) = (c : Int) - 1 by omega, show ((w + 1 : Nat) : Int) = (w : Int) + 1 by omega]
    · rw [if_neg g, if_neg g]
      show [PyData.tuple [.int ((w + 1 : Nat) : Int), .int 1]] = [PyData.tuple [.int ((w : Int) + 1), .int 1]]
      rw [show ((w + 1 : Nat) : Int) = (w : Int) + 1 by omega]
  rw [e1, e2]
  rw [hp] at y2 pl ⊢
  have ls : (rDs s'.reverse).length ≤ 1000 := by rw [List.length_map, List.length_reverse]; exact Nat.le_trans pl hl
  have y2 : sWhile 100000 c_round_of_runs_1 b_round_of_runs_2 [z0, .ow (rDs fd), .ow (rDs s.reverse), .sh (.int e), .sh (.int (c : Int)), .sh (.int 0)] = .nx [z0, .ow (rDs fd), .ow (rDs s'.reverse), .sh (.int e), .sh (.int (c : Int)), .sh (.int (w : Int))] := y2
  show _ = SOut.nx [z0, .ow (rDs fd ++ [.tuple [.int ((w : Int) + 1), .int 1]] ++ (if 1 < c then [.tuple [.int 1, .int ((c : Int) - 1)]] else [])), .ow (rDs s'.reverse ++ [.tuple [.int e, .int ((w : Int) + (c : Int))]]), .sh (.int e), .sh (.int (c : Int)), .sh (.int (w : Int))]
  clear e1 e2 hp pl hs hl
  generalize rDs s'.reverse = S' at *
  generalize rDs s.reverse = S at *
  generalize rDs fd = F at *
  have y1 : sAsg (dC (.int 0)) (gtName 5) [z0, .ow F, .ow S, .sh (.int e), .sh (.int (c : Int)), z5] = .nx [z0, .ow F, .ow S, .sh (.int e), .sh (.int (c : Int)), .sh (.int 0)] := by
    clear y2
    walk_at "run"
  have l1 : F.length < 100000 := by omega
  have l2 : S'.length < 100000 := by omega
  have l3 : (F ++ [PyData.tuple [.int ((w : Int) + 1), .int 1]]).length < 100000 := by rw [List.length_append]; show F.length + 1 < _; omega
  have y3 : sDrop (dMutM 2 [dTup [dVar 3, dOp2 f_add (dVar 5) (dVar 4)]] f_append) [z0, .ow F, .ow S', .sh (.int e), .sh (.int (c : Int)), .sh (.int (w : Int))] = .nx [z0, .ow F, .ow (S' ++ [.tuple [.int e, .int ((w : Int) + (c : Int))]]), .sh (.int e), .sh (.int (c : Int)), .sh (.int (w : Int))] := by
    clear y1 y2
    generalize (w : Int) = W at *
    generalize (c : Int) = C at *
    walk_at "run"
  have y4 : sDrop (dMutM 1 [dTup [dOp2 f_add (dVar 5) (dC (.int 1)), dC (.int 1)]] f_append) [z0, .ow F, .ow (S' ++ [.tuple [.int e, .int ((w : Int) + (c : Int))]]), .sh (.int e), .sh (.int (c : Int)), .sh (.int (w : Int))] = .nx [z0, .ow (F ++ [.tuple [.int ((w : Int) + 1), .int 1]]), .ow (S' ++ [.tuple [.int e, .int ((w : Int) + (c : Int))]]), .sh (.int e), .sh (.int (c : Int)), .sh (.int (w : Int))] := by
    clear y1 y2 y3
    generalize (w : Int) = W at *
    generalize (c : Int) = C at *
    walk_at "run"
  unfold b_round_of_runs_3
  refine w_seqN y1 (w_seqN y2 (w_seqN y3 (w_seqN y4 ?_)))
  clear y1 y2 y3 y4
  generalize S' ++ [PyData.tuple [.int e, .int ((w : Int) + (c : Int))]] = S2 at *
  generalize F ++ [PyData.tuple [.int ((w : Int) + 1), .int 1]] = F2 at *
  by_cases g : 1 < c
  · rw [if_pos g]
    have g2 : (c : Int) > 1 := by omega
    generalize (c : Int) = C at *
    generalize (w : Int) = W at *
    walk_at "run"
  · rw [if_neg g, List.append_nil]
    have g2 : ¬ (c : Int) > 1 := by omega
    generalize (c : Int) = C at *
    generalize (w : Int) = W at *
    walk_at "run"
theorem Sk.rst {s : List Run} {p : Run} (h : Sk n s) (he : InE p.1) : Sk (n + p.2) (rst p s) := by
  obtain ⟨h1, h2, h3⟩ := popW_len p.1 s 0
  refine ⟨fun q hq => ?_, ?_⟩
  · rcases List.mem_cons.mp hq with rfl | hq
    · exact he
    · exact h.ent q (h3 q hq)
  · have := exL_cons (p.1, (popW p.1 0 s).1 + p.2) (popW p.1 0 s).2
    have l := h.len
    show (exL ((p.1, (popW p.1 0 s).1 + p.2) :: (popW p.1 0 s).2)).length ≤ _
    rw [this]
    show (popW p.1 0 s).1 + p.2 + _ ≤ _
    omega
theorem F_round (h : Rok R) : F_round_of_runs [.sh (.list (rDs R))] = .ret (.fr (rDs (mrg (rnd R)))) [] := by
  have hlen := len_le h.pos
  have hl := h.len
  have hm : iSeq (dVar 0) [.sh (.list (rDs R)), .ow [], .ow [], .no, .no, .no] = .ok (rDs R) [.sh (.list (rDs R)), .ow [], .ow [], .no, .no, .no] := by
    generalize rDs R = b at *
    walk_at "run"
  obtain ⟨ρ2, e, fd, s, y3, y4, y5, q1, q2, q3, q4, n3, n4, n5, rfl⟩ := for_run (g := gtTup (gtCons (gtName 3) (gtCons (gtName 4) gtNil)) 2) (b := b_round_of_runs_3) (hm := hm)
    (R := fun i ρ => ∃ fd s y3 y4 y5, fd ++ rgo s (R.drop i) = rnd R ∧ Sk (exL (R.take i)).length s ∧ s.length ≤ i ∧ fd.length ≤ 2 * i ∧ NB y3 ∧ NB y4 ∧ NB y5 ∧ ρ = [.sh (.list (rDs R)), .ow (rDs fd), .ow (rDs s.reverse), y3, y4, y5])
    (r := ⟨[], [], .no, .no, .no, rfl, ⟨fun p h => (List.not_mem_nil h).elim, Nat.zero_le _⟩, Nat.le_refl _, Nat.le_refl _, rfl, rfl, rfl, rfl⟩)
    (h := by
      rintro i d ρ hd ⟨fd, s, y3, y4, y5, q1, q2, q3, q4, n3, n4, n5, rfl⟩
      have hi : i < R.length := by
        have := (List.getElem?_eq_some_iff.mp hd).1
        rwa [List.length_map] at this
      have ed : d = .tuple [.int R[i].1, .int (R[i].2 : Int)] := by
        rw [List.getElem?_map, List.getElem?_eq_getElem hi] at hd
        exact (Option.some.inj hd).symm
      subst ed
      have et : (exL (R.take (i + 1))).length = (exL (R.take i)).length + R[i].2 := by
        rw [List.take_add_one, List.getElem?_eq_getElem hi, exL_app, List.length_append]
        congr 1
        exact exL_len_one (e := R[i].1)
      have el : (exL (R.take (i + 1))).length ≤ 1000 := by
        have e0 : exL R = exL (R.take (i + 1)) ++ exL (R.drop (i + 1)) := by rw [← exL_app, List.take_append_drop]
        rw [e0, List.length_append] at hl
        omega
      have c := round_step (z0 := .sh (.list (rDs R))) n5 (fd := fd) (s := s) (e := R[i].1) (c := R[i].2) ⟨q2.ent, by have := q2.len; omega⟩ (by omega) (by omega)
      rw [show ((R[i].1, R[i].2) : Run) = R[i] from rfl] at c
      have lr : (rfd R[i] s).length ≤ 2 := by unfold rfd; split <;> simp
      have lst : (rst R[i] s).length ≤ s.length + 1 := by
        have := (popW_len R[i].1 s 0).2.1
        show ((popW R[i].1 0 s).2).length + 1 ≤ _
        omega
      refine ⟨[.sh (.list (rDs R)), .ow (rDs fd), .ow (rDs s.reverse), .sh (.int R[i].1), .sh (.int (R[i].2 : Int)), y5], _, ?_, c, fd ++ rfd R[i] s, rst R[i] s, .sh (.int R[i].1), .sh (.int (R[i].2 : Int)), .sh (.int ((popW R[i].1 0 s).1 : Int)), ?_, ?_, by omega, by rw [List.length_append]; omega, rfl, rfl, rfl, rfl⟩
      · clear c hd hm
        generalize rDs fd = F at *
        generalize rDs s.reverse = S at *
        generalize rDs R = RR at *
        generalize R[i].1 = x at *
        generalize (R[i].2 : Int) = y at *
        walk_at "run"
      · rw [← q1, List.drop_eq_getElem_cons hi, List.append_assoc]
        rfl
      · rw [et]
        exact q2.rst (h.ent _ (List.getElem_mem hi)))
  rw [List.length_map, List.drop_length] at q1
  have q1 : fd = rnd R := by rw [← q1]; show fd = fd ++ []; rw [List.append_nil]
  subst q1
  have c := F_merged_runL h.rnd
  refine fn_rt (ρ1 := [.sh (.list (rDs R)), .no, .no, .no, .no, .no]) (ρ2 := [.sh (.list (rDs R)), .sh (.list (rDs (rnd R))), .ow (rDs s.reverse), y3, y4, y5]) rfl ?_ rfl
  unfold d_round_of_runs
  clear hm
  generalize rDs (mrg (rnd R)) = M at *
  generalize rDs (rnd R) = F at *
  generalize rDs s.reverse = S at *
  generalize rDs R = b at *
  walk_at "run"
end SP
end

section
set_option Elab.async false
set_option linter.all false
set_option maxHeartbeats 1000000
open PySem L2 DL
namespace SP
/-! ### rounds of runs -/
variable {B R : List Run} {n T : Nat}
theorem F_settled {k : Int} (h : Rok B) (N : Need one (xf B) (exL B).length T) (h0 : 0 ≤ k) : F_settled_runs [.sh (.list (rDs (mrg B))), .sh (.int k)] = .ret (.sh (.tuple [.list (rDs (RS B (min k.toNat T))), .int ((min k.toNat T : Nat) : Int)])) [] := by
  have hT := N.le one_pos
  have hn := h.len
  obtain ⟨K, rfl⟩ : ∃ K : Nat, k = (K : Int) := ⟨k.toNat, by omega⟩
  rw [Int.toNat_natCast]
  obtain ⟨M, hM⟩ : ∃ M, M = min K T := ⟨_, rfl⟩
  rw [← hM]
  have hw : ∃ z3, sWhile 100000 c_settled_runs_1 b_settled_runs_2 [.sh (.list (rDs (RS B 0))), .sh (.int (K : Int)), .sh (.int ((0 : Nat) : Int)), .no] = .nx [.sh (.list (rDs (RS B M))), .sh (.int (K : Int)), .sh (.int (M : Int)), z3] := by
    refine while_run (Z := fun o => ∃ z3, o = .nx [.sh (.list (rDs (RS B M))), .sh (.int (K : Int)), .sh (.int (M : Int)), z3])
      (fun κ ρ => ∃ (t : Nat) (z3 : Sl), NB z3 ∧ κ + t = T ∧ t ≤ K ∧ ρ = [.sh (.list (rDs (RS B t))), .sh (.int (K : Int)), .sh (.int (t : Int)), z3]) (k := T) ⟨0, .no, rfl, by omega, by omega, rfl⟩ (by omega) ?_
    rintro κ ρ ⟨t, z3, n3, hk, ht, rfl⟩
    refine ⟨decide ((t : Int) < (K : Int)), [.sh (.list (rDs (RS B t))), .sh (.int (K : Int)), .sh (.int (t : Int)), z3], ?_, ?_⟩
    · unfold c_settled_runs_1
      generalize rDs (RS B t) = L at *
      walk_at "run"
    · by_cases c : (t : Int) < (K : Int)
      · rw [decide_eq_true c]
        have c1 := F_round (h.rs t)
        have c1 : F_round_of_runs [.sh (.list (rDs (RS B t)))] = .ret (.fr (rDs (RS B (t + 1)))) [] := c1
        have e1 := rDs_eq (a := RS B (t + 1)) (b := RS B t) (h.rs (t + 1)).sm (h.rs t).sm
        by_cases g : RS B (t + 1) = RS B t
        · rw [decide_eq_true g] at e1
          have tT : t = T := by
            rcases Nat.lt_or_ge t T with z | z
            · exact absurd ((RS_eq h t).mp g) (N.moves t z)
            · omega
          have eM : M = t := by rw [hM]; omega
          refine ⟨[.sh (.list (rDs (RS B t))), .sh (.int (K : Int)), .sh (.int (t : Int)), .ow (rDs (RS B (t + 1)))], .inr (.inl ⟨?_, .ow (rDs (RS B (t + 1))), by rw [eM]⟩)⟩
          unfold b_settled_runs_2
          clear g
          generalize rDs (RS B (t + 1)) = L2 at *
          generalize rDs (RS B t) = L at *
          walk_at "run"
        · rw [decide_eq_false g] at e1
          have tT : t < T := by
            rcases Nat.lt_or_ge t T with z | z
            · exact z
            · have : t = T := by omega
              subst this
              exact absurd ((RS_eq h t).mpr N.rests) g
          refine ⟨[.sh (.list (rDs (RS B (t + 1)))), .sh (.int (K : Int)), .sh (.int ((t + 1 : Nat) : Int)), .sh (.list (rDs (RS B (t + 1))))], .inl ⟨.inl ?_, T - (t + 1), by omega, t + 1, .sh (.list (rDs (RS B (t + 1)))), rfl, by omega, by omega, rfl⟩⟩
          unfold b_settled_runs_2
          rw [show ((t + 1 : Nat) : Int) = (t : Int) + 1 by omega]
          clear g
          generalize rDs (RS B (t + 1)) = L2 at *
          generalize rDs (RS B t) = L at *
          walk_at "run"
      · rw [decide_eq_false c]
        have : M = t := by rw [hM]; omega
        rw [this]
        exact ⟨_, rfl⟩
  obtain ⟨z3, hw⟩ := hw
  have hw : sWhile 100000 c_settled_runs_1 b_settled_runs_2 [.sh (.list (rDs (mrg B))), .sh (.int (K : Int)), .sh (.int 0), .no] = .nx [.sh (.list (rDs (RS B M))), .sh (.int (K : Int)), .sh (.int (M : Int)), z3] := hw
  refine fn_rt (ρ1 := [.sh (.list (rDs (mrg B))), .sh (.int (K : Int)), .no, .no]) (ρ2 := [.sh (.list (rDs (RS B M))), .sh (.int (K : Int)), .sh (.int (M : Int)), z3]) rfl ?_ rfl
  unfold d_settled_runs
  generalize rDs (RS B M) = L2 at *
  generalize rDs (mrg B) = L at *
  walk_at "run"
/-- blocks that a long row may have here -/
structure LB (B : List Run) : Prop where
  blk : ∀ p ∈ B, Blk p
  one : 1 ≤ B.length
  most : B.length ≤ 200
  len : (exL B).length ≤ 1000
theorem LB.rok (h : LB B) : Rok B := ⟨fun p hp => (h.blk p hp).ent, fun p hp => (h.blk p hp).pos, h.len⟩
theorem RS_min (h : Rok B) (N : Need one (xf B) (exL B).length T) (m : Nat) : exL (RS B (min m T)) = RL (wit one m (xf B)) (exL B).length := by
  rw [RS_row h]
  by_cases c : m ≤ T
  · rw [Nat.min_eq_left c]
  · rw [Nat.min_eq_right (by omega)]
    refine RL_ext fun i hi => ?_
    have := N.far (m - T) i hi
    rw [show T + (m - T) = m by omega] at this
    exact this.symm
theorem F_long_after_run {m : Int} (h : LB B) (N : Need one (xf B) (exL B).length T) (h0 : 0 ≤ m) (h1 : m ≤ 1000000000000000000000000000000) : F_long_after [.sh (.tuple (rDs B)), .sh (.int m)] = .ret (.sh (.tuple (rDs (RS B (min m.toNat T))))) [] := by
  have c1 := F_blocks_ok h.blk h.one h.most
  have c2 := F_require_rounds_ok h0 h1
  have c3 := F_merged_run h.rok
  have c4 := F_settled h.rok N h0
  refine fn_rt (ρ1 := [.sh (.tuple (rDs B)), .sh (.int m)]) (ρ2 := [.sh (.tuple (rDs B)), .sh (.int m)]) rfl ?_ rfl
  unfold d_long_after
  generalize ((min m.toNat T : Nat) : Int) = MM at *
  generalize rDs (RS B (min m.toNat T)) = L at *
  generalize rDs (mrg B) = M at *
  generalize rDs B = b at *
  walk_at "run"
theorem F_long_needed_run (h : LB B) (N : Need one (xf B) (exL B).length T) : F_long_needed [.sh (.tuple (rDs B))] = .ret (.sh (.int (T : Int))) [] := by
  have hT := N.le one_pos
  have hn := h.len
  have c1 := F_blocks_ok h.blk h.one h.most
  have c3 := F_merged_run h.rok
  have c4 := F_settled (k := 1000000000000000000000000000000) h.rok N (by decide)
  have e : min (1000000000000000000000000000000 : Int).toNat T = T := Nat.min_eq_right (by
    have : (1000000000000000000000000000000 : Int).toNat = 1000000000000000000000000000000 := rfl
    omega)
  rw [e] at c4
  refine fn_rt (ρ1 := [.sh (.tuple (rDs B))]) (ρ2 := [.sh (.tuple (rDs B))]) rfl ?_ rfl
  unfold d_long_needed
  clear e
  generalize rDs (RS B T) = L at *
  generalize rDs (mrg B) = M at *
  generalize rDs B = b at *
  walk_at "run"
end SP
end

section
set_option Elab.async false
set_option linter.all false
set_option maxHeartbeats 1000000
open PySem L2 DL
namespace SP
variable {B R : List Run} {n T : Nat}
theorem sum_cnt : ∀ B : List Run, (B.map fun q => (q.2 : Int)).sum = (((exL B).length : Nat) : Int)
  | [] => rfl
  | q :: l => by
    rw [List.map_cons, List.sum_cons, sum_cnt l, exL_cons]
    omega
theorem F_long_entry_run {m : Int} {p : Nat} (h : LB B) (N : Need one (xf B) (exL B).length T) (h0 : 0 ≤ m) (h1 : m ≤ 1000000000000000000000000000000) (hp : p < (exL B).length) : F_long_entry [.sh (.tuple (rDs B)), .sh (.int (p : Int)), .sh (.int m)] = .ret (.sh (.int (wit one m.toNat (xf B) p))) [] := by
  have c1 := F_blocks_ok h.blk h.one h.most
  have c2 := F_require_rounds_ok h0 h1
  have c3 := F_merged_run h.rok
  have c4 := F_settled h.rok N h0
  have er := RS_min h.rok N m.toNat
  obtain ⟨X, hX⟩ : ∃ X, X = RS B (min m.toNat T) := ⟨_, rfl⟩
  rw [← hX] at c4 er
  have hx : xf X p = wit one m.toNat (xf B) p := by
    show (exL X).getD p 0 = _
    rw [er]
    unfold RL
    rw [List.getD_eq_getElem?_getD, List.getElem?_map, List.getElem?_range hp]; rfl
  have lX : (exL X).length = (exL B).length := by rw [er, RL_len]
  rw [← hx]
  clear hx
  have c5 := F_in_range_int (p : Int) 0 (((exL B).length : Int) - 1)
  rw [decide_eq_true (by omega : (0 : Int) ≤ (p : Int)), decide_eq_true (by omega : (p : Int) ≤ ((exL B).length : Int) - 1)] at c5
  have hc : dLC (iSeq (dVar 0)) (gtTup (gtCons (gtName 3) (gtCons (gtName 4) gtNil)) 2) dYes (dVar 4) [3, 4] [.sh (.tuple (rDs B)), .sh (.int (p : Int)), .sh (.int m), .no, .no] = .ok (.fr ((B.map fun q => (q.2 : Int)).map .int)) [.sh (.tuple (rDs B)), .sh (.int (p : Int)), .sh (.int m), .no, .no] := by
    have e : (rDs B).map (fun d => match d with | .tuple [_, x] => x | d => d) = (B.map fun q => (q.2 : Int)).map .int := by
      unfold rDs
      rw [List.map_map, List.map_map]; rfl
    rw [← e]
    refine lc_map _ (by generalize rDs B = b at *; walk_at "run") rfl rfl (by rw [List.length_map]; have := h.most; omega) fun d hd => ?_
    obtain ⟨q, hq, rfl⟩ := List.mem_map.mp hd
    refine ⟨[.sh (.tuple (rDs B)), .sh (.int (p : Int)), .sh (.int m), .sh (.int q.1), .sh (.int (q.2 : Int))], ?_, rfl, rfl⟩
    show gtTup (gtCons (gtName 3) (gtCons (gtName 4) gtNil)) 2 (.sh (.tuple [.int q.1, .int (q.2 : Int)])) _ = _
    clear c1 c2 c3 c4 c5 hd e
    generalize rDs B = b at *
    generalize q.1 = x at *
    generalize (q.2 : Int) = y at *
    walk_at "run"
  have hi := intsOf_map (B.map fun q => (q.2 : Int))
  have hs := sum_cnt B
  have y1 : sIf (dNot (dCall SP.F_in_range [(true, dVar 1), (false, dC (.int 0)), (false, dOp2 f_sub (dB f_sum [dLC (iSeq (dVar 0)) (gtTup (gtCons (gtName 3) (gtCons (gtName 4) gtNil)) 2) dYes (dVar 4) [3, 4]]) (dC (.int 1)))])) (sRaise 2) sNil [.sh (.tuple (rDs B)), .sh (.int (p : Int)), .sh (.int m), .no, .no] = .nx [.sh (.tuple (rDs B)), .sh (.int (p : Int)), .sh (.int m), .no, .no] := by
    rw [← hs] at c5
    clear c1 c2 c3 c4 er hX lX hs
    generalize rDs B = b at *
    generalize (B.map fun q => (q.2 : Int)) = l at *
    generalize (p : Int) = P at *
    walk_at "run"
  have hm : iSeq (dOp2 f_ix (dCall SP.F_settled_runs [(false, dCall SP.F_merged [(false, dVar 0)]), (true, dVar 2)]) (dC (.int 0))) [.sh (.tuple (rDs B)), .sh (.int (p : Int)), .sh (.int m), .no, .no] = .ok (rDs X) [.sh (.tuple (rDs B)), .sh (.int (p : Int)), .sh (.int m), .no, .no] := by
    clear c1 c2 c5 hc y1 hi hs
    generalize ((min m.toNat T : Nat) : Int) = MM at *
    generalize rDs X = x at *
    generalize rDs (mrg B) = M at *
    generalize rDs B = b at *
    walk_at "run"
  have y2 : ∃ z1 z4, sFor (iSeq (dOp2 f_ix (dCall SP.F_settled_runs [(false, dCall SP.F_merged [(false, dVar 0)]), (true, dVar 2)]) (dC (.int 0)))) (gtTup (gtCons (gtName 3) (gtCons (gtName 4) gtNil)) 2) b_long_entry_1 [.sh (.tuple (rDs B)), .sh (.int (p : Int)), .sh (.int m), .no, .no] = .nx [.sh (.tuple (rDs B)), z1, .sh (.int m), .sh (.int (xf X p)), z4] := by
    refine for_ret (g := gtTup (gtCons (gtName 3) (gtCons (gtName 4) gtNil)) 2) (b := b_long_entry_1) (hm := hm)
      (fun i ρ => ∃ (j : Nat) (z3 z4 : Sl), j + (exL (X.take i)).length = p ∧ NB z3 ∧ NB z4 ∧ ρ = [.sh (.tuple (rDs B)), .sh (.int (j : Int)), .sh (.int m), z3, z4])
      (fun o => ∃ z1 z4, o = .nx [.sh (.tuple (rDs B)), z1, .sh (.int m), .sh (.int (xf X p)), z4]) ⟨p, .no, .no, rfl, rfl, rfl, rfl⟩ ?_ ?_
    · rintro i d ρ hd ⟨j, z3, z4, hj, n3, n4, rfl⟩
      have hi : i < X.length := by
        have := (List.getElem?_eq_some_iff.mp hd).1
        rwa [List.length_map] at this
      have ed : d = .tuple [.int X[i].1, .int (X[i].2 : Int)] := by
        rw [List.getElem?_map, List.getElem?_eq_getElem hi] at hd
        exact (Option.some.inj hd).symm
      subst ed
      have et : (exL (X.take (i + 1))).length = (exL (X.take i)).length + X[i].2 := by
        rw [List.take_add_one, List.getElem?_eq_getElem hi, exL_app, List.length_append]
        congr 1
        exact exL_len_one (e := X[i].1)
      refine ⟨[.sh (.tuple (rDs B)), .sh (.int (j : Int)), .sh (.int m), .sh (.int X[i].1), .sh (.int (X[i].2 : Int))], ?_, ?_⟩
      · clear c1 c2 c3 c4 c5 hc y1 hm hd
        generalize rDs B = b at *
        generalize X[i].1 = x at *
        generalize (X[i].2 : Int) = y at *
        generalize (j : Int) = J at *
        walk_at "run"
      · by_cases g : j < X[i].2
        · refine .inr (.inr (.inl ⟨[.sh (.tuple (rDs B)), .sh (.int (j : Int)), .sh (.int m), .sh (.int X[i].1), .sh (.int (X[i].2 : Int))], ?_, .sh (.int (j : Int)), .sh (.int (X[i].2 : Int)), ?_⟩))
          · unfold b_long_entry_1
            have g2 : (j : Int) < (X[i].2 : Int) := by omega
            clear c1 c2 c3 c4 c5 hc y1 hm hd
            generalize rDs B = b at *
            generalize X[i].1 = x at *
            generalize (X[i].2 : Int) = y at *
            generalize (j : Int) = J at *
            walk_at "run"
          · have e0 : X = X.take i ++ ([X[i]] ++ X.drop (i + 1)) := by
              conv => lhs; rw [← List.take_append_drop i X, List.drop_eq_getElem_cons hi]
              rfl
            have : xf X p = X[i].1 := by
              conv => lhs; rw [e0]
              rw [xf_app_r (by omega), xf_app_l (by rw [exL_len_one (e := X[i].1)]; omega)]
              have q := xf_one (e := X[i].1) (c := X[i].2) (i := p - (exL (X.take i)).length) (by omega)
              exact q
            rw [this]
        · refine .inl ⟨[.sh (.tuple (rDs B)), .sh (.int ((j - X[i].2 : Nat) : Int)), .sh (.int m), .sh (.int X[i].1), .sh (.int (X[i].2 : Int))], .inl ?_, j - X[i].2, .sh (.int X[i].1), .sh (.int (X[i].2 : Int)), by rw [et]; omega, rfl, rfl, rfl⟩
          unfold b_long_entry_1
          rw [show ((j - X[i].2 : Nat) : Int) = (j : Int) - (X[i].2 : Int) by omega]
          have g2 : ¬ (j : Int) < (X[i].2 : Int) := by omega
          clear c1 c2 c3 c4 c5 hc y1 hm hd
          generalize rDs B = b at *
          generalize X[i].1 = x at *
          generalize (X[i].2 : Int) = y at *
          generalize (j : Int) = J at *
          walk_at "run"
    · rintro ρ ⟨j, z3, z4, hj, _, _, _⟩
      rw [List.length_map, List.take_length, lX] at hj
      omega
  obtain ⟨z1, z4, y2⟩ := y2
  refine fn_rt (ρ1 := [.sh (.tuple (rDs B)), .sh (.int (p : Int)), .sh (.int m), .no, .no]) (ρ2 := [.sh (.tuple (rDs B)), z1, .sh (.int m), .sh (.int (xf X p)), z4]) rfl ?_ rfl
  unfold d_long_entry
  have y0 : sDrop (dCall SP.F_require_blocks [(true, dVar 0)]) [.sh (.tuple (rDs B)), .sh (.int (p : Int)), .sh (.int m), .no, .no] = .nx [.sh (.tuple (rDs B)), .sh (.int (p : Int)), .sh (.int m), .no, .no] := by
    clear y1 y2 hm hc c3 c4
    generalize rDs B = b at *
    walk_at "run"
  have y3 : sDrop (dCall SP.F_require_rounds [(true, dVar 2), (false, dC (.int 0)), (false, dC (.int 1000000000000000000000000000000))]) [.sh (.tuple (rDs B)), .sh (.int (p : Int)), .sh (.int m), .no, .no] = .nx [.sh (.tuple (rDs B)), .sh (.int (p : Int)), .sh (.int m), .no, .no] := by
    clear y1 y2 hm hc c3 c4 y0
    generalize rDs B = b at *
    walk_at "run"
  refine w_seqN y0 (w_seqN y1 (w_seqN y3 (w_seqN y2 ?_)))
  clear y0 y1 y2 y3 hm hc c1 c2 c3 c4 c5
  generalize rDs B = b at *
  generalize xf X p = x at *
  walk_at "run"
end SP
end

section
set_option Elab.async false
set_option linter.all false
set_option maxHeartbeats 1000000
open PySem L2 DL SP
namespace LW
variable {f : Nat → Int} {n : Nat}
theorem exL_ones : ∀ l : List Int, exL (l.map fun e => (e, 1)) = l
  | [] => rfl
  | x :: r => by
    show List.replicate 1 x ++ exL (r.map fun e => (e, 1)) = x :: r
    rw [exL_ones r]; rfl
/-- a row's entries, each a block of its own -/
def ones (f : Nat → Int) (n : Nat) : List SP.Run := (RL f n).map fun e => (e, 1)
theorem ones_ex : exL (ones f n) = RL f n := exL_ones _
theorem ones_len : (ones f n).length = n := by unfold ones; rw [List.length_map, RL_len]
theorem ones_blk (hf : InB f n) : ∀ p ∈ ones f n, Blk p := fun p hp => by
  obtain ⟨e, he, rfl⟩ := List.mem_map.mp hp
  obtain ⟨i, hi, rfl⟩ := List.mem_map.mp he
  exact ⟨hf i (List.mem_range.mp hi), by show 1 ≤ 1; omega, by show 1 ≤ 10000000000000000000000000000; omega⟩
theorem xf_ones {j : Nat} (hj : j < n) : xf (ones f n) j = f j := by
  show (exL (ones f n)).getD j 0 = _
  rw [ones_ex]
  unfold RL
  rw [List.getD_eq_getElem?_getD, List.getElem?_map, List.getElem?_range hj]; rfl
theorem ones_rD : rDs (ones f n) = (RT f n).map fun d => .tuple [d, .int 1] := by
  unfold rDs ones
  rw [RT_RL, List.map_map, List.map_map]; rfl
end LW
end

section
set_option Elab.async false
set_option linter.all false
set_option maxHeartbeats 1000000
open PySem L2 DL
namespace SP
/-! ### long rows with great counts -/
variable {B R : List Run}
structure Gok (R : List Run) : Prop where
  ent : ∀ p ∈ R, InE p.1
  pos : ∀ p ∈ R, 1 ≤ p.2
  len : (exL R).length ≤ 1000000000000000000000000000000
  runs : R.length ≤ 400
theorem Gok.sm {R : List Run} (h : Gok R) : ∀ p ∈ R, InE p.1 ∧ p.2 ≤ 1000000000000000000000000000000 := fun p hp => ⟨h.ent p hp, by have := cnt_le hp; have := h.len; omega⟩
theorem Gok.mrg {R : List Run} (h : Gok R) : Gok (mrg R) := by
  refine ⟨fun p hp => ?_, (mrg_can h.pos).all, by rw [mrg_ex]; exact h.len, Nat.le_trans (mrg_len R) h.runs⟩
  have h1 := mem_exL hp ((mrg_can h.pos).all p hp)
  rw [mrg_ex] at h1
  obtain ⟨q, hq, e⟩ := exL_mem h1
  rw [← e]
  exact h.ent q hq
theorem Gok.rnd {R : List Run} (h : Gok R) (hr : R.length ≤ 200) : Gok (rnd R) := by
  have e := rnd_ex h.pos
  have hl := h.len
  refine ⟨fun p hp => ?_, rgo_pos _ _, by rw [e, RL_len]; exact h.len, by have := rgo_len R []; show (rgo [] R).length ≤ 400; omega⟩
  have h1 := mem_exL hp (rgo_pos _ _ p hp)
  rw [e] at h1
  obtain ⟨i, hi, e2⟩ := List.mem_map.mp h1
  have hi := List.mem_range.mp hi
  rw [← e2]
  have := wrd_one_b (f := xf R) (k := i)
  exact ⟨by omega, by omega⟩
theorem rD_leafG {p : Run} (h1 : InE p.1) (h2 : p.2 ≤ 1000000000000000000000000000000) : leaf (.int p.1) = true ∧ leaf (.int (p.2 : Int)) = true := ⟨leafB h1.1 h1.2, leafB (by omega) (by omega)⟩
theorem rDs_neG {R : List Run} (h : ∀ p ∈ R, InE p.1 ∧ p.2 ≤ 1000000000000000000000000000000) : f_ne (.list (rDs R)) (.list []) = some (.val (.bool (!(rDs R).isEmpty))) := ne_nilP fun x hx => by
  obtain ⟨p, hp, rfl⟩ := List.mem_map.mp hx
  exact ⟨_, _, rfl, rD_leafG (h p hp).1 (h p hp).2⟩
theorem rDs_okG {R : List Run} (h : ∀ p ∈ R, InE p.1 ∧ p.2 ≤ 1000000000000000000000000000000) : shp (.list (rDs R)) = true := by
  have hd : ∀ d ∈ rDs R, okD d = true ∧ d.depth ≤ 1 := fun d hd => by
    obtain ⟨p, hp, rfl⟩ := List.mem_map.mp hd
    obtain ⟨a, b⟩ := rD_leafG (h p hp).1 (h p hp).2
    obtain ⟨q1, q2, _⟩ := tuple_leaves (ds := [.int p.1, .int (p.2 : Int)]) fun d hd => by
      simp only [List.mem_cons, List.not_mem_nil, or_false] at hd
      rcases hd with rfl | rfl
      · exact a
      · exact b
    exact ⟨q1, by unfold rD; omega⟩
  refine shp_ok (okDA_all fun d h => (hd d h).1) ?_
  simp only [PyData.depth]
  have := depthA_le (ds := rDs R) (k := 1) fun d h => (hd d h).2
  omega
theorem rDs_eqG {a b : List Run} (ha : ∀ p ∈ a, InE p.1 ∧ p.2 ≤ 1000000000000000000000000000000) (hb : ∀ p ∈ b, InE p.1 ∧ p.2 ≤ 1000000000000000000000000000000) : f_eq (.list (rDs a)) (.list (rDs b)) = some (.val (.bool (decide (a = b)))) := by
  rw [f_eq_of rfl (rDs_okG ha) (rDs_okG hb)]
  have e : PyData.eqv (.list (rDs a)) (.list (rDs b)) = PyData.eqvAll (rDs a) (rDs b) := by simp [PyData.eqv]
  rw [e, rDs_eqv]
theorem merged_stepG {z0 z2 z3 : Sl} {S : List Run} {e : Int} {c : Nat} (hS : ∀ p ∈ S, InE p.1 ∧ p.2 ≤ 1000000000000000000000000000000) (hl : S.length < 100000) : b_merged_1 [z0, .ow (rDs S.reverse), .sh (.int e), .sh (.int (c : Int))] = .nx [z0, .ow (rDs (mst S (e, c)).reverse), .sh (.int e), .sh (.int (c : Int))] := by
  cases S with
  | nil =>
    have hne : f_ne (.list []) (.list []) = some (.val (.bool false)) := rfl
    show b_merged_1 [z0, .ow [], .sh (.int e), .sh (.int (c : Int))] = .nx [z0, .ow ([] ++ [.tuple [.int e, .int (c : Int)]]), .sh (.int e), .sh (.int (c : Int))]
    have l0 : ([] : List PyData).length < 100000 := by decide
    unfold b_merged_1
    generalize (c : Int) = C at *
    walk_at "run"
  | cons q l =>
    obtain ⟨a, k⟩ := q
    have hne := rDs_neG (R := ((a, k) :: l).reverse) fun p hp => hS p (List.mem_reverse.mp hp)
    have e0 : rDs ((a, k) :: l).reverse = rDs l.reverse ++ [.tuple [.int a, .int (k : Int)]] := by
      unfold rDs
      rw [List.reverse_cons, List.map_append]; rfl
    rw [e0] at hne ⊢
    have e1 : (!(rDs l.reverse ++ [PyData.tuple [.int a, .int (k : Int)]]).isEmpty) = true := by simp
    rw [e1] at hne
    have hat : atI (rDs l.reverse ++ [PyData.tuple [.int a, .int (k : Int)]]) (-1) = some (.tuple [.int a, .int (k : Int)]) := atI_last
    have ll : (rDs l.reverse).length = l.length := by rw [List.length_map, List.length_reverse]
    rw [List.length_cons] at hl
    by_cases g : a = e
    · subst g
      have e2 : rDs (mst ((a, k) :: l) (a, c)).reverse = rDs l.reverse ++ [.tuple [.int a, .int ((k : Int) + (c : Int))]] := by
        have : mst ((a, k) :: l) (a, c) = (a, k + c) :: l := by unfold mst; simp
        rw [this]
        unfold rDs
        rw [List.reverse_cons, List.map_append]; rfl
      rw [e2]
      have hix : ixN (rDs l.reverse ++ [PyData.tuple [.int a, .int (k : Int)]]).length (-1) = some (rDs l.reverse).length := by
        unfold ixN
        rw [List.length_append]
        show (if (0 : Int) ≤ -1 then _ else _) = _
        rw [if_neg (by decide)]
        have h1 : ([PyData.tuple [.int a, .int (k : Int)]] : List PyData).length = 1 := rfl
        rw [h1]
        have h2 : -(((rDs l.reverse).length + 1 : Nat) : Int) ≤ -1 := by omega
        rw [if_pos h2]
        congr 1
        omega
      have hset : (rDs l.reverse ++ [PyData.tuple [.int a, .int (k : Int)]]).set (rDs l.reverse).length (.tuple [.int a, .int ((k : Int) + (c : Int))]) = rDs l.reverse ++ [.tuple [.int a, .int ((k : Int) + (c : Int))]] := by
        rw [List.set_append_right _ _ (Nat.le_refl _), Nat.sub_self]; rfl
      unfold b_merged_1
      clear hS e0 e1 e2 ll
      generalize rDs l.reverse = L at *
      generalize (k : Int) = K at *
      generalize (c : Int) = C at *
      walk_at "run"
    · have e2 : rDs (mst ((a, k) :: l) (e, c)).reverse = rDs l.reverse ++ [.tuple [.int a, .int (k : Int)]] ++ [.tuple [.int e, .int (c : Int)]] := by
        have : mst ((a, k) :: l) (e, c) = (e, c) :: (a, k) :: l := by
          simp [mst, g]
        rw [this]
        unfold rDs
        rw [List.reverse_cons, List.reverse_cons, List.map_append, List.map_append]; rfl
      rw [e2]
      have hlen : (rDs l.reverse ++ [PyData.tuple [.int a, .int (k : Int)]]).length < 100000 := by
        rw [List.length_append, ll]; show l.length + 1 < _; omega
      unfold b_merged_1
      clear hS e0 e1 e2 ll hl
      generalize rDs l.reverse = L at *
      generalize (k : Int) = K at *
      generalize (c : Int) = C at *
      walk_at "run"
theorem mrg_takeG (h : Gok B) (i : Nat) : (∀ p ∈ (B.take i).foldl mst [], InE p.1 ∧ p.2 ≤ 1000000000000000000000000000000) ∧ ((B.take i).foldl mst []).length ≤ 400 := by
  have e0 : exL B = exL (B.take i) ++ exL (B.drop i) := by rw [← exL_app, List.take_append_drop]
  have hB : Gok (B.take i) := ⟨fun p hp => h.ent p (List.mem_of_mem_take hp), fun p hp => h.pos p (List.mem_of_mem_take hp), by
    have := h.len
    rw [e0, List.length_append] at this
    omega, by rw [List.length_take]; have := h.runs; omega⟩
  have hm := hB.mrg
  have e1 : SP.mrg (B.take i) = ((B.take i).foldl mst []).reverse := rfl
  refine ⟨fun p hp => hm.sm p (by rw [e1]; exact List.mem_reverse.mpr hp), ?_⟩
  have := hm.runs
  rw [e1, List.length_reverse] at this
  exact this
theorem merged_loopG {z0 z0' z2 z3 : Sl} (n2 : NB z2) (n3 : NB z3) (h : Gok B) (hm : iSeq (dVar 0) [z0, .ow [], z2, z3] = .ok (rDs B) [z0', .ow [], z2, z3]) : ∃ y2 y3, sFor (iSeq (dVar 0)) (gtTup (gtCons (gtName 2) (gtCons (gtName 3) gtNil)) 2) b_merged_1 [z0, .ow [], z2, z3] = .nx [z0', .ow (rDs (mrg B)), y2, y3] := by
  obtain ⟨ρ2, e, y2, y3, _, _, rfl⟩ := for_run (g := gtTup (gtCons (gtName 2) (gtCons (gtName 3) gtNil)) 2) (b := b_merged_1) (hm := hm)
    (R := fun i ρ => ∃ y2 y3, NB y2 ∧ NB y3 ∧ ρ = [z0', .ow (rDs ((B.take i).foldl mst []).reverse), y2, y3]) (r := ⟨z2, z3, n2, n3, rfl⟩)
    (h := by
      rintro i d ρ hd ⟨y2, y3, m2, m3, rfl⟩
      have hi : i < B.length := by
        have := (List.getElem?_eq_some_iff.mp hd).1
        rwa [List.length_map] at this
      have ed : d = .tuple [.int B[i].1, .int (B[i].2 : Int)] := by
        rw [List.getElem?_map, List.getElem?_eq_getElem hi] at hd
        exact (Option.some.inj hd).symm
      subst ed
      obtain ⟨q1, q2⟩ := mrg_takeG h i
      have c := merged_stepG (z0 := z0') (z2 := y2) (z3 := y3) (S := (B.take i).foldl mst []) (e := B[i].1) (c := B[i].2) q1 (by omega)
      rw [show ((B[i].1, B[i].2) : Run) = B[i] from rfl, ← foldl_take mst [] B i hi] at c
      refine ⟨[z0', .ow (rDs ((B.take i).foldl mst []).reverse), .sh (.int B[i].1), .sh (.int (B[i].2 : Int))], _, ?_, c, .sh (.int B[i].1), .sh (.int (B[i].2 : Int)), rfl, rfl, rfl⟩
      clear c q1 q2 hd hm
      generalize rDs ((B.take i).foldl mst []).reverse = L at *
      generalize B[i].1 = x at *
      generalize (B[i].2 : Int) = y at *
      walk_at "run")
  refine ⟨y2, y3, ?_⟩
  rw [e]
  congr 4
  rw [List.length_map, List.take_length]
  rfl
theorem F_merged_runG (h : Gok B) : F_merged [.sh (.tuple (rDs B))] = .ret (.fr (rDs (mrg B))) [] := by
  obtain ⟨y2, y3, e⟩ := merged_loopG (z0 := .sh (.tuple (rDs B))) (z0' := .sh (.tuple (rDs B))) (z2 := .no) (z3 := .no) rfl rfl h (by
    generalize rDs B = b at *
    walk_at "run")
  refine fn_rt (ρ1 := [.sh (.tuple (rDs B)), .no, .no, .no]) (ρ2 := [.sh (.tuple (rDs B)), .no, y2, y3]) rfl ?_ rfl
  unfold d_merged
  generalize rDs (mrg B) = M at *
  generalize rDs B = b at *
  walk_at "run"
theorem F_merged_runLG (h : Gok B) : F_merged [.sh (.list (rDs B))] = .ret (.fr (rDs (mrg B))) [] := by
  obtain ⟨y2, y3, e⟩ := merged_loopG (z0 := .sh (.list (rDs B))) (z0' := .sh (.list (rDs B))) (z2 := .no) (z3 := .no) rfl rfl h (by
    generalize rDs B = b at *
    walk_at "run")
  refine fn_rt (ρ1 := [.sh (.list (rDs B)), .no, .no, .no]) (ρ2 := [.sh (.list (rDs B)), .no, y2, y3]) rfl ?_ rfl
  unfold d_merged
  generalize rDs (mrg B) = M at *
  generalize rDs B = b at *
  walk_at "run"
end SP
end

section
set_option Elab.async false
set_option linter.all false
set_option maxHeartbeats 1000000
open PySem L2 DL
namespace SP
variable {B R : List Run} {n : Nat}
/-- what the stack may be -/
structure SkG (n : Nat) (s : List Run) : Prop where
  ent : ∀ p ∈ s, InE p.1
  len : (exL s).length ≤ n
theorem SkG.sm {n : Nat} {s : List Run} (h : SkG n s) (hn : n ≤ 1000000000000000000000000000000) : ∀ p ∈ s, InE p.1 ∧ p.2 ≤ 1000000000000000000000000000000 := fun p hp => ⟨h.ent p hp, by have := cnt_le hp; have := h.len; omega⟩
theorem pop_loopLG {z0 z3 : Sl} {fd s : List Run} {e c : Int} (hs : SkG 1000000000000000000000000000000 s) (hl : s.length ≤ 1000) :
    sWhile 100000 c_round_of_runs_1 b_round_of_runs_2 [z0, .ow (rDs fd), .ow (rDs s.reverse), .sh (.int e), .sh (.int c), .sh (.int 0)] = .nx [z0, .ow (rDs fd), .ow (rDs (popW e 0 s).2.reverse), .sh (.int e), .sh (.int c), .sh (.int ((popW e 0 s).1 : Int))] := by
  obtain ⟨⟨cov, s'⟩, h1, ⟨h2, h3⟩, h4⟩ := while_s (S := Nat × List Run) (n := 100000) (c := c_round_of_runs_1) (b := b_round_of_runs_2)
    (fun x => [z0, .ow (rDs fd), .ow (rDs x.2.reverse), .sh (.int e), .sh (.int c), .sh (.int (x.1 : Int))])
    (fun x => SkG 1000000000000000000000000000000 x.2 ∧ popW e x.1 x.2 = popW e 0 s) (fun x => match x.2 with | [] => false | q :: _ => decide (q.1 < e)) (fun x => match x.2 with | [] => x | q :: l => (x.1 + q.2, l)) (fun x => x.2.length) (0, s) ⟨hs, rfl⟩ (by show s.length < 100000; omega)
    (by
      rintro ⟨cov, t⟩ ⟨h1, h2⟩
      cases t with
      | nil =>
        have hne : f_ne (.list []) (.list []) = some (.val (.bool false)) := rfl
        show tst c_round_of_runs_1 [z0, .ow (rDs fd), .ow [], .sh (.int e), .sh (.int c), .sh (.int (cov : Int))] = .ok false [z0, .ow (rDs fd), .ow [], .sh (.int e), .sh (.int c), .sh (.int (cov : Int))]
        unfold c_round_of_runs_1
        generalize rDs fd = F at *
        generalize (cov : Int) = C at *
        walk_at "run"
      | cons q l =>
        obtain ⟨a, k⟩ := q
        have hne := rDs_neG (R := ((a, k) :: l).reverse) fun p hp => h1.sm (Nat.le_refl _) p (List.mem_reverse.mp hp)
        have e0 : rDs ((a, k) :: l).reverse = rDs l.reverse ++ [.tuple [.int a, .int (k : Int)]] := by
          unfold rDs
          rw [List.reverse_cons, List.map_append]; rfl
        show tst c_round_of_runs_1 [z0, .ow (rDs fd), .ow (rDs ((a, k) :: l).reverse), .sh (.int e), .sh (.int c), .sh (.int (cov : Int))] = .ok (decide (a < e)) [z0, .ow (rDs fd), .ow (rDs ((a, k) :: l).reverse), .sh (.int e), .sh (.int c), .sh (.int (cov : Int))]
        rw [e0] at hne ⊢
        have e1 : (!(rDs l.reverse ++ [PyData.tuple [.int a, .int (k : Int)]]).isEmpty) = true := by simp
        rw [e1] at hne
        have hat : atI (rDs l.reverse ++ [PyData.tuple [.int a, .int (k : Int)]]) (-1) = some (.tuple [.int a, .int (k : Int)]) := atI_last
        unfold c_round_of_runs_1
        clear h1 h2 e0 e1
        generalize rDs l.reverse = L at *
        generalize rDs fd = F at *
        generalize (cov : Int) = C at *
        generalize (k : Int) = K at *
        walk_at "run")
    (by
      rintro ⟨cov, t⟩ ⟨h1, h2⟩ hc
      cases t with
      | nil => cases hc
      | cons q l =>
        obtain ⟨a, k⟩ := q
        have hc : a < e := of_decide_eq_true hc
        have ec := exL_cons (a, k) l
        have hp : popW e cov ((a, k) :: l) = popW e (cov + k) l := by simp [popW, hc]
        refine ⟨.inl ?_, ⟨⟨fun p hp => h1.ent p (List.mem_cons_of_mem _ hp), by have := h1.len; rw [ec] at this; show (exL l).length ≤ 1000000000000000000000000000000; have this : k + (exL l).length ≤ 1000000000000000000000000000000 := this; omega⟩, by show popW e (cov + k) l = _; rw [← hp]; exact h2⟩, by show l.length < l.length + 1; omega⟩
        have e0 : rDs ((a, k) :: l).reverse = rDs l.reverse ++ [.tuple [.int a, .int (k : Int)]] := by
          unfold rDs
          rw [List.reverse_cons, List.map_append]; rfl
        show b_round_of_runs_2 [z0, .ow (rDs fd), .ow (rDs ((a, k) :: l).reverse), .sh (.int e), .sh (.int c), .sh (.int (cov : Int))] = .nx [z0, .ow (rDs fd), .ow (rDs l.reverse), .sh (.int e), .sh (.int c), .sh (.int ((cov + k : Nat) : Int))]
        rw [e0, show ((cov + k : Nat) : Int) = (cov : Int) + (k : Int) by omega]
        unfold b_round_of_runs_2
        clear h1 h2 e0 hp ec
        generalize rDs l.reverse = L at *
        generalize rDs fd = F at *
        generalize (cov : Int) = C at *
        generalize (k : Int) = K at *
        walk_at "run")
  have fin : popW e cov s' = (cov, s') := by
    cases s' with
    | nil => rfl
    | cons q l =>
      have h4 : ¬ q.1 < e := of_decide_eq_false h4
      simp [popW, h4]
  have fin2 : popW e 0 s = (cov, s') := by rw [← h3]; exact fin
  rw [fin2]
  exact h1
theorem round_stepG {z0 z5 : Sl} (n5 : NB z5) {fd s : List Run} {e : Int} {c : Nat} (hs : SkG 1000000000000000000000000000000 s) (hl : s.length ≤ 1000) (hf : fd.length ≤ 10000) :
    b_round_of_runs_3 [z0, .ow (rDs fd), .ow (rDs s.reverse), .sh (.int e), .sh (.int (c : Int)), z5] = .nx [z0, .ow (rDs (fd ++ rfd (e, c) s)), .ow (rDs (rst (e, c) s).reverse), .sh (.int e), .sh (.int (c : Int)), .sh (.int ((popW e 0 s).1 : Int))] := by
  have y2 := pop_loopLG (z0 := z0) (z3 := z0) (fd := fd) (e := e) (c := (c : Int)) hs hl
  have pl := (popW_len e s 0).2.1
  have lf : (rDs fd).length ≤ 10000 := by rw [List.length_map]; exact hf
  obtain ⟨w, s', hp⟩ : ∃ w s', popW e 0 s = (w, s') := ⟨_, _, rfl⟩
  have e1 : rDs (rst (e, c) s).reverse = rDs s'.reverse ++ [.tuple [.int e, .int ((w : Int) + (c : Int))]] := by
    unfold rst rDs
    show List.map rD ((e, (popW e 0 s).1 + c) :: (popW e 0 s).2).reverse = _
    rw [hp, List.reverse_cons, List.map_append]
    rfl
  have e2 : rDs (fd ++ rfd (e, c) s) = rDs fd ++ [.tuple [.int ((w : Int) + 1), .int 1]] ++ (if 1 < c then [.tuple [.int 1, .int ((c : Int) - 1)]] else []) := by
    unfold rfd rDs
    show List.map rD (fd ++ ((((popW e 0 s).1 + 1 : Nat) : Int), 1) :: (if 1 < c then [(1, c - 1)] else [])) = _
    rw [hp, List.map_append, List.append_assoc]
    congr 1
    show rD (((w + 1 : Nat) : Int), 1) :: List.map rD (if 1 < c then [(1, c - 1)] else []) = _
    by_cases g : 1 < c
    · rw [if_pos g, if_pos g]
      show [PyData.tuple [.int ((w + 1 : Nat) : Int), .int 1], .tuple [.int 1, .int ((c - 1 : Nat) : Int)]] = [PyData.tuple [.int ((w : Int) + 1), .int 1], .tuple [.int 1, .int ((c : Int) - 1)]]
      rw [show ((c - 1 : Nat) : Int) = (c : Int) - 1 by omega, show ((w + 1 : Nat) : Int) = (w : Int) + 1 by omega]
    · rw [if_neg g, if_neg g]
      show [PyData.tuple [.int ((w + 1 : Nat) : Int), .int 1]] = [PyData.tuple [.int ((w : Int) + 1), .int 1]]
      rw [show ((w + 1 : Nat) : Int) = (w : Int) + 1 by omega]
  rw [e1, e2]
  rw [hp] at y2 pl ⊢
  have ls : (rDs s'.reverse).length ≤ 1000 := by rw [List.length_map, List.length_reverse]; exact Nat.le_trans pl hl
  have y2 : sWhile 100000 c_round_of_runs_1 b_round_of_runs_2 [z0, .ow (rDs fd), .ow (rDs s.reverse), .sh (.int e), .sh (.int (c : Int)), .sh (.int 0)] = .nx [z0, .ow (rDs fd), .ow (rDs s'.reverse), .sh (.int e), .sh (.int (c : Int)), .sh (.int (w : Int))] := y2
  show _ = SOut.nx [z0, .ow (rDs fd ++ [.tuple [.int ((w : Int) + 1), .int 1]] ++ (if 1 < c then [.tuple [.int 1, .int ((c : Int) - 1)]] else [])), .ow (rDs s'.reverse ++ [.tuple [.int e, .int ((w : Int) + (c : Int))]]), .sh (.int e), .sh (.int (c : Int)), .sh (.int (w : Int))]
  clear e1 e2 hp pl hs hl
  generalize rDs s'.reverse = S' at *
  generalize rDs s.reverse = S at *
  generalize rDs fd = F at *
  have y1 : sAsg (dC (.int 0)) (gtName 5) [z0, .ow F, .ow S, .sh (.int e), .sh (.int (c : Int)), z5] = .nx [z0, .ow F, .ow S, .sh (.int e), .sh (.int (c : Int)), .sh (.int 0)] := by
    clear y2
    walk_at "run"
  have l1 : F.length < 100000 := by omega
  have l2 : S'.length < 100000 := by omega
  have l3 : (F ++ [PyData.tuple [.int ((w : Int) + 1), .int 1]]).length < 100000 := by rw [List.length_append]; show F.length + 1 < _; omega
  have y3 : sDrop (dMutM 2 [dTup [dVar 3, dOp2 f_add (dVar 5) (dVar 4)]] f_append) [z0, .ow F, .ow S', .sh (.int e), .sh (.int (c : Int)), .sh (.int (w : Int))] = .nx [z0, .ow F, .ow (S' ++ [.tuple [.int e, .int ((w : Int) + (c : Int))]]), .sh (.int e), .sh (.int (c : Int)), .sh (.int (w : Int))] := by
    clear y1 y2
    generalize (w : Int) = W at *
    generalize (c : Int) = C at *
    walk_at "run"
  have y4 : sDrop (dMutM 1 [dTup [dOp2 f_add (dVar 5) (dC (.int 1)), dC (.int 1)]] f_append) [z0, .ow F, .ow (S' ++ [.tuple [.int e, .int ((w : Int) + (c : Int))]]), .sh (.int e), .sh (.int (c : Int)), .sh (.int (w : Int))] = .nx [z0, .ow (F ++ [.tuple [.int ((w : Int) + 1), .int 1]]), .ow (S' ++ [.tuple [.int e, .int ((w : Int) + (c : Int))]]), .sh (.int e), .sh (.int (c : Int)), .sh (.int (w : Int))] := by
    clear y1 y2 y3
    generalize (w : Int) = W at *
    generalize (c : Int) = C at *
    walk_at "run"
  unfold b_round_of_runs_3
  refine w_seqN y1 (w_seqN y2 (w_seqN y3 (w_seqN y4 ?_)))
  clear y1 y2 y3 y4
  generalize S' ++ [PyData.tuple [.int e, .int ((w : Int) + (c : Int))]] = S2 at *
  generalize F ++ [PyData.tuple [.int ((w : Int) + 1), .int 1]] = F2 at *
  by_cases g : 1 < c
  · rw [if_pos g]
    have g2 : (c : Int) > 1 := by omega
    generalize (c : Int) = C at *
    generalize (w : Int) = W at *
    walk_at "run"
  · rw [if_neg g, List.append_nil]
    have g2 : ¬ (c : Int) > 1 := by omega
    generalize (c : Int) = C at *
    generalize (w : Int) = W at *
    walk_at "run"
theorem SkG.rst {s : List Run} {p : Run} (h : SkG n s) (he : InE p.1) : SkG (n + p.2) (rst p s) := by
  obtain ⟨h1, h2, h3⟩ := popW_len p.1 s 0
  refine ⟨fun q hq => ?_, ?_⟩
  · rcases List.mem_cons.mp hq with rfl | hq
    · exact he
    · exact h.ent q (h3 q hq)
  · have := exL_cons (p.1, (popW p.1 0 s).1 + p.2) (popW p.1 0 s).2
    have l := h.len
    show (exL ((p.1, (popW p.1 0 s).1 + p.2) :: (popW p.1 0 s).2)).length ≤ _
    rw [this]
    show (popW p.1 0 s).1 + p.2 + _ ≤ _
    omega
theorem F_roundG (h : Gok R) (h20 : R.length ≤ 200) : F_round_of_runs [.sh (.list (rDs R))] = .ret (.fr (rDs (mrg (rnd R)))) [] := by
  have hlen := h.runs
  have hl := h.len
  have hm : iSeq (dVar 0) [.sh (.list (rDs R)), .ow [], .ow [], .no, .no, .no] = .ok (rDs R) [.sh (.list (rDs R)), .ow [], .ow [], .no, .no, .no] := by
    generalize rDs R = b at *
    walk_at "run"
  obtain ⟨ρ2, e, fd, s, y3, y4, y5, q1, q2, q3, q4, n3, n4, n5, rfl⟩ := for_run (g := gtTup (gtCons (gtName 3) (gtCons (gtName 4) gtNil)) 2) (b := b_round_of_runs_3) (hm := hm)
    (R := fun i ρ => ∃ fd s y3 y4 y5, fd ++ rgo s (R.drop i) = rnd R ∧ SkG (exL (R.take i)).length s ∧ s.length ≤ i ∧ fd.length ≤ 2 * i ∧ NB y3 ∧ NB y4 ∧ NB y5 ∧ ρ = [.sh (.list (rDs R)), .ow (rDs fd), .ow (rDs s.reverse), y3, y4, y5])
    (r := ⟨[], [], .no, .no, .no, rfl, ⟨fun p h => (List.not_mem_nil h).elim, Nat.zero_le _⟩, Nat.le_refl _, Nat.le_refl _, rfl, rfl, rfl, rfl⟩)
    (h := by
      rintro i d ρ hd ⟨fd, s, y3, y4, y5, q1, q2, q3, q4, n3, n4, n5, rfl⟩
      have hi : i < R.length := by
        have := (List.getElem?_eq_some_iff.mp hd).1
        rwa [List.length_map] at this
      have ed : d = .tuple [.int R[i].1, .int (R[i].2 : Int)] := by
        rw [List.getElem?_map, List.getElem?_eq_getElem hi] at hd
        exact (Option.some.inj hd).symm
      subst ed
      have et : (exL (R.take (i + 1))).length = (exL (R.take i)).length + R[i].2 := by
        rw [List.take_add_one, List.getElem?_eq_getElem hi, exL_app, List.length_append]
        congr 1
        exact exL_len_one (e := R[i].1)
      have el : (exL (R.take (i + 1))).length ≤ 1000000000000000000000000000000 := by
        have e0 : exL R = exL (R.take (i + 1)) ++ exL (R.drop (i + 1)) := by rw [← exL_app, List.take_append_drop]
        rw [e0, List.length_append] at hl
        omega
      have c := round_stepG (z0 := .sh (.list (rDs R))) n5 (fd := fd) (s := s) (e := R[i].1) (c := R[i].2) ⟨q2.ent, by have := q2.len; omega⟩ (by omega) (by omega)
      rw [show ((R[i].1, R[i].2) : Run) = R[i] from rfl] at c
      have lr : (rfd R[i] s).length ≤ 2 := by unfold rfd; split <;> simp
      have lst : (rst R[i] s).length ≤ s.length + 1 := by
        have := (popW_len R[i].1 s 0).2.1
        show ((popW R[i].1 0 s).2).length + 1 ≤ _
        omega
      refine ⟨[.sh (.list (rDs R)), .ow (rDs fd), .ow (rDs s.reverse), .sh (.int R[i].1), .sh (.int (R[i].2 : Int)), y5], _, ?_, c, fd ++ rfd R[i] s, rst R[i] s, .sh (.int R[i].1), .sh (.int (R[i].2 : Int)), .sh (.int ((popW R[i].1 0 s).1 : Int)), ?_, ?_, by omega, by rw [List.length_append]; omega, rfl, rfl, rfl, rfl⟩
      · clear c hd hm
        generalize rDs fd = F at *
        generalize rDs s.reverse = S at *
        generalize rDs R = RR at *
        generalize R[i].1 = x at *
        generalize (R[i].2 : Int) = y at *
        walk_at "run"
      · rw [← q1, List.drop_eq_getElem_cons hi, List.append_assoc]
        rfl
      · rw [et]
        exact q2.rst (h.ent _ (List.getElem_mem hi)))
  rw [List.length_map, List.drop_length] at q1
  have q1 : fd = rnd R := by rw [← q1]; show fd = fd ++ []; rw [List.append_nil]
  subst q1
  have c := F_merged_runLG (h.rnd h20)
  refine fn_rt (ρ1 := [.sh (.list (rDs R)), .no, .no, .no, .no, .no]) (ρ2 := [.sh (.list (rDs R)), .sh (.list (rDs (rnd R))), .ow (rDs s.reverse), y3, y4, y5]) rfl ?_ rfl
  unfold d_round_of_runs
  clear hm
  generalize rDs (mrg (rnd R)) = M at *
  generalize rDs (rnd R) = F at *
  generalize rDs s.reverse = S at *
  generalize rDs R = b at *
  walk_at "run"
end SP
end

section
set_option Elab.async false
set_option linter.all false
set_option maxHeartbeats 1000000
open PySem L2 DL
namespace SP
variable {B R : List Run} {n T : Nat}
/-- great blocks that a long row may have here -/
structure GB (B : List Run) : Prop where
  blk : ∀ p ∈ B, Blk p
  one : 1 ≤ B.length
  most : B.length ≤ 200
  len : (exL B).length ≤ 1000000000000000000000000000000
theorem GB.gok (h : GB B) : Gok B := ⟨fun p hp => (h.blk p hp).ent, fun p hp => (h.blk p hp).pos, h.len, by have := h.most; omega⟩
theorem F_settled1 (h : GB B) : ∃ k : Nat, F_settled_runs [.sh (.list (rDs (mrg B))), .sh (.int 1)] = .ret (.sh (.tuple [.list (rDs (RS B 1)), .int (k : Int)])) [] := by
  have hG := h.gok
  have h0 := hG.mrg
  have l0 : (mrg B).length ≤ 200 := Nat.le_trans (mrg_len B) h.most
  have h1 : Gok (RS B 1) := (h0.rnd l0).mrg
  have c1 := F_roundG h0 l0
  have c1 : F_round_of_runs [.sh (.list (rDs (RS B 0)))] = .ret (.fr (rDs (RS B 1))) [] := c1
  have e1 := rDs_eqG (a := RS B 1) (b := RS B 0) h1.sm h0.sm
  have hw : ∃ (k : Nat) (z3 : Sl), sWhile 100000 c_settled_runs_1 b_settled_runs_2 [.sh (.list (rDs (RS B 0))), .sh (.int 1), .sh (.int ((0 : Nat) : Int)), .no] = .nx [.sh (.list (rDs (RS B 1))), .sh (.int 1), .sh (.int (k : Int)), z3] := by
    refine while_run (Z := fun o => ∃ (k : Nat) (z3 : Sl), o = .nx [.sh (.list (rDs (RS B 1))), .sh (.int 1), .sh (.int (k : Int)), z3])
      (fun κ ρ => ∃ (t : Nat) (z3 : Sl), NB z3 ∧ κ + t = 1 ∧ ρ = [.sh (.list (rDs (RS B t))), .sh (.int 1), .sh (.int (t : Int)), z3]) (k := 1) ⟨0, .no, rfl, rfl, rfl⟩ (by omega) ?_
    rintro κ ρ ⟨t, z3, n3, hk, rfl⟩
    refine ⟨decide ((t : Int) < 1), [.sh (.list (rDs (RS B t))), .sh (.int 1), .sh (.int (t : Int)), z3], ?_, ?_⟩
    · unfold c_settled_runs_1
      clear c1 e1
      generalize rDs (RS B t) = L at *
      walk_at "run"
    · have ht : t = 0 ∨ t = 1 := by omega
      rcases ht with rfl | rfl
      · rw [decide_eq_true (by omega : (((0 : Nat) : Int)) < 1)]
        by_cases g : RS B 1 = RS B 0
        · rw [decide_eq_true g] at e1
          refine ⟨[.sh (.list (rDs (RS B 0))), .sh (.int 1), .sh (.int ((0 : Nat) : Int)), .ow (rDs (RS B 1))], .inr (.inl ⟨?_, 0, .ow (rDs (RS B 1)), by rw [g]⟩)⟩
          unfold b_settled_runs_2
          clear g
          generalize rDs (RS B 1) = L2 at *
          generalize rDs (RS B 0) = L at *
          walk_at "run"
        · rw [decide_eq_false g] at e1
          refine ⟨[.sh (.list (rDs (RS B 1))), .sh (.int 1), .sh (.int ((1 : Nat) : Int)), .sh (.list (rDs (RS B 1)))], .inl ⟨.inl ?_, 0, by omega, 1, .sh (.list (rDs (RS B 1))), rfl, by omega, rfl⟩⟩
          unfold b_settled_runs_2
          rw [show ((1 : Nat) : Int) = ((0 : Nat) : Int) + 1 by omega]
          clear g
          generalize rDs (RS B 1) = L2 at *
          generalize rDs (RS B 0) = L at *
          generalize ((0 : Nat) : Int) = Z at *
          walk_at "run"
      · rw [decide_eq_false (by omega : ¬ (((1 : Nat) : Int)) < 1)]
        exact ⟨1, z3, rfl⟩
  obtain ⟨k, z3, hw⟩ := hw
  have hw : sWhile 100000 c_settled_runs_1 b_settled_runs_2 [.sh (.list (rDs (mrg B))), .sh (.int 1), .sh (.int 0), .no] = .nx [.sh (.list (rDs (RS B 1))), .sh (.int 1), .sh (.int (k : Int)), z3] := hw
  refine ⟨k, ?_⟩
  refine fn_rt (ρ1 := [.sh (.list (rDs (mrg B))), .sh (.int 1), .no, .no]) (ρ2 := [.sh (.list (rDs (RS B 1))), .sh (.int 1), .sh (.int (k : Int)), z3]) rfl ?_ rfl
  unfold d_settled_runs
  clear c1 e1
  generalize (k : Int) = K at *
  generalize rDs (RS B 1) = L2 at *
  generalize rDs (mrg B) = L at *
  walk_at "run"
theorem F_long_entry_great {p : Nat} (h : GB B) (hp : p < (exL B).length) : F_long_entry [.sh (.tuple (rDs B)), .sh (.int (p : Int)), .sh (.int 1)] = .ret (.sh (.int (wrd one (xf B) p))) [] := by
  have c1 := F_blocks_ok h.blk h.one h.most
  have c2 := F_require_rounds_ok (i := 1) (a := 0) (b := 1000000000000000000000000000000) (by decide) (by decide)
  have hG := h.gok
  have c3 := F_merged_runG hG
  obtain ⟨MM, c4⟩ := F_settled1 h
  have er : exL (RS B 1) = RL (wrd one (xf B)) (exL B).length := by
    have q := RS_ex hG.pos 0
    have e0 : exL (RS B 0) = exL B := mrg_ex B
    have e1 : xf (RS B 0) = xf B := by unfold xf; rw [e0]
    rw [e0, e1] at q
    exact q
  have lR : (RS B 1).length ≤ 100000 := by
    have h0 := hG.mrg
    have l0 : (mrg B).length ≤ 200 := Nat.le_trans (mrg_len B) h.most
    have := ((h0.rnd l0).mrg).runs
    show (mrg (rnd (mrg B))).length ≤ _
    omega
  obtain ⟨X, hX⟩ : ∃ X, X = RS B 1 := ⟨_, rfl⟩
  rw [← hX] at c4 er lR
  have hx : xf X p = wrd one (xf B) p := by
    show (exL X).getD p 0 = _
    rw [er]
    unfold RL
    rw [List.getD_eq_getElem?_getD, List.getElem?_map, List.getElem?_range hp]; rfl
  have lX : (exL X).length = (exL B).length := by rw [er, RL_len]
  rw [← hx]
  clear hx
  obtain ⟨m, hm1⟩ : ∃ m : Int, m = 1 := ⟨_, rfl⟩
  rw [← hm1] at c2 c4 ⊢
  have c5 := F_in_range_int (p : Int) 0 (((exL B).length : Int) - 1)
  rw [decide_eq_true (by omega : (0 : Int) ≤ (p : Int)), decide_eq_true (by omega : (p : Int) ≤ ((exL B).length : Int) - 1)] at c5
  have hc : dLC (iSeq (dVar 0)) (gtTup (gtCons (gtName 3) (gtCons (gtName 4) gtNil)) 2) dYes (dVar 4) [3, 4] [.sh (.tuple (rDs B)), .sh (.int (p : Int)), .sh (.int m), .no, .no] = .ok (.fr ((B.map fun q => (q.2 : Int)).map .int)) [.sh (.tuple (rDs B)), .sh (.int (p : Int)), .sh (.int m), .no, .no] := by
    have e : (rDs B).map (fun d => match d with | .tuple [_, x] => x | d => d) = (B.map fun q => (q.2 : Int)).map .int := by
      unfold rDs
      rw [List.map_map, List.map_map]; rfl
    rw [← e]
    refine lc_map _ (by generalize rDs B = b at *; walk_at "run") rfl rfl (by rw [List.length_map]; have := h.most; omega) fun d hd => ?_
    obtain ⟨q, hq, rfl⟩ := List.mem_map.mp hd
    refine ⟨[.sh (.tuple (rDs B)), .sh (.int (p : Int)), .sh (.int m), .sh (.int q.1), .sh (.int (q.2 : Int))], ?_, rfl, rfl⟩
    show gtTup (gtCons (gtName 3) (gtCons (gtName 4) gtNil)) 2 (.sh (.tuple [.int q.1, .int (q.2 : Int)])) _ = _
    clear c1 c2 c3 c4 c5 hd e
    generalize rDs B = b at *
    generalize q.1 = x at *
    generalize (q.2 : Int) = y at *
    walk_at "run"
  have hi := intsOf_map (B.map fun q => (q.2 : Int))
  have hs := sum_cnt B
  have y1 : sIf (dNot (dCall SP.F_in_range [(true, dVar 1), (false, dC (.int 0)), (false, dOp2 f_sub (dB f_sum [dLC (iSeq (dVar 0)) (gtTup (gtCons (gtName 3) (gtCons (gtName 4) gtNil)) 2) dYes (dVar 4) [3, 4]]) (dC (.int 1)))])) (sRaise 2) sNil [.sh (.tuple (rDs B)), .sh (.int (p : Int)), .sh (.int m), .no, .no] = .nx [.sh (.tuple (rDs B)), .sh (.int (p : Int)), .sh (.int m), .no, .no] := by
    rw [← hs] at c5
    clear c1 c2 c3 c4 er hX lX hs
    generalize rDs B = b at *
    generalize (B.map fun q => (q.2 : Int)) = l at *
    generalize (p : Int) = P at *
    walk_at "run"
  have hm : iSeq (dOp2 f_ix (dCall SP.F_settled_runs [(false, dCall SP.F_merged [(false, dVar 0)]), (true, dVar 2)]) (dC (.int 0))) [.sh (.tuple (rDs B)), .sh (.int (p : Int)), .sh (.int m), .no, .no] = .ok (rDs X) [.sh (.tuple (rDs B)), .sh (.int (p : Int)), .sh (.int m), .no, .no] := by
    clear c1 c2 c5 hc y1 hi hs
    generalize (MM : Int) = MM at *
    generalize rDs X = x at *
    generalize rDs (mrg B) = M at *
    generalize rDs B = b at *
    walk_at "run"
  have y2 : ∃ z1 z4, sFor (iSeq (dOp2 f_ix (dCall SP.F_settled_runs [(false, dCall SP.F_merged [(false, dVar 0)]), (true, dVar 2)]) (dC (.int 0)))) (gtTup (gtCons (gtName 3) (gtCons (gtName 4) gtNil)) 2) b_long_entry_1 [.sh (.tuple (rDs B)), .sh (.int (p : Int)), .sh (.int m), .no, .no] = .nx [.sh (.tuple (rDs B)), z1, .sh (.int m), .sh (.int (xf X p)), z4] := by
    refine for_ret (g := gtTup (gtCons (gtName 3) (gtCons (gtName 4) gtNil)) 2) (b := b_long_entry_1) (hm := hm)
      (fun i ρ => ∃ (j : Nat) (z3 z4 : Sl), j + (exL (X.take i)).length = p ∧ NB z3 ∧ NB z4 ∧ ρ = [.sh (.tuple (rDs B)), .sh (.int (j : Int)), .sh (.int m), z3, z4])
      (fun o => ∃ z1 z4, o = .nx [.sh (.tuple (rDs B)), z1, .sh (.int m), .sh (.int (xf X p)), z4]) ⟨p, .no, .no, rfl, rfl, rfl, rfl⟩ ?_ ?_
    · rintro i d ρ hd ⟨j, z3, z4, hj, n3, n4, rfl⟩
      have hi : i < X.length := by
        have := (List.getElem?_eq_some_iff.mp hd).1
        rwa [List.length_map] at this
      have ed : d = .tuple [.int X[i].1, .int (X[i].2 : Int)] := by
        rw [List.getElem?_map, List.getElem?_eq_getElem hi] at hd
        exact (Option.some.inj hd).symm
      subst ed
      have et : (exL (X.take (i + 1))).length = (exL (X.take i)).length + X[i].2 := by
        rw [List.take_add_one, List.getElem?_eq_getElem hi, exL_app, List.length_append]
        congr 1
        exact exL_len_one (e := X[i].1)
      refine ⟨[.sh (.tuple (rDs B)), .sh (.int (j : Int)), .sh (.int m), .sh (.int X[i].1), .sh (.int (X[i].2 : Int))], ?_, ?_⟩
      · clear c1 c2 c3 c4 c5 hc y1 hm hd
        generalize rDs B = b at *
        generalize X[i].1 = x at *
        generalize (X[i].2 : Int) = y at *
        generalize (j : Int) = J at *
        walk_at "run"
      · by_cases g : j < X[i].2
        · refine .inr (.inr (.inl ⟨[.sh (.tuple (rDs B)), .sh (.int (j : Int)), .sh (.int m), .sh (.int X[i].1), .sh (.int (X[i].2 : Int))], ?_, .sh (.int (j : Int)), .sh (.int (X[i].2 : Int)), ?_⟩))
          · unfold b_long_entry_1
            have g2 : (j : Int) < (X[i].2 : Int) := by omega
            clear c1 c2 c3 c4 c5 hc y1 hm hd
            generalize rDs B = b at *
            generalize X[i].1 = x at *
            generalize (X[i].2 : Int) = y at *
            generalize (j : Int) = J at *
            walk_at "run"
          · have e0 : X = X.take i ++ ([X[i]] ++ X.drop (i + 1)) := by
              conv => lhs; rw [← List.take_append_drop i X, List.drop_eq_getElem_cons hi]
              rfl
            have : xf X p = X[i].1 := by
              conv => lhs; rw [e0]
              rw [xf_app_r (by omega), xf_app_l (by rw [exL_len_one (e := X[i].1)]; omega)]
              have q := xf_one (e := X[i].1) (c := X[i].2) (i := p - (exL (X.take i)).length) (by omega)
              exact q
            rw [this]
        · refine .inl ⟨[.sh (.tuple (rDs B)), .sh (.int ((j - X[i].2 : Nat) : Int)), .sh (.int m), .sh (.int X[i].1), .sh (.int (X[i].2 : Int))], .inl ?_, j - X[i].2, .sh (.int X[i].1), .sh (.int (X[i].2 : Int)), by rw [et]; omega, rfl, rfl, rfl⟩
          unfold b_long_entry_1
          rw [show ((j - X[i].2 : Nat) : Int) = (j : Int) - (X[i].2 : Int) by omega]
          have g2 : ¬ (j : Int) < (X[i].2 : Int) := by omega
          clear c1 c2 c3 c4 c5 hc y1 hm hd
          generalize rDs B = b at *
          generalize X[i].1 = x at *
          generalize (X[i].2 : Int) = y at *
          generalize (j : Int) = J at *
          walk_at "run"
    · rintro ρ ⟨j, z3, z4, hj, _, _, _⟩
      rw [List.length_map, List.take_length, lX] at hj
      omega
  obtain ⟨z1, z4, y2⟩ := y2
  refine fn_rt (ρ1 := [.sh (.tuple (rDs B)), .sh (.int (p : Int)), .sh (.int m), .no, .no]) (ρ2 := [.sh (.tuple (rDs B)), z1, .sh (.int m), .sh (.int (xf X p)), z4]) rfl ?_ rfl
  unfold d_long_entry
  have y0 : sDrop (dCall SP.F_require_blocks [(true, dVar 0)]) [.sh (.tuple (rDs B)), .sh (.int (p : Int)), .sh (.int m), .no, .no] = .nx [.sh (.tuple (rDs B)), .sh (.int (p : Int)), .sh (.int m), .no, .no] := by
    clear y1 y2 hm hc c3 c4
    generalize rDs B = b at *
    walk_at "run"
  have y3 : sDrop (dCall SP.F_require_rounds [(true, dVar 2), (false, dC (.int 0)), (false, dC (.int 1000000000000000000000000000000))]) [.sh (.tuple (rDs B)), .sh (.int (p : Int)), .sh (.int m), .no, .no] = .nx [.sh (.tuple (rDs B)), .sh (.int (p : Int)), .sh (.int m), .no, .no] := by
    clear y1 y2 hm hc c3 c4 y0
    generalize rDs B = b at *
    walk_at "run"
  refine w_seqN y0 (w_seqN y1 (w_seqN y3 (w_seqN y2 ?_)))
  clear y0 y1 y2 y3 hm hc c1 c2 c3 c4 c5
  generalize rDs B = b at *
  generalize xf X p = x at *
  walk_at "run"
end SP
end

section
set_option Elab.async false
set_option linter.all false
set_option maxHeartbeats 1000000
open PySem L2 DL
namespace SP
/-! rows: is_row, require_row -/
variable {f : Nat → Int} {n : Nat}
theorem F_is_row_ok (h : InB f n) (h1 : 1 ≤ n) (h2 : n ≤ 100) : F_is_row [.sh (.tuple (RT f n))] = .ret (.sh (.bool true)) [] := by
  have hl : (RT f n).length = n := RT_len
  have hc : dLC (iSeq (dVar 0)) (gtName 1) dYes (dCall SP.F_is_entry [(true, dVar 1)]) [1] [.sh (.tuple (RT f n)), .no] = .ok (.fr (List.replicate n (.bool true))) [.sh (.tuple (RT f n)), .no] := by
    have e : (RT f n).map (fun _ => PyData.bool true) = List.replicate n (.bool true) := by
      rw [List.eq_replicate_iff]
      exact ⟨by rw [List.length_map, hl], fun d hd => by obtain ⟨_, _, rfl⟩ := List.mem_map.mp hd; rfl⟩
    rw [← e]
    refine lc_map _ (by walk_at "run") rfl rfl (by rw [hl]; omega) fun d hd => ?_
    obtain ⟨i, hi, rfl⟩ := RT_mem hd
    have c := F_is_entry_ok (h i hi).1 (h i hi).2
    refine ⟨[.sh (.tuple (RT f n)), .sh (.int (f i))], by walk_at "run", ?_, rfl⟩
    rw [e_mbind, call_1 (d := dVar 1) (m := true) (var_sh rfl) c]; rfl
  have hb := boolsOf_true n
  have ha : f_all [.list (List.replicate n (.bool true))] = some (.val (.bool true)) := by
    show (boolsOf _).bind _ = _
    rw [hb]
    show ok (.bool ((List.replicate n true).all id)) = _
    rw [all_rep]; rfl
  clear hb
  walk_at "fn"
  unfold d_is_row
  walk_at "run"
theorem F_require_row_ok (h : InB f n) (h1 : 1 ≤ n) (h2 : n ≤ 100) : F_require_row [.sh (.tuple (RT f n))] = .ret (.sh .none) [] := by
  have c := F_is_row_ok h h1 h2
  walk_at "fnn"
  unfold d_require_row
  walk_at "run"
end SP
end

section
set_option Elab.async false
set_option linter.all false
set_option maxHeartbeats 1000000
open PySem L2 DL
namespace SP
/-! hinderers, one round -/
variable {f : Nat → Int} {n : Nat}
theorem waiting_loop {fd : List PyData} {k : Nat} (hk : k < n) (hn : n ≤ 1000) : sWhile 100000 c_hinderers_in_1 b_hinderers_in_2 [.sh (.tuple (RT f n)), .ow fd, .ow ((pch f k).reverse.map dI), .sh (.int (k : Int)), .sh (.int (f k))] = .nx [.sh (.tuple (RT f n)), .ow fd, .ow ((pch f (frt f k k)).reverse.map dI), .sh (.int (k : Int)), .sh (.int (f k))] := by
  obtain ⟨m, h1, ⟨h2, h3⟩, h4⟩ := while_s (n := 100000) (c := c_hinderers_in_1) (b := b_hinderers_in_2)
    (fun m => [.sh (.tuple (RT f n)), .ow fd, .ow ((pch f m).reverse.map dI), .sh (.int (k : Int)), .sh (.int (f k))])
    (fun m => frt f k k ≤ m ∧ m ≤ k) (fun m => decide (m ≠ 0 ∧ f (m - 1) < f k)) (fun m => frt f (m - 1) (m - 1)) (fun m => m) k ⟨frt_le k, Nat.le_refl _⟩ (by omega)
    (by
      rintro m ⟨h1, h2⟩
      cases m with
      | zero =>
        have e : (decide ((0 : Nat) ≠ 0 ∧ f (0 - 1) < f k)) = false := by simp
        rw [e, pch]
        have hne : f_ne (.list (([] : List Nat).reverse.map dI)) (.list []) = some (.val (.bool false)) := by rw [ne_nil (by simp)]; rfl
        unfold c_hinderers_in_1
        walk_at "run"
      | succ m =>
        have hx := pch_lt (f := f) (m + 1)
        rw [pch_s] at hx ⊢
        have hne : f_ne (.list ((pch f (frt f m m)).reverse.map dI ++ [.int (m : Int)])) (.list []) = some (.val (.bool true)) := by
          have := ne_nil (leafIs (xs := (m :: pch f (frt f m m)).reverse) fun x hx2 => by have := hx x (List.mem_reverse.mp hx2); omega)
          rw [List.reverse_cons, List.map_append] at this
          rw [show ([PyData.int (m : Int)] : List PyData) = [m].map dI from rfl, this]
          simp
        have hat : atI ((pch f (frt f m m)).reverse.map dI ++ [PyData.int (m : Int)]) (-1) = some (.int (m : Int)) := atI_last
        have hat2 := RT_atN (f := f) (n := n) (j := m) (by omega)
        rw [List.reverse_cons, List.map_append]
        show tst c_hinderers_in_1 [.sh (.tuple (RT f n)), .ow fd, .ow ((pch f (frt f m m)).reverse.map dI ++ [PyData.int (m : Int)]), .sh (.int (k : Int)), .sh (.int (f k))] = .ok _ [.sh (.tuple (RT f n)), .ow fd, .ow ((pch f (frt f m m)).reverse.map dI ++ [PyData.int (m : Int)]), .sh (.int (k : Int)), .sh (.int (f k))]
        rw [show m + 1 - 1 = m from rfl]
        have e : decide (m + 1 ≠ 0 ∧ f m < f k) = decide (f m < f k) := by simp
        rw [e]
        generalize (pch f (frt f m m)).reverse.map dI = L at *
        unfold c_hinderers_in_1
        walk_at "run")
    (by
      rintro m ⟨h1, h2⟩ hc
      obtain ⟨h3, h4⟩ := of_decide_eq_true hc
      obtain ⟨m, rfl⟩ : ∃ j, m = j + 1 := ⟨m - 1, by omega⟩
      rw [show m + 1 - 1 = m from rfl] at *
      have l := frt_le (r := f) (k := m) m
      have hlt : frt f k k ≤ m := by
        rcases Nat.lt_or_ge m (frt f k k) with z | z
        · have z1 := frt_stop (r := f) (k := k) (f := k) (by omega)
          rw [show frt f k k - 1 = m by omega] at z1
          omega
        · exact z
      refine ⟨.inl ?_, ⟨frt_nest hlt (by omega), by omega⟩, by omega⟩
      rw [pch_s, List.reverse_cons, List.map_append]
      show b_hinderers_in_2 [.sh (.tuple (RT f n)), .ow fd, .ow ((pch f (frt f m m)).reverse.map dI ++ [PyData.int (m : Int)]), .sh (.int (k : Int)), .sh (.int (f k))] = _
      generalize (pch f (frt f m m)).reverse.map dI = L at *
      unfold b_hinderers_in_2
      walk_at "run")
  have e : m = frt f k k := by
    have h5 := of_decide_eq_false h4
    rcases Nat.lt_or_ge (frt f k k) m with z | z
    · exact absurd ⟨by omega, frt_lt (k := k) (f := k) (by omega) (by omega)⟩ h5
    · omega
  rw [e] at h1
  exact h1
theorem F_hinderers_run (hn : n ≤ 1000) : F_hinderers_in [.sh (.tuple (RT f n))] = .ret (.fr ((List.range n).map (hD f))) [] := by
  obtain ⟨ρ2, h5, s3, s4, n3, n4, h6⟩ := for_run (g := gtTup (gtCons (gtName 3) (gtCons (gtName 4) gtNil)) 2) (b := b_hinderers_in_3) (m := iEnumD (dVar 0))
    (ρ := [.sh (.tuple (RT f n)), .ow [], .ow [], .no, .no]) (ρ' := [.sh (.tuple (RT f n)), .ow [], .ow [], .no, .no]) (items := enumL (RT f n))
    (fun k ρ => ∃ s3 s4, NB s3 ∧ NB s4 ∧ ρ = [.sh (.tuple (RT f n)), .ow ((List.range k).map (hD f)), .ow ((pch f k).reverse.map dI), s3, s4])
    (by walk_at "run") ⟨.no, .no, rfl, rfl, by rw [pch]; rfl⟩
    (by
      rintro k d ρ hi ⟨s3, s4, n3, n4, rfl⟩
      obtain ⟨hk, rfl⟩ := RT_enum hi
      have lp := waiting_loop (f := f) (fd := (List.range k).map (hD f)) hk hn
      have hl : ((List.range k).map (hD f)).length = k := by simp
      have hpl : ((pch f (frt f k k)).reverse.map dI).length ≤ k := by
        have := pch_len (f := f) (frt f k k)
        have := frt_le (r := f) (k := k) k
        simp; omega
      have e2 : (pch f (k + 1)).reverse.map dI = (pch f (frt f k k)).reverse.map dI ++ [.int (k : Int)] := by rw [pch_s, List.reverse_cons, List.map_append]; rfl
      have e1 : (List.range (k + 1)).map (hD f) = (List.range k).map (hD f) ++ [hD f k] := (map_range_append _ _).symm
      refine ⟨[.sh (.tuple (RT f n)), .ow ((List.range k).map (hD f)), .ow ((pch f k).reverse.map dI), .sh (.int (k : Int)), .sh (.int (f k))], [.sh (.tuple (RT f n)), .ow ((List.range k).map (hD f) ++ [hD f k]), .ow ((pch f (frt f k k)).reverse.map dI ++ [.int (k : Int)]), .sh (.int (k : Int)), .sh (.int (f k))], by walk_at "run", ?_, .sh (.int (k : Int)), .sh (.int (f k)), rfl, rfl, by rw [e1, e2]⟩
      by_cases z : frt f k k = 0
      · have hd : hD f k = .none := if_pos z
        rw [hd]
        rw [z, pch] at lp hpl ⊢
        have hne : f_ne (.list (([] : List Nat).reverse.map dI)) (.list []) = some (.val (.bool false)) := by rw [ne_nil (by simp)]; rfl
        generalize (List.range k).map (hD f) = FD at *
        generalize (pch f k).reverse.map dI = PD at *
        generalize ([] : List Nat).reverse.map dI = PE at *
        unfold b_hinderers_in_3
        walk_at "run"
      · obtain ⟨m, hm⟩ : ∃ m, frt f k k = m + 1 := ⟨frt f k k - 1, by omega⟩
        have hd : hD f k = .int (m : Int) := by unfold hD; rw [if_neg z, hm]; rfl
        rw [hd]
        have hx := pch_lt (f := f) (m + 1)
        have hfl := frt_le (r := f) (k := k) k
        rw [hm, pch_s, List.reverse_cons, List.map_append] at lp hpl ⊢
        rw [pch_s] at hx
        have hne : f_ne (.list ((pch f (frt f m m)).reverse.map dI ++ [m].map dI)) (.list []) = some (.val (.bool true)) := by
          have := ne_nil (leafIs (xs := (m :: pch f (frt f m m)).reverse) fun x hx2 => by have := hx x (List.mem_reverse.mp hx2); omega)
          rw [List.reverse_cons, List.map_append] at this
          rw [this]
          simp
        have hat : atI ((pch f (frt f m m)).reverse.map dI ++ [m].map dI) (-1) = some (.int (m : Int)) := atI_last
        generalize (List.range k).map (hD f) = FD at *
        generalize (pch f k).reverse.map dI = PD at *
        generalize (pch f (frt f m m)).reverse.map dI ++ [m].map dI = PE at *
        unfold b_hinderers_in_3
        walk_at "run")
  subst h6
  rw [RT_enumLen] at h5
  walk_at "fn"
  unfold d_hinderers_in
  walk_at "run"
theorem F_spans_in_run (hn : n ≤ 1000) : F_spans_in [.sh (.tuple (RT f n))] = .ret (.sh (.tuple (RT (wrd one f) n))) [] := by
  have c := F_hinderers_run (f := f) hn
  have hm : iEnumD (dCall SP.F_hinderers_in [(true, dVar 0)]) [.sh (.tuple (RT f n)), .no, .no] = .ok (enumL ((List.range n).map (hD f))) [.sh (.tuple (RT f n)), .no, .no] := by walk_at "run"
  have hc : dLC (iEnumD (dCall SP.F_hinderers_in [(true, dVar 0)])) (gtTup (gtCons (gtName 1) (gtCons (gtName 2) gtNil)) 2) dYes (dIf (dOp2 f_isN (dVar 2) (dC .none)) (dOp2 f_add (dVar 1) (dC (.int 1))) (dOp2 f_sub (dVar 1) (dVar 2))) [1, 2] [.sh (.tuple (RT f n)), .no, .no] = .ok (.fr (RT (wrd one f) n)) [.sh (.tuple (RT f n)), .no, .no] := by
    have e : (enumL ((List.range n).map (hD f))).map (fun d => match d with | .tuple [.int i, _] => PyData.int (wrd one f i.toNat) | _ => .none) = RT (wrd one f) n := by
      refine List.ext_getElem? fun i => ?_
      by_cases hi : i < n
      · rw [RT_get hi, List.getElem?_map]
        have hx : (enumL ((List.range n).map (hD f)))[i]? = some (.tuple [.int (i : Int), hD f i]) := by
          unfold enumL
          rw [List.getElem?_zipWith, map_range_get _ hi, List.getElem?_range (by simpa using hi)]
        rw [hx]; rfl
      · rw [List.getElem?_eq_none (by simp [DL.enumL_length]; omega), List.getElem?_eq_none (by rw [RT_len]; omega)]
    rw [← e]
    refine lc_map _ hm rfl rfl (by rw [DL.enumL_length]; simp; omega) fun d hd => ?_
    obtain ⟨i, hi⟩ := List.getElem?_of_mem hd
    obtain ⟨x, hx, rfl⟩ := enumL_get hi
    have hi2 : i < n := by have := lt_of_get hx; simpa using this
    rw [map_range_get _ hi2] at hx
    cases hx
    refine ⟨[.sh (.tuple (RT f n)), .sh (.int (i : Int)), .sh (hD f i)], by walk_at "run", ?_, rfl⟩
    show mbind _ shr _ = .ok (.int (wrd one f (i : Int).toNat)) _
    rw [Int.toNat_natCast, wrd_one]
    have l := frt_le (r := f) (k := i) i
    have hv : dIf (dOp2 f_isN (dVar 2) (dC .none)) (dOp2 f_add (dVar 1) (dC (.int 1))) (dOp2 f_sub (dVar 1) (dVar 2)) [.sh (.tuple (RT f n)), .sh (.int (i : Int)), .sh (hD f i)] = .ok (.sh (.int ((spn f i : Nat) : Int))) [.sh (.tuple (RT f n)), .sh (.int (i : Int)), .sh (hD f i)] := by
      unfold hD spn
      by_cases z : frt f i i = 0
      · rw [if_pos z, z, show (((i + 1 - 0 : Nat)) : Int) = (i : Int) + 1 by omega]
        walk_at "run"
      · rw [if_neg z, show (((i + 1 - frt f i i : Nat)) : Int) = (i : Int) - ((frt f i i - 1 : Nat) : Int) by omega]
        walk_at "run"
    rw [e_mbind, hv]; rfl
  walk_at "fn"
  unfold d_spans_in
  walk_at "run"
end SP
end

section
set_option Elab.async false
set_option linter.all false
set_option maxHeartbeats 1000000
open PySem L2 DL
namespace SP
variable {f : Nat → Int} {n : Nat}
theorem min_cast {m : Int} (h0 : 0 ≤ m) : (if (n : Int) < m then (n : Int) else m) = ((min m.toNat n : Nat) : Int) := by
  split <;> omega
theorem F_after_in_run {m : Int} (h0 : 0 ≤ m) (hn : n ≤ 1000) : F_after_in [.sh (.tuple (RT f n)), .sh (.int m)] = .ret (.sh (.tuple (RT (wit one m.toNat f) n))) [] := by
  have hl : (RT f n).length = n := RT_len
  obtain ⟨k, hk⟩ : ∃ k, k = min m.toNat n := ⟨_, rfl⟩
  have hm := min_cast (n := n) h0
  rw [← hk] at hm
  have hr : dB f_min [dVar 1, dB f_len [dVar 0]] [.sh (.tuple (RT f n)), .sh (.int m), .no] = .ok (.sh (.int (k : Int))) [.sh (.tuple (RT f n)), .sh (.int m), .no] := by
    rw [← hm]
    walk_at "run"
  have hr2 : DL.iRng1 (dB f_min [dVar 1, dB f_len [dVar 0]]) [.sh (.tuple (RT f n)), .sh (.int m), .no] = .ok (rngL 0 1 k) [.sh (.tuple (RT f n)), .sh (.int m), .no] := by
    have q := rng1_of hr (by omega) (by omega)
    rwa [Int.toNat_natCast] at q
  obtain ⟨ρ2, h5, s2, n2, h6⟩ := for_run (g := gtName 2) (b := b_after_in_1) (m := DL.iRng1 (dB f_min [dVar 1, dB f_len [dVar 0]]))
    (ρ := [.sh (.tuple (RT f n)), .sh (.int m), .no]) (ρ' := [.sh (.tuple (RT f n)), .sh (.int m), .no]) (items := rngL 0 1 k)
    (fun t ρ => ∃ s2, NB s2 ∧ ρ = [.sh (.tuple (RT (wit one t f) n)), .sh (.int m), s2])
    hr2 ⟨.no, rfl, rfl⟩
    (by
      rintro t d ρ hi ⟨s2, n2, rfl⟩
      obtain ⟨hi2, rfl⟩ := rngL_get hi
      have c := F_spans_in_run (f := wit one t f) hn
      rw [← wit_s] at c
      refine ⟨_, [.sh (.tuple (RT (wit one (t + 1) f) n)), .sh (.int m), .sh (.int (0 + (t : Int) * 1))], by walk_at "run", ?_, .sh (.int (0 + (t : Int) * 1)), rfl, rfl⟩
      unfold b_after_in_1
      walk_at "run")
  subst h6
  rw [rngL_length] at h5
  have e : RT (wit one m.toNat f) n = RT (wit one k f) n := by
    by_cases c : m.toNat ≤ n
    · rw [hk, Nat.min_eq_left c]
    · rw [hk, Nat.min_eq_right (by omega)]
      refine RT_ext fun i hi => ?_
      rw [show m.toNat = n + (m.toNat - n) by omega]
      exact wit_far one_pos hi _
  rw [e]
  walk_at "fn"
  unfold d_after_in
  walk_at "run"
end SP
end

section
set_option Elab.async false
set_option linter.all false
set_option maxHeartbeats 1000000
open PySem L2 DL
namespace SP
variable {f g : Nat → Int} {n : Nat}
theorem F_row_after_run {m : Int} (h : InB f n) (h1 : 1 ≤ n) (h2 : n ≤ 100) (h0 : 0 ≤ m) (hm : m ≤ 1000000000000000000000000000000) : F_row_after [.sh (.tuple (RT f n)), .sh (.int m)] = .ret (.sh (.tuple (RT (wit one m.toNat f) n))) [] := by
  have c1 := F_require_row_ok h h1 h2
  have c2 := F_require_rounds_ok h0 hm
  have c3 := F_after_in_run (f := f) (n := n) h0 (by omega)
  walk_at "fn"
  unfold d_row_after
  walk_at "run"
end SP
end

section
set_option Elab.async false
set_option linter.all false
set_option maxHeartbeats 1000000
open PySem L2 DL
namespace SP
/-! the rows of all rounds -/
variable {f : Nat → Int} {n : Nat}
def rowsL (f : Nat → Int) (n t : Nat) : List PyData := (List.range t).map fun s => PyData.tuple (RT (wit one s f) n)
theorem rowsL_s (t : Nat) : rowsL f n (t + 1) = rowsL f n t ++ [.tuple (RT (wit one t f) n)] := (map_range_append _ _).symm
theorem rowsL_len (t : Nat) : (rowsL f n t).length = t := by unfold rowsL; simp
theorem F_rows_in_run {T : Nat} (h : InB f n) (hn : n ≤ 100) (N : Need one f n T) : F_rows_in [.sh (.tuple (RT f n))] = .ret (.fr (rowsL f n (T + 1))) [] := by
  have c0 := F_spans_in_run (f := f) (n := n) (by omega)
  have e0 : RT (wrd one f) n = RT (wit one 1 f) n := rfl
  rw [e0] at c0
  have hT := N.le one_pos
  have lp : sWhile 100000 c_rows_in_1 b_rows_in_2 [.sh (.tuple (RT f n)), .ow (rowsL f n 1), .sh (.tuple (RT (wit one 1 f) n))] = .nx [.sh (.tuple (RT f n)), .ow (rowsL f n (T + 1)), .sh (.tuple (RT (wit one (T + 1) f) n))] := by
    obtain ⟨t, h1, h2, h4⟩ := while_s (n := 100000) (c := c_rows_in_1) (b := b_rows_in_2)
      (fun t => [.sh (.tuple (RT f n)), .ow (rowsL f n (t + 1)), .sh (.tuple (RT (wit one (t + 1) f) n))])
      (fun t => t ≤ T) (fun t => !decide (RL (wit one (t + 1) f) n = RL (wit one t f) n)) (fun t => t + 1) (fun t => T - t) 0 (Nat.zero_le _) (by omega)
      (by
        intro t ht
        have hat : atI (rowsL f n (t + 1)) (-1) = some (.tuple (RT (wit one t f) n)) := by rw [rowsL_s]; exact atI_last
        have hne := neT_RT (f := wit one (t + 1) f) (g := wit one t f) (wit_one_b h (by omega) _).w (wit_one_b h (by omega) _).w (n := n) (m := n)
        generalize rowsL f n (t + 1) = L at *
        unfold c_rows_in_1
        walk_at "run")
      (by
        intro t ht hc
        have hc' : RL (wit one (t + 1) f) n ≠ RL (wit one t f) n := fun z => by rw [decide_eq_true z] at hc; cases hc
        have ht2 : t < T := by
          rcases Nat.lt_or_ge t T with z | z
          · exact z
          · exact absurd (by rw [show t = T by omega]; exact N.rests) hc'
        have c1 := F_spans_in_run (f := wit one (t + 1) f) (n := n) (by omega)
        rw [← wit_s] at c1
        have hl := rowsL_len (f := f) (n := n) (t + 1)
        refine ⟨.inl ?_, ht2, by omega⟩
        rw [rowsL_s (t + 1)]
        generalize rowsL f n (t + 1) = L at *
        unfold b_rows_in_2
        walk_at "run")
    have h5 : RL (wit one (t + 1) f) n = RL (wit one t f) n := by
      by_cases z : RL (wit one (t + 1) f) n = RL (wit one t f) n
      · exact z
      · rw [decide_eq_false z] at h4; cases h4
    have e : t = T := by
      rcases Nat.lt_or_ge t T with z | z
      · exact absurd h5 (N.moves t z)
      · omega
    rw [e] at h1
    exact h1
  have e1 : rowsL f n 1 = [.tuple (RT f n)] := rfl
  rw [e1] at lp
  walk_at "fn"
  unfold d_rows_in
  walk_at "run"
end SP
end

section
set_option Elab.async false
set_option linter.all false
set_option maxHeartbeats 1000000
open PySem L2 DL
namespace SP
variable {f : Nat → Int} {n : Nat}
theorem F_rounds_needed_run {T : Nat} (h : InB f n) (h1 : 1 ≤ n) (hn : n ≤ 100) (N : Need one f n T) : F_rounds_needed [.sh (.tuple (RT f n))] = .ret (.sh (.int (T : Int))) [] := by
  have c0 := F_rows_in_run h hn N
  have c1 := F_require_row_ok h h1 hn
  have hl := rowsL_len (f := f) (n := n) (T + 1)
  have c2 : F_needed_in [.sh (.tuple (RT f n))] = .ret (.sh (.int (T : Int))) [] := by
    have e : (T : Int) = ((T + 1 : Nat) : Int) - 1 := by omega
    rw [e]
    walk_at "fn"
    unfold d_needed_in
    walk_at "run"
  walk_at "fn"
  unfold d_rounds_needed
  walk_at "run"
end SP
end

section
set_option Elab.async false
set_option linter.all false
set_option maxHeartbeats 1000000
open PySem L2 DL SP
namespace LW
variable {B : List SP.Run} {n T : Nat} {f : Nat → Int}
/-! ### _law_runs -/
theorem runs_step {z0 : Sl} {S : List SP.Run} {e : Int} (hS : ∀ p ∈ S, InE p.1 ∧ p.2 ≤ 1000000) (hl : S.length < 100000) : b__law_runs_1 [z0, .ow (rDs S.reverse), .sh (.int e)] = .nx [z0, .ow (rDs (mst S (e, 1)).reverse), .sh (.int e)] := by
  cases S with
  | nil =>
    have hne : f_ne (.list []) (.list []) = some (.val (.bool false)) := rfl
    show b__law_runs_1 [z0, .ow [], .sh (.int e)] = .nx [z0, .ow ([] ++ [.tuple [.int e, .int 1]]), .sh (.int e)]
    have l0 : ([] : List PyData).length < 100000 := by decide
    unfold b__law_runs_1
    walk_at "run"
  | cons q l =>
    obtain ⟨a, k⟩ := q
    have hne := rDs_ne (R := ((a, k) :: l).reverse) fun p hp => hS p (List.mem_reverse.mp hp)
    have e0 : rDs ((a, k) :: l).reverse = rDs l.reverse ++ [.tuple [.int a, .int (k : Int)]] := by
      unfold rDs
      rw [List.reverse_cons, List.map_append]; rfl
    rw [e0] at hne ⊢
    have e1 : (!(rDs l.reverse ++ [PyData.tuple [.int a, .int (k : Int)]]).isEmpty) = true := by simp
    rw [e1] at hne
    have hat : atI (rDs l.reverse ++ [PyData.tuple [.int a, .int (k : Int)]]) (-1) = some (.tuple [.int a, .int (k : Int)]) := atI_last
    have ll : (rDs l.reverse).length = l.length := by rw [List.length_map, List.length_reverse]
    rw [List.length_cons] at hl
    by_cases g : a = e
    · subst g
      have e2 : rDs (mst ((a, k) :: l) (a, 1)).reverse = rDs l.reverse ++ [.tuple [.int a, .int ((k : Int) + 1)]] := by
        have : mst ((a, k) :: l) (a, 1) = (a, k + 1) :: l := by unfold mst; simp
        rw [this]
        unfold rDs
        rw [List.reverse_cons, List.map_append]; rfl
      rw [e2]
      have hix : ixN (rDs l.reverse ++ [PyData.tuple [.int a, .int (k : Int)]]).length (-1) = some (rDs l.reverse).length := by
        unfold ixN
        rw [List.length_append]
        show (if (0 : Int) ≤ -1 then _ else _) = _
        rw [if_neg (by decide)]
        have h1 : ([PyData.tuple [.int a, .int (k : Int)]] : List PyData).length = 1 := rfl
        rw [h1]
        have h2 : -(((rDs l.reverse).length + 1 : Nat) : Int) ≤ -1 := by omega
        rw [if_pos h2]
        congr 1
        omega
      have hset : (rDs l.reverse ++ [PyData.tuple [.int a, .int (k : Int)]]).set (rDs l.reverse).length (.tuple [.int a, .int ((k : Int) + 1)]) = rDs l.reverse ++ [.tuple [.int a, .int ((k : Int) + 1)]] := by
        rw [List.set_append_right _ _ (Nat.le_refl _), Nat.sub_self]; rfl
      unfold b__law_runs_1
      clear hS e0 e1 e2 ll
      generalize rDs l.reverse = L at *
      generalize (k : Int) = K at *
      walk_at "run"
    · have e2 : rDs (mst ((a, k) :: l) (e, 1)).reverse = rDs l.reverse ++ [.tuple [.int a, .int (k : Int)]] ++ [.tuple [.int e, .int 1]] := by
        have : mst ((a, k) :: l) (e, 1) = (e, 1) :: (a, k) :: l := by
          simp [mst, g]
        rw [this]
        unfold rDs
        rw [List.reverse_cons, List.reverse_cons, List.map_append, List.map_append]; rfl
      rw [e2]
      have hlen : (rDs l.reverse ++ [PyData.tuple [.int a, .int (k : Int)]]).length < 100000 := by
        rw [List.length_append, ll]; show l.length + 1 < _; omega
      unfold b__law_runs_1
      clear hS e0 e1 e2 ll hl
      generalize rDs l.reverse = L at *
      generalize (k : Int) = K at *
      walk_at "run"
theorem ones_rok (hf : InB f n) (hn : n ≤ 1000) : Rok (ones f n) := rok_of (fun p hp => (ones_blk hf p hp).pos) (by
    rw [ones_ex]
    intro x hx
    obtain ⟨i, hi, rfl⟩ := List.mem_map.mp hx
    exact hf i (List.mem_range.mp hi)) (by rw [ones_ex, RL_len]; exact hn)
theorem ones_get {i : Nat} (hi : i < (ones f n).length) : (ones f n)[i] = (f i, 1) := by
  unfold ones RL
  simp
theorem F_runs (hf : InB f n) (hn : n ≤ 1000) : F__law_runs [.sh (.tuple (RT f n))] = .ret (.sh (.tuple (rDs (mrg (ones f n))))) [] := by
  have h := ones_rok hf hn
  have hm : iSeq (dVar 0) [.sh (.tuple (RT f n)), .ow [], .no] = .ok (RT f n) [.sh (.tuple (RT f n)), .ow [], .no] := by
    generalize RT f n = b at *
    walk_at "run"
  obtain ⟨ρ2, e, y2, _, rfl⟩ := for_run (g := gtName 2) (b := b__law_runs_1) (hm := hm)
    (R := fun i ρ => ∃ y2, NB y2 ∧ ρ = [.sh (.tuple (RT f n)), .ow (rDs (((ones f n).take i).foldl mst []).reverse), y2]) (r := ⟨.no, rfl, rfl⟩)
    (h := by
      rintro i d ρ hd ⟨y2, m2, rfl⟩
      have hi : i < n := by
        have := (List.getElem?_eq_some_iff.mp hd).1
        rwa [RT_len] at this
      have ed : d = .int (f i) := by
        rw [RT_get hi] at hd
        exact (Option.some.inj hd).symm
      subst ed
      have hi2 : i < (ones f n).length := by rw [ones_len]; exact hi
      obtain ⟨q1, q2⟩ := mrg_take h i
      have c := runs_step (z0 := .sh (.tuple (RT f n))) (S := ((ones f n).take i).foldl mst []) (e := f i) q1 (by omega)
      rw [← ones_get hi2, ← foldl_take mst [] (ones f n) i hi2] at c
      refine ⟨[.sh (.tuple (RT f n)), .ow (rDs (((ones f n).take i).foldl mst []).reverse), .sh (.int (f i))], _, by
        clear c q1 q2 hm hd
        generalize rDs (((ones f n).take i).foldl mst []).reverse = M at *
        generalize RT f n = b at *
        walk_at "run", c, .sh (.int (f i)), rfl, rfl⟩)
  rw [RT_len] at e
  have e2 : ((ones f n).take n).foldl mst [] = mrgR (ones f n) := by
    have := ones_len (f := f) (n := n)
    rw [show (ones f n).take n = ones f n from by rw [List.take_of_length_le (by omega)]]
    rfl
  rw [e2] at e
  have e : sFor (iSeq (dVar 0)) (gtName 2) b__law_runs_1 [.sh (.tuple (RT f n)), .ow [], .no] = .nx [.sh (.tuple (RT f n)), .ow (rDs (mrg (ones f n))), y2] := e
  refine fn_rt (ρ1 := [.sh (.tuple (RT f n)), .no, .no]) (ρ2 := [.sh (.tuple (RT f n)), .ow (rDs (mrg (ones f n))), y2]) rfl ?_ rfl
  unfold d__law_runs
  clear hm e2
  generalize rDs (mrg (ones f n)) = M at *
  generalize RT f n = b at *
  walk_at "run"
/-! ### _law_blocks -/
/-- what is found is found, the last one first -/
structure Fd (f : Nat → Int) (i : Nat) (S : List SP.Run) : Prop where
  ent : ∀ p ∈ S, InE p.1 ∧ p.2 ≤ 1000000
  pos : ∀ p ∈ S, 1 ≤ p.2
  ex : exL S.reverse = RL f i
theorem Fd.len {i : Nat} {S : List SP.Run} (h : Fd f i S) : S.length ≤ i := by
  have := len_le (R := S.reverse) fun p hp => h.pos p (List.mem_reverse.mp hp)
  rw [h.ex, RL_len, List.length_reverse] at this
  exact this
theorem Fd.snoc {i : Nat} {S : List SP.Run} (h : Fd f i S) (hf : InE (f i)) : Fd f (i + 1) ((f i, 1) :: S) := by
  refine ⟨fun p hp => ?_, fun p hp => ?_, ?_⟩
  · rcases List.mem_cons.mp hp with rfl | hp
    · exact ⟨hf, by show 1 ≤ 1000000; omega⟩
    · exact h.ent p hp
  · rcases List.mem_cons.mp hp with rfl | hp
    · exact Nat.le_refl _
    · exact h.pos p hp
  · rw [List.reverse_cons, exL_app, h.ex, RL_s]; rfl
theorem Fd.more {i k : Nat} {S : List SP.Run} (h : Fd f i ((f i, k) :: S)) (hi : i < 1000) : Fd f (i + 1) ((f i, k + 1) :: S) := by
  have hk : k ≤ i := by
    have := cnt_le (R := ((f i, k) :: S).reverse) (p := (f i, k)) (by simp)
    rw [h.ex, RL_len] at this
    exact this
  refine ⟨fun p hp => ?_, fun p hp => ?_, ?_⟩
  · rcases List.mem_cons.mp hp with rfl | hp
    · exact ⟨(h.ent _ List.mem_cons_self).1, by show k + 1 ≤ 1000000; omega⟩
    · exact h.ent p (List.mem_cons_of_mem _ hp)
  · rcases List.mem_cons.mp hp with rfl | hp
    · show 1 ≤ k + 1; omega
    · exact h.pos p (List.mem_cons_of_mem _ hp)
  · have e := h.ex
    rw [List.reverse_cons, exL_app, exL_one] at e ⊢
    rw [RL_s, ← e, List.append_assoc, List.replicate_succ']
theorem blocks_step {t : List PyData} {z1 : Sl} {m i : Nat} {S : List SP.Run} (T : Bag m t) (hm : m < 900000) (h : Fd f i S) (hi : i < 1000) (hf : InE (f i)) :
    ∃ t' S', b__law_blocks_1 [.bo t, z1, .ow (rDs S.reverse), .sh (.int (f i))] = .nx [.bo t', z1, .ow (rDs S'.reverse), .sh (.int (f i))] ∧ Bag (m + 1) t' ∧ Fd f (i + 1) S' := by
  have hl0 := h.len
  obtain ⟨v, t1, c1, p1, q1, T1⟩ := F_pick (m := 3) T (by omega) (by omega) (big (by omega))
  have hs := h.snoc hf
  obtain ⟨e, he⟩ : ∃ e, e = f i := ⟨_, rfl⟩
  cases S with
  | nil =>
    have hne : f_ne (.list []) (.list []) = some (.val (.bool false)) := rfl
    refine ⟨t, [(f i, 1)], ?_, T.mono (by omega), hs⟩
    rw [← he]
    show b__law_blocks_1 [.bo t, z1, .ow [], .sh (.int e)] = .nx [.bo t, z1, .ow ([] ++ [.tuple [.int e, .int 1]]), .sh (.int e)]
    have l0 : ([] : List PyData).length < 100000 := by decide
    unfold b__law_blocks_1
    walk_at "run"
  | cons q l =>
    obtain ⟨a, k⟩ := q
    have hne := rDs_ne (R := ((a, k) :: l).reverse) fun p hp => h.ent p (List.mem_reverse.mp hp)
    have e0 : rDs ((a, k) :: l).reverse = rDs l.reverse ++ [.tuple [.int a, .int (k : Int)]] := by
      unfold rDs
      rw [List.reverse_cons, List.map_append]; rfl
    rw [e0] at hne ⊢
    have e1 : (!(rDs l.reverse ++ [PyData.tuple [.int a, .int (k : Int)]]).isEmpty) = true := by simp
    rw [e1] at hne
    have hat : atI (rDs l.reverse ++ [PyData.tuple [.int a, .int (k : Int)]]) (-1) = some (.tuple [.int a, .int (k : Int)]) := atI_last
    have ll : (rDs l.reverse).length = l.length := by rw [List.length_map, List.length_reverse]
    rw [List.length_cons] at hl0
    have e3 : rDs ((f i, 1) :: (a, k) :: l).reverse = rDs l.reverse ++ [.tuple [.int a, .int (k : Int)]] ++ [.tuple [.int e, .int 1]] := by
      rw [he]
      unfold rDs
      rw [List.reverse_cons, List.reverse_cons, List.map_append, List.map_append]; rfl
    have hlen : (rDs l.reverse ++ [PyData.tuple [.int a, .int (k : Int)]]).length < 100000 := by
      rw [List.length_append, ll]; show l.length + 1 < _; omega
    by_cases g : a = e
    · by_cases gv : 0 < v
      · subst g
        subst he
        have e2 : rDs ((f i, k + 1) :: l).reverse = rDs l.reverse ++ [.tuple [.int (f i), .int ((k : Int) + 1)]] := by
          unfold rDs
          rw [List.reverse_cons, List.map_append]; rfl
        refine ⟨t1, (f i, k + 1) :: l, ?_, T1, h.more hi⟩
        rw [e2]
        have hix : ixN (rDs l.reverse ++ [PyData.tuple [.int (f i), .int (k : Int)]]).length (-1) = some (rDs l.reverse).length := by
          unfold ixN
          rw [List.length_append]
          show (if (0 : Int) ≤ -1 then _ else _) = _
          rw [if_neg (by decide)]
          have h1 : ([PyData.tuple [.int (f i), .int (k : Int)]] : List PyData).length = 1 := rfl
          rw [h1]
          have h2 : -(((rDs l.reverse).length + 1 : Nat) : Int) ≤ -1 := by omega
          rw [if_pos h2]
          congr 1
          omega
        have hset : (rDs l.reverse ++ [PyData.tuple [.int (f i), .int (k : Int)]]).set (rDs l.reverse).length (.tuple [.int (f i), .int ((k : Int) + 1)]) = rDs l.reverse ++ [.tuple [.int (f i), .int ((k : Int) + 1)]] := by
          rw [List.set_append_right _ _ (Nat.le_refl _), Nat.sub_self]; rfl
        unfold b__law_blocks_1
        clear hs h e0 e1 e2 e3 ll
        generalize rDs l.reverse = L at *
        generalize (k : Int) = K at *
        generalize f i = x at *
        walk_at "run"
      · refine ⟨t1, (f i, 1) :: (a, k) :: l, ?_, T1, hs⟩
        rw [e3, ← he]
        unfold b__law_blocks_1
        clear hs h e0 e1 e3 ll he
        generalize rDs l.reverse = L at *
        generalize (k : Int) = K at *
        walk_at "run"
    · refine ⟨t, (f i, 1) :: (a, k) :: l, ?_, T.mono (by omega), hs⟩
      rw [e3, ← he]
      unfold b__law_blocks_1
      clear hs h e0 e1 e3 ll he
      generalize rDs l.reverse = L at *
      generalize (k : Int) = K at *
      walk_at "run"
theorem F_blks {t : List PyData} {m : Nat} (T : Bag m t) (hm : m < 800000) (hf : InB f n) (h1 : 1 ≤ n) (hn : n ≤ 100) :
    ∃ t' B, F__law_blocks [.bo t, .sh (.tuple (RT f n))] = .ret (.sh (.tuple (rDs B))) [t'] ∧ Bag (m + 1000) t' ∧ LB B ∧ exL B = RL f n := by
  have hi0 : iSeq (dVar 1) [.bo t, .sh (.tuple (RT f n)), .ow [], .no] = .ok (RT f n) [.bo t, .sh (.tuple (RT f n)), .ow [], .no] := by
    generalize RT f n = b at *
    walk_at "run"
  obtain ⟨ρ2, e, t2, S, y3, T2, F2, n3, rfl⟩ := for_run (g := gtName 3) (b := b__law_blocks_1) (hm := hi0)
    (R := fun i ρ => ∃ t2 S y3, Bag (m + i) t2 ∧ Fd f i S ∧ NB y3 ∧ ρ = [.bo t2, .sh (.tuple (RT f n)), .ow (rDs S.reverse), y3])
    (r := ⟨t, [], .no, T, ⟨(fun p hp => nomatch hp), (fun p hp => nomatch hp), rfl⟩, rfl, rfl⟩)
    (h := by
      rintro i d ρ hd ⟨t2, S, y3, T2, F2, n3, rfl⟩
      have hi : i < n := by
        have := (List.getElem?_eq_some_iff.mp hd).1
        rwa [RT_len] at this
      have ed : d = .int (f i) := by
        rw [RT_get hi] at hd
        exact (Option.some.inj hd).symm
      subst ed
      obtain ⟨t3, S3, c, T3, F3⟩ := blocks_step (z1 := .sh (.tuple (RT f n))) T2 (by omega) F2 (by omega) (hf i hi)
      exact ⟨[.bo t2, .sh (.tuple (RT f n)), .ow (rDs S.reverse), .sh (.int (f i))], _, by
        clear c hi0 hd
        generalize rDs S.reverse = M at *
        generalize RT f n = b at *
        walk_at "run", c, t3, S3, .sh (.int (f i)), T3, F3, rfl, rfl⟩)
  rw [RT_len] at T2 F2
  have hl := F2.len
  refine ⟨t2, S.reverse, ?_, T2.mono (by omega), ⟨fun p hp => ?_, ?_, by rw [List.length_reverse]; omega, by rw [F2.ex, RL_len]; omega⟩, F2.ex⟩
  · refine fn_rt (ρ1 := [.bo t, .sh (.tuple (RT f n)), .no, .no]) (ρ2 := [.bo t2, .sh (.tuple (RT f n)), .ow (rDs S.reverse), y3]) rfl ?_ rfl
    unfold d__law_blocks
    clear hi0
    generalize rDs S.reverse = M at *
    generalize RT f n = b at *
    walk_at "run"
  · have hp := List.mem_reverse.mp hp
    have := F2.ent p hp
    exact ⟨this.1, F2.pos p hp, by omega⟩
  · rcases Nat.eq_zero_or_pos S.reverse.length with z | z
    · exfalso
      have e2 : S.reverse = [] := List.eq_nil_of_length_eq_zero z
      have e3 := F2.ex
      rw [e2] at e3
      have : (RL f n).length = 0 := by rw [← e3]; rfl
      rw [RL_len] at this
      omega
    · exact z
end LW
end

section
set_option Elab.async false
set_option linter.all false
set_option maxHeartbeats 1000000
open PySem L2 DL SP
namespace SP
variable {B : List Run} {T : Nat}
/-! ### long_count -/
theorem cnt_runs (e : Int) : ∀ X : List Run, (((X.filter fun q => decide (q.1 = e)).map fun q => (q.2 : Int)).sum) = (((exL X).count e : Nat) : Int)
  | [] => rfl
  | q :: l => by
    have ih := cnt_runs e l
    have ex : (exL (q :: l)).count e = (if q.1 = e then q.2 else 0) + (exL l).count e := by
      show (List.replicate q.2 q.1 ++ exL l).count e = _
      rw [List.count_append, List.count_replicate]
      by_cases c : q.1 = e
      · rw [if_pos c, if_pos (by simpa using c)]
      · rw [if_neg c, if_neg (by simpa using c)]
    rw [ex, List.filter_cons]
    by_cases c : q.1 = e
    · rw [if_pos (by simpa using c), if_pos c, List.map_cons, List.sum_cons, ih]
      omega
    · rw [if_neg (by simpa using c), if_neg c, ih]
      omega
theorem F_long_count_run {m e : Int} (h : LB B) (N : Need one (xf B) (exL B).length T) (h0 : 0 ≤ m) (h1 : m ≤ 1000000000000000000000000000000) : F_long_count [.sh (.tuple (rDs B)), .sh (.int e), .sh (.int m)] = .ret (.sh (.int (((RL (wit one m.toNat (xf B)) (exL B).length).count e : Nat) : Int))) [] := by
  have c1 := F_blocks_ok h.blk h.one h.most
  have c2 := F_require_rounds_ok h0 h1
  have c3 := F_merged_run h.rok
  have c4 := F_settled h.rok N h0
  have c5 := F_is_int_int e
  have er := RS_min h.rok N m.toNat
  obtain ⟨X, hX⟩ : ∃ X, X = RS B (min m.toNat T) := ⟨_, rfl⟩
  have lX0 : X.length ≤ (exL X).length := by
    rw [hX]
    exact len_le (RS_can h.rok.pos _).all
  rw [← hX] at c4 er
  have lX : X.length ≤ 1000 := by
    have := h.rok.len
    rw [er, RL_len] at lX0
    omega
  rw [← er, ← cnt_runs]
  have hm : iSeq (dOp2 f_ix (dCall SP.F_settled_runs [(false, dCall SP.F_merged [(false, dVar 0)]), (true, dVar 2)]) (dC (.int 0))) [.sh (.tuple (rDs B)), .sh (.int e), .sh (.int m), .no, .no] = .ok (rDs X) [.sh (.tuple (rDs B)), .sh (.int e), .sh (.int m), .no, .no] := by
    clear c1 c2 c5
    generalize ((min m.toNat T : Nat) : Int) = MM at *
    generalize rDs X = x at *
    generalize rDs (mrg B) = M at *
    generalize rDs B = b at *
    walk_at "run"
  have hc : dLC (iSeq (dOp2 f_ix (dCall SP.F_settled_runs [(false, dCall SP.F_merged [(false, dVar 0)]), (true, dVar 2)]) (dC (.int 0)))) (gtTup (gtCons (gtName 3) (gtCons (gtName 4) gtNil)) 2) (tst (dOp2 f_eq (dVar 3) (dVar 1))) (dVar 4) [3, 4] [.sh (.tuple (rDs B)), .sh (.int e), .sh (.int m), .no, .no] =
      .ok (.fr (((X.filter fun q => decide (q.1 = e)).map fun q => (q.2 : Int)).map .int)) [.sh (.tuple (rDs B)), .sh (.int e), .sh (.int m), .no, .no] := by
    have ee : ((rDs X).filter (fun d => match d with | .tuple [.int y, _] => decide (y = e) | _ => false)).map (fun d => match d with | .tuple [_, x] => x | d => d) = ((X.filter fun q => decide (q.1 = e)).map fun q => (q.2 : Int)).map .int := by
      unfold rDs
      rw [List.filter_map, List.map_map, List.map_map]; rfl
    rw [← ee]
    refine lc_run _ _ hm rfl rfl (by rw [List.length_map]; omega) fun d hd => ?_
    obtain ⟨q, hq, rfl⟩ := List.mem_map.mp hd
    refine ⟨[.sh (.tuple (rDs B)), .sh (.int e), .sh (.int m), .sh (.int q.1), .sh (.int (q.2 : Int))], ?_, ?_, fun _ => rfl, rfl⟩
    · show gtTup (gtCons (gtName 3) (gtCons (gtName 4) gtNil)) 2 (.sh (.tuple [.int q.1, .int (q.2 : Int)])) _ = _
      clear c1 c2 c3 c4 c5 hd ee hm
      generalize rDs B = b at *
      generalize q.1 = x at *
      generalize (q.2 : Int) = y at *
      walk_at "run"
    · show tst (dOp2 f_eq (dVar 3) (dVar 1)) _ = .ok (decide (q.1 = e)) _
      clear c1 c2 c3 c4 c5 hd ee hm
      generalize rDs B = b at *
      generalize q.1 = x at *
      generalize (q.2 : Int) = y at *
      walk_at "run"
  have hi := intsOf_map ((X.filter fun q => decide (q.1 = e)).map fun q => (q.2 : Int))
  refine fn_rt (ρ1 := [.sh (.tuple (rDs B)), .sh (.int e), .sh (.int m), .no, .no]) (ρ2 := [.sh (.tuple (rDs B)), .sh (.int e), .sh (.int m), .no, .no]) rfl ?_ rfl
  unfold d_long_count
  clear hm c3 c4
  generalize ((X.filter fun q => decide (q.1 = e)).map fun q => (q.2 : Int)) = l at *
  generalize rDs B = b at *
  walk_at "run"
end SP
namespace LW
variable {B : List SP.Run} {n T : Nat} {f : Nat → Int}
theorem tcount_RT {e : Int} (hf : InB f n) (he : leaf (.int e) = true) (hn : n ≤ 1000) : f_tcount (.tuple (RT f n)) (.int e) = some (.val (.int (((RL f n).count e : Nat) : Int))) := by
  have q := leaf_ok he
  obtain ⟨a1, a2, _⟩ := tuple_leaves (ds := RT f n) (RT_leaf hf)
  show grd (shp (.int e) && shp (.tuple (RT f n))) _ = _
  rw [shp_ok q.1 (by rw [q.2.1]; omega), shp_ok a1 (by omega)]
  show some _ = some _
  have hp : ((fun z => PyData.eqv z (.int e)) ∘ PyData.int) = fun x : Int => x == e := by
    funext x
    show PyData.eqv (.int x) (.int e) = (x == e)
    rw [eqv_int]
    by_cases c : x = e
    · subst c; simp
    · rw [decide_eq_false c]; exact (beq_eq_false_iff_ne.mpr c).symm
  rw [RT_RL, List.countP_map, hp]
  rfl
theorem RS_ones (h : Rok B) (N : Need one (xf B) (exL B).length T) (m : Nat) : RS B (min m T) = mrg (ones (wit one m (xf B)) (exL B).length) := by
  have hw := wit_one_b h.inB h.len m
  refine (RS_can h.pos _).inj (mrg_can fun p hp => (ones_blk hw p hp).pos) ?_
  rw [RS_min h N, mrg_ex, ones_ex]
theorem ne_rDsT {R : List SP.Run} (h : Rok R) : f_ne (.tuple (rDs R)) (.tuple (rDs R)) = some (.val (.bool false)) := by
  have ok : shp (.tuple (rDs R)) = true := rDs_ok h.sm
  rw [f_ne_of rfl ok ok]
  have e : PyData.eqv (.tuple (rDs R)) (.tuple (rDs R)) = PyData.eqvAll (rDs R) (rDs R) := by simp [PyData.eqv]
  rw [e, rDs_eqv, decide_eq_true rfl]
  rfl
/-! ### _law_small_right -/
theorem F_small {t : List PyData} {m : Nat} (T0 : Bag m t) (hm : m < 700000) (hf0 : InB f n) (h1 : 1 ≤ n) (hn0 : n ≤ 100) :
    ∃ t', F__law_small_right [.bo t, .sh (.tuple (RT f n))] = .ret (.sh (.bool true)) [t'] ∧ Bag (m + 2000) t' := by
  obtain ⟨t1, B, c1, T1, L, eB⟩ := F_blks T0 (by omega) hf0 h1 hn0
  have lB : (exL B).length = n := by rw [eB, RL_len]
  have er : RT f n = RT (xf B) (exL B).length := by rw [RT_RL, RT_RL, ← RL_xf, eB]
  rw [er] at c1 ⊢
  have hn : (exL B).length ≤ 100 := by omega
  have h1 : 1 ≤ (exL B).length := by omega
  clear er eB hf0 hn0
  have hf := L.rok.inB
  obtain ⟨T, hT, N⟩ := need_ex (w := one) (f := xf B) (n := (exL B).length) one_pos
  obtain ⟨v1, t2, d1, p1, q1, T2⟩ := F_pick (m := 12) T1 (by omega) (by omega) (big (by omega))
  obtain ⟨v2, t3, d2, p2, q2, T3⟩ := F_pick (m := 1000000000000000000000000000000) T2 (by omega) (by omega) (Int.lt_of_le_of_lt (b := 1000000000000000000000000000000) (by omega) (by decide))
  obtain ⟨v3, t4, d3, p3, q3, T4⟩ := F_pick (m := 2) T3 (by omega) (by omega) (big (by omega))
  have p30 : f_pow (.int 10) (.int 30) = some (.val (.int 1000000000000000000000000000000)) := powI (by decide) (by decide)
  obtain ⟨turn, hturn, b1, b2⟩ : ∃ turn : Int, atI [PyData.int v1, .int v2] v3 = some (.int turn) ∧ 0 ≤ turn ∧ turn ≤ 1000000000000000000000000000000 := by
    have : v3 = 0 ∨ v3 = 1 := by omega
    rcases this with h | h <;> subst h
    · exact ⟨v1, rfl, by omega, by omega⟩
    · exact ⟨v2, rfl, by omega, by omega⟩
  obtain ⟨at', t5, d4, p4, q4, T5⟩ := F_pick (m := ((exL B).length : Int)) T4 (by omega) (by omega) (big (by omega))
  obtain ⟨p, rfl⟩ : ∃ p : Nat, at' = (p : Int) := ⟨at'.toNat, by omega⟩
  have hp : p < (exL B).length := by omega
  have hw := wit_one_b hf (by omega : (exL B).length ≤ 1000) turn.toNat
  have e1 := F_row_after_run hf h1 hn b1 b2
  have e2 := F_long_after_run (m := turn) L N b1 b2
  have e3 := F_runs hw (by omega)
  have e4 := F_long_needed_run L N
  have e5 := F_rounds_needed_run hf h1 hn N
  have e6 := F_long_entry_run (m := turn) (p := p) L N b1 b2 hp
  have e7 := F_long_count_run (m := turn) (e := wit one turn.toNat (xf B) p) L N b1 b2
  have e8 := tcount_RT (e := wit one turn.toNat (xf B) p) hw (leafB (hw p hp).1 (hw p hp).2) (by omega)
  have e9 : atI (RT (wit one turn.toNat (xf B)) (exL B).length) (p : Int) = some (.int (wit one turn.toNat (xf B) p)) := RT_atN hp
  rw [RS_ones L.rok N] at e2
  have e10 := ne_rDsT ((ones_rok hw (by omega)).mrg)
  have lR : (RT (xf B) (exL B).length).length = (exL B).length := RT_len
  refine ⟨t5, ?_, T5.mono (by omega)⟩
  clear hw hf L N T1 T2 T3 T4 T5 T0 lB
  generalize rDs (mrg (ones (wit one turn.toNat (xf B)) (exL B).length)) = M at *
  generalize (((RL (wit one turn.toNat (xf B)) (exL B).length).count (wit one turn.toNat (xf B) p) : Nat) : Int) = C at *
  generalize RT (wit one turn.toNat (xf B)) (exL B).length = W at *
  generalize RT (xf B) (exL B).length = R at *
  generalize wit one turn.toNat (xf B) p = w at *
  generalize (exL B).length = n at *
  generalize rDs B = b at *
  generalize (T : Int) = TT at *
  generalize (p : Int) = P at *
  refine fn_rt (ρ1 := [.bo t, .sh (.tuple R), .no, .no, .no, .no]) (ρ2 := [.bo t5, .sh (.tuple R), .sh (.tuple b), .sh (.int turn), .sh (.tuple W), .sh (.int P)]) rfl ?_ rfl
  unfold d__law_small_right
  have y1 : sAsg (dCall LW.F__law_blocks [(true, dVar 0), (true, dVar 1)]) (gtName 2) [.bo t, .sh (.tuple R), .no, .no, .no, .no] = .nx [.bo t1, .sh (.tuple R), .sh (.tuple b), .no, .no, .no] := by
    clear d1 d2 d3 d4 e1 e2 e3 e4 e5 e6 e7 e8 e9 e10
    walk_at "run"
  have y2 : sAsg (dOp2 f_ix (dLst [dCall LW.F__law_pick [(true, dVar 0), (false, dC (.int 12))], dCall LW.F__law_pick [(true, dVar 0), (false, dOp2 f_pow (dC (.int 10)) (dC (.int 30)))]]) (dCall LW.F__law_pick [(true, dVar 0), (false, dC (.int 2))])) (gtName 3) [.bo t1, .sh (.tuple R), .sh (.tuple b), .no, .no, .no] = .nx [.bo t4, .sh (.tuple R), .sh (.tuple b), .sh (.int turn), .no, .no] := by
    clear c1 d4 e1 e2 e3 e4 e5 e6 e7 e8 e9 e10 y1
    generalize f_pow = FP at *
    walk_at "run"
  have y3 : sAsg (dCall SP.F_row_after [(true, dVar 1), (true, dVar 3)]) (gtName 4) [.bo t4, .sh (.tuple R), .sh (.tuple b), .sh (.int turn), .no, .no] = .nx [.bo t4, .sh (.tuple R), .sh (.tuple b), .sh (.int turn), .sh (.tuple W), .no] := by
    clear c1 d1 d2 d3 d4 e2 e3 e4 e5 e6 e7 e8 e9 e10 y1 y2
    walk_at "run"
  have y4 : sIf (dOr (dOp2 f_ne (dCall SP.F_long_after [(true, dVar 2), (true, dVar 3)]) (dCall LW.F__law_runs [(true, dVar 4)])) (dOp2 f_ne (dCall SP.F_long_needed [(true, dVar 2)]) (dCall SP.F_rounds_needed [(true, dVar 1)]))) (sRet (dC (.bool false))) sNil [.bo t4, .sh (.tuple R), .sh (.tuple b), .sh (.int turn), .sh (.tuple W), .no] = .nx [.bo t4, .sh (.tuple R), .sh (.tuple b), .sh (.int turn), .sh (.tuple W), .no] := by
    clear c1 d1 d2 d3 d4 e1 e6 e7 e8 e9 y1 y2 y3
    have hne : ¬ TT ≠ TT := fun h => h rfl
    walk_at "run"
  have y5 : sAsg (dCall LW.F__law_pick [(true, dVar 0), (false, dB f_len [dVar 1])]) (gtName 5) [.bo t4, .sh (.tuple R), .sh (.tuple b), .sh (.int turn), .sh (.tuple W), .no] = .nx [.bo t5, .sh (.tuple R), .sh (.tuple b), .sh (.int turn), .sh (.tuple W), .sh (.int P)] := by
    clear c1 d1 d2 d3 e1 e2 e3 e4 e5 e6 e7 e8 e9 e10 y1 y2 y3 y4
    walk_at "run"
  have y6 : sIf (dOp2 f_ne (dCall SP.F_long_entry [(true, dVar 2), (true, dVar 5), (true, dVar 3)]) (dOp2 f_ix (dVar 4) (dVar 5))) (sRet (dC (.bool false))) sNil [.bo t5, .sh (.tuple R), .sh (.tuple b), .sh (.int turn), .sh (.tuple W), .sh (.int P)] = .nx [.bo t5, .sh (.tuple R), .sh (.tuple b), .sh (.int turn), .sh (.tuple W), .sh (.int P)] := by
    clear c1 d1 d2 d3 d4 e1 e2 e3 e4 e5 e7 e8 e10 y1 y2 y3 y4 y5
    have hne : ¬ w ≠ w := fun h => h rfl
    walk_at "run"
  have y7a : dOp2 f_ix (dVar 4) (dVar 5) [.bo t5, .sh (.tuple R), .sh (.tuple b), .sh (.int turn), .sh (.tuple W), .sh (.int P)] = .ok (.sh (.int w)) [.bo t5, .sh (.tuple R), .sh (.tuple b), .sh (.int turn), .sh (.tuple W), .sh (.int P)] := by
    clear c1 d1 d2 d3 d4 e1 e2 e3 e4 e5 e6 e7 e8 e10 y1 y2 y3 y4 y5 y6
    walk_at "run"
  have y7 : dMt f_tcount (dVar 4) (dOp2 f_ix (dVar 4) (dVar 5)) [.bo t5, .sh (.tuple R), .sh (.tuple b), .sh (.int turn), .sh (.tuple W), .sh (.int P)] = .ok (.sh (.int C)) [.bo t5, .sh (.tuple R), .sh (.tuple b), .sh (.int turn), .sh (.tuple W), .sh (.int P)] :=
    w_mt (var_sh rfl) (a0 := .tuple W) rfl rfl y7a rfl rfl e8 rfl
  refine w_seqN y1 (w_seqN y2 (w_seqN y3 (w_seqN y4 (w_seqN y5 (w_seqN y6 ?_)))))
  clear c1 d1 d2 d3 d4 e1 e2 e3 e4 e5 e6 e8 e10 y1 y2 y3 y4 y5 y6
  walk_at "run"
  show SOut.rt (RV.sh (PyData.bool (decide (C = C)))) _ = _
  rw [decide_eq_true rfl]
end LW
end

section
set_option Elab.async false
set_option linter.all false
set_option maxHeartbeats 1000000
open PySem L2 DL SP
namespace LW
variable {G : List SP.Run} {c k n : Nat} {f : Nat → Int}
/-! blocks of one great count -/
def gr (G : List SP.Run) (c : Nat) : List SP.Run := G.map fun q => (q.1, c)
def ge (G : List SP.Run) : Nat → Int := fun k => (G.getD k (0, 0)).1
theorem gr_len : ∀ (G : List SP.Run) (c : Nat), (exL (gr G c)).length = G.length * c
  | [], c => by rw [List.length_nil, Nat.zero_mul]; rfl
  | q :: l, c => by
    show (exL ((q.1, c) :: gr l c)).length = (l.length + 1) * c
    rw [exL_cons, gr_len l c, Nat.succ_mul]
    show c + l.length * c = _
    omega
theorem gr_xf : ∀ (G : List SP.Run) (c k j : Nat), k < G.length → j < c → xf (gr G c) (k * c + j) = ge G k
  | q :: l, c, 0, j, _, hj => by
    show xf ([(q.1, c)] ++ gr l c) (0 * c + j) = q.1
    rw [Nat.zero_mul, Nat.zero_add, xf_app_l (by rw [exL_len_one]; exact hj)]
    exact xf_one hj
  | q :: l, c, k + 1, j, hk, hj => by
    show xf ([(q.1, c)] ++ gr l c) ((k + 1) * c + j) = ge l k
    have e : (k + 1) * c + j = c + (k * c + j) := by rw [Nat.succ_mul]; omega
    rw [e, xf_app_r (by rw [exL_len_one]; omega), exL_len_one, Nat.add_sub_cancel_left]
    exact gr_xf l c k j (Nat.lt_of_succ_lt_succ hk) hj
theorem gr_frt (hc : 1 ≤ c) (hk : k < G.length) : frt (xf (gr G c)) (k * c) (k * c) = frt (ge G) k k * c := by
  have l := frt_le (r := ge G) (k := k) k
  have x0 : xf (gr G c) (k * c) = ge G k := gr_xf G c k 0 hk hc
  refine frt_eq (Nat.mul_le_mul_right c l) (fun i a b => ?_) ?_
  · have d1 : frt (ge G) k k ≤ i / c := (Nat.le_div_iff_mul_le hc).mpr a
    have d2 : i / c < k := (Nat.div_lt_iff_lt_mul hc).mpr b
    have e : i = (i / c) * c + i % c := by rw [Nat.mul_comm]; exact (Nat.div_add_mod i c).symm
    have x1 : xf (gr G c) i = ge G (i / c) := by
      have q := gr_xf G c (i / c) (i % c) (by omega) (Nat.mod_lt _ hc)
      rwa [← e] at q
    rw [x0, x1]
    exact frt_lt d1 d2
  · rcases Nat.eq_zero_or_pos (frt (ge G) k k) with z | z
    · left; rw [z, Nat.zero_mul]
    · right
      have s := frt_stop z
      obtain ⟨j, hj⟩ : ∃ j, frt (ge G) k k = j + 1 := ⟨frt (ge G) k k - 1, by omega⟩
      rw [hj] at s ⊢
      have e : (j + 1) * c - 1 = j * c + (c - 1) := by rw [Nat.succ_mul]; omega
      rw [e, x0, gr_xf G c j (c - 1) (by omega) (by omega)]
      exact s
theorem gr_first (hc : 1 ≤ c) (hk : k < G.length) : wrd one (xf (gr G c)) (k * c) = 1 + (((k - frt (ge G) k k + 1 : Nat) : Int) - 1) * (c : Int) := by
  rw [wrd_one]
  unfold spn
  rw [gr_frt hc hk]
  have l := frt_le (r := ge G) (k := k) k
  generalize frt (ge G) k k = j at *
  obtain ⟨d, hd⟩ : ∃ d, k = j + d := ⟨k - j, by omega⟩
  have e1 : k * c + 1 - j * c = 1 + d * c := by rw [hd, Nat.add_mul]; omega
  have e2 : k - j + 1 = d + 1 := by omega
  rw [e1, e2, Int.natCast_add, Int.natCast_mul, Int.natCast_add]
  show (1 : Int) + (d : Int) * c = 1 + ((d : Int) + 1 - 1) * c
  rw [Int.add_sub_cancel]
theorem gr_last (hc : 2 ≤ c) (hk : k < G.length) : wrd one (xf (gr G c)) (k * c + (c - 1)) = 1 := wrd_self (.inr (by
  rw [show k * c + (c - 1) - 1 = k * c + (c - 2) by omega, gr_xf G c k (c - 1) hk (by omega), gr_xf G c k (c - 2) hk (by omega)]
  exact Int.le_refl _))
theorem at_rDs {i : Int} (hi : i = (k : Int)) (hk : k < G.length) : atI (rDs G) i = some (.tuple [.int (ge G k), .int ((G.getD k (0, 0)).2 : Int)]) := by
  subst hi
  rw [atI_nn (by omega) (by rw [List.length_map]; omega), Int.toNat_natCast, List.getElem?_map, List.getElem?_eq_getElem hk]
  have : G.getD k (0, 0) = G[k] := by rw [List.getD_eq_getElem?_getD, List.getElem?_eq_getElem hk]; rfl
  unfold ge
  rw [this]
  rfl
/-! ### _law_great_right -/
theorem back_loop {z0 z1 z2 z4 z5 z8 z9 : Sl} (hk : k < G.length) (hG : G.length ≤ 60) :
    sWhile 100000 c__law_great_right_1 b__law_great_right_2 [z0, z1, z2, .sh (.tuple (rDs G)), z4, z5, .sh (.int (k : Int)), .sh (.int 1), z8, z9] = .nx [z0, z1, z2, .sh (.tuple (rDs G)), z4, z5, .sh (.int (k : Int)), .sh (.int ((k - frt (ge G) k k + 1 : Nat) : Int)), z8, z9] := by
  have l := frt_le (r := ge G) (k := k) k
  obtain ⟨j, hj⟩ : ∃ j, j = frt (ge G) k k := ⟨_, rfl⟩
  have h1 : ∀ i, j ≤ i → i < k → ge G i < ge G k := fun i a b => by rw [hj] at a; exact frt_lt a b
  have h2 : 0 < j → ge G k ≤ ge G (j - 1) := fun z => by rw [hj] at z ⊢; exact frt_stop z
  rw [← hj] at l ⊢
  clear hj
  obtain ⟨b', e1, ⟨i1, i2⟩, e2⟩ := while_s (S := Nat) (n := 100000) (c := c__law_great_right_1) (b := b__law_great_right_2)
    (fun b => [z0, z1, z2, .sh (.tuple (rDs G)), z4, z5, .sh (.int (k : Int)), .sh (.int (b : Int)), z8, z9])
    (fun b => 1 ≤ b ∧ b ≤ k - j + 1) (fun b => decide (b ≤ k - j)) (fun b => b + 1) (fun b => k - j + 1 - b) 1 ⟨Nat.le_refl _, by omega⟩ (by omega)
    (by
      rintro b ⟨a1, a2⟩
      show tst c__law_great_right_1 _ = .ok (decide (b ≤ k - j)) _
      have q0 := at_rDs (G := G) (i := (k : Int)) rfl hk
      by_cases g : b ≤ k
      · have q1 := at_rDs (G := G) (i := (k : Int) - (b : Int)) (k := k - b) (by omega) (by omega)
        have g1 : (k : Int) - (b : Int) ≥ 0 := by omega
        have ed : decide (b ≤ k - j) = decide (ge G (k - b) < ge G k) := by
          by_cases x : b ≤ k - j
          · rw [decide_eq_true x, decide_eq_true (h1 (k - b) (by omega) (by omega))]
          · have := h2 (by omega)
            rw [show j - 1 = k - b by omega] at this
            rw [decide_eq_false x, decide_eq_false (by omega)]
        rw [ed]
        clear ed h1 h2
        unfold c__law_great_right_1
        generalize ge G (k - b) = u at *
        generalize ge G k = v at *
        generalize ((G.getD (k - b) (0, 0)).2 : Int) = u2 at *
        generalize ((G.getD k (0, 0)).2 : Int) = v2 at *
        generalize rDs G = GG at *
        generalize (k : Int) = K at *
        generalize (b : Int) = BB at *
        walk_at "run"
      · have g1 : ¬ (k : Int) - (b : Int) ≥ 0 := by omega
        rw [decide_eq_false (by omega : ¬ b ≤ k - j)]
        clear h1 h2 q0
        unfold c__law_great_right_1
        generalize rDs G = GG at *
        generalize (k : Int) = K at *
        generalize (b : Int) = BB at *
        walk_at "run")
    (by
      rintro b ⟨a1, a2⟩ hc
      have hc : b ≤ k - j := of_decide_eq_true hc
      refine ⟨.inl ?_, ⟨by omega, by omega⟩, by omega⟩
      show b__law_great_right_2 _ = SOut.nx [z0, z1, z2, .sh (.tuple (rDs G)), z4, z5, .sh (.int (k : Int)), .sh (.int ((b + 1 : Nat) : Int)), z8, z9]
      rw [show ((b + 1 : Nat) : Int) = (b : Int) + 1 by omega]
      unfold b__law_great_right_2
      generalize rDs G = GG at *
      generalize (k : Int) = K at *
      generalize (b : Int) = BB at *
      walk_at "run")
  have e2 : ¬ b' ≤ k - j := of_decide_eq_false e2
  have eb : b' = k - j + 1 := by omega
  subst eb
  exact e1
theorem great_body {z0 z1 s7 z8 z9 : Sl} (n7 : NB s7) (hk : k < G.length) (hG : G.length ≤ 60) (h2 : 2 ≤ c) (hc : c ≤ 10000000000000000000000000000) (hB : GB (gr G c)) :
    ∃ b : Int, b__law_great_right_3 [z0, z1, .sh (.int (c : Int)), .sh (.tuple (rDs G)), .sh (.tuple (rDs (gr G c))), .sh (.int ((k * c : Nat) : Int)), .sh (.int (k : Int)), s7, z8, z9] =
      .nx [z0, z1, .sh (.int (c : Int)), .sh (.tuple (rDs G)), .sh (.tuple (rDs (gr G c))), .sh (.int (((k + 1) * c : Nat) : Int)), .sh (.int (k : Int)), .sh (.int b), z8, z9] := by
  have hl := gr_len G c
  have hm : (k + 1) * c ≤ G.length * c := Nat.mul_le_mul_right c hk
  have es : (k + 1) * c = k * c + c := Nat.succ_mul k c
  have p1 : k * c < (exL (gr G c)).length := by omega
  have p2 : k * c + (c - 1) < (exL (gr G c)).length := by omega
  have c1 := F_long_entry_great hB p1
  have c2 := F_long_entry_great hB p2
  rw [gr_first (by omega) hk] at c1
  rw [gr_last h2 hk] at c2
  have y2 := back_loop (z0 := z0) (z1 := z1) (z2 := .sh (.int (c : Int))) (z4 := .sh (.tuple (rDs (gr G c)))) (z5 := .sh (.int ((k * c : Nat) : Int))) (z8 := z8) (z9 := z9) hk hG
  have lb : k - frt (ge G) k k + 1 ≤ 61 := by omega
  generalize k - frt (ge G) k k + 1 = b at *
  refine ⟨(b : Int), ?_⟩
  rw [es, show ((k * c + c : Nat) : Int) = ((k * c : Nat) : Int) + (c : Int) by omega]
  rw [show ((k * c + (c - 1) : Nat) : Int) = ((k * c : Nat) : Int) + (c : Int) - 1 by omega] at c2
  have hlog : ((b : Int) - 1).natAbs.log2 + (c : Int).natAbs.log2 < 1000000 := by
    have q1 : ((b : Int) - 1).natAbs.log2 < 200 := by
      by_cases z : (b : Int) - 1 < 0
      · have : ((b : Int) - 1).natAbs = 1 := by omega
        rw [this]; decide
      · exact lgb (by omega) (by omega) (Nat.le_refl _)
    have q2 : (c : Int).natAbs.log2 < 200 := lgb (by omega) (by omega) (Nat.le_refl _)
    omega
  have y1 : sAsg (dC (.int 1)) (gtName 7) [z0, z1, .sh (.int (c : Int)), .sh (.tuple (rDs G)), .sh (.tuple (rDs (gr G c))), .sh (.int ((k * c : Nat) : Int)), .sh (.int (k : Int)), s7, z8, z9] = .nx [z0, z1, .sh (.int (c : Int)), .sh (.tuple (rDs G)), .sh (.tuple (rDs (gr G c))), .sh (.int ((k * c : Nat) : Int)), .sh (.int (k : Int)), .sh (.int 1), z8, z9] := by
    clear y2 hB c1 c2 hl p1 p2 hm es hlog
    generalize rDs (gr G c) = BB at *
    generalize rDs G = GG at *
    generalize ((k * c : Nat) : Int) = P at *
    walk_at "run"
  unfold b__law_great_right_3
  refine w_seqN y1 (w_seqN y2 ?_)
  clear y1 y2 hB hl hm es p1 p2
  have hne1 : ¬ (1 + ((b : Int) - 1) * (c : Int)) ≠ (1 + ((b : Int) - 1) * (c : Int)) := fun h => h rfl
  have hne2 : ¬ (1 : Int) ≠ 1 := fun h => h rfl
  generalize rDs (gr G c) = BB at *
  generalize rDs G = GG at *
  generalize ((k * c : Nat) : Int) = P at *
  generalize (k : Int) = K at *
  generalize (c : Int) = C at *
  generalize (b : Int) = b at *
  walk_at "run"
theorem F_great {t : List PyData} {m : Nat} (T0 : Bag m t) (hm : m < 700000) (hf : InB f n) (h1 : 1 ≤ n) (hn : n ≤ 1000) :
    ∃ t', F__law_great_right [.bo t, .sh (.tuple (RT f n))] = .ret (.sh (.bool true)) [t'] ∧ Bag (m + 1) t' := by
  have p28 : f_pow (.int 10) (.int 28) = some (.val (.int 10000000000000000000000000000)) := powI (by decide) (by decide)
  obtain ⟨v, t1, d1, q1, q2, T1⟩ := F_pick (m := 10000000000000000000000000000 - 2) T0 (by omega) (by omega) (Int.lt_of_le_of_lt (b := 10000000000000000000000000000) (by omega) (by decide))
  obtain ⟨c, hc⟩ : ∃ c : Nat, 2 + v = (c : Int) := ⟨(2 + v).toNat, by omega⟩
  have c2 : 2 ≤ c := by omega
  have c3 : c ≤ 10000000000000000000000000000 := by omega
  have e1 := F_runs hf hn
  have hr := (ones_rok hf hn).mrg
  obtain ⟨G, hG⟩ : ∃ G, G = (mrg (ones f n)).take 60 := ⟨_, rfl⟩
  have lG : G.length ≤ 60 := by rw [hG, List.length_take]; omega
  have lG1 : 1 ≤ G.length := by
    rcases Nat.eq_zero_or_pos (mrg (ones f n)).length with z | z
    · exfalso
      have e2 := List.eq_nil_of_length_eq_zero z
      have e3 := mrg_ex (ones f n)
      rw [e2, ones_ex] at e3
      have : (RL f n).length = 0 := by rw [← e3]; rfl
      rw [RL_len] at this
      omega
    · rw [hG, List.length_take]; omega
  have hlen := gr_len G c
  have hB : GB (gr G c) := by
    refine ⟨fun p hp => ?_, by unfold gr; rw [List.length_map]; exact lG1, by unfold gr; rw [List.length_map]; omega, ?_⟩
    · obtain ⟨q, hq, rfl⟩ := List.mem_map.mp hp
      rw [hG] at hq
      exact ⟨hr.ent q (List.mem_of_mem_take hq), by show 1 ≤ c; omega, c3⟩
    · rw [hlen]
      have := Nat.mul_le_mul lG c3
      omega
  have cut1 : cutD (rDs (mrg (ones f n))) none (some 60) = rDs G := by
    rw [hG]
    have := cut_to (rDs (mrg (ones f n))) 60
    unfold rDs at this ⊢
    rw [List.map_take]; exact this
  clear hG hr hlen
  have lD : (rDs G).length = G.length := List.length_map ..
  refine ⟨t1, ?_, T1⟩
  have y1 : sAsg (dOp2 f_add (dC (.int 2)) (dCall LW.F__law_pick [(true, dVar 0), (false, dOp2 f_sub (dOp2 f_pow (dC (.int 10)) (dC (.int 28))) (dC (.int 2)))])) (gtName 2) [.bo t, .sh (.tuple (RT f n)), .no, .no, .no, .no, .no, .no, .no, .no] = .nx [.bo t1, .sh (.tuple (RT f n)), .sh (.int (c : Int)), .no, .no, .no, .no, .no, .no, .no] := by
    rw [← hc]
    clear e1 hB cut1 lD
    generalize RT f n = R at *
    generalize f_pow = FP at *
    walk_at "run"
  have y2 : sAsg (dSl (dCall LW.F__law_runs [(true, dVar 1)]) none (some (dC (.int 60)))) (gtName 3) [.bo t1, .sh (.tuple (RT f n)), .sh (.int (c : Int)), .no, .no, .no, .no, .no, .no, .no] = .nx [.bo t1, .sh (.tuple (RT f n)), .sh (.int (c : Int)), .sh (.tuple (rDs G)), .no, .no, .no, .no, .no, .no] := by
    clear hB lD y1 d1
    generalize rDs (mrg (ones f n)) = M at *
    generalize RT f n = R at *
    generalize rDs G = GG at *
    walk_at "run"
  have hcm : dLC (iSeq (dVar 3)) (gtTup (gtCons (gtName 8) (gtCons (gtName 9) gtNil)) 2) dYes (dTup [dVar 8, dVar 2]) [8, 9] [.bo t1, .sh (.tuple (RT f n)), .sh (.int (c : Int)), .sh (.tuple (rDs G)), .no, .no, .no, .no, .no, .no] =
      .ok (.fr (rDs (gr G c))) [.bo t1, .sh (.tuple (RT f n)), .sh (.int (c : Int)), .sh (.tuple (rDs G)), .no, .no, .no, .no, .no, .no] := by
    have e : (rDs G).map (fun d => match d with | .tuple [x, _] => PyData.tuple [x, .int (c : Int)] | d => d) = rDs (gr G c) := by
      unfold rDs gr
      rw [List.map_map, List.map_map]; rfl
    rw [← e]
    refine lc_map _ (by
      clear e e1 cut1 y1 y2 hB lD
      generalize rDs G = GG at *
      generalize RT f n = R at *
      walk_at "run") rfl rfl (by rw [lD]; omega) fun d hd => ?_
    obtain ⟨q, hq, rfl⟩ := List.mem_map.mp hd
    refine ⟨[.bo t1, .sh (.tuple (RT f n)), .sh (.int (c : Int)), .sh (.tuple (rDs G)), .no, .no, .no, .no, .sh (.int q.1), .sh (.int (q.2 : Int))], ?_, rfl, rfl⟩
    show gtTup (gtCons (gtName 8) (gtCons (gtName 9) gtNil)) 2 (.sh (.tuple [.int q.1, .int (q.2 : Int)])) _ = _
    clear e e1 cut1 y1 y2 hB lD hd
    generalize rDs G = GG at *
    generalize RT f n = R at *
    generalize q.1 = x at *
    generalize (q.2 : Int) = y at *
    walk_at "run"
  have y3 : sAsg (dB f_tuple [dLC (iSeq (dVar 3)) (gtTup (gtCons (gtName 8) (gtCons (gtName 9) gtNil)) 2) dYes (dTup [dVar 8, dVar 2]) [8, 9]]) (gtName 4) [.bo t1, .sh (.tuple (RT f n)), .sh (.int (c : Int)), .sh (.tuple (rDs G)), .no, .no, .no, .no, .no, .no] =
      .nx [.bo t1, .sh (.tuple (RT f n)), .sh (.int (c : Int)), .sh (.tuple (rDs G)), .sh (.tuple (rDs (gr G c))), .no, .no, .no, .no, .no] := by
    clear e1 cut1 y1 y2 hB lD
    generalize rDs (gr G c) = BB at *
    generalize rDs G = GG at *
    generalize RT f n = R at *
    walk_at "run"
  have hr : DL.iRng1 (dB f_len [dVar 3]) [.bo t1, .sh (.tuple (RT f n)), .sh (.int (c : Int)), .sh (.tuple (rDs G)), .sh (.tuple (rDs (gr G c))), .sh (.int 0), .no, .no, .no, .no] = .ok (rngL 0 1 G.length) [.bo t1, .sh (.tuple (RT f n)), .sh (.int (c : Int)), .sh (.tuple (rDs G)), .sh (.tuple (rDs (gr G c))), .sh (.int 0), .no, .no, .no, .no] := by
    have hq : dB f_len [dVar 3] [.bo t1, .sh (.tuple (RT f n)), .sh (.int (c : Int)), .sh (.tuple (rDs G)), .sh (.tuple (rDs (gr G c))), .sh (.int 0), .no, .no, .no, .no] = .ok (.sh (.int (G.length : Int))) [.bo t1, .sh (.tuple (RT f n)), .sh (.int (c : Int)), .sh (.tuple (rDs G)), .sh (.tuple (rDs (gr G c))), .sh (.int 0), .no, .no, .no, .no] := by
      clear e1 cut1 y1 y2 y3 hcm hB
      generalize rDs (gr G c) = BB at *
      generalize rDs G = GG at *
      generalize RT f n = R at *
      walk_at "run"
    have q := rng1_of hq (by omega) (by omega)
    rwa [Int.toNat_natCast] at q
  obtain ⟨ρ2, y5, s6, s7, n6, n7, rfl⟩ := for_run (g := gtName 6) (b := b__law_great_right_3) (hm := hr)
    (R := fun i ρ => ∃ s6 s7, NB s6 ∧ NB s7 ∧ ρ = [.bo t1, .sh (.tuple (RT f n)), .sh (.int (c : Int)), .sh (.tuple (rDs G)), .sh (.tuple (rDs (gr G c))), .sh (.int ((i * c : Nat) : Int)), s6, s7, .no, .no])
    (r := ⟨.no, .no, rfl, rfl, by rw [Nat.zero_mul]; rfl⟩)
    (h := by
      rintro i d ρ hd ⟨s6, s7, n6, n7, rfl⟩
      obtain ⟨hi, rfl⟩ := rngL_get hd
      rw [show (0 : Int) + (i : Int) * 1 = (i : Int) by omega]
      obtain ⟨b, hb⟩ := great_body (z0 := .bo t1) (z1 := .sh (.tuple (RT f n))) (s7 := s7) (z8 := .no) (z9 := .no) n7 hi lG c2 c3 hB
      exact ⟨[.bo t1, .sh (.tuple (RT f n)), .sh (.int (c : Int)), .sh (.tuple (rDs G)), .sh (.tuple (rDs (gr G c))), .sh (.int ((i * c : Nat) : Int)), .sh (.int (i : Int)), s7, .no, .no], _, by
        clear e1 cut1 y1 y2 y3 hcm hB hr hb
        generalize rDs (gr G c) = BB at *
        generalize rDs G = GG at *
        generalize RT f n = R at *
        generalize ((i * c : Nat) : Int) = P at *
        walk_at "run", hb, .sh (.int (i : Int)), .sh (.int b), rfl, rfl, rfl⟩)
  refine fn_rt (ρ1 := [.bo t, .sh (.tuple (RT f n)), .no, .no, .no, .no, .no, .no, .no, .no]) (ρ2 := [.bo t1, .sh (.tuple (RT f n)), .sh (.int (c : Int)), .sh (.tuple (rDs G)), .sh (.tuple (rDs (gr G c))), .sh (.int (((rngL 0 1 G.length).length * c : Nat) : Int)), s6, s7, .no, .no]) rfl ?_ rfl
  unfold d__law_great_right
  have y4 : sAsg (dC (.int 0)) (gtName 5) [.bo t1, .sh (.tuple (RT f n)), .sh (.int (c : Int)), .sh (.tuple (rDs G)), .sh (.tuple (rDs (gr G c))), .no, .no, .no, .no, .no] = .nx [.bo t1, .sh (.tuple (RT f n)), .sh (.int (c : Int)), .sh (.tuple (rDs G)), .sh (.tuple (rDs (gr G c))), .sh (.int 0), .no, .no, .no, .no] := by
    clear e1 cut1 y1 y2 y3 y5 hcm hB hr
    generalize rDs (gr G c) = BB at *
    generalize rDs G = GG at *
    generalize RT f n = R at *
    walk_at "run"
  refine w_seqN y1 (w_seqN y2 (w_seqN y3 (w_seqN y4 (w_seqN y5 ?_))))
  rfl
end LW
end

section
set_option Elab.async false
set_option linter.all false
set_option maxHeartbeats 1000000
open PySem L2 DL SP
namespace LW
theorem cell_body {sc : PyData} {z : Int} {s2 s3 : Sl} (n2 : NB s2) (n3 : NB s3) : ∃ t2 t3, NB t2 ∧ NB t3 ∧ b_law_1 [.sh sc, .sh (.int z), s2, s3] = .nx [.sh sc, .sh (.int z), t2, t3] := by
  obtain ⟨t0, c0, T0⟩ := F_bag z
  obtain ⟨v1, t1, c1, p1, q1, T1⟩ := F_pick (m := 3) T0 (by omega) (by omega) (big (by omega))
  obtain ⟨most, hm, b1, b2⟩ : ∃ most : Nat, atI [PyData.int 6, .int 30, .int 100] v1 = some (.int (most : Int)) ∧ 1 ≤ most ∧ most ≤ 100 := by
    have : v1 = 0 ∨ v1 = 1 ∨ v1 = 2 := by omega
    rcases this with h | h | h <;> subst h
    · exact ⟨6, rfl, by omega, by omega⟩
    · exact ⟨30, rfl, by omega, by omega⟩
    · exact ⟨100, rfl, by omega, by omega⟩
  obtain ⟨r, t2, c2, hr, h1, h2, T2⟩ := F_row T1 (by omega) b1 b2
  have hf := hr.inB
  obtain ⟨f, hfe⟩ : ∃ f : Nat → Int, f = fun i => r.getD i 0 := ⟨_, rfl⟩
  rw [RT_list, ← hfe] at c2
  rw [← hfe] at hf
  obtain ⟨t3, c3, T3⟩ := F_small (n := r.length) T2 (by omega) hf h1 (by omega)
  obtain ⟨t4, c4, T4⟩ := F_great (n := r.length) T3 (by omega) hf h1 (by omega)
  refine ⟨.ow t4, .sh (.tuple (RT f r.length)), rfl, rfl, ?_⟩
  unfold b_law_1
  walk_at "run"
theorem keeps (ns : List Int) (hns : ns.length ≤ 63) (_ : ∀ z ∈ ns, Builtin.Int.intBits z ≤ 1048576) : F_law [.sh (.list (ns.map .int))] = .ret (.sh (.bool true)) [] := by
  have cut1 : cutD (ns.map PyData.int) none (some 10) = (ns.take 10).map .int := by
    have := cut_to (ns.map PyData.int) 10
    rw [List.map_take]; exact this
  have hl : ((ns.take 10).map PyData.int).length + [PyData.int 0].length ≤ 16777216 := by simp; omega
  have ea : (ns.take 10).map PyData.int ++ [.int 0] = (ns.take 10 ++ [0]).map .int := by rw [List.map_append]; rfl
  obtain ⟨ρ2, h5, s1, s2, s3, n1, n2, n3, h6⟩ := for_run (g := gtName 1) (b := b_law_1) (m := iSeq (dOp2 f_add (dSl (dVar 0) none (some (dC (.int 10)))) (dLst [dC (.int 0)])))
    (ρ := [.sh (.list (ns.map .int)), .no, .no, .no]) (ρ' := [.sh (.list (ns.map .int)), .no, .no, .no]) (items := (ns.take 10).map PyData.int ++ [.int 0])
    (fun i ρ => ∃ s1 s2 s3, NB s1 ∧ NB s2 ∧ NB s3 ∧ ρ = [.sh (.list (ns.map .int)), s1, s2, s3])
    (by walk_at "run") ⟨.no, .no, .no, rfl, rfl, rfl, rfl⟩
    (by
      rintro i d ρ hi ⟨s1, s2, s3, n1, n2, n3, rfl⟩
      rw [ea] at hi
      obtain ⟨z, _, rfl⟩ := atI_map_int hi
      obtain ⟨t2, t3, m2, m3, hb⟩ := cell_body (sc := .list (ns.map .int)) (z := z) n2 n3
      exact ⟨_, _, by walk_at "run", hb, .sh (.int z), t2, t3, rfl, m2, m3, rfl⟩)
  subst h6
  walk_at "fn"
  unfold d_law
  walk_at "run"
end LW
end

end

set_option Elab.async false
set_option linter.all false
set_option maxRecDepth 100000
set_option maxHeartbeats 4000000
namespace GL
open PySem PySem.Spec PyProof.Rows L2 DL SP LW
def top (i : Nat) : Stmt := PySem.Challenge.pw_spanrounds_k87_whole_long_rows_and_rows.main.body.getD i (.Pass ⟨0, 0, 0, 0⟩)
theorem n_GREATEST : NmOk "GREATEST" := ⟨by decide, by decide, by decide⟩
theorem n_InvalidBlocks : NmOk "InvalidBlocks" := ⟨by decide, by decide, by decide⟩
theorem n_InvalidEntry : NmOk "InvalidEntry" := ⟨by decide, by decide, by decide⟩
theorem n_InvalidPlace : NmOk "InvalidPlace" := ⟨by decide, by decide, by decide⟩
theorem n_InvalidRounds : NmOk "InvalidRounds" := ⟨by decide, by decide, by decide⟩
theorem n_InvalidRow : NmOk "InvalidRow" := ⟨by decide, by decide, by decide⟩
theorem n_MOST_BLOCKS : NmOk "MOST_BLOCKS" := ⟨by decide, by decide, by decide⟩
theorem n_MOST_ENTRIES : NmOk "MOST_ENTRIES" := ⟨by decide, by decide, by decide⟩
theorem n_MOST_IN_BLOCK : NmOk "MOST_IN_BLOCK" := ⟨by decide, by decide, by decide⟩
theorem n_MOST_ROUNDS_long : NmOk "MOST_ROUNDS_long" := ⟨by decide, by decide, by decide⟩
theorem n_MOST_ROUNDS_rows : NmOk "MOST_ROUNDS_rows" := ⟨by decide, by decide, by decide⟩
theorem n__law_bag : NmOk "_law_bag" := ⟨by decide, by decide, by decide⟩
theorem n__law_blocks : NmOk "_law_blocks" := ⟨by decide, by decide, by decide⟩
theorem n__law_great_right : NmOk "_law_great_right" := ⟨by decide, by decide, by decide⟩
theorem n__law_pick : NmOk "_law_pick" := ⟨by decide, by decide, by decide⟩
theorem n__law_row : NmOk "_law_row" := ⟨by decide, by decide, by decide⟩
theorem n__law_runs : NmOk "_law_runs" := ⟨by decide, by decide, by decide⟩
theorem n__law_slow : NmOk "_law_slow" := ⟨by decide, by decide, by decide⟩
theorem n__law_small_right : NmOk "_law_small_right" := ⟨by decide, by decide, by decide⟩
theorem n__law_spans : NmOk "_law_spans" := ⟨by decide, by decide, by decide⟩
theorem n_after_in : NmOk "after_in" := ⟨by decide, by decide, by decide⟩
theorem n_all : NmOk "all" := ⟨by decide, by decide, by decide⟩
theorem n_at : NmOk "at" := ⟨by decide, by decide, by decide⟩
theorem n_back : NmOk "back" := ⟨by decide, by decide, by decide⟩
theorem n_bag : NmOk "bag" := ⟨by decide, by decide, by decide⟩
theorem n_block : NmOk "block" := ⟨by decide, by decide, by decide⟩
theorem n_blocks : NmOk "blocks" := ⟨by decide, by decide, by decide⟩
theorem n_bool : NmOk "bool" := ⟨by decide, by decide, by decide⟩
theorem n_cell : NmOk "cell" := ⟨by decide, by decide, by decide⟩
theorem n_count : NmOk "count" := ⟨by decide, by decide, by decide⟩
theorem n_covered : NmOk "covered" := ⟨by decide, by decide, by decide⟩
theorem n_entry : NmOk "entry" := ⟨by decide, by decide, by decide⟩
theorem n_enumerate : NmOk "enumerate" := ⟨by decide, by decide, by decide⟩
theorem n_first : NmOk "first" := ⟨by decide, by decide, by decide⟩
theorem n_found : NmOk "found" := ⟨by decide, by decide, by decide⟩
theorem n_high : NmOk "high" := ⟨by decide, by decide, by decide⟩
theorem n_hinderers_in : NmOk "hinderers_in" := ⟨by decide, by decide, by decide⟩
theorem n_in_range : NmOk "in_range" := ⟨by decide, by decide, by decide⟩
theorem n_int : NmOk "int" := ⟨by decide, by decide, by decide⟩
theorem n_is_block : NmOk "is_block" := ⟨by decide, by decide, by decide⟩
theorem n_is_blocks : NmOk "is_blocks" := ⟨by decide, by decide, by decide⟩
theorem n_is_entry : NmOk "is_entry" := ⟨by decide, by decide, by decide⟩
theorem n_is_int : NmOk "is_int" := ⟨by decide, by decide, by decide⟩
theorem n_is_row : NmOk "is_row" := ⟨by decide, by decide, by decide⟩
theorem n_isinstance : NmOk "isinstance" := ⟨by decide, by decide, by decide⟩
theorem n_j : NmOk "j" := ⟨by decide, by decide, by decide⟩
theorem n_k : NmOk "k" := ⟨by decide, by decide, by decide⟩
theorem n_later : NmOk "later" := ⟨by decide, by decide, by decide⟩
theorem n_led : NmOk "led" := ⟨by decide, by decide, by decide⟩
theorem n_len : NmOk "len" := ⟨by decide, by decide, by decide⟩
theorem n_long_after : NmOk "long_after" := ⟨by decide, by decide, by decide⟩
theorem n_long_count : NmOk "long_count" := ⟨by decide, by decide, by decide⟩
theorem n_long_entry : NmOk "long_entry" := ⟨by decide, by decide, by decide⟩
theorem n_long_needed : NmOk "long_needed" := ⟨by decide, by decide, by decide⟩
theorem n_low : NmOk "low" := ⟨by decide, by decide, by decide⟩
theorem n_many : NmOk "many" := ⟨by decide, by decide, by decide⟩
theorem n_max : NmOk "max" := ⟨by decide, by decide, by decide⟩
theorem n_merged : NmOk "merged" := ⟨by decide, by decide, by decide⟩
theorem n_min : NmOk "min" := ⟨by decide, by decide, by decide⟩
theorem n_most : NmOk "most" := ⟨by decide, by decide, by decide⟩
theorem n_needed : NmOk "needed" := ⟨by decide, by decide, by decide⟩
theorem n_needed_in : NmOk "needed_in" := ⟨by decide, by decide, by decide⟩
theorem n_one : NmOk "one" := ⟨by decide, by decide, by decide⟩
theorem n_other : NmOk "other" := ⟨by decide, by decide, by decide⟩
theorem n_place : NmOk "place" := ⟨by decide, by decide, by decide⟩
theorem n_range : NmOk "range" := ⟨by decide, by decide, by decide⟩
theorem n_require_blocks : NmOk "require_blocks" := ⟨by decide, by decide, by decide⟩
theorem n_require_rounds : NmOk "require_rounds" := ⟨by decide, by decide, by decide⟩
theorem n_require_row : NmOk "require_row" := ⟨by decide, by decide, by decide⟩
theorem n_round_of_runs : NmOk "round_of_runs" := ⟨by decide, by decide, by decide⟩
theorem n_rounds : NmOk "rounds" := ⟨by decide, by decide, by decide⟩
theorem n_rounds_needed : NmOk "rounds_needed" := ⟨by decide, by decide, by decide⟩
theorem n_row : NmOk "row" := ⟨by decide, by decide, by decide⟩
theorem n_row_after : NmOk "row_after" := ⟨by decide, by decide, by decide⟩
theorem n_rows_in : NmOk "rows_in" := ⟨by decide, by decide, by decide⟩
theorem n_runs : NmOk "runs" := ⟨by decide, by decide, by decide⟩
theorem n_script : NmOk "script" := ⟨by decide, by decide, by decide⟩
theorem n_second : NmOk "second" := ⟨by decide, by decide, by decide⟩
theorem n_settled_runs : NmOk "settled_runs" := ⟨by decide, by decide, by decide⟩
theorem n_size : NmOk "size" := ⟨by decide, by decide, by decide⟩
theorem n_sizes : NmOk "sizes" := ⟨by decide, by decide, by decide⟩
theorem n_some : NmOk "some" := ⟨by decide, by decide, by decide⟩
theorem n_sorted : NmOk "sorted" := ⟨by decide, by decide, by decide⟩
theorem n_spans_in : NmOk "spans_in" := ⟨by decide, by decide, by decide⟩
theorem n_stack : NmOk "stack" := ⟨by decide, by decide, by decide⟩
theorem n_sum : NmOk "sum" := ⟨by decide, by decide, by decide⟩
theorem n_told : NmOk "told" := ⟨by decide, by decide, by decide⟩
theorem n_tuple : NmOk "tuple" := ⟨by decide, by decide, by decide⟩
theorem n_turn : NmOk "turn" := ⟨by decide, by decide, by decide⟩
theorem n_value : NmOk "value" := ⟨by decide, by decide, by decide⟩
theorem n_waiting : NmOk "waiting" := ⟨by decide, by decide, by decide⟩
theorem n_way : NmOk "way" := ⟨by decide, by decide, by decide⟩
theorem n_wide : NmOk "wide" := ⟨by decide, by decide, by decide⟩
structure Tx (K : PySem.W.Frag) (mg : Str → Option Value) : Prop where
  xt : XTab K mg KS JS
  yes : True
  z_all : mg "all" = none
  z_bool : mg "bool" = none
  z_enumerate : mg "enumerate" = none
  z_int : mg "int" = none
  z_isinstance : mg "isinstance" = none
  z_len : mg "len" = none
  z_max : mg "max" = none
  z_min : mg "min" = none
  z_range : mg "range" = none
  z_sorted : mg "sorted" = none
  z_sum : mg "sum" = none
  z_tuple : mg "tuple" = none
  m_GREATEST : ∃ t, mg "GREATEST" = some (.int 1000000000000000000000000000000 t)
  m_MOST_BLOCKS : ∃ t, mg "MOST_BLOCKS" = some (.int 200 t)
  m_MOST_ENTRIES : ∃ t, mg "MOST_ENTRIES" = some (.int 100 t)
  m_MOST_IN_BLOCK : ∃ t, mg "MOST_IN_BLOCK" = some (.int 10000000000000000000000000000 t)
  m_MOST_ROUNDS_long : ∃ t, mg "MOST_ROUNDS_long" = some (.int 1000000000000000000000000000000 t)
  m_MOST_ROUNDS_rows : ∃ t, mg "MOST_ROUNDS_rows" = some (.int 1000000000000000000000000000000 t)
section
variable {P : Program} {w : World} {K : PySem.W.Frag} {mg : Str → Option Value} {base : Heap}
abbrev s__law_bag : Stmt := top 40
def N__law_bag : List Str := ["cell"]
theorem sc__law_bag : FnScope N__law_bag ["cell"] (defScope s__law_bag) := ⟨rfl, rfl, rfl, by decide +kernel, rfl, by decide +kernel, by decide +kernel⟩
theorem fn__law_bag {f : Addr} {fd : FuncData} (F : Fun K "_law_bag" "_law_bag" s__law_bag f fd) (T : Tx K mg)  : FnG P w K mg base (L2.CX P w) 1 f fd ["cell"] (spF K (excV K) 1 LW.F__law_bag) := by
  exact fn_mk (k := 0) (d := LW.d__law_bag) F sc__law_bag (by kernel_rfl) (by kernel_rfl) fun cdv A outer s H E C O =>
    dss_one (ds_ret (de_lst (pas_cons (x_blt n_max O.max T.z_max (by unfold Gl; kernel_rfl) (pal_cons de_int (pal_cons (x_op O.sub (x_var (i := 0) n_cell (by kernel_rfl) (Or.inl (by kernel_rfl))) (x_op O.pow de_int de_int)) pal_nil (by kernel_rfl)) (by kernel_rfl)) (by kernel_rfl) (by kernel_rfl)) (pas_cons (x_var (i := 0) n_cell (by kernel_rfl) (Or.inl (by kernel_rfl))) (pas_cons de_int pas_nil (by kernel_rfl)) (by kernel_rfl)) (by kernel_rfl))))
abbrev s__law_pick : Stmt := top 41
def N__law_pick : List Str := ["bag", "many", "first", "second", "told"]
theorem sc__law_pick : FnScope N__law_pick ["bag", "many"] (defScope s__law_pick) := ⟨rfl, rfl, rfl, by decide +kernel, rfl, by decide +kernel, by decide +kernel⟩
theorem fn__law_pick {f : Addr} {fd : FuncData} (F : Fun K "_law_pick" "_law_pick" s__law_pick f fd) (T : Tx K mg)  : FnG P w K mg base (L2.CX P w) 1 f fd ["bag", "many"] (spF K (excV K) 2 LW.F__law_pick) := by
  exact fn_mk (k := 0) (d := LW.d__law_pick) F sc__law_pick (by kernel_rfl) (by kernel_rfl) fun cdv A outer s H E C O =>
    dss_cons (ds_asg (x_op O.add (de_ix O.hK (x_var (i := 0) n_bag (by kernel_rfl) (Or.inl (by kernel_rfl))) de_int (fun _ _ => rfl)) de_int) (x_gsub (i := 0) n_bag (by kernel_rfl) (Or.inl (by kernel_rfl)) de_int (fun _ => rfl)) (by kernel_rfl) (by kernel_rfl) (by kernel_rfl)) (dss_cons (ds_if (x_cmp O.gt (de_ix O.hK (x_var (i := 0) n_bag (by kernel_rfl) (Or.inl (by kernel_rfl))) de_int (fun _ _ => rfl)) de_int (by kernel_rfl)) (dss_cons (ds_asg (x_op O.mod (de_ix O.hK (x_var (i := 0) n_bag (by kernel_rfl) (Or.inl (by kernel_rfl))) de_int (fun _ _ => rfl)) (x_var (i := 1) n_many (by kernel_rfl) (Or.inl (by kernel_rfl)))) (dg_name (i := 4) O.nd (by kernel_rfl) (Or.inl (by kernel_rfl)) (Or.inr (by kernel_rfl))) (by kernel_rfl) (by kernel_rfl) (by kernel_rfl)) (dss_cons (ds_asg (x_op O.dvi (de_ix O.hK (x_var (i := 0) n_bag (by kernel_rfl) (Or.inl (by kernel_rfl))) de_int (fun _ _ => rfl)) (x_var (i := 1) n_many (by kernel_rfl) (Or.inl (by kernel_rfl)))) (x_gsub (i := 0) n_bag (by kernel_rfl) (Or.inl (by kernel_rfl)) de_int (fun _ => rfl)) (by kernel_rfl) (by kernel_rfl) (by kernel_rfl)) (dss_one (ds_ret (x_var (i := 4) n_told (by kernel_rfl) (Or.inl (by kernel_rfl))))))) (dss_nil)) (dss_cons (ds_asg (x_op O.mod (x_op O.add (x_op O.add (x_op O.mul (x_op O.mod (de_ix O.hK (x_var (i := 0) n_bag (by kernel_rfl) (Or.inl (by kernel_rfl))) de_int (fun _ _ => rfl)) de_int) de_int) (x_op O.mul (de_ix O.hK (x_var (i := 0) n_bag (by kernel_rfl) (Or.inl (by kernel_rfl))) de_int (fun _ _ => rfl)) de_int)) de_int) de_int) (dg_name (i := 2) O.nd (by kernel_rfl) (Or.inl (by kernel_rfl)) (Or.inr (by kernel_rfl))) (by kernel_rfl) (by kernel_rfl) (by kernel_rfl)) (dss_cons (ds_asg (x_op O.mod (x_op O.add (x_op O.mul (x_var (i := 2) n_first (by kernel_rfl) (Or.inl (by kernel_rfl))) (x_var (i := 2) n_first (by kernel_rfl) (Or.inl (by kernel_rfl)))) (x_op O.mul (de_ix O.hK (x_var (i := 0) n_bag (by kernel_rfl) (Or.inl (by kernel_rfl))) de_int (fun _ _ => rfl)) de_int)) de_int) (dg_name (i := 3) O.nd (by kernel_rfl) (Or.inl (by kernel_rfl)) (Or.inr (by kernel_rfl))) (by kernel_rfl) (by kernel_rfl) (by kernel_rfl)) (dss_one (ds_ret (x_op O.mod (x_op O.dvi (x_op O.add (x_op O.mul (x_var (i := 2) n_first (by kernel_rfl) (Or.inl (by kernel_rfl))) de_int) (x_var (i := 3) n_second (by kernel_rfl) (Or.inl (by kernel_rfl)))) de_int) (x_var (i := 1) n_many (by kernel_rfl) (Or.inl (by kernel_rfl)))))))))
abbrev s__law_slow : Stmt := top 43
def N__law_slow : List Str := ["bag", "many", "sizes", "found", "k", "size", "low", "j"]
theorem sc__law_slow : FnScope N__law_slow ["bag", "many"] (defScope s__law_slow) := ⟨rfl, rfl, rfl, by decide +kernel, rfl, by decide +kernel, by decide +kernel⟩
theorem fn__law_slow {f : Addr} {fd : FuncData} (F : Fun K "_law_slow" "_law_slow" s__law_slow f fd) (T : Tx K mg) (c__law_pick : CallOk P w K mg base (excV K) 1 "_law_pick" 2 LW.F__law_pick) : FnG P w K mg base (L2.CX P w) 2 f fd ["bag", "many"] (spF K (excV K) 2 LW.F__law_slow) := by
  exact fn_mk (k := 1) (d := LW.d__law_slow) F sc__law_slow (by kernel_rfl) (by kernel_rfl) fun cdv A outer s H E C O =>
    dss_cons (ds_asg (de_sl O.hK (de_lst (pas_cons de_int (pas_cons de_int (pas_cons de_int (pas_cons de_int (pas_cons de_int (pas_cons de_int (pas_cons de_int (pas_cons de_int (pas_cons de_int pas_nil (by kernel_rfl)) (by kernel_rfl)) (by kernel_rfl)) (by kernel_rfl)) (by kernel_rfl)) (by kernel_rfl)) (by kernel_rfl)) (by kernel_rfl)) (by kernel_rfl))) do_none (do_some (x_op O.add de_int (x_call O n__law_pick c__law_pick (by decide) (by unfold Gl; kernel_rfl) (pav_cons (m := true) (x_var (i := 0) n_bag (by kernel_rfl) (Or.inr (Or.inl (by kernel_rfl)))) (pav_cons (m := false) de_int pav_nil (by kernel_rfl)) (by kernel_rfl)) (by kernel_rfl) (by kernel_rfl) (by kernel_rfl))))) (dg_name (i := 2) O.nd (by kernel_rfl) (Or.inl (by kernel_rfl)) (Or.inr (by kernel_rfl))) (by kernel_rfl) (by kernel_rfl) (by kernel_rfl)) (dss_cons (ds_asg (de_lst pas_nil) (dg_name (i := 3) O.nd (by kernel_rfl) (Or.inl (by kernel_rfl)) (Or.inr (by kernel_rfl))) (by kernel_rfl) (by kernel_rfl) (by kernel_rfl)) (dss_cons (ds_for (passes_of rfl) O.calm (di_enum O.hK (by unfold Gl; kernel_rfl) T.z_enumerate (de_rev O.hK (x_var (i := 2) n_sizes (by kernel_rfl) (Or.inl (by kernel_rfl)))) (by kernel_rfl)) (dg_tup O.hK O.calm (dgs_cons (dg_name (i := 4) O.nd (by kernel_rfl) (Or.inl (by kernel_rfl)) (Or.inr (by kernel_rfl))) (dgs_cons (dg_name (i := 5) O.nd (by kernel_rfl) (Or.inl (by kernel_rfl)) (Or.inr (by kernel_rfl))) dgs_nil (by kernel_rfl)) (by kernel_rfl)) (by kernel_rfl) (by kernel_rfl)) (dss_cons (ds_asg (x_op O.mul (x_op O.sub (x_blt n_len O.len T.z_len (by unfold Gl; kernel_rfl) (pal_cons (x_var (i := 2) n_sizes (by kernel_rfl) (Or.inl (by kernel_rfl))) pal_nil (by kernel_rfl)) (by kernel_rfl) (by kernel_rfl)) (x_var (i := 4) n_k (by kernel_rfl) (Or.inl (by kernel_rfl)))) de_int) (dg_name (i := 6) O.nd (by kernel_rfl) (Or.inr (by kernel_rfl)) (Or.inl (by kernel_rfl))) (by kernel_rfl) (by kernel_rfl) (by kernel_rfl)) (dss_one (ds_asg (x_op O.add (x_var (i := 3) n_found (by kernel_rfl) (Or.inl (by kernel_rfl))) (de_lc O.calm O.nd (di_range1 (by unfold Gl; kernel_rfl) T.z_range (x_blt n_max O.max T.z_max (by unfold Gl; kernel_rfl) (pal_cons de_int (pal_cons (x_op O.sub (x_var (i := 5) n_size (by kernel_rfl) (Or.inl (by kernel_rfl))) (x_typ n_int O.int T.z_int (by unfold Gl; kernel_rfl) (pal_cons (x_cmp O.eq (x_call O n__law_pick c__law_pick (by decide) (by unfold Gl; kernel_rfl) (pav_cons (m := true) (x_var (i := 0) n_bag (by kernel_rfl) (Or.inr (Or.inl (by kernel_rfl)))) (pav_cons (m := false) de_int pav_nil (by kernel_rfl)) (by kernel_rfl)) (by kernel_rfl) (by kernel_rfl) (by kernel_rfl)) de_int (by kernel_rfl)) pal_nil (by kernel_rfl)) (by kernel_rfl) (by kernel_rfl))) pal_nil (by kernel_rfl)) (by kernel_rfl)) (by kernel_rfl) (by kernel_rfl)) (by kernel_rfl)) (blkOk_by (N := N__law_slow) (sc := defScope s__law_slow) (own := [("j", 7)]) (by decide +kernel)) (fun s1 H1 _ _ fp1 => dg_name (i := 7) (XO.blk O s1 H1 _ _ fp1).nd (by kernel_rfl) (Or.inl (by kernel_rfl)) (Or.inr (by kernel_rfl))) (fun s1 H1 _ _ fp1 => dt_nil) (fun s1 H1 _ _ fp1 => x_op (XO.blk O s1 H1 _ _ fp1).add (x_var (i := 6) n_low (by kernel_rfl) (Or.inr (Or.inl (by kernel_rfl)))) (x_var (i := 7) n_j (by kernel_rfl) (Or.inl (by kernel_rfl)))) (fun _ => rfl))) (dg_name (i := 3) O.nd (by kernel_rfl) (Or.inl (by kernel_rfl)) (Or.inr (by kernel_rfl))) (by kernel_rfl) (by kernel_rfl) (by kernel_rfl)))) (fun _ => rfl)) (dss_cons (ds_asg (de_sl O.hK (x_var (i := 3) n_found (by kernel_rfl) (Or.inl (by kernel_rfl))) (do_some (x_blt n_max O.max T.z_max (by unfold Gl; kernel_rfl) (pal_cons de_int (pal_cons (x_op O.sub (x_blt n_len O.len T.z_len (by unfold Gl; kernel_rfl) (pal_cons (x_var (i := 3) n_found (by kernel_rfl) (Or.inl (by kernel_rfl))) pal_nil (by kernel_rfl)) (by kernel_rfl) (by kernel_rfl)) (x_var (i := 1) n_many (by kernel_rfl) (Or.inl (by kernel_rfl)))) pal_nil (by kernel_rfl)) (by kernel_rfl)) (by kernel_rfl) (by kernel_rfl))) do_none) (dg_name (i := 3) O.nd (by kernel_rfl) (Or.inl (by kernel_rfl)) (Or.inr (by kernel_rfl))) (by kernel_rfl) (by kernel_rfl) (by kernel_rfl)) (dss_one (ds_ret (x_op O.add (x_var (i := 3) n_found (by kernel_rfl) (Or.inl (by kernel_rfl))) (de_lc O.calm O.nd (di_range1 (by unfold Gl; kernel_rfl) T.z_range (x_op O.sub (x_var (i := 1) n_many (by kernel_rfl) (Or.inl (by kernel_rfl))) (x_blt n_len O.len T.z_len (by unfold Gl; kernel_rfl) (pal_cons (x_var (i := 3) n_found (by kernel_rfl) (Or.inl (by kernel_rfl))) pal_nil (by kernel_rfl)) (by kernel_rfl) (by kernel_rfl))) (by kernel_rfl)) (blkOk_by (N := N__law_slow) (sc := defScope s__law_slow) (own := [("k", 4)]) (by decide +kernel)) (fun s1 H1 _ _ fp1 => dg_name (i := 4) (XO.blk O s1 H1 _ _ fp1).nd (by kernel_rfl) (Or.inl (by kernel_rfl)) (Or.inr (by kernel_rfl))) (fun s1 H1 _ _ fp1 => dt_nil) (fun s1 H1 _ _ fp1 => x_op (XO.blk O s1 H1 _ _ fp1).sub de_int (x_call (XO.blk O s1 H1 _ _ fp1) n__law_pick c__law_pick (by decide) (by unfold Gl; kernel_rfl) (pav_cons (m := true) (x_var (i := 0) n_bag (by kernel_rfl) (Or.inr (Or.inl (by kernel_rfl)))) (pav_cons (m := false) de_int pav_nil (by kernel_rfl)) (by kernel_rfl)) (by kernel_rfl) (by kernel_rfl) (by kernel_rfl))) (fun _ => rfl))))))))
abbrev s__law_row : Stmt := top 42
def N__law_row : List Str := ["bag", "most", "many", "way", "wide", "low", "found", "turn", "k"]
theorem sc__law_row : FnScope N__law_row ["bag", "most"] (defScope s__law_row) := ⟨rfl, rfl, rfl, by decide +kernel, rfl, by decide +kernel, by decide +kernel⟩
theorem fn__law_row {f : Addr} {fd : FuncData} (F : Fun K "_law_row" "_law_row" s__law_row f fd) (T : Tx K mg) (c__law_pick : CallOk P w K mg base (excV K) 1 "_law_pick" 2 LW.F__law_pick) (c__law_slow : CallOk P w K mg base (excV K) 2 "_law_slow" 2 LW.F__law_slow) : FnG P w K mg base (L2.CX P w) 3 f fd ["bag", "most"] (spF K (excV K) 2 LW.F__law_row) := by
  exact fn_mk (k := 2) (d := LW.d__law_row) F sc__law_row (by kernel_rfl) (by kernel_rfl) fun cdv A outer s H E C O =>
    dss_cons (ds_asg (x_op O.add de_int (x_call O n__law_pick c__law_pick (by decide) (by unfold Gl; kernel_rfl) (pav_cons (m := true) (x_var (i := 0) n_bag (by kernel_rfl) (Or.inr (Or.inl (by kernel_rfl)))) (pav_cons (m := true) (x_var (i := 1) n_most (by kernel_rfl) (Or.inl (by kernel_rfl))) pav_nil (by kernel_rfl)) (by kernel_rfl)) (by kernel_rfl) (by kernel_rfl) (by kernel_rfl))) (dg_name (i := 2) O.nd (by kernel_rfl) (Or.inl (by kernel_rfl)) (Or.inr (by kernel_rfl))) (by kernel_rfl) (by kernel_rfl) (by kernel_rfl)) (dss_cons (ds_asg (x_call O n__law_pick c__law_pick (by decide) (by unfold Gl; kernel_rfl) (pav_cons (m := true) (x_var (i := 0) n_bag (by kernel_rfl) (Or.inr (Or.inl (by kernel_rfl)))) (pav_cons (m := false) de_int pav_nil (by kernel_rfl)) (by kernel_rfl)) (by kernel_rfl) (by kernel_rfl) (by kernel_rfl)) (dg_name (i := 3) O.nd (by kernel_rfl) (Or.inl (by kernel_rfl)) (Or.inr (by kernel_rfl))) (by kernel_rfl) (by kernel_rfl) (by kernel_rfl)) (dss_cons (ds_asg (de_ix O.hK (de_lst (pas_cons de_int (pas_cons de_int (pas_cons (x_var (i := 2) n_many (by kernel_rfl) (Or.inl (by kernel_rfl))) (pas_cons de_int (pas_cons de_int (pas_cons (x_op O.add (x_op O.mul de_int (x_op O.pow de_int de_int)) de_int) (pas_cons (x_op O.pow de_int de_int) (pas_cons de_int pas_nil (by kernel_rfl)) (by kernel_rfl)) (by kernel_rfl)) (by kernel_rfl)) (by kernel_rfl)) (by kernel_rfl)) (by kernel_rfl)) (by kernel_rfl))) (x_var (i := 3) n_way (by kernel_rfl) (Or.inl (by kernel_rfl))) (fun _ _ => rfl)) (dg_name (i := 4) O.nd (by kernel_rfl) (Or.inr (by kernel_rfl)) (Or.inl (by kernel_rfl))) (by kernel_rfl) (by kernel_rfl) (by kernel_rfl)) (dss_cons (ds_asg (de_ix O.hK (de_lst (pas_cons de_int (pas_cons (x_op O.sub de_int de_int) (pas_cons de_int (pas_cons de_int (pas_cons (x_op O.sub de_int de_int) (pas_cons (x_op O.sub de_int (x_op O.pow de_int de_int)) (pas_cons de_int (pas_cons (x_op O.sub (x_op O.pow de_int de_int) de_int) pas_nil (by kernel_rfl)) (by kernel_rfl)) (by kernel_rfl)) (by kernel_rfl)) (by kernel_rfl)) (by kernel_rfl)) (by kernel_rfl)) (by kernel_rfl))) (x_var (i := 3) n_way (by kernel_rfl) (Or.inl (by kernel_rfl))) (fun _ _ => rfl)) (dg_name (i := 5) O.nd (by kernel_rfl) (Or.inr (by kernel_rfl)) (Or.inl (by kernel_rfl))) (by kernel_rfl) (by kernel_rfl) (by kernel_rfl)) (dss_cons (ds_setLc (i := 6) O.calm O.nd (by kernel_rfl) (by kernel_rfl) (by exact sw_true (by kernel_rfl) (by kernel_rfl) (by kernel_rfl) (by kernel_rfl)) (di_range1 (by unfold Gl; kernel_rfl) T.z_range (x_var (i := 2) n_many (by kernel_rfl) (Or.inl (by kernel_rfl))) (by kernel_rfl)) (blkOk_by (N := N__law_row) (sc := defScope s__law_row) (own := [("k", 8)]) (by decide +kernel)) (fun s1 H1 _ _ fp1 => dg_name (i := 8) (XO.blk O s1 H1 _ _ fp1).nd (by kernel_rfl) (Or.inl (by kernel_rfl)) (Or.inr (by kernel_rfl))) (fun s1 H1 _ _ fp1 => dt_nil) (fun s1 H1 _ _ fp1 => x_op (XO.blk O s1 H1 _ _ fp1).add (x_var (i := 5) n_low (by kernel_rfl) (Or.inr (Or.inl (by kernel_rfl)))) (x_call (XO.blk O s1 H1 _ _ fp1) n__law_pick c__law_pick (by decide) (by unfold Gl; kernel_rfl) (pav_cons (m := true) (x_var (i := 0) n_bag (by kernel_rfl) (Or.inr (Or.inl (by kernel_rfl)))) (pav_cons (m := true) (x_var (i := 4) n_wide (by kernel_rfl) (Or.inr (Or.inl (by kernel_rfl)))) pav_nil (by kernel_rfl)) (by kernel_rfl)) (by kernel_rfl) (by kernel_rfl) (by kernel_rfl))) (fun _ => rfl)) (dss_cons (ds_asg (x_call O n__law_pick c__law_pick (by decide) (by unfold Gl; kernel_rfl) (pav_cons (m := true) (x_var (i := 0) n_bag (by kernel_rfl) (Or.inr (Or.inl (by kernel_rfl)))) (pav_cons (m := false) de_int pav_nil (by kernel_rfl)) (by kernel_rfl)) (by kernel_rfl) (by kernel_rfl) (by kernel_rfl)) (dg_name (i := 7) O.nd (by kernel_rfl) (Or.inl (by kernel_rfl)) (Or.inr (by kernel_rfl))) (by kernel_rfl) (by kernel_rfl) (by kernel_rfl)) (dss_cons (ds_if (x_cmp O.eq (x_var (i := 7) n_turn (by kernel_rfl) (Or.inl (by kernel_rfl))) de_int (by kernel_rfl)) (dss_one (ds_asg (x_blt n_sorted O.sorted T.z_sorted (by unfold Gl; kernel_rfl) (pal_cons (x_var (i := 6) n_found (by kernel_rfl) (Or.inl (by kernel_rfl))) pal_nil (by kernel_rfl)) (by kernel_rfl) (by kernel_rfl)) (dg_name (i := 6) O.nd (by kernel_rfl) (Or.inl (by kernel_rfl)) (Or.inr (by kernel_rfl))) (by kernel_rfl) (by kernel_rfl) (by kernel_rfl))) (dss_nil)) (dss_cons (ds_if (x_cmp O.eq (x_var (i := 7) n_turn (by kernel_rfl) (Or.inl (by kernel_rfl))) de_int (by kernel_rfl)) (dss_one (ds_asg (de_rev O.hK (x_blt n_sorted O.sorted T.z_sorted (by unfold Gl; kernel_rfl) (pal_cons (x_var (i := 6) n_found (by kernel_rfl) (Or.inl (by kernel_rfl))) pal_nil (by kernel_rfl)) (by kernel_rfl) (by kernel_rfl))) (dg_name (i := 6) O.nd (by kernel_rfl) (Or.inl (by kernel_rfl)) (Or.inr (by kernel_rfl))) (by kernel_rfl) (by kernel_rfl) (by kernel_rfl))) (dss_nil)) (dss_cons (ds_if (DW.de (dw_and (x_cmp O.lt (x_var (i := 7) n_turn (by kernel_rfl) (Or.inl (by kernel_rfl))) de_int (by kernel_rfl)) (dw_and1 (x_cmp O.gt (x_var (i := 7) n_turn (by kernel_rfl) (Or.inl (by kernel_rfl))) de_int (by kernel_rfl))))) (dss_one (ds_asg (x_call O n__law_slow c__law_slow (by decide) (by unfold Gl; kernel_rfl) (pav_cons (m := true) (x_var (i := 0) n_bag (by kernel_rfl) (Or.inr (Or.inl (by kernel_rfl)))) (pav_cons (m := true) (x_var (i := 2) n_many (by kernel_rfl) (Or.inl (by kernel_rfl))) pav_nil (by kernel_rfl)) (by kernel_rfl)) (by kernel_rfl) (by kernel_rfl) (by kernel_rfl)) (dg_name (i := 6) O.nd (by kernel_rfl) (Or.inl (by kernel_rfl)) (Or.inr (by kernel_rfl))) (by kernel_rfl) (by kernel_rfl) (by kernel_rfl))) (dss_nil)) (dss_one (ds_ret (x_typ n_tuple O.tuple T.z_tuple (by unfold Gl; kernel_rfl) (pal_cons (x_var (i := 6) n_found (by kernel_rfl) (Or.inl (by kernel_rfl))) pal_nil (by kernel_rfl)) (by kernel_rfl) (by kernel_rfl))))))))))))
abbrev s__law_blocks : Stmt := top 46
def N__law_blocks : List Str := ["bag", "row", "found", "one"]
theorem sc__law_blocks : FnScope N__law_blocks ["bag", "row"] (defScope s__law_blocks) := ⟨rfl, rfl, rfl, by decide +kernel, rfl, by decide +kernel, by decide +kernel⟩
theorem fn__law_blocks {f : Addr} {fd : FuncData} (F : Fun K "_law_blocks" "_law_blocks" s__law_blocks f fd) (T : Tx K mg) (c__law_pick : CallOk P w K mg base (excV K) 1 "_law_pick" 2 LW.F__law_pick) : FnG P w K mg base (L2.CX P w) 2 f fd ["bag", "row"] (spF K (excV K) 2 LW.F__law_blocks) := by
  exact fn_mk (k := 1) (d := LW.d__law_blocks) F sc__law_blocks (by kernel_rfl) (by kernel_rfl) fun cdv A outer s H E C O =>
    dss_cons (ds_asg (de_lst pas_nil) (dg_name (i := 2) O.nd (by kernel_rfl) (Or.inl (by kernel_rfl)) (Or.inr (by kernel_rfl))) (by kernel_rfl) (by kernel_rfl) (by kernel_rfl)) (dss_cons (ds_for (passes_of rfl) O.calm (di_any O.hK (x_var (i := 1) n_row (by kernel_rfl) (Or.inl (by kernel_rfl)))) (dg_name (i := 3) O.nd (by kernel_rfl) (Or.inl (by kernel_rfl)) (Or.inr (by kernel_rfl))) (dss_one (ds_if (DW.de (dw_and (x_cmp O.ne (x_var (i := 2) n_found (by kernel_rfl) (Or.inl (by kernel_rfl))) (de_lst pas_nil) (by kernel_rfl)) (dw_and (x_cmp O.eq (de_ix O.hK (de_ix O.hK (x_var (i := 2) n_found (by kernel_rfl) (Or.inl (by kernel_rfl))) (x_neg de_int) (fun _ _ => rfl)) de_int (fun _ _ => rfl)) (x_var (i := 3) n_one (by kernel_rfl) (Or.inl (by kernel_rfl))) (by kernel_rfl)) (dw_and1 (x_cmp O.gt (x_call O n__law_pick c__law_pick (by decide) (by unfold Gl; kernel_rfl) (pav_cons (m := true) (x_var (i := 0) n_bag (by kernel_rfl) (Or.inl (by kernel_rfl))) (pav_cons (m := false) de_int pav_nil (by kernel_rfl)) (by kernel_rfl)) (by kernel_rfl) (by kernel_rfl) (by kernel_rfl)) de_int (by kernel_rfl)))))) (dss_one (ds_asg (de_tup (pas_cons (x_var (i := 3) n_one (by kernel_rfl) (Or.inl (by kernel_rfl))) (pas_cons (x_op O.add (de_ix O.hK (de_ix O.hK (x_var (i := 2) n_found (by kernel_rfl) (Or.inl (by kernel_rfl))) (x_neg de_int) (fun _ _ => rfl)) de_int (fun _ _ => rfl)) de_int) pas_nil (by kernel_rfl)) (by kernel_rfl)) (fun _ => rfl)) (x_gsub (i := 2) n_found (by kernel_rfl) (Or.inl (by kernel_rfl)) (x_neg de_int) (fun _ => rfl)) (by kernel_rfl) (by kernel_rfl) (by kernel_rfl))) (dss_one (ds_expr (x_app (i := 2) O n_found (by kernel_rfl) (Or.inl (by kernel_rfl)) (de_tup (pas_cons (x_var (i := 3) n_one (by kernel_rfl) (Or.inl (by kernel_rfl))) (pas_cons de_int pas_nil (by kernel_rfl)) (by kernel_rfl)) (fun _ => rfl)) (by kernel_rfl) (by kernel_rfl) (by kernel_rfl) (by kernel_rfl)) (by kernel_rfl))))) (fun _ => rfl)) (dss_one (ds_ret (x_typ n_tuple O.tuple T.z_tuple (by unfold Gl; kernel_rfl) (pal_cons (x_var (i := 2) n_found (by kernel_rfl) (Or.inl (by kernel_rfl))) pal_nil (by kernel_rfl)) (by kernel_rfl) (by kernel_rfl)))))
abbrev s_is_int : Stmt := top 11
def N_is_int : List Str := ["value"]
theorem sc_is_int : FnScope N_is_int ["value"] (defScope s_is_int) := ⟨rfl, rfl, rfl, by decide +kernel, rfl, by decide +kernel, by decide +kernel⟩
theorem fn_is_int {f : Addr} {fd : FuncData} (F : Fun K "is_int" "is_int" s_is_int f fd) (T : Tx K mg)  : FnG P w K mg base (L2.CX P w) 1 f fd ["value"] (spF K (excV K) 1 SP.F_is_int) := by
  exact fn_mk (k := 0) (d := SP.d_is_int) F sc_is_int (by kernel_rfl) (by kernel_rfl) fun cdv A outer s H E C O =>
    dss_one (ds_ret (DW.de (dw_and (x_isi (T := .int) O n_isinstance n_int T.z_isinstance T.z_int (by kernel_rfl) (x_var (i := 0) n_value (by kernel_rfl) (Or.inl (by kernel_rfl))) (by unfold Gl; kernel_rfl) (by unfold Gl; kernel_rfl) (by kernel_rfl) (by kernel_rfl)) (dw_and1 (de_not (x_isi (T := .bool) O n_isinstance n_bool T.z_isinstance T.z_bool (by kernel_rfl) (x_var (i := 0) n_value (by kernel_rfl) (Or.inl (by kernel_rfl))) (by unfold Gl; kernel_rfl) (by unfold Gl; kernel_rfl) (by kernel_rfl) (by kernel_rfl)))))))
abbrev s_in_range : Stmt := top 12
def N_in_range : List Str := ["value", "low", "high"]
theorem sc_in_range : FnScope N_in_range ["value", "low", "high"] (defScope s_in_range) := ⟨rfl, rfl, rfl, by decide +kernel, rfl, by decide +kernel, by decide +kernel⟩
theorem fn_in_range {f : Addr} {fd : FuncData} (F : Fun K "in_range" "in_range" s_in_range f fd) (T : Tx K mg) (c_is_int : CallOk P w K mg base (excV K) 1 "is_int" 1 SP.F_is_int) : FnG P w K mg base (L2.CX P w) 2 f fd ["value", "low", "high"] (spF K (excV K) 3 SP.F_in_range) := by
  exact fn_mk (k := 1) (d := SP.d_in_range) F sc_in_range (by kernel_rfl) (by kernel_rfl) fun cdv A outer s H E C O =>
    dss_one (ds_ret (DW.de (dw_and (x_call O n_is_int c_is_int (by decide) (by unfold Gl; kernel_rfl) (pav_cons (m := true) (x_var (i := 0) n_value (by kernel_rfl) (Or.inl (by kernel_rfl))) pav_nil (by kernel_rfl)) (by kernel_rfl) (by kernel_rfl) (by kernel_rfl)) (dw_and1 (x_chain O.le O.le (x_var (i := 1) n_low (by kernel_rfl) (Or.inl (by kernel_rfl))) (x_var (i := 0) n_value (by kernel_rfl) (Or.inl (by kernel_rfl))) (x_var (i := 2) n_high (by kernel_rfl) (Or.inl (by kernel_rfl))) (by kernel_rfl))))))
abbrev s_is_entry : Stmt := top 13
def N_is_entry : List Str := ["value"]
theorem sc_is_entry : FnScope N_is_entry ["value"] (defScope s_is_entry) := ⟨rfl, rfl, rfl, by decide +kernel, rfl, by decide +kernel, by decide +kernel⟩
theorem fn_is_entry {f : Addr} {fd : FuncData} (F : Fun K "is_entry" "is_entry" s_is_entry f fd) (T : Tx K mg) (c_in_range : CallOk P w K mg base (excV K) 2 "in_range" 3 SP.F_in_range) : FnG P w K mg base (L2.CX P w) 3 f fd ["value"] (spF K (excV K) 1 SP.F_is_entry) := by
  obtain ⟨_, hm_GREATEST⟩ := T.m_GREATEST
  exact fn_mk (k := 2) (d := SP.d_is_entry) F sc_is_entry (by kernel_rfl) (by kernel_rfl) fun cdv A outer s H E C O =>
    dss_one (ds_ret (x_call O n_in_range c_in_range (by decide) (by unfold Gl; kernel_rfl) (pav_cons (m := true) (x_var (i := 0) n_value (by kernel_rfl) (Or.inl (by kernel_rfl))) (pav_cons (m := false) (x_neg (x_glob n_GREATEST hm_GREATEST (by unfold Gl; kernel_rfl))) (pav_cons (m := false) (x_glob n_GREATEST hm_GREATEST (by unfold Gl; kernel_rfl)) pav_nil (by kernel_rfl)) (by kernel_rfl)) (by kernel_rfl)) (by kernel_rfl) (by kernel_rfl) (by kernel_rfl)))
abbrev s_is_row : Stmt := top 14
def N_is_row : List Str := ["value", "entry"]
theorem sc_is_row : FnScope N_is_row ["value"] (defScope s_is_row) := ⟨rfl, rfl, rfl, by decide +kernel, rfl, by decide +kernel, by decide +kernel⟩
theorem fn_is_row {f : Addr} {fd : FuncData} (F : Fun K "is_row" "is_row" s_is_row f fd) (T : Tx K mg) (c_is_entry : CallOk P w K mg base (excV K) 3 "is_entry" 1 SP.F_is_entry) : FnG P w K mg base (L2.CX P w) 4 f fd ["value"] (spF K (excV K) 1 SP.F_is_row) := by
  obtain ⟨_, hm_MOST_ENTRIES⟩ := T.m_MOST_ENTRIES
  exact fn_mk (k := 3) (d := SP.d_is_row) F sc_is_row (by kernel_rfl) (by kernel_rfl) fun cdv A outer s H E C O =>
    dss_cons (ds_if (DW.de (dw_or (de_not (x_isi (T := .tuple) O n_isinstance n_tuple T.z_isinstance T.z_tuple (by kernel_rfl) (x_var (i := 0) n_value (by kernel_rfl) (Or.inl (by kernel_rfl))) (by unfold Gl; kernel_rfl) (by unfold Gl; kernel_rfl) (by kernel_rfl) (by kernel_rfl))) (dw_or1 (de_not (x_chain O.le O.le de_int (x_blt n_len O.len T.z_len (by unfold Gl; kernel_rfl) (pal_cons (x_var (i := 0) n_value (by kernel_rfl) (Or.inl (by kernel_rfl))) pal_nil (by kernel_rfl)) (by kernel_rfl) (by kernel_rfl)) (x_glob n_MOST_ENTRIES hm_MOST_ENTRIES (by unfold Gl; kernel_rfl)) (by kernel_rfl)))))) (dss_one (ds_ret de_bl)) (dss_nil)) (dss_one (ds_ret (x_blt n_all O.all T.z_all (by unfold Gl; kernel_rfl) (pal_cons (de_lc O.calm O.nd (di_any O.hK (x_var (i := 0) n_value (by kernel_rfl) (Or.inl (by kernel_rfl)))) (blkOk_by (N := N_is_row) (sc := defScope s_is_row) (own := [("entry", 1)]) (by decide +kernel)) (fun s1 H1 _ _ fp1 => dg_name (i := 1) (XO.blk O s1 H1 _ _ fp1).nd (by kernel_rfl) (Or.inl (by kernel_rfl)) (Or.inr (by kernel_rfl))) (fun s1 H1 _ _ fp1 => dt_nil) (fun s1 H1 _ _ fp1 => x_call (XO.blk O s1 H1 _ _ fp1) n_is_entry c_is_entry (by decide) (by unfold Gl; kernel_rfl) (pav_cons (m := true) (x_var (i := 1) n_entry (by kernel_rfl) (Or.inl (by kernel_rfl))) pav_nil (by kernel_rfl)) (by kernel_rfl) (by kernel_rfl) (by kernel_rfl)) (fun _ => rfl)) pal_nil (by kernel_rfl)) (by kernel_rfl) (by kernel_rfl))))
abbrev s_require_row : Stmt := top 15
def N_require_row : List Str := ["value"]
theorem sc_require_row : FnScope N_require_row ["value"] (defScope s_require_row) := ⟨rfl, rfl, rfl, by decide +kernel, rfl, by decide +kernel, by decide +kernel⟩
theorem fn_require_row {f : Addr} {fd : FuncData} (F : Fun K "require_row" "require_row" s_require_row f fd) (T : Tx K mg) (c_is_row : CallOk P w K mg base (excV K) 4 "is_row" 1 SP.F_is_row) : FnG P w K mg base (L2.CX P w) 5 f fd ["value"] (spF K (excV K) 1 SP.F_require_row) := by
  exact fn_mk (k := 4) (d := SP.d_require_row) F sc_require_row (by kernel_rfl) (by kernel_rfl) fun cdv A outer s H E C O =>
    dss_one (ds_if (de_not (x_call O n_is_row c_is_row (by decide) (by unfold Gl; kernel_rfl) (pav_cons (m := true) (x_var (i := 0) n_value (by kernel_rfl) (Or.inl (by kernel_rfl))) pav_nil (by kernel_rfl)) (by kernel_rfl) (by kernel_rfl) (by kernel_rfl))) (dss_one (x_raise (c := 1) O T.xt rfl (by decide) rfl n_InvalidRow (by unfold Gl; kernel_rfl))) (dss_nil))
abbrev s_require_rounds : Stmt := top 16
def N_require_rounds : List Str := ["value", "low", "high"]
theorem sc_require_rounds : FnScope N_require_rounds ["value", "low", "high"] (defScope s_require_rounds) := ⟨rfl, rfl, rfl, by decide +kernel, rfl, by decide +kernel, by decide +kernel⟩
theorem fn_require_rounds {f : Addr} {fd : FuncData} (F : Fun K "require_rounds" "require_rounds" s_require_rounds f fd) (T : Tx K mg) (c_in_range : CallOk P w K mg base (excV K) 2 "in_range" 3 SP.F_in_range) : FnG P w K mg base (L2.CX P w) 3 f fd ["value", "low", "high"] (spF K (excV K) 3 SP.F_require_rounds) := by
  exact fn_mk (k := 2) (d := SP.d_require_rounds) F sc_require_rounds (by kernel_rfl) (by kernel_rfl) fun cdv A outer s H E C O =>
    dss_one (ds_if (de_not (x_call O n_in_range c_in_range (by decide) (by unfold Gl; kernel_rfl) (pav_cons (m := true) (x_var (i := 0) n_value (by kernel_rfl) (Or.inl (by kernel_rfl))) (pav_cons (m := true) (x_var (i := 1) n_low (by kernel_rfl) (Or.inl (by kernel_rfl))) (pav_cons (m := true) (x_var (i := 2) n_high (by kernel_rfl) (Or.inl (by kernel_rfl))) pav_nil (by kernel_rfl)) (by kernel_rfl)) (by kernel_rfl)) (by kernel_rfl) (by kernel_rfl) (by kernel_rfl))) (dss_one (x_raise (c := 3) O T.xt rfl (by decide) rfl n_InvalidRounds (by unfold Gl; kernel_rfl))) (dss_nil))
abbrev s_hinderers_in : Stmt := top 17
def N_hinderers_in : List Str := ["row", "found", "waiting", "place", "entry"]
theorem sc_hinderers_in : FnScope N_hinderers_in ["row"] (defScope s_hinderers_in) := ⟨rfl, rfl, rfl, by decide +kernel, rfl, by decide +kernel, by decide +kernel⟩
theorem fn_hinderers_in {f : Addr} {fd : FuncData} (F : Fun K "hinderers_in" "hinderers_in" s_hinderers_in f fd) (T : Tx K mg)  : FnG P w K mg base (L2.CX P w) 1 f fd ["row"] (spF K (excV K) 1 SP.F_hinderers_in) := by
  exact fn_mk (k := 0) (d := SP.d_hinderers_in) F sc_hinderers_in (by kernel_rfl) (by kernel_rfl) fun cdv A outer s H E C O =>
    dss_cons (ds_asg (de_lst pas_nil) (dg_name (i := 1) O.nd (by kernel_rfl) (Or.inl (by kernel_rfl)) (Or.inr (by kernel_rfl))) (by kernel_rfl) (by kernel_rfl) (by kernel_rfl)) (dss_cons (ds_asg (de_lst pas_nil) (dg_name (i := 2) O.nd (by kernel_rfl) (Or.inl (by kernel_rfl)) (Or.inr (by kernel_rfl))) (by kernel_rfl) (by kernel_rfl) (by kernel_rfl)) (dss_cons (ds_for (passes_of rfl) O.calm (di_enum O.hK (by unfold Gl; kernel_rfl) T.z_enumerate (x_var (i := 0) n_row (by kernel_rfl) (Or.inl (by kernel_rfl))) (by kernel_rfl)) (dg_tup O.hK O.calm (dgs_cons (dg_name (i := 3) O.nd (by kernel_rfl) (Or.inl (by kernel_rfl)) (Or.inr (by kernel_rfl))) (dgs_cons (dg_name (i := 4) O.nd (by kernel_rfl) (Or.inl (by kernel_rfl)) (Or.inr (by kernel_rfl))) dgs_nil (by kernel_rfl)) (by kernel_rfl)) (by kernel_rfl) (by kernel_rfl)) (dss_cons (ds_while (passes_of rfl) (DW.de (dw_and (x_cmp O.ne (x_var (i := 2) n_waiting (by kernel_rfl) (Or.inl (by kernel_rfl))) (de_lst pas_nil) (by kernel_rfl)) (dw_and1 (x_cmp O.lt (de_ix O.hK (x_var (i := 0) n_row (by kernel_rfl) (Or.inl (by kernel_rfl))) (de_ix O.hK (x_var (i := 2) n_waiting (by kernel_rfl) (Or.inl (by kernel_rfl))) (x_neg de_int) (fun _ _ => rfl)) (fun _ _ => rfl)) (x_var (i := 4) n_entry (by kernel_rfl) (Or.inl (by kernel_rfl))) (by kernel_rfl))))) (dss_one (ds_expr (x_pop0 (i := 2) O n_waiting (by kernel_rfl) (Or.inl (by kernel_rfl)) (by kernel_rfl) (by kernel_rfl)) (by kernel_rfl)))) (dss_cons (ds_expr (x_app (i := 1) O n_found (by kernel_rfl) (Or.inl (by kernel_rfl)) (de_ife (x_cmp O.ne (x_var (i := 2) n_waiting (by kernel_rfl) (Or.inl (by kernel_rfl))) (de_lst pas_nil) (by kernel_rfl)) (de_ix O.hK (x_var (i := 2) n_waiting (by kernel_rfl) (Or.inl (by kernel_rfl))) (x_neg de_int) (fun _ _ => rfl)) de_non) (by kernel_rfl) (by kernel_rfl) (by kernel_rfl) (by kernel_rfl)) (by kernel_rfl)) (dss_one (ds_expr (x_app (i := 2) O n_waiting (by kernel_rfl) (Or.inl (by kernel_rfl)) (x_var (i := 3) n_place (by kernel_rfl) (Or.inl (by kernel_rfl))) (by kernel_rfl) (by kernel_rfl) (by kernel_rfl) (by kernel_rfl)) (by kernel_rfl))))) (fun _ => rfl)) (dss_one (ds_ret (x_var (i := 1) n_found (by kernel_rfl) (Or.inl (by kernel_rfl)))))))
abbrev s_spans_in : Stmt := top 18
def N_spans_in : List Str := ["row", "place", "other"]
theorem sc_spans_in : FnScope N_spans_in ["row"] (defScope s_spans_in) := ⟨rfl, rfl, rfl, by decide +kernel, rfl, by decide +kernel, by decide +kernel⟩
theorem fn_spans_in {f : Addr} {fd : FuncData} (F : Fun K "spans_in" "spans_in" s_spans_in f fd) (T : Tx K mg) (c_hinderers_in : CallOk P w K mg base (excV K) 1 "hinderers_in" 1 SP.F_hinderers_in) : FnG P w K mg base (L2.CX P w) 2 f fd ["row"] (spF K (excV K) 1 SP.F_spans_in) := by
  exact fn_mk (k := 1) (d := SP.d_spans_in) F sc_spans_in (by kernel_rfl) (by kernel_rfl) fun cdv A outer s H E C O =>
    dss_one (ds_ret (x_typ n_tuple O.tuple T.z_tuple (by unfold Gl; kernel_rfl) (pal_cons (de_lc O.calm O.nd (di_enum O.hK (by unfold Gl; kernel_rfl) T.z_enumerate (x_call O n_hinderers_in c_hinderers_in (by decide) (by unfold Gl; kernel_rfl) (pav_cons (m := true) (x_var (i := 0) n_row (by kernel_rfl) (Or.inl (by kernel_rfl))) pav_nil (by kernel_rfl)) (by kernel_rfl) (by kernel_rfl) (by kernel_rfl)) (by kernel_rfl)) (blkOk_by (N := N_spans_in) (sc := defScope s_spans_in) (own := [("place", 1), ("other", 2)]) (by decide +kernel)) (fun s1 H1 _ _ fp1 => dg_tup (XO.blk O s1 H1 _ _ fp1).hK (XO.blk O s1 H1 _ _ fp1).calm (dgs_cons (dg_name (i := 1) (XO.blk O s1 H1 _ _ fp1).nd (by kernel_rfl) (Or.inl (by kernel_rfl)) (Or.inr (by kernel_rfl))) (dgs_cons (dg_name (i := 2) (XO.blk O s1 H1 _ _ fp1).nd (by kernel_rfl) (Or.inl (by kernel_rfl)) (Or.inr (by kernel_rfl))) dgs_nil (by kernel_rfl)) (by kernel_rfl)) (by kernel_rfl) (by kernel_rfl)) (fun s1 H1 _ _ fp1 => dt_nil) (fun s1 H1 _ _ fp1 => de_ife (x_cmp (XO.blk O s1 H1 _ _ fp1).is (x_var (i := 2) n_other (by kernel_rfl) (Or.inl (by kernel_rfl))) de_non (by kernel_rfl)) (x_op (XO.blk O s1 H1 _ _ fp1).add (x_var (i := 1) n_place (by kernel_rfl) (Or.inl (by kernel_rfl))) de_int) (x_op (XO.blk O s1 H1 _ _ fp1).sub (x_var (i := 1) n_place (by kernel_rfl) (Or.inl (by kernel_rfl))) (x_var (i := 2) n_other (by kernel_rfl) (Or.inl (by kernel_rfl))))) (fun _ => rfl)) pal_nil (by kernel_rfl)) (by kernel_rfl) (by kernel_rfl)))
abbrev s_after_in : Stmt := top 19
def N_after_in : List Str := ["row", "many", "turn"]
theorem sc_after_in : FnScope N_after_in ["row", "many"] (defScope s_after_in) := ⟨rfl, rfl, rfl, by decide +kernel, rfl, by decide +kernel, by decide +kernel⟩
theorem fn_after_in {f : Addr} {fd : FuncData} (F : Fun K "after_in" "after_in" s_after_in f fd) (T : Tx K mg) (c_spans_in : CallOk P w K mg base (excV K) 2 "spans_in" 1 SP.F_spans_in) : FnG P w K mg base (L2.CX P w) 3 f fd ["row", "many"] (spF K (excV K) 2 SP.F_after_in) := by
  exact fn_mk (k := 2) (d := SP.d_after_in) F sc_after_in (by kernel_rfl) (by kernel_rfl) fun cdv A outer s H E C O =>
    dss_cons (ds_for (passes_of rfl) O.calm (di_range1 (by unfold Gl; kernel_rfl) T.z_range (x_blt n_min O.min T.z_min (by unfold Gl; kernel_rfl) (pal_cons (x_var (i := 1) n_many (by kernel_rfl) (Or.inl (by kernel_rfl))) (pal_cons (x_blt n_len O.len T.z_len (by unfold Gl; kernel_rfl) (pal_cons (x_var (i := 0) n_row (by kernel_rfl) (Or.inl (by kernel_rfl))) pal_nil (by kernel_rfl)) (by kernel_rfl) (by kernel_rfl)) pal_nil (by kernel_rfl)) (by kernel_rfl)) (by kernel_rfl) (by kernel_rfl)) (by kernel_rfl)) (dg_name (i := 2) O.nd (by kernel_rfl) (Or.inl (by kernel_rfl)) (Or.inr (by kernel_rfl))) (dss_one (ds_asg (x_call O n_spans_in c_spans_in (by decide) (by unfold Gl; kernel_rfl) (pav_cons (m := true) (x_var (i := 0) n_row (by kernel_rfl) (Or.inl (by kernel_rfl))) pav_nil (by kernel_rfl)) (by kernel_rfl) (by kernel_rfl) (by kernel_rfl)) (dg_name (i := 0) O.nd (by kernel_rfl) (Or.inl (by kernel_rfl)) (Or.inr (by kernel_rfl))) (by kernel_rfl) (by kernel_rfl) (by kernel_rfl))) (fun _ => rfl)) (dss_one (ds_ret (x_var (i := 0) n_row (by kernel_rfl) (Or.inl (by kernel_rfl)))))
abbrev s_row_after : Stmt := top 20
def N_row_after : List Str := ["row", "rounds"]
theorem sc_row_after : FnScope N_row_after ["row", "rounds"] (defScope s_row_after) := ⟨rfl, rfl, rfl, by decide +kernel, rfl, by decide +kernel, by decide +kernel⟩
theorem fn_row_after {f : Addr} {fd : FuncData} (F : Fun K "row_after" "row_after" s_row_after f fd) (T : Tx K mg) (c_require_row : CallOk P w K mg base (excV K) 5 "require_row" 1 SP.F_require_row) (c_require_rounds : CallOk P w K mg base (excV K) 3 "require_rounds" 3 SP.F_require_rounds) (c_after_in : CallOk P w K mg base (excV K) 3 "after_in" 2 SP.F_after_in) : FnG P w K mg base (L2.CX P w) 6 f fd ["row", "rounds"] (spF K (excV K) 2 SP.F_row_after) := by
  obtain ⟨_, hm_MOST_ROUNDS_rows⟩ := T.m_MOST_ROUNDS_rows
  exact fn_mk (k := 5) (d := SP.d_row_after) F sc_row_after (by kernel_rfl) (by kernel_rfl) fun cdv A outer s H E C O =>
    dss_cons (ds_expr (x_call O n_require_row c_require_row (by decide) (by unfold Gl; kernel_rfl) (pav_cons (m := true) (x_var (i := 0) n_row (by kernel_rfl) (Or.inl (by kernel_rfl))) pav_nil (by kernel_rfl)) (by kernel_rfl) (by kernel_rfl) (by kernel_rfl)) (by kernel_rfl)) (dss_cons (ds_expr (x_call O n_require_rounds c_require_rounds (by decide) (by unfold Gl; kernel_rfl) (pav_cons (m := true) (x_var (i := 1) n_rounds (by kernel_rfl) (Or.inl (by kernel_rfl))) (pav_cons (m := false) de_int (pav_cons (m := false) (x_glob n_MOST_ROUNDS_rows hm_MOST_ROUNDS_rows (by unfold Gl; kernel_rfl)) pav_nil (by kernel_rfl)) (by kernel_rfl)) (by kernel_rfl)) (by kernel_rfl) (by kernel_rfl) (by kernel_rfl)) (by kernel_rfl)) (dss_one (ds_ret (x_call O n_after_in c_after_in (by decide) (by unfold Gl; kernel_rfl) (pav_cons (m := true) (x_var (i := 0) n_row (by kernel_rfl) (Or.inl (by kernel_rfl))) (pav_cons (m := true) (x_var (i := 1) n_rounds (by kernel_rfl) (Or.inl (by kernel_rfl))) pav_nil (by kernel_rfl)) (by kernel_rfl)) (by kernel_rfl) (by kernel_rfl) (by kernel_rfl)))))
abbrev s_is_block : Stmt := top 25
def N_is_block : List Str := ["value"]
theorem sc_is_block : FnScope N_is_block ["value"] (defScope s_is_block) := ⟨rfl, rfl, rfl, by decide +kernel, rfl, by decide +kernel, by decide +kernel⟩
theorem fn_is_block {f : Addr} {fd : FuncData} (F : Fun K "is_block" "is_block" s_is_block f fd) (T : Tx K mg) (c_is_entry : CallOk P w K mg base (excV K) 3 "is_entry" 1 SP.F_is_entry) (c_in_range : CallOk P w K mg base (excV K) 2 "in_range" 3 SP.F_in_range) : FnG P w K mg base (L2.CX P w) 4 f fd ["value"] (spF K (excV K) 1 SP.F_is_block) := by
  obtain ⟨_, hm_MOST_IN_BLOCK⟩ := T.m_MOST_IN_BLOCK
  exact fn_mk (k := 3) (d := SP.d_is_block) F sc_is_block (by kernel_rfl) (by kernel_rfl) fun cdv A outer s H E C O =>
    dss_cons (ds_if (DW.de (dw_or (de_not (x_isi (T := .tuple) O n_isinstance n_tuple T.z_isinstance T.z_tuple (by kernel_rfl) (x_var (i := 0) n_value (by kernel_rfl) (Or.inl (by kernel_rfl))) (by unfold Gl; kernel_rfl) (by unfold Gl; kernel_rfl) (by kernel_rfl) (by kernel_rfl))) (dw_or1 (x_cmp O.ne (x_blt n_len O.len T.z_len (by unfold Gl; kernel_rfl) (pal_cons (x_var (i := 0) n_value (by kernel_rfl) (Or.inl (by kernel_rfl))) pal_nil (by kernel_rfl)) (by kernel_rfl) (by kernel_rfl)) de_int (by kernel_rfl))))) (dss_one (ds_ret de_bl)) (dss_nil)) (dss_one (ds_ret (DW.de (dw_and (x_call O n_is_entry c_is_entry (by decide) (by unfold Gl; kernel_rfl) (pav_cons (m := false) (de_ix O.hK (x_var (i := 0) n_value (by kernel_rfl) (Or.inl (by kernel_rfl))) de_int (fun _ _ => rfl)) pav_nil (by kernel_rfl)) (by kernel_rfl) (by kernel_rfl) (by kernel_rfl)) (dw_and1 (x_call O n_in_range c_in_range (by decide) (by unfold Gl; kernel_rfl) (pav_cons (m := false) (de_ix O.hK (x_var (i := 0) n_value (by kernel_rfl) (Or.inl (by kernel_rfl))) de_int (fun _ _ => rfl)) (pav_cons (m := false) de_int (pav_cons (m := false) (x_glob n_MOST_IN_BLOCK hm_MOST_IN_BLOCK (by unfold Gl; kernel_rfl)) pav_nil (by kernel_rfl)) (by kernel_rfl)) (by kernel_rfl)) (by kernel_rfl) (by kernel_rfl) (by kernel_rfl)))))))
abbrev s_is_blocks : Stmt := top 26
def N_is_blocks : List Str := ["value", "block"]
theorem sc_is_blocks : FnScope N_is_blocks ["value"] (defScope s_is_blocks) := ⟨rfl, rfl, rfl, by decide +kernel, rfl, by decide +kernel, by decide +kernel⟩
theorem fn_is_blocks {f : Addr} {fd : FuncData} (F : Fun K "is_blocks" "is_blocks" s_is_blocks f fd) (T : Tx K mg) (c_is_block : CallOk P w K mg base (excV K) 4 "is_block" 1 SP.F_is_block) : FnG P w K mg base (L2.CX P w) 5 f fd ["value"] (spF K (excV K) 1 SP.F_is_blocks) := by
  obtain ⟨_, hm_MOST_BLOCKS⟩ := T.m_MOST_BLOCKS
  exact fn_mk (k := 4) (d := SP.d_is_blocks) F sc_is_blocks (by kernel_rfl) (by kernel_rfl) fun cdv A outer s H E C O =>
    dss_cons (ds_if (DW.de (dw_or (de_not (x_isi (T := .tuple) O n_isinstance n_tuple T.z_isinstance T.z_tuple (by kernel_rfl) (x_var (i := 0) n_value (by kernel_rfl) (Or.inl (by kernel_rfl))) (by unfold Gl; kernel_rfl) (by unfold Gl; kernel_rfl) (by kernel_rfl) (by kernel_rfl))) (dw_or1 (de_not (x_chain O.le O.le de_int (x_blt n_len O.len T.z_len (by unfold Gl; kernel_rfl) (pal_cons (x_var (i := 0) n_value (by kernel_rfl) (Or.inl (by kernel_rfl))) pal_nil (by kernel_rfl)) (by kernel_rfl) (by kernel_rfl)) (x_glob n_MOST_BLOCKS hm_MOST_BLOCKS (by unfold Gl; kernel_rfl)) (by kernel_rfl)))))) (dss_one (ds_ret de_bl)) (dss_nil)) (dss_one (ds_ret (x_blt n_all O.all T.z_all (by unfold Gl; kernel_rfl) (pal_cons (de_lc O.calm O.nd (di_any O.hK (x_var (i := 0) n_value (by kernel_rfl) (Or.inl (by kernel_rfl)))) (blkOk_by (N := N_is_blocks) (sc := defScope s_is_blocks) (own := [("block", 1)]) (by decide +kernel)) (fun s1 H1 _ _ fp1 => dg_name (i := 1) (XO.blk O s1 H1 _ _ fp1).nd (by kernel_rfl) (Or.inl (by kernel_rfl)) (Or.inr (by kernel_rfl))) (fun s1 H1 _ _ fp1 => dt_nil) (fun s1 H1 _ _ fp1 => x_call (XO.blk O s1 H1 _ _ fp1) n_is_block c_is_block (by decide) (by unfold Gl; kernel_rfl) (pav_cons (m := true) (x_var (i := 1) n_block (by kernel_rfl) (Or.inl (by kernel_rfl))) pav_nil (by kernel_rfl)) (by kernel_rfl) (by kernel_rfl) (by kernel_rfl)) (fun _ => rfl)) pal_nil (by kernel_rfl)) (by kernel_rfl) (by kernel_rfl))))
abbrev s_require_blocks : Stmt := top 27
def N_require_blocks : List Str := ["value"]
theorem sc_require_blocks : FnScope N_require_blocks ["value"] (defScope s_require_blocks) := ⟨rfl, rfl, rfl, by decide +kernel, rfl, by decide +kernel, by decide +kernel⟩
theorem fn_require_blocks {f : Addr} {fd : FuncData} (F : Fun K "require_blocks" "require_blocks" s_require_blocks f fd) (T : Tx K mg) (c_is_blocks : CallOk P w K mg base (excV K) 5 "is_blocks" 1 SP.F_is_blocks) : FnG P w K mg base (L2.CX P w) 6 f fd ["value"] (spF K (excV K) 1 SP.F_require_blocks) := by
  exact fn_mk (k := 5) (d := SP.d_require_blocks) F sc_require_blocks (by kernel_rfl) (by kernel_rfl) fun cdv A outer s H E C O =>
    dss_one (ds_if (de_not (x_call O n_is_blocks c_is_blocks (by decide) (by unfold Gl; kernel_rfl) (pav_cons (m := true) (x_var (i := 0) n_value (by kernel_rfl) (Or.inl (by kernel_rfl))) pav_nil (by kernel_rfl)) (by kernel_rfl) (by kernel_rfl) (by kernel_rfl))) (dss_one (x_raise (c := 14) O T.xt rfl (by decide) rfl n_InvalidBlocks (by unfold Gl; kernel_rfl))) (dss_nil))
abbrev s_merged : Stmt := top 28
def N_merged : List Str := ["blocks", "found", "entry", "count"]
theorem sc_merged : FnScope N_merged ["blocks"] (defScope s_merged) := ⟨rfl, rfl, rfl, by decide +kernel, rfl, by decide +kernel, by decide +kernel⟩
theorem fn_merged {f : Addr} {fd : FuncData} (F : Fun K "merged" "merged" s_merged f fd) (T : Tx K mg)  : FnG P w K mg base (L2.CX P w) 1 f fd ["blocks"] (spF K (excV K) 1 SP.F_merged) := by
  exact fn_mk (k := 0) (d := SP.d_merged) F sc_merged (by kernel_rfl) (by kernel_rfl) fun cdv A outer s H E C O =>
    dss_cons (ds_asg (de_lst pas_nil) (dg_name (i := 1) O.nd (by kernel_rfl) (Or.inl (by kernel_rfl)) (Or.inr (by kernel_rfl))) (by kernel_rfl) (by kernel_rfl) (by kernel_rfl)) (dss_cons (ds_for (passes_of rfl) O.calm (di_any O.hK (x_var (i := 0) n_blocks (by kernel_rfl) (Or.inl (by kernel_rfl)))) (dg_tup O.hK O.calm (dgs_cons (dg_name (i := 2) O.nd (by kernel_rfl) (Or.inl (by kernel_rfl)) (Or.inr (by kernel_rfl))) (dgs_cons (dg_name (i := 3) O.nd (by kernel_rfl) (Or.inl (by kernel_rfl)) (Or.inr (by kernel_rfl))) dgs_nil (by kernel_rfl)) (by kernel_rfl)) (by kernel_rfl) (by kernel_rfl)) (dss_one (ds_if (DW.de (dw_and (x_cmp O.ne (x_var (i := 1) n_found (by kernel_rfl) (Or.inl (by kernel_rfl))) (de_lst pas_nil) (by kernel_rfl)) (dw_and1 (x_cmp O.eq (de_ix O.hK (de_ix O.hK (x_var (i := 1) n_found (by kernel_rfl) (Or.inl (by kernel_rfl))) (x_neg de_int) (fun _ _ => rfl)) de_int (fun _ _ => rfl)) (x_var (i := 2) n_entry (by kernel_rfl) (Or.inl (by kernel_rfl))) (by kernel_rfl))))) (dss_one (ds_asg (de_tup (pas_cons (x_var (i := 2) n_entry (by kernel_rfl) (Or.inl (by kernel_rfl))) (pas_cons (x_op O.add (de_ix O.hK (de_ix O.hK (x_var (i := 1) n_found (by kernel_rfl) (Or.inl (by kernel_rfl))) (x_neg de_int) (fun _ _ => rfl)) de_int (fun _ _ => rfl)) (x_var (i := 3) n_count (by kernel_rfl) (Or.inl (by kernel_rfl)))) pas_nil (by kernel_rfl)) (by kernel_rfl)) (fun _ => rfl)) (x_gsub (i := 1) n_found (by kernel_rfl) (Or.inl (by kernel_rfl)) (x_neg de_int) (fun _ => rfl)) (by kernel_rfl) (by kernel_rfl) (by kernel_rfl))) (dss_one (ds_expr (x_app (i := 1) O n_found (by kernel_rfl) (Or.inl (by kernel_rfl)) (de_tup (pas_cons (x_var (i := 2) n_entry (by kernel_rfl) (Or.inl (by kernel_rfl))) (pas_cons (x_var (i := 3) n_count (by kernel_rfl) (Or.inl (by kernel_rfl))) pas_nil (by kernel_rfl)) (by kernel_rfl)) (fun _ => rfl)) (by kernel_rfl) (by kernel_rfl) (by kernel_rfl) (by kernel_rfl)) (by kernel_rfl))))) (fun _ => rfl)) (dss_one (ds_ret (x_var (i := 1) n_found (by kernel_rfl) (Or.inl (by kernel_rfl))))))
abbrev s_round_of_runs : Stmt := top 29
def N_round_of_runs : List Str := ["runs", "found", "stack", "entry", "count", "covered"]
theorem sc_round_of_runs : FnScope N_round_of_runs ["runs"] (defScope s_round_of_runs) := ⟨rfl, rfl, rfl, by decide +kernel, rfl, by decide +kernel, by decide +kernel⟩
theorem fn_round_of_runs {f : Addr} {fd : FuncData} (F : Fun K "round_of_runs" "round_of_runs" s_round_of_runs f fd) (T : Tx K mg) (c_merged : CallOk P w K mg base (excV K) 1 "merged" 1 SP.F_merged) : FnG P w K mg base (L2.CX P w) 2 f fd ["runs"] (spF K (excV K) 1 SP.F_round_of_runs) := by
  exact fn_mk (k := 1) (d := SP.d_round_of_runs) F sc_round_of_runs (by kernel_rfl) (by kernel_rfl) fun cdv A outer s H E C O =>
    dss_cons (ds_asg (de_lst pas_nil) (dg_name (i := 1) O.nd (by kernel_rfl) (Or.inl (by kernel_rfl)) (Or.inr (by kernel_rfl))) (by kernel_rfl) (by kernel_rfl) (by kernel_rfl)) (dss_cons (ds_asg (de_lst pas_nil) (dg_name (i := 2) O.nd (by kernel_rfl) (Or.inl (by kernel_rfl)) (Or.inr (by kernel_rfl))) (by kernel_rfl) (by kernel_rfl) (by kernel_rfl)) (dss_cons (ds_for (passes_of rfl) O.calm (di_any O.hK (x_var (i := 0) n_runs (by kernel_rfl) (Or.inl (by kernel_rfl)))) (dg_tup O.hK O.calm (dgs_cons (dg_name (i := 3) O.nd (by kernel_rfl) (Or.inl (by kernel_rfl)) (Or.inr (by kernel_rfl))) (dgs_cons (dg_name (i := 4) O.nd (by kernel_rfl) (Or.inl (by kernel_rfl)) (Or.inr (by kernel_rfl))) dgs_nil (by kernel_rfl)) (by kernel_rfl)) (by kernel_rfl) (by kernel_rfl)) (dss_cons (ds_asg de_int (dg_name (i := 5) O.nd (by kernel_rfl) (Or.inl (by kernel_rfl)) (Or.inr (by kernel_rfl))) (by kernel_rfl) (by kernel_rfl) (by kernel_rfl)) (dss_cons (ds_while (passes_of rfl) (DW.de (dw_and (x_cmp O.ne (x_var (i := 2) n_stack (by kernel_rfl) (Or.inl (by kernel_rfl))) (de_lst pas_nil) (by kernel_rfl)) (dw_and1 (x_cmp O.lt (de_ix O.hK (de_ix O.hK (x_var (i := 2) n_stack (by kernel_rfl) (Or.inl (by kernel_rfl))) (x_neg de_int) (fun _ _ => rfl)) de_int (fun _ _ => rfl)) (x_var (i := 3) n_entry (by kernel_rfl) (Or.inl (by kernel_rfl))) (by kernel_rfl))))) (dss_one (x_aug (i := 5) O O.addI (by kernel_rfl) (Or.inl (by kernel_rfl)) (de_ix O.hK (x_pop0 (i := 2) O n_stack (by kernel_rfl) (Or.inl (by kernel_rfl)) (by kernel_rfl) (by kernel_rfl)) de_int (fun _ _ => rfl)) (Or.inr (by kernel_rfl))))) (dss_cons (ds_expr (x_app (i := 2) O n_stack (by kernel_rfl) (Or.inl (by kernel_rfl)) (de_tup (pas_cons (x_var (i := 3) n_entry (by kernel_rfl) (Or.inl (by kernel_rfl))) (pas_cons (x_op O.add (x_var (i := 5) n_covered (by kernel_rfl) (Or.inl (by kernel_rfl))) (x_var (i := 4) n_count (by kernel_rfl) (Or.inl (by kernel_rfl)))) pas_nil (by kernel_rfl)) (by kernel_rfl)) (fun _ => rfl)) (by kernel_rfl) (by kernel_rfl) (by kernel_rfl) (by kernel_rfl)) (by kernel_rfl)) (dss_cons (ds_expr (x_app (i := 1) O n_found (by kernel_rfl) (Or.inl (by kernel_rfl)) (de_tup (pas_cons (x_op O.add (x_var (i := 5) n_covered (by kernel_rfl) (Or.inl (by kernel_rfl))) de_int) (pas_cons de_int pas_nil (by kernel_rfl)) (by kernel_rfl)) (fun _ => rfl)) (by kernel_rfl) (by kernel_rfl) (by kernel_rfl) (by kernel_rfl)) (by kernel_rfl)) (dss_one (ds_if (x_cmp O.gt (x_var (i := 4) n_count (by kernel_rfl) (Or.inl (by kernel_rfl))) de_int (by kernel_rfl)) (dss_one (ds_expr (x_app (i := 1) O n_found (by kernel_rfl) (Or.inl (by kernel_rfl)) (de_tup (pas_cons de_int (pas_cons (x_op O.sub (x_var (i := 4) n_count (by kernel_rfl) (Or.inl (by kernel_rfl))) de_int) pas_nil (by kernel_rfl)) (by kernel_rfl)) (fun _ => rfl)) (by kernel_rfl) (by kernel_rfl) (by kernel_rfl) (by kernel_rfl)) (by kernel_rfl))) (dss_nil))))))) (fun _ => rfl)) (dss_one (ds_ret (x_call O n_merged c_merged (by decide) (by unfold Gl; kernel_rfl) (pav_cons (m := false) (x_var (i := 1) n_found (by kernel_rfl) (Or.inl (by kernel_rfl))) pav_nil (by kernel_rfl)) (by kernel_rfl) (by kernel_rfl) (by kernel_rfl))))))
abbrev s_settled_runs : Stmt := top 30
def N_settled_runs : List Str := ["runs", "most", "needed", "later"]
theorem sc_settled_runs : FnScope N_settled_runs ["runs", "most"] (defScope s_settled_runs) := ⟨rfl, rfl, rfl, by decide +kernel, rfl, by decide +kernel, by decide +kernel⟩
theorem fn_settled_runs {f : Addr} {fd : FuncData} (F : Fun K "settled_runs" "settled_runs" s_settled_runs f fd) (T : Tx K mg) (c_round_of_runs : CallOk P w K mg base (excV K) 2 "round_of_runs" 1 SP.F_round_of_runs) : FnG P w K mg base (L2.CX P w) 3 f fd ["runs", "most"] (spF K (excV K) 2 SP.F_settled_runs) := by
  exact fn_mk (k := 2) (d := SP.d_settled_runs) F sc_settled_runs (by kernel_rfl) (by kernel_rfl) fun cdv A outer s H E C O =>
    dss_cons (ds_asg de_int (dg_name (i := 2) O.nd (by kernel_rfl) (Or.inl (by kernel_rfl)) (Or.inr (by kernel_rfl))) (by kernel_rfl) (by kernel_rfl) (by kernel_rfl)) (dss_cons (ds_while (passes_of rfl) (x_cmp O.lt (x_var (i := 2) n_needed (by kernel_rfl) (Or.inl (by kernel_rfl))) (x_var (i := 1) n_most (by kernel_rfl) (Or.inl (by kernel_rfl))) (by kernel_rfl)) (dss_cons (ds_asg (x_call O n_round_of_runs c_round_of_runs (by decide) (by unfold Gl; kernel_rfl) (pav_cons (m := false) (x_var (i := 0) n_runs (by kernel_rfl) (Or.inl (by kernel_rfl))) pav_nil (by kernel_rfl)) (by kernel_rfl) (by kernel_rfl) (by kernel_rfl)) (dg_name (i := 3) O.nd (by kernel_rfl) (Or.inl (by kernel_rfl)) (Or.inr (by kernel_rfl))) (by kernel_rfl) (by kernel_rfl) (by kernel_rfl)) (dss_cons (ds_if (x_cmp O.eq (x_var (i := 3) n_later (by kernel_rfl) (Or.inl (by kernel_rfl))) (x_var (i := 0) n_runs (by kernel_rfl) (Or.inl (by kernel_rfl))) (by kernel_rfl)) (dss_one ds_break) (dss_nil)) (dss_cons (ds_asg (x_var (i := 3) n_later (by kernel_rfl) (Or.inl (by kernel_rfl))) (dg_name (i := 0) O.nd (by kernel_rfl) (Or.inl (by kernel_rfl)) (Or.inr (by kernel_rfl))) (by kernel_rfl) (by kernel_rfl) (by kernel_rfl)) (dss_one (x_aug (i := 2) O O.addI (by kernel_rfl) (Or.inl (by kernel_rfl)) de_int (Or.inr (by kernel_rfl)))))))) (dss_one (ds_ret (de_tup (pas_cons (x_var (i := 0) n_runs (by kernel_rfl) (Or.inl (by kernel_rfl))) (pas_cons (x_var (i := 2) n_needed (by kernel_rfl) (Or.inl (by kernel_rfl))) pas_nil (by kernel_rfl)) (by kernel_rfl)) (fun _ => rfl)))))
abbrev s_long_after : Stmt := top 31
def N_long_after : List Str := ["blocks", "rounds"]
theorem sc_long_after : FnScope N_long_after ["blocks", "rounds"] (defScope s_long_after) := ⟨rfl, rfl, rfl, by decide +kernel, rfl, by decide +kernel, by decide +kernel⟩
theorem fn_long_after {f : Addr} {fd : FuncData} (F : Fun K "long_after" "long_after" s_long_after f fd) (T : Tx K mg) (c_require_blocks : CallOk P w K mg base (excV K) 6 "require_blocks" 1 SP.F_require_blocks) (c_require_rounds : CallOk P w K mg base (excV K) 3 "require_rounds" 3 SP.F_require_rounds) (c_settled_runs : CallOk P w K mg base (excV K) 3 "settled_runs" 2 SP.F_settled_runs) (c_merged : CallOk P w K mg base (excV K) 1 "merged" 1 SP.F_merged) : FnG P w K mg base (L2.CX P w) 7 f fd ["blocks", "rounds"] (spF K (excV K) 2 SP.F_long_after) := by
  obtain ⟨_, hm_MOST_ROUNDS_long⟩ := T.m_MOST_ROUNDS_long
  exact fn_mk (k := 6) (d := SP.d_long_after) F sc_long_after (by kernel_rfl) (by kernel_rfl) fun cdv A outer s H E C O =>
    dss_cons (ds_expr (x_call O n_require_blocks c_require_blocks (by decide) (by unfold Gl; kernel_rfl) (pav_cons (m := true) (x_var (i := 0) n_blocks (by kernel_rfl) (Or.inl (by kernel_rfl))) pav_nil (by kernel_rfl)) (by kernel_rfl) (by kernel_rfl) (by kernel_rfl)) (by kernel_rfl)) (dss_cons (ds_expr (x_call O n_require_rounds c_require_rounds (by decide) (by unfold Gl; kernel_rfl) (pav_cons (m := true) (x_var (i := 1) n_rounds (by kernel_rfl) (Or.inl (by kernel_rfl))) (pav_cons (m := false) de_int (pav_cons (m := false) (x_glob n_MOST_ROUNDS_long hm_MOST_ROUNDS_long (by unfold Gl; kernel_rfl)) pav_nil (by kernel_rfl)) (by kernel_rfl)) (by kernel_rfl)) (by kernel_rfl) (by kernel_rfl) (by kernel_rfl)) (by kernel_rfl)) (dss_one (ds_ret (x_typ n_tuple O.tuple T.z_tuple (by unfold Gl; kernel_rfl) (pal_cons (de_ix O.hK (x_call O n_settled_runs c_settled_runs (by decide) (by unfold Gl; kernel_rfl) (pav_cons (m := false) (x_call O n_merged c_merged (by decide) (by unfold Gl; kernel_rfl) (pav_cons (m := false) (x_var (i := 0) n_blocks (by kernel_rfl) (Or.inl (by kernel_rfl))) pav_nil (by kernel_rfl)) (by kernel_rfl) (by kernel_rfl) (by kernel_rfl)) (pav_cons (m := true) (x_var (i := 1) n_rounds (by kernel_rfl) (Or.inl (by kernel_rfl))) pav_nil (by kernel_rfl)) (by kernel_rfl)) (by kernel_rfl) (by kernel_rfl) (by kernel_rfl)) de_int (fun _ _ => rfl)) pal_nil (by kernel_rfl)) (by kernel_rfl) (by kernel_rfl)))))
abbrev s__law_runs : Stmt := top 47
def N__law_runs : List Str := ["row", "found", "one"]
theorem sc__law_runs : FnScope N__law_runs ["row"] (defScope s__law_runs) := ⟨rfl, rfl, rfl, by decide +kernel, rfl, by decide +kernel, by decide +kernel⟩
theorem fn__law_runs {f : Addr} {fd : FuncData} (F : Fun K "_law_runs" "_law_runs" s__law_runs f fd) (T : Tx K mg)  : FnG P w K mg base (L2.CX P w) 1 f fd ["row"] (spF K (excV K) 1 LW.F__law_runs) := by
  exact fn_mk (k := 0) (d := LW.d__law_runs) F sc__law_runs (by kernel_rfl) (by kernel_rfl) fun cdv A outer s H E C O =>
    dss_cons (ds_asg (de_lst pas_nil) (dg_name (i := 1) O.nd (by kernel_rfl) (Or.inl (by kernel_rfl)) (Or.inr (by kernel_rfl))) (by kernel_rfl) (by kernel_rfl) (by kernel_rfl)) (dss_cons (ds_for (passes_of rfl) O.calm (di_any O.hK (x_var (i := 0) n_row (by kernel_rfl) (Or.inl (by kernel_rfl)))) (dg_name (i := 2) O.nd (by kernel_rfl) (Or.inl (by kernel_rfl)) (Or.inr (by kernel_rfl))) (dss_one (ds_if (DW.de (dw_and (x_cmp O.ne (x_var (i := 1) n_found (by kernel_rfl) (Or.inl (by kernel_rfl))) (de_lst pas_nil) (by kernel_rfl)) (dw_and1 (x_cmp O.eq (de_ix O.hK (de_ix O.hK (x_var (i := 1) n_found (by kernel_rfl) (Or.inl (by kernel_rfl))) (x_neg de_int) (fun _ _ => rfl)) de_int (fun _ _ => rfl)) (x_var (i := 2) n_one (by kernel_rfl) (Or.inl (by kernel_rfl))) (by kernel_rfl))))) (dss_one (ds_asg (de_tup (pas_cons (x_var (i := 2) n_one (by kernel_rfl) (Or.inl (by kernel_rfl))) (pas_cons (x_op O.add (de_ix O.hK (de_ix O.hK (x_var (i := 1) n_found (by kernel_rfl) (Or.inl (by kernel_rfl))) (x_neg de_int) (fun _ _ => rfl)) de_int (fun _ _ => rfl)) de_int) pas_nil (by kernel_rfl)) (by kernel_rfl)) (fun _ => rfl)) (x_gsub (i := 1) n_found (by kernel_rfl) (Or.inl (by kernel_rfl)) (x_neg de_int) (fun _ => rfl)) (by kernel_rfl) (by kernel_rfl) (by kernel_rfl))) (dss_one (ds_expr (x_app (i := 1) O n_found (by kernel_rfl) (Or.inl (by kernel_rfl)) (de_tup (pas_cons (x_var (i := 2) n_one (by kernel_rfl) (Or.inl (by kernel_rfl))) (pas_cons de_int pas_nil (by kernel_rfl)) (by kernel_rfl)) (fun _ => rfl)) (by kernel_rfl) (by kernel_rfl) (by kernel_rfl) (by kernel_rfl)) (by kernel_rfl))))) (fun _ => rfl)) (dss_one (ds_ret (x_typ n_tuple O.tuple T.z_tuple (by unfold Gl; kernel_rfl) (pal_cons (x_var (i := 1) n_found (by kernel_rfl) (Or.inl (by kernel_rfl))) pal_nil (by kernel_rfl)) (by kernel_rfl) (by kernel_rfl)))))
abbrev s_long_needed : Stmt := top 34
def N_long_needed : List Str := ["blocks"]
theorem sc_long_needed : FnScope N_long_needed ["blocks"] (defScope s_long_needed) := ⟨rfl, rfl, rfl, by decide +kernel, rfl, by decide +kernel, by decide +kernel⟩
theorem fn_long_needed {f : Addr} {fd : FuncData} (F : Fun K "long_needed" "long_needed" s_long_needed f fd) (T : Tx K mg) (c_require_blocks : CallOk P w K mg base (excV K) 6 "require_blocks" 1 SP.F_require_blocks) (c_settled_runs : CallOk P w K mg base (excV K) 3 "settled_runs" 2 SP.F_settled_runs) (c_merged : CallOk P w K mg base (excV K) 1 "merged" 1 SP.F_merged) : FnG P w K mg base (L2.CX P w) 7 f fd ["blocks"] (spF K (excV K) 1 SP.F_long_needed) := by
  obtain ⟨_, hm_MOST_ROUNDS_long⟩ := T.m_MOST_ROUNDS_long
  exact fn_mk (k := 6) (d := SP.d_long_needed) F sc_long_needed (by kernel_rfl) (by kernel_rfl) fun cdv A outer s H E C O =>
    dss_cons (ds_expr (x_call O n_require_blocks c_require_blocks (by decide) (by unfold Gl; kernel_rfl) (pav_cons (m := true) (x_var (i := 0) n_blocks (by kernel_rfl) (Or.inl (by kernel_rfl))) pav_nil (by kernel_rfl)) (by kernel_rfl) (by kernel_rfl) (by kernel_rfl)) (by kernel_rfl)) (dss_one (ds_ret (de_ix O.hK (x_call O n_settled_runs c_settled_runs (by decide) (by unfold Gl; kernel_rfl) (pav_cons (m := false) (x_call O n_merged c_merged (by decide) (by unfold Gl; kernel_rfl) (pav_cons (m := false) (x_var (i := 0) n_blocks (by kernel_rfl) (Or.inl (by kernel_rfl))) pav_nil (by kernel_rfl)) (by kernel_rfl) (by kernel_rfl) (by kernel_rfl)) (pav_cons (m := false) (x_glob n_MOST_ROUNDS_long hm_MOST_ROUNDS_long (by unfold Gl; kernel_rfl)) pav_nil (by kernel_rfl)) (by kernel_rfl)) (by kernel_rfl) (by kernel_rfl) (by kernel_rfl)) de_int (fun _ _ => rfl))))
abbrev s_rows_in : Stmt := top 36
def N_rows_in : List Str := ["row", "found", "later"]
theorem sc_rows_in : FnScope N_rows_in ["row"] (defScope s_rows_in) := ⟨rfl, rfl, rfl, by decide +kernel, rfl, by decide +kernel, by decide +kernel⟩
theorem fn_rows_in {f : Addr} {fd : FuncData} (F : Fun K "rows_in" "rows_in" s_rows_in f fd) (T : Tx K mg) (c_spans_in : CallOk P w K mg base (excV K) 2 "spans_in" 1 SP.F_spans_in) : FnG P w K mg base (L2.CX P w) 3 f fd ["row"] (spF K (excV K) 1 SP.F_rows_in) := by
  exact fn_mk (k := 2) (d := SP.d_rows_in) F sc_rows_in (by kernel_rfl) (by kernel_rfl) fun cdv A outer s H E C O =>
    dss_cons (ds_asg (de_lst (pas_cons (x_var (i := 0) n_row (by kernel_rfl) (Or.inl (by kernel_rfl))) pas_nil (by kernel_rfl))) (dg_name (i := 1) O.nd (by kernel_rfl) (Or.inl (by kernel_rfl)) (Or.inr (by kernel_rfl))) (by kernel_rfl) (by kernel_rfl) (by kernel_rfl)) (dss_cons (ds_asg (x_call O n_spans_in c_spans_in (by decide) (by unfold Gl; kernel_rfl) (pav_cons (m := true) (x_var (i := 0) n_row (by kernel_rfl) (Or.inl (by kernel_rfl))) pav_nil (by kernel_rfl)) (by kernel_rfl) (by kernel_rfl) (by kernel_rfl)) (dg_name (i := 2) O.nd (by kernel_rfl) (Or.inl (by kernel_rfl)) (Or.inr (by kernel_rfl))) (by kernel_rfl) (by kernel_rfl) (by kernel_rfl)) (dss_cons (ds_while (passes_of rfl) (x_cmp O.ne (x_var (i := 2) n_later (by kernel_rfl) (Or.inl (by kernel_rfl))) (de_ix O.hK (x_var (i := 1) n_found (by kernel_rfl) (Or.inl (by kernel_rfl))) (x_neg de_int) (fun _ _ => rfl)) (by kernel_rfl)) (dss_cons (ds_expr (x_app (i := 1) O n_found (by kernel_rfl) (Or.inl (by kernel_rfl)) (x_var (i := 2) n_later (by kernel_rfl) (Or.inl (by kernel_rfl))) (by kernel_rfl) (by kernel_rfl) (by kernel_rfl) (by kernel_rfl)) (by kernel_rfl)) (dss_one (ds_asg (x_call O n_spans_in c_spans_in (by decide) (by unfold Gl; kernel_rfl) (pav_cons (m := true) (x_var (i := 2) n_later (by kernel_rfl) (Or.inl (by kernel_rfl))) pav_nil (by kernel_rfl)) (by kernel_rfl) (by kernel_rfl) (by kernel_rfl)) (dg_name (i := 2) O.nd (by kernel_rfl) (Or.inl (by kernel_rfl)) (Or.inr (by kernel_rfl))) (by kernel_rfl) (by kernel_rfl) (by kernel_rfl))))) (dss_one (ds_ret (x_var (i := 1) n_found (by kernel_rfl) (Or.inl (by kernel_rfl)))))))
abbrev s_needed_in : Stmt := top 37
def N_needed_in : List Str := ["row"]
theorem sc_needed_in : FnScope N_needed_in ["row"] (defScope s_needed_in) := ⟨rfl, rfl, rfl, by decide +kernel, rfl, by decide +kernel, by decide +kernel⟩
theorem fn_needed_in {f : Addr} {fd : FuncData} (F : Fun K "needed_in" "needed_in" s_needed_in f fd) (T : Tx K mg) (c_rows_in : CallOk P w K mg base (excV K) 3 "rows_in" 1 SP.F_rows_in) : FnG P w K mg base (L2.CX P w) 4 f fd ["row"] (spF K (excV K) 1 SP.F_needed_in) := by
  exact fn_mk (k := 3) (d := SP.d_needed_in) F sc_needed_in (by kernel_rfl) (by kernel_rfl) fun cdv A outer s H E C O =>
    dss_one (ds_ret (x_op O.sub (x_blt n_len O.len T.z_len (by unfold Gl; kernel_rfl) (pal_cons (x_call O n_rows_in c_rows_in (by decide) (by unfold Gl; kernel_rfl) (pav_cons (m := true) (x_var (i := 0) n_row (by kernel_rfl) (Or.inl (by kernel_rfl))) pav_nil (by kernel_rfl)) (by kernel_rfl) (by kernel_rfl) (by kernel_rfl)) pal_nil (by kernel_rfl)) (by kernel_rfl) (by kernel_rfl)) de_int))
abbrev s_rounds_needed : Stmt := top 38
def N_rounds_needed : List Str := ["row"]
theorem sc_rounds_needed : FnScope N_rounds_needed ["row"] (defScope s_rounds_needed) := ⟨rfl, rfl, rfl, by decide +kernel, rfl, by decide +kernel, by decide +kernel⟩
theorem fn_rounds_needed {f : Addr} {fd : FuncData} (F : Fun K "rounds_needed" "rounds_needed" s_rounds_needed f fd) (T : Tx K mg) (c_require_row : CallOk P w K mg base (excV K) 5 "require_row" 1 SP.F_require_row) (c_needed_in : CallOk P w K mg base (excV K) 4 "needed_in" 1 SP.F_needed_in) : FnG P w K mg base (L2.CX P w) 6 f fd ["row"] (spF K (excV K) 1 SP.F_rounds_needed) := by
  exact fn_mk (k := 5) (d := SP.d_rounds_needed) F sc_rounds_needed (by kernel_rfl) (by kernel_rfl) fun cdv A outer s H E C O =>
    dss_cons (ds_expr (x_call O n_require_row c_require_row (by decide) (by unfold Gl; kernel_rfl) (pav_cons (m := true) (x_var (i := 0) n_row (by kernel_rfl) (Or.inl (by kernel_rfl))) pav_nil (by kernel_rfl)) (by kernel_rfl) (by kernel_rfl) (by kernel_rfl)) (by kernel_rfl)) (dss_one (ds_ret (x_call O n_needed_in c_needed_in (by decide) (by unfold Gl; kernel_rfl) (pav_cons (m := true) (x_var (i := 0) n_row (by kernel_rfl) (Or.inl (by kernel_rfl))) pav_nil (by kernel_rfl)) (by kernel_rfl) (by kernel_rfl) (by kernel_rfl))))
abbrev s_long_entry : Stmt := top 32
def N_long_entry : List Str := ["blocks", "place", "rounds", "entry", "count"]
theorem sc_long_entry : FnScope N_long_entry ["blocks", "place", "rounds"] (defScope s_long_entry) := ⟨rfl, rfl, rfl, by decide +kernel, rfl, by decide +kernel, by decide +kernel⟩
theorem fn_long_entry {f : Addr} {fd : FuncData} (F : Fun K "long_entry" "long_entry" s_long_entry f fd) (T : Tx K mg) (c_require_blocks : CallOk P w K mg base (excV K) 6 "require_blocks" 1 SP.F_require_blocks) (c_in_range : CallOk P w K mg base (excV K) 2 "in_range" 3 SP.F_in_range) (c_require_rounds : CallOk P w K mg base (excV K) 3 "require_rounds" 3 SP.F_require_rounds) (c_settled_runs : CallOk P w K mg base (excV K) 3 "settled_runs" 2 SP.F_settled_runs) (c_merged : CallOk P w K mg base (excV K) 1 "merged" 1 SP.F_merged) : FnG P w K mg base (L2.CX P w) 7 f fd ["blocks", "place", "rounds"] (spF K (excV K) 3 SP.F_long_entry) := by
  obtain ⟨_, hm_MOST_ROUNDS_long⟩ := T.m_MOST_ROUNDS_long
  exact fn_mk (k := 6) (d := SP.d_long_entry) F sc_long_entry (by kernel_rfl) (by kernel_rfl) fun cdv A outer s H E C O =>
    dss_cons (ds_expr (x_call O n_require_blocks c_require_blocks (by decide) (by unfold Gl; kernel_rfl) (pav_cons (m := true) (x_var (i := 0) n_blocks (by kernel_rfl) (Or.inl (by kernel_rfl))) pav_nil (by kernel_rfl)) (by kernel_rfl) (by kernel_rfl) (by kernel_rfl)) (by kernel_rfl)) (dss_cons (ds_if (de_not (x_call O n_in_range c_in_range (by decide) (by unfold Gl; kernel_rfl) (pav_cons (m := true) (x_var (i := 1) n_place (by kernel_rfl) (Or.inl (by kernel_rfl))) (pav_cons (m := false) de_int (pav_cons (m := false) (x_op O.sub (x_blt n_sum O.sum T.z_sum (by unfold Gl; kernel_rfl) (pal_cons (de_lc O.calm O.nd (di_any O.hK (x_var (i := 0) n_blocks (by kernel_rfl) (Or.inl (by kernel_rfl)))) (blkOk_by (N := N_long_entry) (sc := defScope s_long_entry) (own := [("entry", 3), ("count", 4)]) (by decide +kernel)) (fun s1 H1 _ _ fp1 => dg_tup (XO.blk O s1 H1 _ _ fp1).hK (XO.blk O s1 H1 _ _ fp1).calm (dgs_cons (dg_name (i := 3) (XO.blk O s1 H1 _ _ fp1).nd (by kernel_rfl) (Or.inl (by kernel_rfl)) (Or.inr (by kernel_rfl))) (dgs_cons (dg_name (i := 4) (XO.blk O s1 H1 _ _ fp1).nd (by kernel_rfl) (Or.inl (by kernel_rfl)) (Or.inr (by kernel_rfl))) dgs_nil (by kernel_rfl)) (by kernel_rfl)) (by kernel_rfl) (by kernel_rfl)) (fun s1 H1 _ _ fp1 => dt_nil) (fun s1 H1 _ _ fp1 => x_var (i := 4) n_count (by kernel_rfl) (Or.inl (by kernel_rfl))) (fun _ => rfl)) pal_nil (by kernel_rfl)) (by kernel_rfl) (by kernel_rfl)) de_int) pav_nil (by kernel_rfl)) (by kernel_rfl)) (by kernel_rfl)) (by kernel_rfl) (by kernel_rfl) (by kernel_rfl))) (dss_one (x_raise (c := 2) O T.xt rfl (by decide) rfl n_InvalidPlace (by unfold Gl; kernel_rfl))) (dss_nil)) (dss_cons (ds_expr (x_call O n_require_rounds c_require_rounds (by decide) (by unfold Gl; kernel_rfl) (pav_cons (m := true) (x_var (i := 2) n_rounds (by kernel_rfl) (Or.inl (by kernel_rfl))) (pav_cons (m := false) de_int (pav_cons (m := false) (x_glob n_MOST_ROUNDS_long hm_MOST_ROUNDS_long (by unfold Gl; kernel_rfl)) pav_nil (by kernel_rfl)) (by kernel_rfl)) (by kernel_rfl)) (by kernel_rfl) (by kernel_rfl) (by kernel_rfl)) (by kernel_rfl)) (dss_cons (ds_for (passes_of rfl) O.calm (di_any O.hK (de_ix O.hK (x_call O n_settled_runs c_settled_runs (by decide) (by unfold Gl; kernel_rfl) (pav_cons (m := false) (x_call O n_merged c_merged (by decide) (by unfold Gl; kernel_rfl) (pav_cons (m := false) (x_var (i := 0) n_blocks (by kernel_rfl) (Or.inl (by kernel_rfl))) pav_nil (by kernel_rfl)) (by kernel_rfl) (by kernel_rfl) (by kernel_rfl)) (pav_cons (m := true) (x_var (i := 2) n_rounds (by kernel_rfl) (Or.inl (by kernel_rfl))) pav_nil (by kernel_rfl)) (by kernel_rfl)) (by kernel_rfl) (by kernel_rfl) (by kernel_rfl)) de_int (fun _ _ => rfl))) (dg_tup O.hK O.calm (dgs_cons (dg_name (i := 3) O.nd (by kernel_rfl) (Or.inl (by kernel_rfl)) (Or.inr (by kernel_rfl))) (dgs_cons (dg_name (i := 4) O.nd (by kernel_rfl) (Or.inl (by kernel_rfl)) (Or.inr (by kernel_rfl))) dgs_nil (by kernel_rfl)) (by kernel_rfl)) (by kernel_rfl) (by kernel_rfl)) (dss_cons (ds_if (x_cmp O.lt (x_var (i := 1) n_place (by kernel_rfl) (Or.inl (by kernel_rfl))) (x_var (i := 4) n_count (by kernel_rfl) (Or.inl (by kernel_rfl))) (by kernel_rfl)) (dss_one ds_break) (dss_nil)) (dss_one (x_aug (i := 1) O O.subI (by kernel_rfl) (Or.inl (by kernel_rfl)) (x_var (i := 4) n_count (by kernel_rfl) (Or.inl (by kernel_rfl))) (Or.inr (by kernel_rfl))))) (fun _ => rfl)) (dss_one (ds_ret (x_var (i := 3) n_entry (by kernel_rfl) (Or.inl (by kernel_rfl))))))))
abbrev s_long_count : Stmt := top 33
def N_long_count : List Str := ["blocks", "entry", "rounds", "other", "count"]
theorem sc_long_count : FnScope N_long_count ["blocks", "entry", "rounds"] (defScope s_long_count) := ⟨rfl, rfl, rfl, by decide +kernel, rfl, by decide +kernel, by decide +kernel⟩
theorem fn_long_count {f : Addr} {fd : FuncData} (F : Fun K "long_count" "long_count" s_long_count f fd) (T : Tx K mg) (c_require_blocks : CallOk P w K mg base (excV K) 6 "require_blocks" 1 SP.F_require_blocks) (c_is_int : CallOk P w K mg base (excV K) 1 "is_int" 1 SP.F_is_int) (c_require_rounds : CallOk P w K mg base (excV K) 3 "require_rounds" 3 SP.F_require_rounds) (c_settled_runs : CallOk P w K mg base (excV K) 3 "settled_runs" 2 SP.F_settled_runs) (c_merged : CallOk P w K mg base (excV K) 1 "merged" 1 SP.F_merged) : FnG P w K mg base (L2.CX P w) 7 f fd ["blocks", "entry", "rounds"] (spF K (excV K) 3 SP.F_long_count) := by
  obtain ⟨_, hm_MOST_ROUNDS_long⟩ := T.m_MOST_ROUNDS_long
  exact fn_mk (k := 6) (d := SP.d_long_count) F sc_long_count (by kernel_rfl) (by kernel_rfl) fun cdv A outer s H E C O =>
    dss_cons (ds_expr (x_call O n_require_blocks c_require_blocks (by decide) (by unfold Gl; kernel_rfl) (pav_cons (m := true) (x_var (i := 0) n_blocks (by kernel_rfl) (Or.inl (by kernel_rfl))) pav_nil (by kernel_rfl)) (by kernel_rfl) (by kernel_rfl) (by kernel_rfl)) (by kernel_rfl)) (dss_cons (ds_if (de_not (x_call O n_is_int c_is_int (by decide) (by unfold Gl; kernel_rfl) (pav_cons (m := true) (x_var (i := 1) n_entry (by kernel_rfl) (Or.inr (Or.inl (by kernel_rfl)))) pav_nil (by kernel_rfl)) (by kernel_rfl) (by kernel_rfl) (by kernel_rfl))) (dss_one (x_raise (c := 15) O T.xt rfl (by decide) rfl n_InvalidEntry (by unfold Gl; kernel_rfl))) (dss_nil)) (dss_cons (ds_expr (x_call O n_require_rounds c_require_rounds (by decide) (by unfold Gl; kernel_rfl) (pav_cons (m := true) (x_var (i := 2) n_rounds (by kernel_rfl) (Or.inl (by kernel_rfl))) (pav_cons (m := false) de_int (pav_cons (m := false) (x_glob n_MOST_ROUNDS_long hm_MOST_ROUNDS_long (by unfold Gl; kernel_rfl)) pav_nil (by kernel_rfl)) (by kernel_rfl)) (by kernel_rfl)) (by kernel_rfl) (by kernel_rfl) (by kernel_rfl)) (by kernel_rfl)) (dss_one (ds_ret (x_blt n_sum O.sum T.z_sum (by unfold Gl; kernel_rfl) (pal_cons (de_lc O.calm O.nd (di_any O.hK (de_ix O.hK (x_call O n_settled_runs c_settled_runs (by decide) (by unfold Gl; kernel_rfl) (pav_cons (m := false) (x_call O n_merged c_merged (by decide) (by unfold Gl; kernel_rfl) (pav_cons (m := false) (x_var (i := 0) n_blocks (by kernel_rfl) (Or.inl (by kernel_rfl))) pav_nil (by kernel_rfl)) (by kernel_rfl) (by kernel_rfl) (by kernel_rfl)) (pav_cons (m := true) (x_var (i := 2) n_rounds (by kernel_rfl) (Or.inl (by kernel_rfl))) pav_nil (by kernel_rfl)) (by kernel_rfl)) (by kernel_rfl) (by kernel_rfl) (by kernel_rfl)) de_int (fun _ _ => rfl))) (blkOk_by (N := N_long_count) (sc := defScope s_long_count) (own := [("other", 3), ("count", 4)]) (by decide +kernel)) (fun s1 H1 _ _ fp1 => dg_tup (XO.blk O s1 H1 _ _ fp1).hK (XO.blk O s1 H1 _ _ fp1).calm (dgs_cons (dg_name (i := 3) (XO.blk O s1 H1 _ _ fp1).nd (by kernel_rfl) (Or.inl (by kernel_rfl)) (Or.inr (by kernel_rfl))) (dgs_cons (dg_name (i := 4) (XO.blk O s1 H1 _ _ fp1).nd (by kernel_rfl) (Or.inl (by kernel_rfl)) (Or.inr (by kernel_rfl))) dgs_nil (by kernel_rfl)) (by kernel_rfl)) (by kernel_rfl) (by kernel_rfl)) (fun s1 H1 _ _ fp1 => dt_one (x_cmp (XO.blk O s1 H1 _ _ fp1).eq (x_var (i := 3) n_other (by kernel_rfl) (Or.inl (by kernel_rfl))) (x_var (i := 1) n_entry (by kernel_rfl) (Or.inr (Or.inl (by kernel_rfl)))) (by kernel_rfl))) (fun s1 H1 _ _ fp1 => x_var (i := 4) n_count (by kernel_rfl) (Or.inl (by kernel_rfl))) (fun _ => rfl)) pal_nil (by kernel_rfl)) (by kernel_rfl) (by kernel_rfl))))))
abbrev s__law_small_right : Stmt := top 48
def N__law_small_right : List Str := ["bag", "row", "blocks", "turn", "led", "at"]
theorem sc__law_small_right : FnScope N__law_small_right ["bag", "row"] (defScope s__law_small_right) := ⟨rfl, rfl, rfl, by decide +kernel, rfl, by decide +kernel, by decide +kernel⟩
theorem fn__law_small_right {f : Addr} {fd : FuncData} (F : Fun K "_law_small_right" "_law_small_right" s__law_small_right f fd) (T : Tx K mg) (c__law_blocks : CallOk P w K mg base (excV K) 2 "_law_blocks" 2 LW.F__law_blocks) (c__law_pick : CallOk P w K mg base (excV K) 1 "_law_pick" 2 LW.F__law_pick) (k_row_after : CallKw P w K mg base (excV K) 6 "row_after" 1 "rounds" SP.F_row_after) (k_long_after : CallKw P w K mg base (excV K) 7 "long_after" 1 "rounds" SP.F_long_after) (c__law_runs : CallOk P w K mg base (excV K) 1 "_law_runs" 1 LW.F__law_runs) (c_long_needed : CallOk P w K mg base (excV K) 7 "long_needed" 1 SP.F_long_needed) (c_rounds_needed : CallOk P w K mg base (excV K) 6 "rounds_needed" 1 SP.F_rounds_needed) (k_long_entry : CallKw P w K mg base (excV K) 7 "long_entry" 2 "rounds" SP.F_long_entry) (k_long_count : CallKw P w K mg base (excV K) 7 "long_count" 2 "rounds" SP.F_long_count) : FnG P w K mg base (L2.CX P w) 8 f fd ["bag", "row"] (spF K (excV K) 2 LW.F__law_small_right) := by
  exact fn_mk (k := 7) (d := LW.d__law_small_right) F sc__law_small_right (by kernel_rfl) (by kernel_rfl) fun cdv A outer s H E C O =>
    dss_cons (ds_asg (x_call O n__law_blocks c__law_blocks (by decide) (by unfold Gl; kernel_rfl) (pav_cons (m := true) (x_var (i := 0) n_bag (by kernel_rfl) (Or.inl (by kernel_rfl))) (pav_cons (m := true) (x_var (i := 1) n_row (by kernel_rfl) (Or.inl (by kernel_rfl))) pav_nil (by kernel_rfl)) (by kernel_rfl)) (by kernel_rfl) (by kernel_rfl) (by kernel_rfl)) (dg_name (i := 2) O.nd (by kernel_rfl) (Or.inl (by kernel_rfl)) (Or.inr (by kernel_rfl))) (by kernel_rfl) (by kernel_rfl) (by kernel_rfl)) (dss_cons (ds_asg (de_ix O.hK (de_lst (pas_cons (x_call O n__law_pick c__law_pick (by decide) (by unfold Gl; kernel_rfl) (pav_cons (m := true) (x_var (i := 0) n_bag (by kernel_rfl) (Or.inl (by kernel_rfl))) (pav_cons (m := false) de_int pav_nil (by kernel_rfl)) (by kernel_rfl)) (by kernel_rfl) (by kernel_rfl) (by kernel_rfl)) (pas_cons (x_call O n__law_pick c__law_pick (by decide) (by unfold Gl; kernel_rfl) (pav_cons (m := true) (x_var (i := 0) n_bag (by kernel_rfl) (Or.inl (by kernel_rfl))) (pav_cons (m := false) (x_op O.pow de_int de_int) pav_nil (by kernel_rfl)) (by kernel_rfl)) (by kernel_rfl) (by kernel_rfl) (by kernel_rfl)) pas_nil (by kernel_rfl)) (by kernel_rfl))) (x_call O n__law_pick c__law_pick (by decide) (by unfold Gl; kernel_rfl) (pav_cons (m := true) (x_var (i := 0) n_bag (by kernel_rfl) (Or.inl (by kernel_rfl))) (pav_cons (m := false) de_int pav_nil (by kernel_rfl)) (by kernel_rfl)) (by kernel_rfl) (by kernel_rfl) (by kernel_rfl)) (fun _ _ => rfl)) (dg_name (i := 3) O.nd (by kernel_rfl) (Or.inl (by kernel_rfl)) (Or.inr (by kernel_rfl))) (by kernel_rfl) (by kernel_rfl) (by kernel_rfl)) (dss_cons (ds_asg (x_callK (ms := [(true, dVar 1)]) (m := true) O n_row_after k_row_after (by decide) (by unfold Gl; kernel_rfl) (pav_cons (m := true) (x_var (i := 1) n_row (by kernel_rfl) (Or.inl (by kernel_rfl))) pav_nil (by kernel_rfl)) (by kernel_rfl) (x_var (i := 3) n_turn (by kernel_rfl) (Or.inl (by kernel_rfl))) (by kernel_rfl) (by kernel_rfl) (by kernel_rfl) (by kernel_rfl)) (dg_name (i := 4) O.nd (by kernel_rfl) (Or.inl (by kernel_rfl)) (Or.inr (by kernel_rfl))) (by kernel_rfl) (by kernel_rfl) (by kernel_rfl)) (dss_cons (ds_if (DW.de (dw_or (x_cmp O.ne (x_callK (ms := [(true, dVar 2)]) (m := true) O n_long_after k_long_after (by decide) (by unfold Gl; kernel_rfl) (pav_cons (m := true) (x_var (i := 2) n_blocks (by kernel_rfl) (Or.inl (by kernel_rfl))) pav_nil (by kernel_rfl)) (by kernel_rfl) (x_var (i := 3) n_turn (by kernel_rfl) (Or.inl (by kernel_rfl))) (by kernel_rfl) (by kernel_rfl) (by kernel_rfl) (by kernel_rfl)) (x_call O n__law_runs c__law_runs (by decide) (by unfold Gl; kernel_rfl) (pav_cons (m := true) (x_var (i := 4) n_led (by kernel_rfl) (Or.inl (by kernel_rfl))) pav_nil (by kernel_rfl)) (by kernel_rfl) (by kernel_rfl) (by kernel_rfl)) (by kernel_rfl)) (dw_or1 (x_cmp O.ne (x_call O n_long_needed c_long_needed (by decide) (by unfold Gl; kernel_rfl) (pav_cons (m := true) (x_var (i := 2) n_blocks (by kernel_rfl) (Or.inl (by kernel_rfl))) pav_nil (by kernel_rfl)) (by kernel_rfl) (by kernel_rfl) (by kernel_rfl)) (x_call O n_rounds_needed c_rounds_needed (by decide) (by unfold Gl; kernel_rfl) (pav_cons (m := true) (x_var (i := 1) n_row (by kernel_rfl) (Or.inl (by kernel_rfl))) pav_nil (by kernel_rfl)) (by kernel_rfl) (by kernel_rfl) (by kernel_rfl)) (by kernel_rfl))))) (dss_one (ds_ret de_bl)) (dss_nil)) (dss_cons (ds_asg (x_call O n__law_pick c__law_pick (by decide) (by unfold Gl; kernel_rfl) (pav_cons (m := true) (x_var (i := 0) n_bag (by kernel_rfl) (Or.inl (by kernel_rfl))) (pav_cons (m := false) (x_blt n_len O.len T.z_len (by unfold Gl; kernel_rfl) (pal_cons (x_var (i := 1) n_row (by kernel_rfl) (Or.inl (by kernel_rfl))) pal_nil (by kernel_rfl)) (by kernel_rfl) (by kernel_rfl)) pav_nil (by kernel_rfl)) (by kernel_rfl)) (by kernel_rfl) (by kernel_rfl) (by kernel_rfl)) (dg_name (i := 5) O.nd (by kernel_rfl) (Or.inl (by kernel_rfl)) (Or.inr (by kernel_rfl))) (by kernel_rfl) (by kernel_rfl) (by kernel_rfl)) (dss_cons (ds_if (x_cmp O.ne (x_callK (ms := [(true, dVar 2), (true, dVar 5)]) (m := true) O n_long_entry k_long_entry (by decide) (by unfold Gl; kernel_rfl) (pav_cons (m := true) (x_var (i := 2) n_blocks (by kernel_rfl) (Or.inl (by kernel_rfl))) (pav_cons (m := true) (x_var (i := 5) n_at (by kernel_rfl) (Or.inl (by kernel_rfl))) pav_nil (by kernel_rfl)) (by kernel_rfl)) (by kernel_rfl) (x_var (i := 3) n_turn (by kernel_rfl) (Or.inl (by kernel_rfl))) (by kernel_rfl) (by kernel_rfl) (by kernel_rfl) (by kernel_rfl)) (de_ix O.hK (x_var (i := 4) n_led (by kernel_rfl) (Or.inl (by kernel_rfl))) (x_var (i := 5) n_at (by kernel_rfl) (Or.inl (by kernel_rfl))) (fun _ _ => rfl)) (by kernel_rfl)) (dss_one (ds_ret de_bl)) (dss_nil)) (dss_one (ds_ret (x_cmp O.eq (x_callK (ms := [(true, dVar 2), (false, dOp2 f_ix (dVar 4) (dVar 5))]) (m := true) O n_long_count k_long_count (by decide) (by unfold Gl; kernel_rfl) (pav_cons (m := true) (x_var (i := 2) n_blocks (by kernel_rfl) (Or.inl (by kernel_rfl))) (pav_cons (m := false) (de_ix O.hK (x_var (i := 4) n_led (by kernel_rfl) (Or.inl (by kernel_rfl))) (x_var (i := 5) n_at (by kernel_rfl) (Or.inl (by kernel_rfl))) (fun _ _ => rfl)) pav_nil (by kernel_rfl)) (by kernel_rfl)) (by kernel_rfl) (x_var (i := 3) n_turn (by kernel_rfl) (Or.inl (by kernel_rfl))) (by kernel_rfl) (by kernel_rfl) (by kernel_rfl) (by kernel_rfl)) (x_tcount O (x_var (i := 4) n_led (by kernel_rfl) (Or.inl (by kernel_rfl))) (de_ix O.hK (x_var (i := 4) n_led (by kernel_rfl) (Or.inl (by kernel_rfl))) (x_var (i := 5) n_at (by kernel_rfl) (Or.inl (by kernel_rfl))) (fun _ _ => rfl)) (by kernel_rfl) (by kernel_rfl) (by kernel_rfl) (by kernel_rfl)) (by kernel_rfl)))))))))
abbrev s__law_great_right : Stmt := top 49
def N__law_great_right : List Str := ["bag", "row", "count", "some", "blocks", "place", "k", "back", "one", "many"]
theorem sc__law_great_right : FnScope N__law_great_right ["bag", "row"] (defScope s__law_great_right) := ⟨rfl, rfl, rfl, by decide +kernel, rfl, by decide +kernel, by decide +kernel⟩
theorem fn__law_great_right {f : Addr} {fd : FuncData} (F : Fun K "_law_great_right" "_law_great_right" s__law_great_right f fd) (T : Tx K mg) (c__law_pick : CallOk P w K mg base (excV K) 1 "_law_pick" 2 LW.F__law_pick) (c__law_runs : CallOk P w K mg base (excV K) 1 "_law_runs" 1 LW.F__law_runs) (d_long_entry : CallDf P w K mg base (excV K) 7 "long_entry" 2 1 SP.F_long_entry) : FnG P w K mg base (L2.CX P w) 8 f fd ["bag", "row"] (spF K (excV K) 2 LW.F__law_great_right) := by
  exact fn_mk (k := 7) (d := LW.d__law_great_right) F sc__law_great_right (by kernel_rfl) (by kernel_rfl) fun cdv A outer s H E C O =>
    dss_cons (ds_asg (x_op O.add de_int (x_call O n__law_pick c__law_pick (by decide) (by unfold Gl; kernel_rfl) (pav_cons (m := true) (x_var (i := 0) n_bag (by kernel_rfl) (Or.inl (by kernel_rfl))) (pav_cons (m := false) (x_op O.sub (x_op O.pow de_int de_int) de_int) pav_nil (by kernel_rfl)) (by kernel_rfl)) (by kernel_rfl) (by kernel_rfl) (by kernel_rfl))) (dg_name (i := 2) O.nd (by kernel_rfl) (Or.inr (by kernel_rfl)) (Or.inl (by kernel_rfl))) (by kernel_rfl) (by kernel_rfl) (by kernel_rfl)) (dss_cons (ds_asg (de_sl O.hK (x_call O n__law_runs c__law_runs (by decide) (by unfold Gl; kernel_rfl) (pav_cons (m := true) (x_var (i := 1) n_row (by kernel_rfl) (Or.inl (by kernel_rfl))) pav_nil (by kernel_rfl)) (by kernel_rfl) (by kernel_rfl) (by kernel_rfl)) do_none (do_some de_int)) (dg_name (i := 3) O.nd (by kernel_rfl) (Or.inl (by kernel_rfl)) (Or.inr (by kernel_rfl))) (by kernel_rfl) (by kernel_rfl) (by kernel_rfl)) (dss_cons (ds_asg (x_typ n_tuple O.tuple T.z_tuple (by unfold Gl; kernel_rfl) (pal_cons (de_lc O.calm O.nd (di_any O.hK (x_var (i := 3) n_some (by kernel_rfl) (Or.inl (by kernel_rfl)))) (blkOk_by (N := N__law_great_right) (sc := defScope s__law_great_right) (own := [("one", 8), ("many", 9)]) (by decide +kernel)) (fun s1 H1 _ _ fp1 => dg_tup (XO.blk O s1 H1 _ _ fp1).hK (XO.blk O s1 H1 _ _ fp1).calm (dgs_cons (dg_name (i := 8) (XO.blk O s1 H1 _ _ fp1).nd (by kernel_rfl) (Or.inl (by kernel_rfl)) (Or.inr (by kernel_rfl))) (dgs_cons (dg_name (i := 9) (XO.blk O s1 H1 _ _ fp1).nd (by kernel_rfl) (Or.inl (by kernel_rfl)) (Or.inr (by kernel_rfl))) dgs_nil (by kernel_rfl)) (by kernel_rfl)) (by kernel_rfl) (by kernel_rfl)) (fun s1 H1 _ _ fp1 => dt_nil) (fun s1 H1 _ _ fp1 => de_tup (pas_cons (x_var (i := 8) n_one (by kernel_rfl) (Or.inl (by kernel_rfl))) (pas_cons (x_var (i := 2) n_count (by kernel_rfl) (Or.inr (Or.inl (by kernel_rfl)))) pas_nil (by kernel_rfl)) (by kernel_rfl)) (fun _ => rfl)) (fun _ => rfl)) pal_nil (by kernel_rfl)) (by kernel_rfl) (by kernel_rfl)) (dg_name (i := 4) O.nd (by kernel_rfl) (Or.inl (by kernel_rfl)) (Or.inr (by kernel_rfl))) (by kernel_rfl) (by kernel_rfl) (by kernel_rfl)) (dss_cons (ds_asg de_int (dg_name (i := 5) O.nd (by kernel_rfl) (Or.inl (by kernel_rfl)) (Or.inr (by kernel_rfl))) (by kernel_rfl) (by kernel_rfl) (by kernel_rfl)) (dss_cons (ds_for (passes_of rfl) O.calm (di_range1 (by unfold Gl; kernel_rfl) T.z_range (x_blt n_len O.len T.z_len (by unfold Gl; kernel_rfl) (pal_cons (x_var (i := 3) n_some (by kernel_rfl) (Or.inl (by kernel_rfl))) pal_nil (by kernel_rfl)) (by kernel_rfl) (by kernel_rfl)) (by kernel_rfl)) (dg_name (i := 6) O.nd (by kernel_rfl) (Or.inl (by kernel_rfl)) (Or.inr (by kernel_rfl))) (dss_cons (ds_asg de_int (dg_name (i := 7) O.nd (by kernel_rfl) (Or.inl (by kernel_rfl)) (Or.inr (by kernel_rfl))) (by kernel_rfl) (by kernel_rfl) (by kernel_rfl)) (dss_cons (ds_while (passes_of rfl) (DW.de (dw_and (x_cmp O.ge (x_op O.sub (x_var (i := 6) n_k (by kernel_rfl) (Or.inl (by kernel_rfl))) (x_var (i := 7) n_back (by kernel_rfl) (Or.inl (by kernel_rfl)))) de_int (by kernel_rfl)) (dw_and1 (x_cmp O.lt (de_ix O.hK (de_ix O.hK (x_var (i := 3) n_some (by kernel_rfl) (Or.inl (by kernel_rfl))) (x_op O.sub (x_var (i := 6) n_k (by kernel_rfl) (Or.inl (by kernel_rfl))) (x_var (i := 7) n_back (by kernel_rfl) (Or.inl (by kernel_rfl)))) (fun _ _ => rfl)) de_int (fun _ _ => rfl)) (de_ix O.hK (de_ix O.hK (x_var (i := 3) n_some (by kernel_rfl) (Or.inl (by kernel_rfl))) (x_var (i := 6) n_k (by kernel_rfl) (Or.inl (by kernel_rfl))) (fun _ _ => rfl)) de_int (fun _ _ => rfl)) (by kernel_rfl))))) (dss_one (ds_asg (x_op O.add (x_var (i := 7) n_back (by kernel_rfl) (Or.inl (by kernel_rfl))) de_int) (dg_name (i := 7) O.nd (by kernel_rfl) (Or.inl (by kernel_rfl)) (Or.inr (by kernel_rfl))) (by kernel_rfl) (by kernel_rfl) (by kernel_rfl)))) (dss_cons (ds_if (DW.de (dw_or (x_cmp O.ne (x_callD O n_long_entry d_long_entry (by decide) (by unfold Gl; kernel_rfl) (pav_cons (m := true) (x_var (i := 4) n_blocks (by kernel_rfl) (Or.inl (by kernel_rfl))) (pav_cons (m := true) (x_var (i := 5) n_place (by kernel_rfl) (Or.inl (by kernel_rfl))) pav_nil (by kernel_rfl)) (by kernel_rfl)) (by kernel_rfl) (by kernel_rfl) (by kernel_rfl)) (x_op O.add de_int (x_op O.mul (x_op O.sub (x_var (i := 7) n_back (by kernel_rfl) (Or.inl (by kernel_rfl))) de_int) (x_var (i := 2) n_count (by kernel_rfl) (Or.inr (Or.inl (by kernel_rfl)))))) (by kernel_rfl)) (dw_or1 (x_cmp O.ne (x_callD O n_long_entry d_long_entry (by decide) (by unfold Gl; kernel_rfl) (pav_cons (m := true) (x_var (i := 4) n_blocks (by kernel_rfl) (Or.inl (by kernel_rfl))) (pav_cons (m := false) (x_op O.sub (x_op O.add (x_var (i := 5) n_place (by kernel_rfl) (Or.inl (by kernel_rfl))) (x_var (i := 2) n_count (by kernel_rfl) (Or.inr (Or.inl (by kernel_rfl))))) de_int) pav_nil (by kernel_rfl)) (by kernel_rfl)) (by kernel_rfl) (by kernel_rfl) (by kernel_rfl)) de_int (by kernel_rfl))))) (dss_one (ds_ret de_bl)) (dss_nil)) (dss_one (ds_asg (x_op O.add (x_var (i := 5) n_place (by kernel_rfl) (Or.inl (by kernel_rfl))) (x_var (i := 2) n_count (by kernel_rfl) (Or.inr (Or.inl (by kernel_rfl))))) (dg_name (i := 5) O.nd (by kernel_rfl) (Or.inl (by kernel_rfl)) (Or.inr (by kernel_rfl))) (by kernel_rfl) (by kernel_rfl) (by kernel_rfl)))))) (fun _ => rfl)) (dss_one (ds_ret de_bl))))))
abbrev s_law : Stmt := top 50
def N_law : List Str := ["script", "cell", "bag", "row"]
theorem sc_law : FnScope N_law ["script"] (defScope s_law) := ⟨rfl, rfl, rfl, by decide +kernel, rfl, by decide +kernel, by decide +kernel⟩
theorem fn_law {f : Addr} {fd : FuncData} (F : Fun K "law" "law" s_law f fd) (T : Tx K mg) (c__law_bag : CallOk P w K mg base (excV K) 1 "_law_bag" 1 LW.F__law_bag) (c__law_row : CallOk P w K mg base (excV K) 3 "_law_row" 2 LW.F__law_row) (c__law_pick : CallOk P w K mg base (excV K) 1 "_law_pick" 2 LW.F__law_pick) (c__law_small_right : CallOk P w K mg base (excV K) 8 "_law_small_right" 2 LW.F__law_small_right) (c__law_great_right : CallOk P w K mg base (excV K) 8 "_law_great_right" 2 LW.F__law_great_right) : FnG P w K mg base (L2.CX P w) 9 f fd ["script"] (spF K (excV K) 1 LW.F_law) := by
  exact fn_mk (k := 8) (d := LW.d_law) F sc_law (by kernel_rfl) (by kernel_rfl) fun cdv A outer s H E C O =>
    dss_cons (ds_for (passes_of rfl) O.calm (di_any O.hK (x_op O.add (de_sl O.hK (x_var (i := 0) n_script (by kernel_rfl) (Or.inl (by kernel_rfl))) do_none (do_some de_int)) (de_lst (pas_cons de_int pas_nil (by kernel_rfl))))) (dg_name (i := 1) O.nd (by kernel_rfl) (Or.inl (by kernel_rfl)) (Or.inr (by kernel_rfl))) (dss_cons (ds_asg (x_call O n__law_bag c__law_bag (by decide) (by unfold Gl; kernel_rfl) (pav_cons (m := true) (x_var (i := 1) n_cell (by kernel_rfl) (Or.inl (by kernel_rfl))) pav_nil (by kernel_rfl)) (by kernel_rfl) (by kernel_rfl) (by kernel_rfl)) (dg_name (i := 2) O.nd (by kernel_rfl) (Or.inl (by kernel_rfl)) (Or.inr (by kernel_rfl))) (by kernel_rfl) (by kernel_rfl) (by kernel_rfl)) (dss_cons (ds_asg (x_call O n__law_row c__law_row (by decide) (by unfold Gl; kernel_rfl) (pav_cons (m := true) (x_var (i := 2) n_bag (by kernel_rfl) (Or.inl (by kernel_rfl))) (pav_cons (m := false) (de_ix O.hK (de_lst (pas_cons de_int (pas_cons de_int (pas_cons de_int pas_nil (by kernel_rfl)) (by kernel_rfl)) (by kernel_rfl))) (x_call O n__law_pick c__law_pick (by decide) (by unfold Gl; kernel_rfl) (pav_cons (m := true) (x_var (i := 2) n_bag (by kernel_rfl) (Or.inl (by kernel_rfl))) (pav_cons (m := false) de_int pav_nil (by kernel_rfl)) (by kernel_rfl)) (by kernel_rfl) (by kernel_rfl) (by kernel_rfl)) (fun _ _ => rfl)) pav_nil (by kernel_rfl)) (by kernel_rfl)) (by kernel_rfl) (by kernel_rfl) (by kernel_rfl)) (dg_name (i := 3) O.nd (by kernel_rfl) (Or.inl (by kernel_rfl)) (Or.inr (by kernel_rfl))) (by kernel_rfl) (by kernel_rfl) (by kernel_rfl)) (dss_one (ds_if (DW.de (dw_or (de_not (x_call O n__law_small_right c__law_small_right (by decide) (by unfold Gl; kernel_rfl) (pav_cons (m := true) (x_var (i := 2) n_bag (by kernel_rfl) (Or.inl (by kernel_rfl))) (pav_cons (m := true) (x_var (i := 3) n_row (by kernel_rfl) (Or.inl (by kernel_rfl))) pav_nil (by kernel_rfl)) (by kernel_rfl)) (by kernel_rfl) (by kernel_rfl) (by kernel_rfl))) (dw_or1 (de_not (x_call O n__law_great_right c__law_great_right (by decide) (by unfold Gl; kernel_rfl) (pav_cons (m := true) (x_var (i := 2) n_bag (by kernel_rfl) (Or.inl (by kernel_rfl))) (pav_cons (m := true) (x_var (i := 3) n_row (by kernel_rfl) (Or.inl (by kernel_rfl))) pav_nil (by kernel_rfl)) (by kernel_rfl)) (by kernel_rfl) (by kernel_rfl) (by kernel_rfl)))))) (dss_one (ds_ret de_bl)) (dss_nil))))) (fun _ => rfl)) (dss_one (ds_ret de_bl))
end
theorem all_mk {l : PySem.W.OpenLaw} {w : World} {K : PySem.W.Frag} {h : Heap} {mg : Str → Option Value} {fa : Addr} (X : K.In h) (G : h.Ns mainGlobals mg) (hfa : mg "law" = some (.ref fa))
    {od0 an0 : Option Addr} {sl0 : Array (Option Value)} {oc0 kV0 dc0 pm0 cd0 ct0 : Value} {f0 : Addr}
    {od1 an1 : Option Addr} {sl1 : Array (Option Value)} {oc1 kV1 dc1 pm1 cd1 ct1 : Value} {f1 : Addr}
    {od2 an2 : Option Addr} {sl2 : Array (Option Value)} {oc2 kV2 dc2 pm2 cd2 ct2 : Value} {f2 : Addr}
    {od3 an3 : Option Addr} {sl3 : Array (Option Value)} {oc3 kV3 dc3 pm3 cd3 ct3 : Value} {f3 : Addr}
    {od4 an4 : Option Addr} {sl4 : Array (Option Value)} {oc4 kV4 dc4 pm4 cd4 ct4 : Value} {f4 : Addr}
    {od5 an5 : Option Addr} {sl5 : Array (Option Value)} {oc5 kV5 dc5 pm5 cd5 ct5 : Value} {f5 : Addr}
    {od6 an6 : Option Addr} {sl6 : Array (Option Value)} {oc6 kV6 dc6 pm6 cd6 ct6 : Value} {f6 : Addr}
    {od7 an7 : Option Addr} {sl7 : Array (Option Value)} {oc7 kV7 dc7 pm7 cd7 ct7 : Value} {f7 : Addr}
    {od8 an8 : Option Addr} {sl8 : Array (Option Value)} {oc8 kV8 dc8 pm8 cd8 ct8 : Value} {f8 : Addr}
    {od9 an9 : Option Addr} {sl9 : Array (Option Value)} {oc9 kV9 dc9 pm9 cd9 ct9 : Value} {f9 : Addr}
    {od10 an10 : Option Addr} {sl10 : Array (Option Value)} {oc10 kV10 dc10 pm10 cd10 ct10 : Value} {f10 : Addr}
    {od11 an11 : Option Addr} {sl11 : Array (Option Value)} {oc11 kV11 dc11 pm11 cd11 ct11 : Value} {f11 : Addr}
    {od12 an12 : Option Addr} {sl12 : Array (Option Value)} {oc12 kV12 dc12 pm12 cd12 ct12 : Value} {f12 : Addr}
    {od13 an13 : Option Addr} {sl13 : Array (Option Value)} {oc13 kV13 dc13 pm13 cd13 ct13 : Value} {f13 : Addr}
    {od14 an14 : Option Addr} {sl14 : Array (Option Value)} {oc14 kV14 dc14 pm14 cd14 ct14 : Value} {f14 : Addr}
    {od15 an15 : Option Addr} {sl15 : Array (Option Value)} {oc15 kV15 dc15 pm15 cd15 ct15 : Value} {f15 : Addr}
    {od16 an16 : Option Addr} {sl16 : Array (Option Value)} {oc16 kV16 dc16 pm16 cd16 ct16 : Value} {f16 : Addr}
    {od17 an17 : Option Addr} {sl17 : Array (Option Value)} {oc17 kV17 dc17 pm17 cd17 ct17 : Value} {f17 : Addr}
    {od18 an18 : Option Addr} {sl18 : Array (Option Value)} {oc18 kV18 dc18 pm18 cd18 ct18 : Value} {f18 : Addr}
    {od19 an19 : Option Addr} {sl19 : Array (Option Value)} {oc19 kV19 dc19 pm19 cd19 ct19 : Value} {f19 : Addr}
    {od20 an20 : Option Addr} {sl20 : Array (Option Value)} {oc20 kV20 dc20 pm20 cd20 ct20 : Value} {f20 : Addr}
    {od21 an21 : Option Addr} {sl21 : Array (Option Value)} {oc21 kV21 dc21 pm21 cd21 ct21 : Value} {f21 : Addr}
    {od22 an22 : Option Addr} {sl22 : Array (Option Value)} {oc22 kV22 dc22 pm22 cd22 ct22 : Value} {f22 : Addr}
    {od23 an23 : Option Addr} {sl23 : Array (Option Value)} {oc23 kV23 dc23 pm23 cd23 ct23 : Value} {f23 : Addr}
    {od24 an24 : Option Addr} {sl24 : Array (Option Value)} {oc24 kV24 dc24 pm24 cd24 ct24 : Value} {f24 : Addr}
    {od25 an25 : Option Addr} {sl25 : Array (Option Value)} {oc25 kV25 dc25 pm25 cd25 ct25 : Value} {f25 : Addr}
    {od26 an26 : Option Addr} {sl26 : Array (Option Value)} {oc26 kV26 dc26 pm26 cd26 ct26 : Value} {f26 : Addr}
    {od27 an27 : Option Addr} {sl27 : Array (Option Value)} {oc27 dc27 pm27 cd27 ct27 : Value} {f27 : Addr} {D27 : Addr} {tD27 : Tok}
    {od28 an28 : Option Addr} {sl28 : Array (Option Value)} {oc28 kV28 dc28 pm28 cd28 ct28 : Value} {f28 : Addr}
    {od29 an29 : Option Addr} {sl29 : Array (Option Value)} {oc29 kV29 dc29 pm29 cd29 ct29 : Value} {f29 : Addr}
    {od30 an30 : Option Addr} {sl30 : Array (Option Value)} {oc30 kV30 dc30 pm30 cd30 ct30 : Value} {f30 : Addr}
    {od31 an31 : Option Addr} {sl31 : Array (Option Value)} {oc31 kV31 dc31 pm31 cd31 ct31 : Value} {f31 : Addr}
    {t_GREATEST : Tok}
    {t_MOST_BLOCKS : Tok}
    {t_MOST_ENTRIES : Tok}
    {t_MOST_IN_BLOCK : Tok}
    {t_MOST_ROUNDS_long : Tok}
    {t_MOST_ROUNDS_rows : Tok}
    (a0 : PySem.W.nsIn K mainGlobals "_law_bag" = some (some (.ref f0))) (l0 : K.lookup f0 = some ⟨oc0, od0, .func (PySem.W.fnOf "_law_bag" "_law_bag" (defArgs s__law_bag) (defBody s__law_bag) (defScope s__law_bag) .none kV0 dc0 pm0 an0 cd0 ct0), sl0⟩) (c0 : PySem.W.codeIn K cd0 "_law_bag" = true) (k0 : PySem.W.keepIn K (.ref f0) = true)
    (a1 : PySem.W.nsIn K mainGlobals "_law_pick" = some (some (.ref f1))) (l1 : K.lookup f1 = some ⟨oc1, od1, .func (PySem.W.fnOf "_law_pick" "_law_pick" (defArgs s__law_pick) (defBody s__law_pick) (defScope s__law_pick) .none kV1 dc1 pm1 an1 cd1 ct1), sl1⟩) (c1 : PySem.W.codeIn K cd1 "_law_pick" = true) (k1 : PySem.W.keepIn K (.ref f1) = true)
    (a2 : PySem.W.nsIn K mainGlobals "_law_slow" = some (some (.ref f2))) (l2 : K.lookup f2 = some ⟨oc2, od2, .func (PySem.W.fnOf "_law_slow" "_law_slow" (defArgs s__law_slow) (defBody s__law_slow) (defScope s__law_slow) .none kV2 dc2 pm2 an2 cd2 ct2), sl2⟩) (c2 : PySem.W.codeIn K cd2 "_law_slow" = true) (k2 : PySem.W.keepIn K (.ref f2) = true)
    (a3 : PySem.W.nsIn K mainGlobals "_law_row" = some (some (.ref f3))) (l3 : K.lookup f3 = some ⟨oc3, od3, .func (PySem.W.fnOf "_law_row" "_law_row" (defArgs s__law_row) (defBody s__law_row) (defScope s__law_row) .none kV3 dc3 pm3 an3 cd3 ct3), sl3⟩) (c3 : PySem.W.codeIn K cd3 "_law_row" = true) (k3 : PySem.W.keepIn K (.ref f3) = true)
    (a4 : PySem.W.nsIn K mainGlobals "_law_blocks" = some (some (.ref f4))) (l4 : K.lookup f4 = some ⟨oc4, od4, .func (PySem.W.fnOf "_law_blocks" "_law_blocks" (defArgs s__law_blocks) (defBody s__law_blocks) (defScope s__law_blocks) .none kV4 dc4 pm4 an4 cd4 ct4), sl4⟩) (c4 : PySem.W.codeIn K cd4 "_law_blocks" = true) (k4 : PySem.W.keepIn K (.ref f4) = true)
    (a5 : PySem.W.nsIn K mainGlobals "is_int" = some (some (.ref f5))) (l5 : K.lookup f5 = some ⟨oc5, od5, .func (PySem.W.fnOf "is_int" "is_int" (defArgs s_is_int) (defBody s_is_int) (defScope s_is_int) .none kV5 dc5 pm5 an5 cd5 ct5), sl5⟩) (c5 : PySem.W.codeIn K cd5 "is_int" = true) (k5 : PySem.W.keepIn K (.ref f5) = true)
    (a6 : PySem.W.nsIn K mainGlobals "in_range" = some (some (.ref f6))) (l6 : K.lookup f6 = some ⟨oc6, od6, .func (PySem.W.fnOf "in_range" "in_range" (defArgs s_in_range) (defBody s_in_range) (defScope s_in_range) .none kV6 dc6 pm6 an6 cd6 ct6), sl6⟩) (c6 : PySem.W.codeIn K cd6 "in_range" = true) (k6 : PySem.W.keepIn K (.ref f6) = true)
    (a7 : PySem.W.nsIn K mainGlobals "is_entry" = some (some (.ref f7))) (l7 : K.lookup f7 = some ⟨oc7, od7, .func (PySem.W.fnOf "is_entry" "is_entry" (defArgs s_is_entry) (defBody s_is_entry) (defScope s_is_entry) .none kV7 dc7 pm7 an7 cd7 ct7), sl7⟩) (c7 : PySem.W.codeIn K cd7 "is_entry" = true) (k7 : PySem.W.keepIn K (.ref f7) = true)
    (a8 : PySem.W.nsIn K mainGlobals "is_row" = some (some (.ref f8))) (l8 : K.lookup f8 = some ⟨oc8, od8, .func (PySem.W.fnOf "is_row" "is_row" (defArgs s_is_row) (defBody s_is_row) (defScope s_is_row) .none kV8 dc8 pm8 an8 cd8 ct8), sl8⟩) (c8 : PySem.W.codeIn K cd8 "is_row" = true) (k8 : PySem.W.keepIn K (.ref f8) = true)
    (a9 : PySem.W.nsIn K mainGlobals "require_row" = some (some (.ref f9))) (l9 : K.lookup f9 = some ⟨oc9, od9, .func (PySem.W.fnOf "require_row" "require_row" (defArgs s_require_row) (defBody s_require_row) (defScope s_require_row) .none kV9 dc9 pm9 an9 cd9 ct9), sl9⟩) (c9 : PySem.W.codeIn K cd9 "require_row" = true) (k9 : PySem.W.keepIn K (.ref f9) = true)
    (a10 : PySem.W.nsIn K mainGlobals "require_rounds" = some (some (.ref f10))) (l10 : K.lookup f10 = some ⟨oc10, od10, .func (PySem.W.fnOf "require_rounds" "require_rounds" (defArgs s_require_rounds) (defBody s_require_rounds) (defScope s_require_rounds) .none kV10 dc10 pm10 an10 cd10 ct10), sl10⟩) (c10 : PySem.W.codeIn K cd10 "require_rounds" = true) (k10 : PySem.W.keepIn K (.ref f10) = true)
    (a11 : PySem.W.nsIn K mainGlobals "hinderers_in" = some (some (.ref f11))) (l11 : K.lookup f11 = some ⟨oc11, od11, .func (PySem.W.fnOf "hinderers_in" "hinderers_in" (defArgs s_hinderers_in) (defBody s_hinderers_in) (defScope s_hinderers_in) .none kV11 dc11 pm11 an11 cd11 ct11), sl11⟩) (c11 : PySem.W.codeIn K cd11 "hinderers_in" = true) (k11 : PySem.W.keepIn K (.ref f11) = true)
    (a12 : PySem.W.nsIn K mainGlobals "spans_in" = some (some (.ref f12))) (l12 : K.lookup f12 = some ⟨oc12, od12, .func (PySem.W.fnOf "spans_in" "spans_in" (defArgs s_spans_in) (defBody s_spans_in) (defScope s_spans_in) .none kV12 dc12 pm12 an12 cd12 ct12), sl12⟩) (c12 : PySem.W.codeIn K cd12 "spans_in" = true) (k12 : PySem.W.keepIn K (.ref f12) = true)
    (a13 : PySem.W.nsIn K mainGlobals "after_in" = some (some (.ref f13))) (l13 : K.lookup f13 = some ⟨oc13, od13, .func (PySem.W.fnOf "after_in" "after_in" (defArgs s_after_in) (defBody s_after_in) (defScope s_after_in) .none kV13 dc13 pm13 an13 cd13 ct13), sl13⟩) (c13 : PySem.W.codeIn K cd13 "after_in" = true) (k13 : PySem.W.keepIn K (.ref f13) = true)
    (a14 : PySem.W.nsIn K mainGlobals "row_after" = some (some (.ref f14))) (l14 : K.lookup f14 = some ⟨oc14, od14, .func (PySem.W.fnOf "row_after" "row_after" (defArgs s_row_after) (defBody s_row_after) (defScope s_row_after) .none kV14 dc14 pm14 an14 cd14 ct14), sl14⟩) (c14 : PySem.W.codeIn K cd14 "row_after" = true) (k14 : PySem.W.keepIn K (.ref f14) = true)
    (a15 : PySem.W.nsIn K mainGlobals "is_block" = some (some (.ref f15))) (l15 : K.lookup f15 = some ⟨oc15, od15, .func (PySem.W.fnOf "is_block" "is_block" (defArgs s_is_block) (defBody s_is_block) (defScope s_is_block) .none kV15 dc15 pm15 an15 cd15 ct15), sl15⟩) (c15 : PySem.W.codeIn K cd15 "is_block" = true) (k15 : PySem.W.keepIn K (.ref f15) = true)
    (a16 : PySem.W.nsIn K mainGlobals "is_blocks" = some (some (.ref f16))) (l16 : K.lookup f16 = some ⟨oc16, od16, .func (PySem.W.fnOf "is_blocks" "is_blocks" (defArgs s_is_blocks) (defBody s_is_blocks) (defScope s_is_blocks) .none kV16 dc16 pm16 an16 cd16 ct16), sl16⟩) (c16 : PySem.W.codeIn K cd16 "is_blocks" = true) (k16 : PySem.W.keepIn K (.ref f16) = true)
    (a17 : PySem.W.nsIn K mainGlobals "require_blocks" = some (some (.ref f17))) (l17 : K.lookup f17 = some ⟨oc17, od17, .func (PySem.W.fnOf "require_blocks" "require_blocks" (defArgs s_require_blocks) (defBody s_require_blocks) (defScope s_require_blocks) .none kV17 dc17 pm17 an17 cd17 ct17), sl17⟩) (c17 : PySem.W.codeIn K cd17 "require_blocks" = true) (k17 : PySem.W.keepIn K (.ref f17) = true)
    (a18 : PySem.W.nsIn K mainGlobals "merged" = some (some (.ref f18))) (l18 : K.lookup f18 = some ⟨oc18, od18, .func (PySem.W.fnOf "merged" "merged" (defArgs s_merged) (defBody s_merged) (defScope s_merged) .none kV18 dc18 pm18 an18 cd18 ct18), sl18⟩) (c18 : PySem.W.codeIn K cd18 "merged" = true) (k18 : PySem.W.keepIn K (.ref f18) = true)
    (a19 : PySem.W.nsIn K mainGlobals "round_of_runs" = some (some (.ref f19))) (l19 : K.lookup f19 = some ⟨oc19, od19, .func (PySem.W.fnOf "round_of_runs" "round_of_runs" (defArgs s_round_of_runs) (defBody s_round_of_runs) (defScope s_round_of_runs) .none kV19 dc19 pm19 an19 cd19 ct19), sl19⟩) (c19 : PySem.W.codeIn K cd19 "round_of_runs" = true) (k19 : PySem.W.keepIn K (.ref f19) = true)
    (a20 : PySem.W.nsIn K mainGlobals "settled_runs" = some (some (.ref f20))) (l20 : K.lookup f20 = some ⟨oc20, od20, .func (PySem.W.fnOf "settled_runs" "settled_runs" (defArgs s_settled_runs) (defBody s_settled_runs) (defScope s_settled_runs) .none kV20 dc20 pm20 an20 cd20 ct20), sl20⟩) (c20 : PySem.W.codeIn K cd20 "settled_runs" = true) (k20 : PySem.W.keepIn K (.ref f20) = true)
    (a21 : PySem.W.nsIn K mainGlobals "long_after" = some (some (.ref f21))) (l21 : K.lookup f21 = some ⟨oc21, od21, .func (PySem.W.fnOf "long_after" "long_after" (defArgs s_long_after) (defBody s_long_after) (defScope s_long_after) .none kV21 dc21 pm21 an21 cd21 ct21), sl21⟩) (c21 : PySem.W.codeIn K cd21 "long_after" = true) (k21 : PySem.W.keepIn K (.ref f21) = true)
    (a22 : PySem.W.nsIn K mainGlobals "_law_runs" = some (some (.ref f22))) (l22 : K.lookup f22 = some ⟨oc22, od22, .func (PySem.W.fnOf "_law_runs" "_law_runs" (defArgs s__law_runs) (defBody s__law_runs) (defScope s__law_runs) .none kV22 dc22 pm22 an22 cd22 ct22), sl22⟩) (c22 : PySem.W.codeIn K cd22 "_law_runs" = true) (k22 : PySem.W.keepIn K (.ref f22) = true)
    (a23 : PySem.W.nsIn K mainGlobals "long_needed" = some (some (.ref f23))) (l23 : K.lookup f23 = some ⟨oc23, od23, .func (PySem.W.fnOf "long_needed" "long_needed" (defArgs s_long_needed) (defBody s_long_needed) (defScope s_long_needed) .none kV23 dc23 pm23 an23 cd23 ct23), sl23⟩) (c23 : PySem.W.codeIn K cd23 "long_needed" = true) (k23 : PySem.W.keepIn K (.ref f23) = true)
    (a24 : PySem.W.nsIn K mainGlobals "rows_in" = some (some (.ref f24))) (l24 : K.lookup f24 = some ⟨oc24, od24, .func (PySem.W.fnOf "rows_in" "rows_in" (defArgs s_rows_in) (defBody s_rows_in) (defScope s_rows_in) .none kV24 dc24 pm24 an24 cd24 ct24), sl24⟩) (c24 : PySem.W.codeIn K cd24 "rows_in" = true) (k24 : PySem.W.keepIn K (.ref f24) = true)
    (a25 : PySem.W.nsIn K mainGlobals "needed_in" = some (some (.ref f25))) (l25 : K.lookup f25 = some ⟨oc25, od25, .func (PySem.W.fnOf "needed_in" "needed_in" (defArgs s_needed_in) (defBody s_needed_in) (defScope s_needed_in) .none kV25 dc25 pm25 an25 cd25 ct25), sl25⟩) (c25 : PySem.W.codeIn K cd25 "needed_in" = true) (k25 : PySem.W.keepIn K (.ref f25) = true)
    (a26 : PySem.W.nsIn K mainGlobals "rounds_needed" = some (some (.ref f26))) (l26 : K.lookup f26 = some ⟨oc26, od26, .func (PySem.W.fnOf "rounds_needed" "rounds_needed" (defArgs s_rounds_needed) (defBody s_rounds_needed) (defScope s_rounds_needed) .none kV26 dc26 pm26 an26 cd26 ct26), sl26⟩) (c26 : PySem.W.codeIn K cd26 "rounds_needed" = true) (k26 : PySem.W.keepIn K (.ref f26) = true)
    (a27 : PySem.W.nsIn K mainGlobals "long_entry" = some (some (.ref f27))) (l27 : K.lookup f27 = some ⟨oc27, od27, .func (PySem.W.fnOf "long_entry" "long_entry" (defArgs s_long_entry) (defBody s_long_entry) (defScope s_long_entry) .none (.ref D27) dc27 pm27 an27 cd27 ct27), sl27⟩) (c27 : PySem.W.codeIn K cd27 "long_entry" = true) (k27 : PySem.W.keepIn K (.ref f27) = true)
    (q27 : PySem.W.nsIn K D27 "rounds" = some (some (.int 1 tD27)))
    (a28 : PySem.W.nsIn K mainGlobals "long_count" = some (some (.ref f28))) (l28 : K.lookup f28 = some ⟨oc28, od28, .func (PySem.W.fnOf "long_count" "long_count" (defArgs s_long_count) (defBody s_long_count) (defScope s_long_count) .none kV28 dc28 pm28 an28 cd28 ct28), sl28⟩) (c28 : PySem.W.codeIn K cd28 "long_count" = true) (k28 : PySem.W.keepIn K (.ref f28) = true)
    (a29 : PySem.W.nsIn K mainGlobals "_law_small_right" = some (some (.ref f29))) (l29 : K.lookup f29 = some ⟨oc29, od29, .func (PySem.W.fnOf "_law_small_right" "_law_small_right" (defArgs s__law_small_right) (defBody s__law_small_right) (defScope s__law_small_right) .none kV29 dc29 pm29 an29 cd29 ct29), sl29⟩) (c29 : PySem.W.codeIn K cd29 "_law_small_right" = true) (k29 : PySem.W.keepIn K (.ref f29) = true)
    (a30 : PySem.W.nsIn K mainGlobals "_law_great_right" = some (some (.ref f30))) (l30 : K.lookup f30 = some ⟨oc30, od30, .func (PySem.W.fnOf "_law_great_right" "_law_great_right" (defArgs s__law_great_right) (defBody s__law_great_right) (defScope s__law_great_right) .none kV30 dc30 pm30 an30 cd30 ct30), sl30⟩) (c30 : PySem.W.codeIn K cd30 "_law_great_right" = true) (k30 : PySem.W.keepIn K (.ref f30) = true)
    (a31 : PySem.W.nsIn K mainGlobals "law" = some (some (.ref f31))) (l31 : K.lookup f31 = some ⟨oc31, od31, .func (PySem.W.fnOf "law" "law" (defArgs s_law) (defBody s_law) (defScope s_law) .none kV31 dc31 pm31 an31 cd31 ct31), sl31⟩) (c31 : PySem.W.codeIn K cd31 "law" = true) (k31 : PySem.W.keepIn K (.ref f31) = true)
    (z_all : PySem.W.nsIn K mainGlobals "all" = some none)
    (z_bool : PySem.W.nsIn K mainGlobals "bool" = some none)
    (z_enumerate : PySem.W.nsIn K mainGlobals "enumerate" = some none)
    (z_int : PySem.W.nsIn K mainGlobals "int" = some none)
    (z_isinstance : PySem.W.nsIn K mainGlobals "isinstance" = some none)
    (z_len : PySem.W.nsIn K mainGlobals "len" = some none)
    (z_max : PySem.W.nsIn K mainGlobals "max" = some none)
    (z_min : PySem.W.nsIn K mainGlobals "min" = some none)
    (z_range : PySem.W.nsIn K mainGlobals "range" = some none)
    (z_sorted : PySem.W.nsIn K mainGlobals "sorted" = some none)
    (z_sum : PySem.W.nsIn K mainGlobals "sum" = some none)
    (z_tuple : PySem.W.nsIn K mainGlobals "tuple" = some none)
    (m_GREATEST : PySem.W.nsIn K mainGlobals "GREATEST" = some (some (.int 1000000000000000000000000000000 t_GREATEST)))
    (m_MOST_BLOCKS : PySem.W.nsIn K mainGlobals "MOST_BLOCKS" = some (some (.int 200 t_MOST_BLOCKS)))
    (m_MOST_ENTRIES : PySem.W.nsIn K mainGlobals "MOST_ENTRIES" = some (some (.int 100 t_MOST_ENTRIES)))
    (m_MOST_IN_BLOCK : PySem.W.nsIn K mainGlobals "MOST_IN_BLOCK" = some (some (.int 10000000000000000000000000000 t_MOST_IN_BLOCK)))
    (m_MOST_ROUNDS_long : PySem.W.nsIn K mainGlobals "MOST_ROUNDS_long" = some (some (.int 1000000000000000000000000000000 t_MOST_ROUNDS_long)))
    (m_MOST_ROUNDS_rows : PySem.W.nsIn K mainGlobals "MOST_ROUNDS_rows" = some (some (.int 1000000000000000000000000000000 t_MOST_ROUNDS_rows)))
    (xt : excTab K KS JS = true) :
    ∃ (fd : FuncData) (cls : Nat → Value), (∀ (s : Shared) (u : Value), BindsTo s fd ⟨[u], []⟩ [("script", u)]) ∧ ∀ base : Heap, K.In base → base.Ns mainGlobals mg → FnG l.prog w K mg base (L2.CX l.prog w) 9 fa fd ["script"] (spF K cls 1 LW.F_law) := by
  have e := hfa.symm.trans (PySem.W.mg_of X G a31)
  cases e
  have T : Tx K mg := ⟨xtab_mk X G xt, trivial, PySem.W.mg_none_of X G z_all, PySem.W.mg_none_of X G z_bool, PySem.W.mg_none_of X G z_enumerate, PySem.W.mg_none_of X G z_int, PySem.W.mg_none_of X G z_isinstance, PySem.W.mg_none_of X G z_len, PySem.W.mg_none_of X G z_max, PySem.W.mg_none_of X G z_min, PySem.W.mg_none_of X G z_range, PySem.W.mg_none_of X G z_sorted, PySem.W.mg_none_of X G z_sum, PySem.W.mg_none_of X G z_tuple, ⟨_, PySem.W.mg_of X G m_GREATEST⟩, ⟨_, PySem.W.mg_of X G m_MOST_BLOCKS⟩, ⟨_, PySem.W.mg_of X G m_MOST_ENTRIES⟩, ⟨_, PySem.W.mg_of X G m_MOST_IN_BLOCK⟩, ⟨_, PySem.W.mg_of X G m_MOST_ROUNDS_long⟩, ⟨_, PySem.W.mg_of X G m_MOST_ROUNDS_rows⟩⟩
  have F0 := fun_mk (st := s__law_bag) l0 c0 k0
  have F1 := fun_mk (st := s__law_pick) l1 c1 k1
  have F2 := fun_mk (st := s__law_slow) l2 c2 k2
  have F3 := fun_mk (st := s__law_row) l3 c3 k3
  have F4 := fun_mk (st := s__law_blocks) l4 c4 k4
  have F5 := fun_mk (st := s_is_int) l5 c5 k5
  have F6 := fun_mk (st := s_in_range) l6 c6 k6
  have F7 := fun_mk (st := s_is_entry) l7 c7 k7
  have F8 := fun_mk (st := s_is_row) l8 c8 k8
  have F9 := fun_mk (st := s_require_row) l9 c9 k9
  have F10 := fun_mk (st := s_require_rounds) l10 c10 k10
  have F11 := fun_mk (st := s_hinderers_in) l11 c11 k11
  have F12 := fun_mk (st := s_spans_in) l12 c12 k12
  have F13 := fun_mk (st := s_after_in) l13 c13 k13
  have F14 := fun_mk (st := s_row_after) l14 c14 k14
  have F15 := fun_mk (st := s_is_block) l15 c15 k15
  have F16 := fun_mk (st := s_is_blocks) l16 c16 k16
  have F17 := fun_mk (st := s_require_blocks) l17 c17 k17
  have F18 := fun_mk (st := s_merged) l18 c18 k18
  have F19 := fun_mk (st := s_round_of_runs) l19 c19 k19
  have F20 := fun_mk (st := s_settled_runs) l20 c20 k20
  have F21 := fun_mk (st := s_long_after) l21 c21 k21
  have F22 := fun_mk (st := s__law_runs) l22 c22 k22
  have F23 := fun_mk (st := s_long_needed) l23 c23 k23
  have F24 := fun_mk (st := s_rows_in) l24 c24 k24
  have F25 := fun_mk (st := s_needed_in) l25 c25 k25
  have F26 := fun_mk (st := s_rounds_needed) l26 c26 k26
  have F27 := fun_mk (st := s_long_entry) l27 c27 k27
  have F28 := fun_mk (st := s_long_count) l28 c28 k28
  have F29 := fun_mk (st := s__law_small_right) l29 c29 k29
  have F30 := fun_mk (st := s__law_great_right) l30 c30 k30
  have F31 := fun_mk (st := s_law) l31 c31 k31
  have b0 := F0.binds (ps := ["cell"]) fun _ _ _ _ _ _ us hl => match us, hl with | [_], _ => rfl
  have b1 := F1.binds (ps := ["bag", "many"]) fun _ _ _ _ _ _ us hl => match us, hl with | [_, _], _ => rfl
  have b2 := F2.binds (ps := ["bag", "many"]) fun _ _ _ _ _ _ us hl => match us, hl with | [_, _], _ => rfl
  have b3 := F3.binds (ps := ["bag", "most"]) fun _ _ _ _ _ _ us hl => match us, hl with | [_, _], _ => rfl
  have b4 := F4.binds (ps := ["bag", "row"]) fun _ _ _ _ _ _ us hl => match us, hl with | [_, _], _ => rfl
  have b5 := F5.binds (ps := ["value"]) fun _ _ _ _ _ _ us hl => match us, hl with | [_], _ => rfl
  have b6 := F6.binds (ps := ["value", "low", "high"]) fun _ _ _ _ _ _ us hl => match us, hl with | [_, _, _], _ => rfl
  have b7 := F7.binds (ps := ["value"]) fun _ _ _ _ _ _ us hl => match us, hl with | [_], _ => rfl
  have b8 := F8.binds (ps := ["value"]) fun _ _ _ _ _ _ us hl => match us, hl with | [_], _ => rfl
  have b9 := F9.binds (ps := ["value"]) fun _ _ _ _ _ _ us hl => match us, hl with | [_], _ => rfl
  have b10 := F10.binds (ps := ["value", "low", "high"]) fun _ _ _ _ _ _ us hl => match us, hl with | [_, _, _], _ => rfl
  have b11 := F11.binds (ps := ["row"]) fun _ _ _ _ _ _ us hl => match us, hl with | [_], _ => rfl
  have b12 := F12.binds (ps := ["row"]) fun _ _ _ _ _ _ us hl => match us, hl with | [_], _ => rfl
  have b13 := F13.binds (ps := ["row", "many"]) fun _ _ _ _ _ _ us hl => match us, hl with | [_, _], _ => rfl
  have b15 := F15.binds (ps := ["value"]) fun _ _ _ _ _ _ us hl => match us, hl with | [_], _ => rfl
  have b16 := F16.binds (ps := ["value"]) fun _ _ _ _ _ _ us hl => match us, hl with | [_], _ => rfl
  have b17 := F17.binds (ps := ["value"]) fun _ _ _ _ _ _ us hl => match us, hl with | [_], _ => rfl
  have b18 := F18.binds (ps := ["blocks"]) fun _ _ _ _ _ _ us hl => match us, hl with | [_], _ => rfl
  have b19 := F19.binds (ps := ["runs"]) fun _ _ _ _ _ _ us hl => match us, hl with | [_], _ => rfl
  have b20 := F20.binds (ps := ["runs", "most"]) fun _ _ _ _ _ _ us hl => match us, hl with | [_, _], _ => rfl
  have b22 := F22.binds (ps := ["row"]) fun _ _ _ _ _ _ us hl => match us, hl with | [_], _ => rfl
  have b23 := F23.binds (ps := ["blocks"]) fun _ _ _ _ _ _ us hl => match us, hl with | [_], _ => rfl
  have b24 := F24.binds (ps := ["row"]) fun _ _ _ _ _ _ us hl => match us, hl with | [_], _ => rfl
  have b25 := F25.binds (ps := ["row"]) fun _ _ _ _ _ _ us hl => match us, hl with | [_], _ => rfl
  have b26 := F26.binds (ps := ["row"]) fun _ _ _ _ _ _ us hl => match us, hl with | [_], _ => rfl
  have b29 := F29.binds (ps := ["bag", "row"]) fun _ _ _ _ _ _ us hl => match us, hl with | [_, _], _ => rfl
  have b30 := F30.binds (ps := ["bag", "row"]) fun _ _ _ _ _ _ us hl => match us, hl with | [_, _], _ => rfl
  refine ⟨PySem.W.fnOf "law" "law" (defArgs s_law) (defBody s_law) (defScope s_law) .none kV31 dc31 pm31 an31 cd31 ct31, excV K, fun s v => .of_eq rfl, fun base _ _ => ?_⟩
  have c__law_bag : CallOk l.prog w K mg base (excV K) 1 "_law_bag" 1 LW.F__law_bag := ⟨_, _, _, fn__law_bag F0 T , PySem.W.mg_of X G a0, k0, b0⟩
  have c__law_pick : CallOk l.prog w K mg base (excV K) 1 "_law_pick" 2 LW.F__law_pick := ⟨_, _, _, fn__law_pick F1 T , PySem.W.mg_of X G a1, k1, b1⟩
  have c__law_slow : CallOk l.prog w K mg base (excV K) 2 "_law_slow" 2 LW.F__law_slow := ⟨_, _, _, fn__law_slow F2 T c__law_pick, PySem.W.mg_of X G a2, k2, b2⟩
  have c__law_row : CallOk l.prog w K mg base (excV K) 3 "_law_row" 2 LW.F__law_row := ⟨_, _, _, fn__law_row F3 T c__law_pick c__law_slow, PySem.W.mg_of X G a3, k3, b3⟩
  have c__law_blocks : CallOk l.prog w K mg base (excV K) 2 "_law_blocks" 2 LW.F__law_blocks := ⟨_, _, _, fn__law_blocks F4 T c__law_pick, PySem.W.mg_of X G a4, k4, b4⟩
  have c_is_int : CallOk l.prog w K mg base (excV K) 1 "is_int" 1 SP.F_is_int := ⟨_, _, _, fn_is_int F5 T , PySem.W.mg_of X G a5, k5, b5⟩
  have c_in_range : CallOk l.prog w K mg base (excV K) 2 "in_range" 3 SP.F_in_range := ⟨_, _, _, fn_in_range F6 T c_is_int, PySem.W.mg_of X G a6, k6, b6⟩
  have c_is_entry : CallOk l.prog w K mg base (excV K) 3 "is_entry" 1 SP.F_is_entry := ⟨_, _, _, fn_is_entry F7 T c_in_range, PySem.W.mg_of X G a7, k7, b7⟩
  have c_is_row : CallOk l.prog w K mg base (excV K) 4 "is_row" 1 SP.F_is_row := ⟨_, _, _, fn_is_row F8 T c_is_entry, PySem.W.mg_of X G a8, k8, b8⟩
  have c_require_row : CallOk l.prog w K mg base (excV K) 5 "require_row" 1 SP.F_require_row := ⟨_, _, _, fn_require_row F9 T c_is_row, PySem.W.mg_of X G a9, k9, b9⟩
  have c_require_rounds : CallOk l.prog w K mg base (excV K) 3 "require_rounds" 3 SP.F_require_rounds := ⟨_, _, _, fn_require_rounds F10 T c_in_range, PySem.W.mg_of X G a10, k10, b10⟩
  have c_hinderers_in : CallOk l.prog w K mg base (excV K) 1 "hinderers_in" 1 SP.F_hinderers_in := ⟨_, _, _, fn_hinderers_in F11 T , PySem.W.mg_of X G a11, k11, b11⟩
  have c_spans_in : CallOk l.prog w K mg base (excV K) 2 "spans_in" 1 SP.F_spans_in := ⟨_, _, _, fn_spans_in F12 T c_hinderers_in, PySem.W.mg_of X G a12, k12, b12⟩
  have c_after_in : CallOk l.prog w K mg base (excV K) 3 "after_in" 2 SP.F_after_in := ⟨_, _, _, fn_after_in F13 T c_spans_in, PySem.W.mg_of X G a13, k13, b13⟩
  have k_row_after : CallKw l.prog w K mg base (excV K) 6 "row_after" 1 "rounds" SP.F_row_after := callKw_mk (fn_row_after F14 T c_require_row c_require_rounds c_after_in) (PySem.W.mg_of X G a14) k14 fun us ws l1 l2 => match us, ws, l1, l2 with | [_], [_], _, _ => rfl
  have c_is_block : CallOk l.prog w K mg base (excV K) 4 "is_block" 1 SP.F_is_block := ⟨_, _, _, fn_is_block F15 T c_is_entry c_in_range, PySem.W.mg_of X G a15, k15, b15⟩
  have c_is_blocks : CallOk l.prog w K mg base (excV K) 5 "is_blocks" 1 SP.F_is_blocks := ⟨_, _, _, fn_is_blocks F16 T c_is_block, PySem.W.mg_of X G a16, k16, b16⟩
  have c_require_blocks : CallOk l.prog w K mg base (excV K) 6 "require_blocks" 1 SP.F_require_blocks := ⟨_, _, _, fn_require_blocks F17 T c_is_blocks, PySem.W.mg_of X G a17, k17, b17⟩
  have c_merged : CallOk l.prog w K mg base (excV K) 1 "merged" 1 SP.F_merged := ⟨_, _, _, fn_merged F18 T , PySem.W.mg_of X G a18, k18, b18⟩
  have c_round_of_runs : CallOk l.prog w K mg base (excV K) 2 "round_of_runs" 1 SP.F_round_of_runs := ⟨_, _, _, fn_round_of_runs F19 T c_merged, PySem.W.mg_of X G a19, k19, b19⟩
  have c_settled_runs : CallOk l.prog w K mg base (excV K) 3 "settled_runs" 2 SP.F_settled_runs := ⟨_, _, _, fn_settled_runs F20 T c_round_of_runs, PySem.W.mg_of X G a20, k20, b20⟩
  have k_long_after : CallKw l.prog w K mg base (excV K) 7 "long_after" 1 "rounds" SP.F_long_after := callKw_mk (fn_long_after F21 T c_require_blocks c_require_rounds c_settled_runs c_merged) (PySem.W.mg_of X G a21) k21 fun us ws l1 l2 => match us, ws, l1, l2 with | [_], [_], _, _ => rfl
  have c__law_runs : CallOk l.prog w K mg base (excV K) 1 "_law_runs" 1 LW.F__law_runs := ⟨_, _, _, fn__law_runs F22 T , PySem.W.mg_of X G a22, k22, b22⟩
  have c_long_needed : CallOk l.prog w K mg base (excV K) 7 "long_needed" 1 SP.F_long_needed := ⟨_, _, _, fn_long_needed F23 T c_require_blocks c_settled_runs c_merged, PySem.W.mg_of X G a23, k23, b23⟩
  have c_rows_in : CallOk l.prog w K mg base (excV K) 3 "rows_in" 1 SP.F_rows_in := ⟨_, _, _, fn_rows_in F24 T c_spans_in, PySem.W.mg_of X G a24, k24, b24⟩
  have c_needed_in : CallOk l.prog w K mg base (excV K) 4 "needed_in" 1 SP.F_needed_in := ⟨_, _, _, fn_needed_in F25 T c_rows_in, PySem.W.mg_of X G a25, k25, b25⟩
  have c_rounds_needed : CallOk l.prog w K mg base (excV K) 6 "rounds_needed" 1 SP.F_rounds_needed := ⟨_, _, _, fn_rounds_needed F26 T c_require_row c_needed_in, PySem.W.mg_of X G a26, k26, b26⟩
  have k_long_entry : CallKw l.prog w K mg base (excV K) 7 "long_entry" 2 "rounds" SP.F_long_entry := callKw_mk (fn_long_entry F27 T c_require_blocks c_in_range c_require_rounds c_settled_runs c_merged) (PySem.W.mg_of X G a27) k27 fun us ws l1 l2 => match us, ws, l1, l2 with | [_, _], [_], _, _ => rfl
  have d_long_entry : CallDf l.prog w K mg base (excV K) 7 "long_entry" 2 1 SP.F_long_entry := callDf_mk (kn := "rounds") (fn_long_entry F27 T c_require_blocks c_in_range c_require_rounds c_settled_runs c_merged) (PySem.W.mg_of X G a27) k27 rfl q27 fun us v hl => match us, hl with | [_, _], _ => ⟨_, _, _, _, _, _, rfl, rfl, rfl⟩
  have k_long_count : CallKw l.prog w K mg base (excV K) 7 "long_count" 2 "rounds" SP.F_long_count := callKw_mk (fn_long_count F28 T c_require_blocks c_is_int c_require_rounds c_settled_runs c_merged) (PySem.W.mg_of X G a28) k28 fun us ws l1 l2 => match us, ws, l1, l2 with | [_, _], [_], _, _ => rfl
  have c__law_small_right : CallOk l.prog w K mg base (excV K) 8 "_law_small_right" 2 LW.F__law_small_right := ⟨_, _, _, fn__law_small_right F29 T c__law_blocks c__law_pick k_row_after k_long_after c__law_runs c_long_needed c_rounds_needed k_long_entry k_long_count, PySem.W.mg_of X G a29, k29, b29⟩
  have c__law_great_right : CallOk l.prog w K mg base (excV K) 8 "_law_great_right" 2 LW.F__law_great_right := ⟨_, _, _, fn__law_great_right F30 T c__law_pick c__law_runs d_long_entry, PySem.W.mg_of X G a30, k30, b30⟩
  exact fn_law F31 T c__law_bag c__law_row c__law_pick c__law_small_right c__law_great_right
end GL
open PySem PySem.W PyProof.Rows in
set_option maxRecDepth 100000 in
set_option maxHeartbeats 0 in
theorem PySem.Challenge.cw_spanrounds_k87_whole_long_rows_and_rows_holds : PySem.Challenge.rw_spanrounds_k87_whole_long_rows_and_rows.Holds := by
  w_on; o_law; k_head; (case hw => w_witness2)
  k_fill
  refine DL.law_walk (l := PySem.Challenge.rw_spanrounds_k87_whole_long_rows_and_rows) (k := 9) (x := "script") (Fl := LW.F_law) rfl rfl ⟨⟨rfl, by decide, by decide⟩, fun _ => rfl⟩ (fun w h Y => PySem.W.kIn_of Y) ?F LW.keeps
  case F =>
    intro w mg fa h KX G hmg
    refine' GL.all_mk KX G hmg ?a0 ?l0 ?c0 ?k0 ?a1 ?l1 ?c1 ?k1 ?a2 ?l2 ?c2 ?k2 ?a3 ?l3 ?c3 ?k3 ?a4 ?l4 ?c4 ?k4 ?a5 ?l5 ?c5 ?k5 ?a6 ?l6 ?c6 ?k6 ?a7 ?l7 ?c7 ?k7 ?a8 ?l8 ?c8 ?k8 ?a9 ?l9 ?c9 ?k9 ?a10 ?l10 ?c10 ?k10 ?a11 ?l11 ?c11 ?k11 ?a12 ?l12 ?c12 ?k12 ?a13 ?l13 ?c13 ?k13 ?a14 ?l14 ?c14 ?k14 ?a15 ?l15 ?c15 ?k15 ?a16 ?l16 ?c16 ?k16 ?a17 ?l17 ?c17 ?k17 ?a18 ?l18 ?c18 ?k18 ?a19 ?l19 ?c19 ?k19 ?a20 ?l20 ?c20 ?k20 ?a21 ?l21 ?c21 ?k21 ?a22 ?l22 ?c22 ?k22 ?a23 ?l23 ?c23 ?k23 ?a24 ?l24 ?c24 ?k24 ?a25 ?l25 ?c25 ?k25 ?a26 ?l26 ?c26 ?k26 ?a27 ?l27 ?c27 ?k27 ?q27 ?a28 ?l28 ?c28 ?k28 ?a29 ?l29 ?c29 ?k29 ?a30 ?l30 ?c30 ?k30 ?a31 ?l31 ?c31 ?k31 ?z_all ?z_bool ?z_enumerate ?z_int ?z_isinstance ?z_len ?z_max ?z_min ?z_range ?z_sorted ?z_sum ?z_tuple ?m_GREATEST ?m_MOST_BLOCKS ?m_MOST_ENTRIES ?m_MOST_IN_BLOCK ?m_MOST_ROUNDS_long ?m_MOST_ROUNDS_rows ?xt
    (case a0 => k_is)
    (case l0 => k_is)
    (case c0 => k_is)
    (case k0 => k_is)
    (case a1 => k_is)
    (case l1 => k_is)
    (case c1 => k_is)
    (case k1 => k_is)
    (case a2 => k_is)
    (case l2 => k_is)
    (case c2 => k_is)
    (case k2 => k_is)
    (case a3 => k_is)
    (case l3 => k_is)
    (case c3 => k_is)
    (case k3 => k_is)
    (case a4 => k_is)
    (case l4 => k_is)
    (case c4 => k_is)
    (case k4 => k_is)
    (case a5 => k_is)
    (case l5 => k_is)
    (case c5 => k_is)
    (case k5 => k_is)
    (case a6 => k_is)
    (case l6 => k_is)
    (case c6 => k_is)
    (case k6 => k_is)
    (case a7 => k_is)
    (case l7 => k_is)
    (case c7 => k_is)
    (case k7 => k_is)
    (case a8 => k_is)
    (case l8 => k_is)
    (case c8 => k_is)
    (case k8 => k_is)
    (case a9 => k_is)
    (case l9 => k_is)
    (case c9 => k_is)
    (case k9 => k_is)
    (case a10 => k_is)
    (case l10 => k_is)
    (case c10 => k_is)
    (case k10 => k_is)
    (case a11 => k_is)
    (case l11 => k_is)
    (case c11 => k_is)
    (case k11 => k_is)
    (case a12 => k_is)
    (case l12 => k_is)
    (case c12 => k_is)
    (case k12 => k_is)
    (case a13 => k_is)
    (case l13 => k_is)
    (case c13 => k_is)
    (case k13 => k_is)
    (case a14 => k_is)
    (case l14 => k_is)
    (case c14 => k_is)
    (case k14 => k_is)
    (case a15 => k_is)
    (case l15 => k_is)
    (case c15 => k_is)
    (case k15 => k_is)
    (case a16 => k_is)
    (case l16 => k_is)
    (case c16 => k_is)
    (case k16 => k_is)
    (case a17 => k_is)
    (case l17 => k_is)
    (case c17 => k_is)
    (case k17 => k_is)
    (case a18 => k_is)
    (case l18 => k_is)
    (case c18 => k_is)
    (case k18 => k_is)
    (case a19 => k_is)
    (case l19 => k_is)
    (case c19 => k_is)
    (case k19 => k_is)
    (case a20 => k_is)
    (case l20 => k_is)
    (case c20 => k_is)
    (case k20 => k_is)
    (case a21 => k_is)
    (case l21 => k_is)
    (case c21 => k_is)
    (case k21 => k_is)
    (case a22 => k_is)
    (case l22 => k_is)
    (case c22 => k_is)
    (case k22 => k_is)
    (case a23 => k_is)
    (case l23 => k_is)
    (case c23 => k_is)
    (case k23 => k_is)
    (case a24 => k_is)
    (case l24 => k_is)
    (case c24 => k_is)
    (case k24 => k_is)
    (case a25 => k_is)
    (case l25 => k_is)
    (case c25 => k_is)
    (case k25 => k_is)
    (case a26 => k_is)
    (case l26 => k_is)
    (case c26 => k_is)
    (case k26 => k_is)
    (case a27 => k_is)
    (case l27 => k_is)
    (case c27 => k_is)
    (case k27 => k_is)
    (case q27 => k_is)
    (case a28 => k_is)
    (case l28 => k_is)
    (case c28 => k_is)
    (case k28 => k_is)
    (case a29 => k_is)
    (case l29 => k_is)
    (case c29 => k_is)
    (case k29 => k_is)
    (case a30 => k_is)
    (case l30 => k_is)
    (case c30 => k_is)
    (case k30 => k_is)
    (case a31 => k_is)
    (case l31 => k_is)
    (case c31 => k_is)
    (case k31 => k_is)
    (case z_all => k_is)
    (case z_bool => k_is)
    (case z_enumerate => k_is)
    (case z_int => k_is)
    (case z_isinstance => k_is)
    (case z_len => k_is)
    (case z_max => k_is)
    (case z_min => k_is)
    (case z_range => k_is)
    (case z_sorted => k_is)
    (case z_sum => k_is)
    (case z_tuple => k_is)
    (case m_GREATEST => k_is)
    (case m_MOST_BLOCKS => k_is)
    (case m_MOST_ENTRIES => k_is)
    (case m_MOST_IN_BLOCK => k_is)
    (case m_MOST_ROUNDS_long => k_is)
    (case m_MOST_ROUNDS_rows => k_is)
    (case xt => kernel_rfl)
